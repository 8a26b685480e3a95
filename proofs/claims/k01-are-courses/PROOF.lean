import PyProof.Rows.All
import Wide.All
import OpenK.AllK
import Wide.FinOn
import HandS.ForMost
import HandS.ForExc
import HandS.IsInst
import HandS.Deep
import HandS.Zip
import HandS.Walk
import HandS.Style
import HandS.Flow
import HandS.DictComp
import HandS.More
import HandS.TupAny
import HandS.RaiseMore
import HandS.Conv
import KE.SortData
import KE.SortCalls
import PyProof.Rows.SetFrom
import HandS.Set
import HandS.SetFor
import PySem.Challenge.RW_schoolbook_k01_what_are_courses
set_option Elab.async false
set_option linter.all false
set_option maxRecDepth 100000
set_option maxHeartbeats 2000000
/-! Values as data: a value semantics over the hand layer. -/
namespace Y
open PySem L2

inductive Kd where
  | tup | lst | scr | ktp
  | dK (ks : List Key)
  | dT (ks : List (List Key))

inductive D where
  | non | bl (b : Bool) | int (i : Int) | str (s : Str) | ty (n : String)
  | nd (k : Kd) (xs : List D)

/-- texts are no longer than may be -/
def keyL : Key → Bool
  | .inl _ => true
  | .inr s => decide (s.length ≤ sizeLine)
def keysL (ks : List Key) : Bool := ks.all keyL
def keyssL (ks : List (List Key)) : Bool := ks.all keysL
/-- an object that is read -/
def ItemAt (K : PySem.W.Frag) (H : Hp) (a : Addr) : Kd → List V → Prop
  | .lst, vs => H a = some (.lst vs) ∧ vs.length ≤ sizeLine
  | .scr, vs => SqL K H a vs ∧ vs.length ≤ sizeLine
  | .tup, vs => H a = some (.tup vs) ∧ vs.length ≤ sizeLine
  | .ktp, vs => SqT K H a vs ∧ vs.length ≤ sizeLine
  | .dK ks, vs => ks.length = vs.length ∧ Rd H a (.dK (ks.zip vs)) ∧ vs.length ≤ sizeLine ∧ keysL ks = true
  | .dT ks, vs => ks.length = vs.length ∧ Rd H a (.dT (ks.zip vs)) ∧ vs.length ≤ sizeLine ∧ keyssL ks = true
def owK : Kd → Bool
  | .lst => true | .dK _ => true | .dT _ => true | _ => false
/-- an object that may be changed -/
def ItemW (H : Hp) (a : Addr) : Kd → List V → Prop
  | .lst, vs => H a = some (.lst vs) ∧ vs.length ≤ sizeLine
  | .dK ks, vs => ks.length = vs.length ∧ H a = some (.dK (ks.zip vs)) ∧ vs.length ≤ sizeLine ∧ keysL ks = true
  | .dT ks, vs => ks.length = vs.length ∧ H a = some (.dT (ks.zip vs)) ∧ vs.length ≤ sizeLine ∧ keyssL ks = true
  | _, _ => False

mutual
inductive Fz (K : PySem.W.Frag) (F : Hp) : V → D → Prop
  | non : Fz K F .non .non
  | bl (b : Bool) : Fz K F (.bl b) (.bl b)
  | int (i : Int) : Fz K F (.int i) (.int i)
  | str (s : Str) (h : s.length ≤ sizeLine) : Fz K F (.str s) (.str s)
  | ty (n : String) : Fz K F (.ty n) (.ty n)
  | nd {a : Addr} {k : Kd} {vs : List V} {ds : List D} (h : ItemAt K F a k vs) (hs : Fzs K F vs ds) : Fz K F (.ref a) (.nd k ds)
inductive Fzs (K : PySem.W.Frag) (F : Hp) : List V → List D → Prop
  | nil : Fzs K F [] []
  | cons {v : V} {d : D} {vs : List V} {ds : List D} (h : Fz K F v d) (hs : Fzs K F vs ds) : Fzs K F (v :: vs) (d :: ds)
end

section
variable {K : PySem.W.Frag} {F F' H H' : Hp} {a : Addr} {k : Kd} {v : V} {d : D} {vs : List V} {ds : List D}
theorem rd_mono {u : HO} (e : Same F F') (h : Rd F a u) : Rd F' a u := by
  rcases h with h | ⟨o, h⟩
  · exact .inl (e _ _ h)
  · exact .inr ⟨o, e _ _ h⟩
theorem sqT_mono (e : Same F F') (h : SqT K F a vs) : SqT K F' a vs := by
  rcases h with h | h
  · exact .inl (rd_mono e h)
  · exact .inr h
theorem sqL_mono (e : Same F F') (h : SqL K F a vs) : SqL K F' a vs := e.seq h
theorem ItemAt.mono (e : Same F F') (h : ItemAt K F a k vs) : ItemAt K F' a k vs := by
  cases k with
  | tup => exact ⟨e _ _ h.1, h.2⟩
  | ktp => exact ⟨sqT_mono e h.1, h.2⟩
  | lst => exact ⟨e _ _ h.1, h.2⟩
  | scr => exact ⟨sqL_mono e h.1, h.2⟩
  | dK ks => exact ⟨h.1, rd_mono e h.2.1, h.2.2⟩
  | dT ks => exact ⟨h.1, rd_mono e h.2.1, h.2.2⟩
mutual
theorem Fz.mono (e : Same F F') : ∀ {v : V} {d : D}, Fz K F v d → Fz K F' v d
  | _, _, .non => .non
  | _, _, .bl b => .bl b
  | _, _, .int i => .int i
  | _, _, .str s h => .str s h
  | _, _, .ty n => .ty n
  | _, _, .nd h hs => .nd (h.mono e) (hs.mono e)
theorem Fzs.mono (e : Same F F') : ∀ {vs : List V} {ds : List D}, Fzs K F vs ds → Fzs K F' vs ds
  | _, _, .nil => .nil
  | _, _, .cons h hs => .cons (h.mono e) (hs.mono e)
end
theorem Fzs.length : ∀ {vs : List V} {ds : List D}, Fzs K F vs ds → vs.length = ds.length
  | _, _, .nil => rfl
  | _, _, .cons _ hs => congrArg Nat.succ (Fzs.length hs)
theorem Fzs.append : ∀ {vs ws : List V} {ds es : List D}, Fzs K F vs ds → Fzs K F ws es → Fzs K F (vs ++ ws) (ds ++ es)
  | _, _, _, _, .nil, h => h
  | _, _, _, _, .cons h hs, g => .cons h (Fzs.append hs g)
theorem Fzs.get : ∀ {vs : List V} {ds : List D} {i : Nat} {d : D}, Fzs K F vs ds → ds[i]? = some d → ∃ v, vs[i]? = some v ∧ Fz K F v d
  | _, _, _, _, .nil, e => by simp at e
  | _, _, 0, _, .cons h _, e => by simp at e; subst e; exact ⟨_, rfl, h⟩
  | _, _, i + 1, _, .cons _ hs, e => by
    obtain ⟨v, h1, h2⟩ := Fzs.get (i := i) hs (by simpa using e)
    exact ⟨v, by simpa using h1, h2⟩
theorem Fzs.getV : ∀ {vs : List V} {ds : List D} {i : Nat} {v : V}, Fzs K F vs ds → vs[i]? = some v → ∃ d, ds[i]? = some d ∧ Fz K F v d
  | _, _, _, _, .nil, e => by simp at e
  | _, _, 0, _, .cons h _, e => by simp at e; subst e; exact ⟨_, rfl, h⟩
  | _, _, i + 1, _, .cons _ hs, e => by
    obtain ⟨v, h1, h2⟩ := Fzs.getV (i := i) hs (by simpa using e)
    exact ⟨v, by simpa using h1, h2⟩
theorem Fzs.take : ∀ {vs : List V} {ds : List D} (n : Nat), Fzs K F vs ds → Fzs K F (vs.take n) (ds.take n)
  | _, _, 0, _ => .nil
  | _, _, _ + 1, .nil => .nil
  | _, _, n + 1, .cons h hs => .cons h (Fzs.take n hs)
theorem Fzs.drop : ∀ {vs : List V} {ds : List D} (n : Nat), Fzs K F vs ds → Fzs K F (vs.drop n) (ds.drop n)
  | _, _, 0, h => h
  | _, _, _ + 1, .nil => .nil
  | _, _, n + 1, .cons _ hs => Fzs.drop n hs
theorem Fzs.set (h : Fz K F v d) : ∀ {vs : List V} {ds : List D} (i : Nat), Fzs K F vs ds → Fzs K F (vs.set i v) (ds.set i d)
  | _, _, _, .nil => .nil
  | _, _, 0, .cons _ hs => .cons h hs
  | _, _, i + 1, .cons g hs => .cons g (Fzs.set h i hs)
theorem Fzs.reverse : ∀ {vs : List V} {ds : List D}, Fzs K F vs ds → Fzs K F vs.reverse ds.reverse
  | _, _, .nil => .nil
  | _, _, .cons h hs => by
    rw [List.reverse_cons, List.reverse_cons]
    exact (Fzs.reverse hs).append (.cons h .nil)
theorem Fzs.eraseIdx : ∀ {vs : List V} {ds : List D} (i : Nat), Fzs K F vs ds → Fzs K F (vs.eraseIdx i) (ds.eraseIdx i)
  | _, _, _, .nil => .nil
  | _, _, 0, .cons _ hs => hs
  | _, _, i + 1, .cons g hs => .cons g (Fzs.eraseIdx i hs)
/-- read now: frozen, or a changing object with frozen items -/
inductive Bz (K : PySem.W.Frag) (F H : Hp) : V → D → Prop
  | fz {v : V} {d : D} (h : Fz K F v d) : Bz K F H v d
  | cell {a : Addr} {k : Kd} {vs : List V} {ds : List D} (o : owK k = true) (h : ItemAt K H a k vs) (hs : Fzs K F vs ds) : Bz K F H (.ref a) (.nd k ds)
theorem Bz.node (e : Same F H) (h : Bz K F H v (.nd k ds)) : ∃ a vs, v = .ref a ∧ ItemAt K H a k vs ∧ Fzs K F vs ds := by
  cases h with
  | fz h => cases h with
    | nd h hs => exact ⟨_, _, rfl, h.mono e, hs⟩
  | cell o h hs => exact ⟨_, _, rfl, h, hs⟩
theorem ItemW.at (h : ItemW H a k vs) : ItemAt K H a k vs := by
  cases k with
  | tup => exact h.elim
  | ktp => exact h.elim
  | scr => exact h.elim
  | lst => exact h
  | dK ks => exact ⟨h.1, .inl h.2.1, h.2.2⟩
  | dT ks => exact ⟨h.1, .inl h.2.1, h.2.2⟩
theorem ItemW.ow (h : ItemW H a k vs) : owK k = true := by
  cases k with
  | tup => exact h.elim
  | ktp => exact h.elim
  | scr => exact h.elim
  | lst => rfl
  | dK ks => rfl
  | dT ks => rfl
theorem ItemW.any (h : ItemW H a k vs) : ∃ o, H a = some o := by
  cases k with
  | tup => exact h.elim
  | ktp => exact h.elim
  | scr => exact h.elim
  | lst => exact ⟨_, h.1⟩
  | dK ks => exact ⟨_, h.2.1⟩
  | dT ks => exact ⟨_, h.2.1⟩
theorem ItemW.keep (h : ItemW H a k vs) (e : ∀ o, H a = some o → H' a = some o) : ItemW H' a k vs := by
  cases k with
  | tup => exact h.elim
  | ktp => exact h.elim
  | scr => exact h.elim
  | lst => exact ⟨e _ h.1, h.2⟩
  | dK ks => exact ⟨h.1, e _ h.2.1, h.2.2⟩
  | dT ks => exact ⟨h.1, e _ h.2.1, h.2.2⟩
end

/-! ### slots -/
/-- frozen, owned, borrowed -/
inductive S where
  | f (d : D) | o (d : D) | b (d : D)
abbrev En := List (Option S)

inductive Sl (K : PySem.W.Frag) (β : V) (F H : Hp) : St → En → List Addr → Prop
  | nil : Sl K β F H [] [] []
  | skip {x : Option V} {σ : St} {ρ : En} {fp : List Addr} (t : Sl K β F H σ ρ fp) : Sl K β F H (x :: σ) (none :: ρ) fp
  | fr {v : V} {d : D} {σ : St} {ρ : En} {fp : List Addr} (h : Fz K F v d) (t : Sl K β F H σ ρ fp) : Sl K β F H (some v :: σ) (some (.f d) :: ρ) fp
  | ow {a : Addr} {k : Kd} {vs : List V} {ds : List D} {σ : St} {ρ : En} {fp : List Addr} (h : ItemW H a k vs) (hs : Fzs K F vs ds) (t : Sl K β F H σ ρ fp) : Sl K β F H (some (.ref a) :: σ) (some (.o (.nd k ds)) :: ρ) (a :: fp)
  | bo {a : Addr} {k : Kd} {vs : List V} {ds : List D} {σ : St} {ρ : En} {fp : List Addr} (e : β = .ref a) (h : ItemW H a k vs) (hs : Fzs K F vs ds) (t : Sl K β F H σ ρ fp) : Sl K β F H (some (.ref a) :: σ) (some (.b (.nd k ds)) :: ρ) (a :: fp)

/-- (nothing: a dict may be locked at any time) -/
def NoLock (_F : Hp) : Prop := True
structure Sta (K : PySem.W.Frag) (β : V) (lk : Bool) (F H : Hp) (σ : St) (ρ : En) (fp : List Addr) : Prop where
  ex : Same F H
  sl : Sl K β F H σ ρ fp
  nd : fp.Nodup
  own : ∀ a ∈ fp, F a = none
  lock : lk = false → NoLock F

structure Tr (F H : Hp) (fp : List Addr) (F' H' : Hp) (fp' : List Addr) : Prop where
  ex : Same F F'
  keep : ∀ a o, H a = some o → a ∉ fp → H' a = some o
  new : ∀ a, a ∈ fp' ∨ (F a = none ∧ F' a ≠ none) → a ∈ fp ∨ H a = none

section
variable {K : PySem.W.Frag} {β : V} {lk : Bool} {F F' F1 F2 H H' H1 H2 : Hp} {fp fp' fp1 fp2 : List Addr} {σ : St} {ρ : En} {a : Addr} {v : V} {d : D}
theorem Tr.refl : Tr F H fp F H fp := ⟨Same.refl _, fun _ _ h _ => h, fun a h => h.elim .inl fun ⟨h1, h2⟩ => absurd h1 h2⟩
theorem Tr.trans (t : Tr F H fp F1 H1 fp1) (u : Tr F1 H1 fp1 F2 H2 fp2) : Tr F H fp F2 H2 fp2 := by
  have n1 : ∀ a o, H a = some o → a ∉ fp → a ∉ fp1 := fun a o h n m => (t.new a (.inl m)).elim n fun q => by rw [h] at q; cases q
  have back : ∀ a, a ∈ fp1 ∨ H1 a = none → a ∈ fp ∨ H a = none := fun a h => by
    rcases h with h | h
    · exact t.new a (.inl h)
    · by_cases hm : a ∈ fp
      · exact .inl hm
      · refine .inr ?_
        cases q : H a with
        | none => rfl
        | some o => rw [t.keep a o q hm] at h; cases h
  refine ⟨t.ex.trans u.ex, fun a o h n => u.keep a o (t.keep a o h n) (n1 a o h n), fun a h => ?_⟩
  rcases h with h | ⟨h1, h2⟩
  · exact back a (u.new a (.inl h))
  · by_cases q : F1 a = none
    · exact back a (u.new a (.inr ⟨q, h2⟩))
    · exact t.new a (.inr ⟨h1, q⟩)
theorem Tr.sub {fp3 : List Addr} (t : Tr F H fp F' H' fp') (h : ∀ a ∈ fp3, a ∈ fp') : Tr F H fp F' H' fp3 :=
  ⟨t.ex, t.keep, fun a q => t.new a (q.imp (h a) id)⟩
/-- the same from a greater footprint -/
theorem Tr.wide {gp : List Addr} (t : Tr F H fp F' H' fp') (h : ∀ a ∈ fp, a ∈ gp) : Tr F H gp F' H' fp' :=
  ⟨t.ex, fun a o q n => t.keep a o q fun m => n (h a m), fun a q => (t.new a q).imp (h a) id⟩
theorem Sl.fpH (s : Sl K β F H σ ρ fp) : ∀ a ∈ fp, ∃ o, H a = some o := by
  induction s with
  | nil => intro a h; cases h
  | skip t ih => exact ih
  | fr h t ih => exact ih
  | ow h hs t ih => intro b hb; rcases List.mem_cons.mp hb with rfl | hb; exact h.any; exact ih b hb
  | bo e h hs t ih => intro b hb; rcases List.mem_cons.mp hb with rfl | hb; exact h.any; exact ih b hb
theorem Sl.frame (s : Sl K β F H σ ρ fp) (ex : Same F F') (kp : ∀ a ∈ fp, ∀ o, H a = some o → H' a = some o) : Sl K β F' H' σ ρ fp := by
  induction s with
  | nil => exact .nil
  | skip t ih => exact .skip (ih kp)
  | fr h t ih => exact .fr (h.mono ex) (ih kp)
  | ow h hs t ih => exact .ow (h.keep (kp _ List.mem_cons_self)) (hs.mono ex) (ih fun b hb => kp b (List.mem_cons_of_mem _ hb))
  | bo e h hs t ih => exact .bo e (h.keep (kp _ List.mem_cons_self)) (hs.mono ex) (ih fun b hb => kp b (List.mem_cons_of_mem _ hb))
theorem Sl.len (s : Sl K β F H σ ρ fp) : σ.length = ρ.length := by
  induction s with
  | nil => rfl
  | skip t ih => simp [ih]
  | fr h t ih => simp [ih]
  | ow h hs t ih => simp [ih]
  | bo e h hs t ih => simp [ih]
/-- a frozen slot is read -/
theorem Sl.getF (s : Sl K β F H σ ρ fp) : ∀ {i : Nat} {d : D}, ρ[i]? = some (some (.f d)) → ∃ v, σ[i]? = some (some v) ∧ Fz K F v d := by
  induction s with
  | nil => intro i d e; simp at e
  | skip t ih => intro i d e; cases i with
    | zero => simp at e
    | succ i => simpa using ih (i := i) (by simpa using e)
  | fr h t ih => intro i d e; cases i with
    | zero => simp at e; subst e; exact ⟨_, rfl, h⟩
    | succ i => simpa using ih (i := i) (by simpa using e)
  | ow h hs t ih => intro i d e; cases i with
    | zero => simp at e
    | succ i => simpa using ih (i := i) (by simpa using e)
  | bo e' h hs t ih => intro i d e; cases i with
    | zero => simp at e
    | succ i => simpa using ih (i := i) (by simpa using e)
/-- any slot is read -/
theorem Sl.getB (s : Sl K β F H σ ρ fp) : ∀ {i : Nat} {x : S}, ρ[i]? = some (some x) → ∃ v, σ[i]? = some (some v) ∧ Bz K F H v (match x with | .f d => d | .o d => d | .b d => d) := by
  induction s with
  | nil => intro i d e; simp at e
  | skip t ih => intro i d e; cases i with
    | zero => simp at e
    | succ i => simpa using ih (i := i) (by simpa using e)
  | fr h t ih => intro i d e; cases i with
    | zero => simp at e; subst e; exact ⟨_, rfl, .fz h⟩
    | succ i => simpa using ih (i := i) (by simpa using e)
  | ow h hs t ih => intro i d e; cases i with
    | zero => simp at e; subst e; exact ⟨_, rfl, .cell h.ow h.at hs⟩
    | succ i => simpa using ih (i := i) (by simpa using e)
  | bo e' h hs t ih => intro i d e; cases i with
    | zero => simp at e; subst e; exact ⟨_, rfl, .cell h.ow h.at hs⟩
    | succ i => simpa using ih (i := i) (by simpa using e)
/-- a slot forgotten, or stored frozen -/
theorem Sl.store (s : Sl K β F H σ ρ fp) (h : Fz K F v d) : ∀ {i : Nat}, ∃ fp', Sl K β F H (σ.set i (some v)) (ρ.set i (some (.f d))) fp' ∧ List.Sublist fp' fp := by
  induction s with
  | nil => intro i; exact ⟨_, .nil, List.Sublist.refl _⟩
  | skip t ih => intro i; cases i with
    | zero => exact ⟨_, .fr h t, List.Sublist.refl _⟩
    | succ i => obtain ⟨q, h1, h2⟩ := ih (i := i); exact ⟨q, .skip h1, h2⟩
  | fr g t ih => intro i; cases i with
    | zero => exact ⟨_, .fr h t, List.Sublist.refl _⟩
    | succ i => obtain ⟨q, h1, h2⟩ := ih (i := i); exact ⟨q, .fr g h1, h2⟩
  | ow g hs t ih => intro i; cases i with
    | zero => exact ⟨_, .fr h t, List.sublist_cons_self _ _⟩
    | succ i => obtain ⟨q, h1, h2⟩ := ih (i := i); exact ⟨_, .ow g hs h1, h2.cons_cons _⟩
  | bo e g hs t ih => intro i; cases i with
    | zero => exact ⟨_, .fr h t, List.sublist_cons_self _ _⟩
    | succ i => obtain ⟨q, h1, h2⟩ := ih (i := i); exact ⟨_, .bo e g hs h1, h2.cons_cons _⟩
theorem Sl.storeO {a : Addr} {k : Kd} {vs : List V} {ds : List D} (s : Sl K β F H σ ρ fp) (h : ItemW H a k vs) (hz : Fzs K F vs ds) : ∀ {i : Nat}, ∃ fp', Sl K β F H (σ.set i (some (.ref a))) (ρ.set i (some (.o (.nd k ds)))) fp' ∧ (∀ b ∈ fp', b ∈ a :: fp) ∧ ((a :: fp).Nodup → fp'.Nodup) := by
  induction s with
  | nil => intro i; exact ⟨_, .nil, fun b hb => (by cases hb), fun _ => List.nodup_nil⟩
  | skip t ih => intro i; cases i with
    | zero => exact ⟨_, .ow h hz t, fun b hb => hb, fun n => n⟩
    | succ i => obtain ⟨q, h1, h2, h3⟩ := ih (i := i); exact ⟨q, .skip h1, h2, h3⟩
  | fr g t ih => intro i; cases i with
    | zero => exact ⟨_, .ow h hz t, fun b hb => hb, fun n => n⟩
    | succ i => obtain ⟨q, h1, h2, h3⟩ := ih (i := i); exact ⟨q, .fr g h1, h2, h3⟩
  | @ow a0 k0 vs0 ds0 σ ρ fp g hs t ih => intro i; cases i with
    | zero => exact ⟨_, .ow h hz t, fun b hb => (List.mem_cons.mp hb).elim (fun e => e ▸ List.mem_cons_self) fun e => List.mem_cons_of_mem _ (List.mem_cons_of_mem _ e), fun n => (List.nodup_cons.mpr ⟨fun m => (List.nodup_cons.mp n).1 (List.mem_cons_of_mem _ m), (List.nodup_cons.mp (List.nodup_cons.mp n).2).2⟩)⟩
    | succ i =>
      obtain ⟨q, h1, h2, h3⟩ := ih (i := i)
      refine ⟨a0 :: q, .ow g hs h1, fun b hb => ?_, fun n => ?_⟩
      · rcases List.mem_cons.mp hb with rfl | hb
        · exact List.mem_cons_of_mem _ List.mem_cons_self
        · rcases List.mem_cons.mp (h2 b hb) with rfl | hb
          · exact List.mem_cons_self
          · exact List.mem_cons_of_mem _ (List.mem_cons_of_mem _ hb)
      · have n1 := List.nodup_cons.mp n
        have n2 := List.nodup_cons.mp n1.2
        refine List.nodup_cons.mpr ⟨fun m => ?_, h3 (List.nodup_cons.mpr ⟨fun m => n1.1 (List.mem_cons_of_mem _ m), n2.2⟩)⟩
        rcases List.mem_cons.mp (h2 _ m) with e | e
        · exact n1.1 (e ▸ List.mem_cons_self)
        · exact n2.1 e
  | @bo a0 k0 vs0 ds0 σ ρ fp eb g hs t ih => intro i; cases i with
    | zero => exact ⟨_, .ow h hz t, fun b hb => (List.mem_cons.mp hb).elim (fun e => e ▸ List.mem_cons_self) fun e => List.mem_cons_of_mem _ (List.mem_cons_of_mem _ e), fun n => (List.nodup_cons.mpr ⟨fun m => (List.nodup_cons.mp n).1 (List.mem_cons_of_mem _ m), (List.nodup_cons.mp (List.nodup_cons.mp n).2).2⟩)⟩
    | succ i =>
      obtain ⟨q, h1, h2, h3⟩ := ih (i := i)
      refine ⟨a0 :: q, .bo eb g hs h1, fun b hb => ?_, fun n => ?_⟩
      · rcases List.mem_cons.mp hb with rfl | hb
        · exact List.mem_cons_of_mem _ List.mem_cons_self
        · rcases List.mem_cons.mp (h2 b hb) with rfl | hb
          · exact List.mem_cons_self
          · exact List.mem_cons_of_mem _ (List.mem_cons_of_mem _ hb)
      · have n1 := List.nodup_cons.mp n
        have n2 := List.nodup_cons.mp n1.2
        refine List.nodup_cons.mpr ⟨fun m => ?_, h3 (List.nodup_cons.mpr ⟨fun m => n1.1 (List.mem_cons_of_mem _ m), n2.2⟩)⟩
        rcases List.mem_cons.mp (h2 _ m) with e | e
        · exact n1.1 (e ▸ List.mem_cons_self)
        · exact n2.1 e
theorem Sl.drop (s : Sl K β F H σ ρ fp) : ∀ {i : Nat} (x : Option V), ∃ fp', Sl K β F H (σ.set i x) (ρ.set i none) fp' ∧ List.Sublist fp' fp := by
  induction s with
  | nil => intro i x; exact ⟨_, .nil, List.Sublist.refl _⟩
  | skip t ih => intro i x; cases i with
    | zero => exact ⟨_, .skip t, List.Sublist.refl _⟩
    | succ i => obtain ⟨q, h1, h2⟩ := ih (i := i) x; exact ⟨q, .skip h1, h2⟩
  | fr g t ih => intro i x; cases i with
    | zero => exact ⟨_, .skip t, List.Sublist.refl _⟩
    | succ i => obtain ⟨q, h1, h2⟩ := ih (i := i) x; exact ⟨q, .fr g h1, h2⟩
  | ow g hs t ih => intro i x; cases i with
    | zero => exact ⟨_, .skip t, List.sublist_cons_self _ _⟩
    | succ i => obtain ⟨q, h1, h2⟩ := ih (i := i) x; exact ⟨_, .ow g hs h1, h2.cons_cons _⟩
  | bo e g hs t ih => intro i x; cases i with
    | zero => exact ⟨_, .skip t, List.sublist_cons_self _ _⟩
    | succ i => obtain ⟨q, h1, h2⟩ := ih (i := i) x; exact ⟨_, .bo e g hs h1, h2.cons_cons _⟩
/-- a new object's place is not among them -/
theorem Sta.fresh (s : Sta K β lk F H σ ρ fp) {p : Addr} (h : H p = none) : p ∉ fp ∧ F p = none :=
  ⟨fun m => (by obtain ⟨o, e⟩ := s.sl.fpH p m; rw [h] at e; cases e), s.ex.free h⟩
/-- others go on, ours stands -/
theorem Sta.frame {gp gp' : List Addr} (s : Sta K β lk F H σ ρ fp) (t : Tr F H gp F' H' gp') (dj : ∀ a ∈ fp, a ∉ gp) (ex : Same F' H') (lock : lk = false → NoLock F') :
    Sta K β lk F' H' σ ρ fp ∧ ∀ a ∈ fp, a ∉ gp' := by
  have nn : ∀ a ∈ fp, ¬ (a ∈ gp ∨ H a = none) := fun a ha q => by
    rcases q with q | q
    · exact dj a ha q
    · obtain ⟨o, e⟩ := s.sl.fpH a ha; rw [q] at e; cases e
  refine ⟨⟨ex, s.sl.frame t.ex fun a ha o h => t.keep a o h (dj a ha), s.nd, fun a ha => ?_, lock⟩, fun a ha m => nn a ha (t.new a (.inl m))⟩
  cases q : F' a with
  | none => rfl
  | some o => exact absurd (t.new a (.inr ⟨s.own a ha, by rw [q]; exact fun z => nomatch z⟩)) (nn a ha)
end
/-! ### new objects -/
def mkHO : Kd → List V → Option HO
  | .lst, vs => if vs.length ≤ sizeLine then some (.lst vs) else none
  | .tup, vs => if vs.length ≤ sizeLine then some (.tup vs) else none
  | .dK ks, vs => if ks.length = vs.length ∧ vs.length ≤ sizeLine ∧ keysL ks = true then some (.dK (ks.zip vs)) else none
  | .dT ks, vs => if ks.length = vs.length ∧ vs.length ≤ sizeLine ∧ keyssL ks = true then some (.dT (ks.zip vs)) else none
  | .scr, _ => none
  | .ktp, _ => none
section
variable {K : PySem.W.Frag} {β : V} {lk : Bool} {F F' H H' : Hp} {fp : List Addr} {σ : St} {ρ : En} {p : Addr} {k : Kd} {vs : List V} {ds : List D} {ho : HO}
theorem mkAt (e : mkHO k vs = some ho) (h : F p = some ho) : ItemAt K F p k vs := by
  cases k <;> simp only [mkHO] at e
  case scr => cases e
  case ktp => cases e
  all_goals
    split at e
    · rename_i c
      cases e
      first
        | exact ⟨h, c⟩
        | exact ⟨c.1, .inl h, c.2⟩
    · cases e
theorem mkW (e : mkHO k vs = some ho) (o : owK k = true) (h : F p = some ho) : ItemW F p k vs := by
  cases k <;> simp only [mkHO] at e
  case scr => cases e
  case ktp => cases e
  case tup => cases o
  all_goals
    split at e
    · rename_i c
      cases e
      first
        | exact ⟨h, c⟩
        | exact ⟨c.1, h, c.2⟩
    · cases e
theorem mkNf (e : mkHO k vs = some ho) : ∀ o u, ho ≠ .frz o u := by
  intro o u q
  subst q
  cases k <;> simp only [mkHO] at e
  case scr => cases e
  case ktp => cases e
  all_goals
    split at e <;> cases e
theorem NoLock.upd (_n : NoLock F) (_h : ∀ o u, ho ≠ .frz o u) : NoLock (upd F p ho) := trivial
theorem same_upd (h : F p = none) : Same F (upd F p ho) := fun b o e => by rw [upd_ne (ne_of_none e h)]; exact e
theorem same_upd2 (h : Same F H) (hp : H p = none) : Same (upd F p ho) (upd H p ho) := fun b o e => by
  by_cases q : b = p
  · subst q; rw [upd_same] at e ⊢; exact e
  · rw [upd_ne q] at e ⊢; exact h b o e
theorem same_updR (h : Same F H) (hp : F p = none) : Same F (upd H p ho) := fun b o e => by
  rw [upd_ne (ne_of_none e hp)]; exact h b o e
/-- a new object, frozen at once -/
theorem Sta.new (s : Sta K β lk F H σ ρ fp) (hp : H p = none) (e : mkHO k vs = some ho) (hs : Fzs K F vs ds) :
    Sta K β lk (upd F p ho) (upd H p ho) σ ρ fp ∧ Tr F H fp (upd F p ho) (upd H p ho) fp ∧ Fz K (upd F p ho) (.ref p) (.nd k ds) := by
  obtain ⟨n1, n2⟩ := s.fresh hp
  have ex : Same F (upd F p ho) := same_upd n2
  refine ⟨⟨same_upd2 s.ex hp, s.sl.frame ex fun a ha o h => ?_, s.nd, fun a ha => ?_, fun z => (s.lock z).upd (mkNf e)⟩, ⟨ex, fun a o h n => ?_, fun a h => ?_⟩, .nd (mkAt e upd_same) (hs.mono ex)⟩
  · rw [upd_ne (ne_of_none h hp)]; exact h
  · rw [upd_ne (fun (z : a = p) => n1 (z ▸ ha))]; exact s.own a ha
  · rw [upd_ne (ne_of_none h hp)]; exact h
  · rcases h with h | ⟨h1, h2⟩
    · exact .inl h
    · refine .inr ?_
      by_cases q : a = p
      · rw [q]; exact hp
      · rw [upd_ne q] at h2; exact absurd h1 h2
/-- a new object, ours -/
theorem Sta.newO (s : Sta K β lk F H σ ρ fp) (hp : H p = none) (e : mkHO k vs = some ho) (o : owK k = true) (hs : Fzs K F vs ds) :
    Sta K β lk F (upd H p ho) (some (.ref p) :: σ) (some (.o (.nd k ds)) :: ρ) (p :: fp) ∧ Tr F H fp F (upd H p ho) (p :: fp) := by
  obtain ⟨n1, n2⟩ := s.fresh hp
  refine ⟨⟨same_updR s.ex n2, .ow (mkW e o upd_same) hs (s.sl.frame (Same.refl _) fun a ha u h => ?_), List.nodup_cons.mpr ⟨n1, s.nd⟩, fun a ha => ?_, s.lock⟩, ⟨Same.refl _, fun a u h n => ?_, fun a h => ?_⟩⟩
  · rw [upd_ne (ne_of_none h hp)]; exact h
  · rcases List.mem_cons.mp ha with rfl | ha
    · exact n2
    · exact s.own a ha
  · rw [upd_ne (ne_of_none h hp)]; exact h
  · rcases h with h | ⟨h1, h2⟩
    · rcases List.mem_cons.mp h with rfl | h
      · exact .inr hp
      · exact .inl h
    · exact absurd h1 h2
theorem ItemW.nf (h : ItemW H p k vs) : ∃ ho, mkHO k vs = some ho ∧ H p = some ho := by
  cases k with
  | tup => exact h.elim
  | ktp => exact h.elim
  | scr => exact h.elim
  | lst => exact ⟨_, if_pos h.2, h.1⟩
  | dK ks => exact ⟨_, if_pos ⟨h.1, h.2.2.1, h.2.2.2⟩, h.2.1⟩
  | dT ks => exact ⟨_, if_pos ⟨h.1, h.2.2.1, h.2.2.2⟩, h.2.1⟩
/-- what is ours is frozen -/
theorem Sta.freeze (s : Sta K β lk F H σ ρ (p :: fp)) (hw : ItemW H p k vs) (hs : Fzs K F vs ds) {σ' : St} {ρ' : En} (sl : Sl K β F H σ' ρ' fp) :
    ∃ F', Sta K β lk F' H σ' ρ' fp ∧ Tr F H (p :: fp) F' H fp ∧ Fz K F' (.ref p) (.nd k ds) := by
  obtain ⟨ho, e, hp⟩ := hw.nf
  have n2 : F p = none := s.own p List.mem_cons_self
  have nd := List.nodup_cons.mp s.nd
  have ex : Same F (upd F p ho) := same_upd n2
  refine ⟨upd F p ho, ⟨fun b o q => ?_, sl.frame ex fun _ _ _ h => h, nd.2, fun a ha => ?_, fun z => (s.lock z).upd (mkNf e)⟩, ⟨ex, fun a o h n => h, fun a h => ?_⟩, .nd (mkAt e upd_same) (hs.mono ex)⟩
  · by_cases z : b = p
    · subst z; rw [upd_same] at q; rw [hp]; exact q
    · rw [upd_ne z] at q; exact s.ex b o q
  · rw [upd_ne (fun (z : a = p) => nd.1 (z ▸ ha))]; exact s.own a (List.mem_cons_of_mem _ ha)
  · rcases h with h | ⟨h1, h2⟩
    · exact .inl (List.mem_cons_of_mem _ h)
    · by_cases q : a = p
      · rw [q]; exact .inl List.mem_cons_self
      · rw [upd_ne q] at h2; exact absurd h1 h2
end
end Y

set_option Elab.async false
set_option linter.all false
set_option maxRecDepth 100000
set_option maxHeartbeats 2000000
/-! The judgements by values; names, constants, operators, tests. -/
namespace Y
open PySem L2

inductive R (α : Type) where
  | ok (a : α) (ρ : En) | exc (c : Str) (x : Option (Str × D)) (ρ : En) | bad
def bnd {α β : Type} (r : R α) (g : α → En → R β) : R β :=
  match r with
  | .ok a ρ => g a ρ
  | .exc c x ρ => .exc c x ρ
  | .bad => .bad
def lift {α : Type} (o : Option α) (ρ : En) : R α :=
  match o with
  | some a => .ok a ρ
  | none => .bad
structure Wd where
  β : V
  lk : Bool
  cls : Str → Value
  W : WX
def XR (K : PySem.W.Frag) (F H : Hp) (x : Option (Str × D)) (dd : Option Addr) : Prop :=
  match x with
  | none => dd = none
  | some (f, d) => ∃ a v, dd = some a ∧ H a = some (.xd [(f, v)]) ∧ Fz K F v d
abbrev StaW (K : PySem.W.Frag) (w : Wd) := Sta K w.β w.lk
def Pst (K : PySem.W.Frag) (w : Wd) (F H : Hp) (fp : List Addr) (σ : St) {α : Type} (r : R α) (N : α → En → Hp → Hp → List Addr → Prop) : Prop :=
  match r with
  | .ok a ρ' => ∀ F' H' fp', Tr F H fp F' H' fp' → N a ρ' F' H' fp'
  | .exc c x ρ' => ∀ F' H' fp' dd, Tr F H fp F' H' fp' → StaW K w F' H' σ ρ' fp' → XR K F' H' x dd → w.W (w.cls c) dd σ H'
  | .bad => False
section
variable {K : PySem.W.Frag} {w : Wd} {F F1 H H1 : Hp} {fp fp1 : List Addr} {σ : St} {α β : Type} {r : R α} {g : α → En → R β} {N : α → En → Hp → Hp → List Addr → Prop} {M : β → En → Hp → Hp → List Addr → Prop}
theorem Pst.tr (h : Pst K w F H fp σ r N) (t : Tr F H fp F1 H1 fp1) : Pst K w F1 H1 fp1 σ r N := by
  cases r with
  | ok a ρ => exact fun F' H' fp' u => h F' H' fp' (t.trans u)
  | exc c x ρ => exact fun F' H' fp' dd u => h F' H' fp' dd (t.trans u)
  | bad => exact h
theorem Pst.bnd (h : Pst K w F H fp σ (bnd r g) M) (k : ∀ a ρ1 F1 H1 fp1, Tr F H fp F1 H1 fp1 → Pst K w F1 H1 fp1 σ (g a ρ1) M → N a ρ1 F1 H1 fp1) : Pst K w F H fp σ r N := by
  cases r with
  | ok a ρ => exact fun F' H' fp' u => k a ρ F' H' fp' u (Pst.tr (r := g a ρ) h u)
  | exc c x ρ => exact h
  | bad => exact h
theorem Pst.imp (h : Pst K w F H fp σ r N) {N' : α → En → Hp → Hp → List Addr → Prop} (k : ∀ a ρ1 F1 H1 fp1, Tr F H fp F1 H1 fp1 → N a ρ1 F1 H1 fp1 → N' a ρ1 F1 H1 fp1) : Pst K w F H fp σ r N' := by
  cases r with
  | ok a ρ => exact fun F' H' fp' u => k a ρ F' H' fp' u (h F' H' fp' u)
  | exc c x ρ => exact h
  | bad => exact h
theorem Pst.lift {o : Option α} {ρ : En} (h : Pst K w F H fp σ (Y.lift o ρ) N) : ∃ a, o = some a ∧ ∀ F' H' fp', Tr F H fp F' H' fp' → N a ρ F' H' fp' := by
  cases o with
  | none => exact h.elim
  | some a => exact ⟨a, rfl, h⟩
end

def nF (K : PySem.W.Frag) (w : Wd) (σ : St) (Q : VK) : D → En → Hp → Hp → List Addr → Prop := fun d ρ F H fp => ∀ v, StaW K w F H σ ρ fp → Fz K F v d → Q v H
def nB (K : PySem.W.Frag) (w : Wd) (σ : St) (Q : VK) : D → En → Hp → Hp → List Addr → Prop := fun d ρ F H fp => ∀ v, StaW K w F H σ ρ fp → Bz K F H v d → Q v H
def nO (K : PySem.W.Frag) (w : Wd) (σ : St) (Q : VK) : D → En → Hp → Hp → List Addr → Prop := fun d ρ F H fp => ∀ v, StaW K w F H (some v :: σ) (some (.o d) :: ρ) fp → Q v H
def nT (K : PySem.W.Frag) (w : Wd) (σ : St) (Q : Bool → Hp → Prop) : Bool → En → Hp → Hp → List Addr → Prop := fun b ρ F H fp => StaW K w F H σ ρ fp → Q b H
def nA (K : PySem.W.Frag) (w : Wd) (σ : St) (Q : List V → Hp → Prop) : List D → En → Hp → Hp → List Addr → Prop := fun ds ρ F H fp => ∀ vs, StaW K w F H σ ρ fp → Fzs K F vs ds → Q vs H
def cF (K : PySem.W.Frag) (w : Wd) (f : En → R D) : TE := fun σ H Q => ∃ F ρ fp, StaW K w F H σ ρ fp ∧ Pst K w F H fp σ (f ρ) (nF K w σ Q)
def cB (K : PySem.W.Frag) (w : Wd) (f : En → R D) : TE := fun σ H Q => ∃ F ρ fp, StaW K w F H σ ρ fp ∧ Pst K w F H fp σ (f ρ) (nB K w σ Q)
def cO (K : PySem.W.Frag) (w : Wd) (f : En → R D) : TE := fun σ H Q => ∃ F ρ fp, StaW K w F H σ ρ fp ∧ Pst K w F H fp σ (f ρ) (nO K w σ Q)
def cT (K : PySem.W.Frag) (w : Wd) (f : En → R Bool) : TT := fun σ H Q => ∃ F ρ fp, StaW K w F H σ ρ fp ∧ Pst K w F H fp σ (f ρ) (nT K w σ Q)
def cA (K : PySem.W.Frag) (w : Wd) (f : En → R (List D)) : TA := fun σ H Q => ∃ F ρ fp, StaW K w F H σ ρ fp ∧ Pst K w F H fp σ (f ρ) (nA K w σ Q)

section
variable {X : Cx} {e : Expr} {es : List Expr}
theorem peI {t t' : TE} (h : PE X e t) (k : ∀ σ H Q, t' σ H Q → t σ H Q) : PE X e t' := ⟨fun pins s σ H Q I q => h.run pins s σ H Q I (k σ H Q q)⟩
theorem ptI {t t' : TT} (h : PT X e t) (k : ∀ σ H Q, t' σ H Q → t σ H Q) : PT X e t' := ⟨fun pins s σ H Q I q => h.run pins s σ H Q I (k σ H Q q)⟩
theorem pwI {t t' : TT} (h : PW X e t) (k : ∀ σ H Q, t' σ H Q → t σ H Q) : PW X e t' := ⟨fun wh pins s σ H Q I q => h.run wh pins s σ H Q I (k σ H Q q)⟩
theorem paI {t t' : TA} (h : PA X es t) (k : ∀ σ H Q, t' σ H Q → t σ H Q) : PA X es t' := ⟨fun pos pins s σ H Q I q => h.run pos pins s σ H Q I (k σ H Q q)⟩
end

section
variable {K : PySem.W.Frag} {w : Wd} {σ : St} {H : Hp} {Q : VK} {f : En → R D}
theorem cB_of (h : cB K w f σ H Q) : cF K w f σ H Q := by
  obtain ⟨F, ρ, fp, s, h⟩ := h
  exact ⟨F, ρ, fp, s, h.imp fun d ρ1 F1 H1 fp1 _ n v s1 z => n v s1 (.fz z)⟩
theorem cF_fz (h : cF K w f σ H Q) : cO K w f σ H Q := by
  obtain ⟨F, ρ, fp, s, h⟩ := h
  refine ⟨F, ρ, fp, s, ?_⟩
  cases q : f ρ with
  | bad => rw [q] at h; exact h
  | exc c x ρ => rw [q] at h; exact h
  | ok d ρ1 =>
    rw [q] at h
    intro F1 H1 fp1 t v s1
    cases hs : s1.sl with
    | ow hw hz sl =>
      obtain ⟨F2, s2, t2, z⟩ := Sta.freeze s1 hw hz sl
      exact h F2 H1 _ (t.trans t2) _ s2 z
end
section
variable {X : Cx} {w : Wd} {e : Expr} {f : En → R D}
theorem dB (h : PE X e (cF X.K w f)) : PE X e (cB X.K w f) := peI h fun σ H Q q => cB_of q
theorem dF (h : PE X e (cO X.K w f)) : PE X e (cF X.K w f) := peI h fun σ H Q q => cF_fz q
end

/-! ### slots -/
def sVar (i : Nat) : En → R D := fun ρ => match ρ[i]? with
  | some (some (.f d)) => .ok d ρ
  | _ => .bad
def sBor (i : Nat) : En → R D := fun ρ => match ρ[i]? with
  | some (some (.f d)) => .ok d ρ
  | some (some (.o d)) => .ok d ρ
  | some (some (.b d)) => .ok d ρ
  | _ => .bad
/-- an owned name is given away: frozen from now on -/
def sFrz (i : Nat) : En → R D := fun ρ => match ρ[i]? with
  | some (some (.o d)) => .ok d (ρ.set i (some (.f d)))
  | some (some (.f d)) => .ok d ρ
  | _ => .bad
/-- an owned name is given away whole: the name is forgotten -/
def sMov (i : Nat) : En → R D := fun ρ => match ρ[i]? with
  | some (some (.o d)) => .ok d (ρ.set i none)
  | _ => .bad
def sC (d : D) : En → R D := fun ρ => .ok d ρ

section
variable {K : PySem.W.Frag} {β : V} {F F' H H' : Hp} {fp : List Addr} {σ : St} {ρ : En}
/-- the place of a changing slot -/
theorem Sl.own (s : Sl K β F H σ ρ fp) (mk : D → S) (hm : mk = S.o ∨ mk = S.b) : ∀ {i : Nat} {d : D}, ρ[i]? = some (some (mk d)) →
    ∃ a k vs ds fp1 fp2, d = .nd k ds ∧ fp = fp1 ++ a :: fp2 ∧ σ[i]? = some (some (.ref a)) ∧ ItemW H a k vs ∧ Fzs K F vs ds ∧ (mk = S.b → β = .ref a) ∧
      (∀ F' H' d', Same F F' → (∀ b ∈ fp1 ++ fp2, ∀ o, H b = some o → H' b = some o) → Fz K F' (.ref a) d' → Sl K β F' H' σ (ρ.set i (some (.f d'))) (fp1 ++ fp2)) ∧
      (∀ F' H' k' vs' ds', Same F F' → (∀ b ∈ fp1 ++ fp2, ∀ o, H b = some o → H' b = some o) → ItemW H' a k' vs' → Fzs K F' vs' ds' → Sl K β F' H' σ (ρ.set i (some (mk (.nd k' ds')))) fp) ∧
      (∀ F' H', Same F F' → (∀ b ∈ fp1 ++ fp2, ∀ o, H b = some o → H' b = some o) → Sl K β F' H' σ (ρ.set i none) (fp1 ++ fp2)) := by
  induction s with
  | nil => intro i d e; simp at e
  | @skip x σ ρ fp t ih =>
    intro i d e
    cases i with
    | zero => simp at e
    | succ i =>
      obtain ⟨a, k, vs, ds, fp1, fp2, h1, h2, h3, h4, h5, h6, h7, h8, h9⟩ := ih (i := i) (by simpa using e)
      exact ⟨a, k, vs, ds, fp1, fp2, h1, h2, by simpa using h3, h4, h5, h6, fun F' H' d' q1 q2 q3 => .skip (h7 F' H' d' q1 q2 q3), fun F' H' k' vs' ds' q1 q2 q3 q4 => .skip (h8 F' H' k' vs' ds' q1 q2 q3 q4), fun F' H' q1 q2 => .skip (h9 F' H' q1 q2)⟩
  | @fr v d0 σ ρ fp h t ih =>
    intro i d e
    cases i with
    | zero => rcases hm with rfl | rfl <;> simp at e
    | succ i =>
      obtain ⟨a, k, vs, ds, fp1, fp2, h1, h2, h3, h4, h5, h6, h7, h8, h9⟩ := ih (i := i) (by simpa using e)
      exact ⟨a, k, vs, ds, fp1, fp2, h1, h2, by simpa using h3, h4, h5, h6, fun F' H' d' q1 q2 q3 => .fr (h.mono q1) (h7 F' H' d' q1 q2 q3), fun F' H' k' vs' ds' q1 q2 q3 q4 => .fr (h.mono q1) (h8 F' H' k' vs' ds' q1 q2 q3 q4), fun F' H' q1 q2 => .fr (h.mono q1) (h9 F' H' q1 q2)⟩
  | @ow a0 k0 vs0 ds0 σ ρ fp h hs t ih =>
    intro i d e
    cases i with
    | zero =>
      rcases hm with rfl | rfl
      · simp at e
        subst e
        exact ⟨a0, k0, vs0, ds0, [], fp, rfl, rfl, rfl, h, hs, fun z => (by cases (congrFun z .non)), fun F' H' d' q1 q2 q3 => .fr q3 (t.frame q1 q2), fun F' H' k' vs' ds' q1 q2 q3 q4 => .ow q3 q4 (t.frame q1 q2), fun F' H' q1 q2 => .skip (t.frame q1 q2)⟩
      · simp at e
    | succ i =>
      obtain ⟨a, k, vs, ds, fp1, fp2, h1, h2, h3, h4, h5, h6, h7, h8, h9⟩ := ih (i := i) (by simpa using e)
      have up : ∀ {H' : Hp}, (∀ b ∈ a0 :: fp1 ++ fp2, ∀ o, H b = some o → H' b = some o) → (∀ b ∈ fp1 ++ fp2, ∀ o, H b = some o → H' b = some o) := fun q b hb => q b (List.mem_cons_of_mem _ hb)
      exact ⟨a, k, vs, ds, a0 :: fp1, fp2, h1, by rw [h2]; rfl, by simpa using h3, h4, h5, h6, fun F' H' d' q1 q2 q3 => .ow (h.keep (q2 a0 List.mem_cons_self)) (hs.mono q1) (h7 F' H' d' q1 (up q2) q3),
        fun F' H' k' vs' ds' q1 q2 q3 q4 => .ow (h.keep (q2 a0 List.mem_cons_self)) (hs.mono q1) (h8 F' H' k' vs' ds' q1 (up q2) q3 q4), fun F' H' q1 q2 => .ow (h.keep (q2 a0 List.mem_cons_self)) (hs.mono q1) (h9 F' H' q1 (up q2))⟩
  | @bo a0 k0 vs0 ds0 σ ρ fp eb h hs t ih =>
    intro i d e
    cases i with
    | zero =>
      rcases hm with rfl | rfl
      · simp at e
      · simp at e
        subst e
        exact ⟨a0, k0, vs0, ds0, [], fp, rfl, rfl, rfl, h, hs, fun _ => eb, fun F' H' d' q1 q2 q3 => .fr q3 (t.frame q1 q2), fun F' H' k' vs' ds' q1 q2 q3 q4 => .bo eb q3 q4 (t.frame q1 q2), fun F' H' q1 q2 => .skip (t.frame q1 q2)⟩
    | succ i =>
      obtain ⟨a, k, vs, ds, fp1, fp2, h1, h2, h3, h4, h5, h6, h7, h8, h9⟩ := ih (i := i) (by simpa using e)
      have up : ∀ {H' : Hp}, (∀ b ∈ a0 :: fp1 ++ fp2, ∀ o, H b = some o → H' b = some o) → (∀ b ∈ fp1 ++ fp2, ∀ o, H b = some o → H' b = some o) := fun q b hb => q b (List.mem_cons_of_mem _ hb)
      exact ⟨a, k, vs, ds, a0 :: fp1, fp2, h1, by rw [h2]; rfl, by simpa using h3, h4, h5, h6, fun F' H' d' q1 q2 q3 => .bo eb (h.keep (q2 a0 List.mem_cons_self)) (hs.mono q1) (h7 F' H' d' q1 (up q2) q3),
        fun F' H' k' vs' ds' q1 q2 q3 q4 => .bo eb (h.keep (q2 a0 List.mem_cons_self)) (hs.mono q1) (h8 F' H' k' vs' ds' q1 (up q2) q3 q4), fun F' H' q1 q2 => .bo eb (h.keep (q2 a0 List.mem_cons_self)) (hs.mono q1) (h9 F' H' q1 (up q2))⟩
end
theorem mid {a : Addr} {l1 l2 : List Addr} (h : (l1 ++ a :: l2).Nodup) : a ∉ l1 ++ l2 ∧ (l1 ++ l2).Nodup ∧ (a :: (l1 ++ l2)).Perm (l1 ++ a :: l2) := by
  have p : (a :: (l1 ++ l2)).Perm (l1 ++ a :: l2) := (List.perm_middle).symm
  have q := List.nodup_cons.mp (p.nodup_iff.mpr h)
  exact ⟨q.1, q.2, p⟩
section
variable {X : Cx} {w : Wd} {x : Str} {pos : Pos}
theorem d_var (i : Nat) (hN : X.N[i]? = some x := by rfl) (hv : Vis X.env.scope x := by first | exact Or.inl rfl | exact Or.inr (Or.inl rfl) | exact Or.inr (Or.inr rfl)) (hd : (x == ("__debug__" : Str)) = false := by decide)
    (hcd : (x == ("__classdict__" : Str)) = false := by decide) : PE X (.Name x pos) (cF X.K w (sVar i)) := peI (pe_var hN hv hd hcd) fun σ H Q h => by
  obtain ⟨F, ρ, fp, s, h⟩ := h
  unfold sVar at h
  split at h
  · rename_i d e
    obtain ⟨v, e1, z⟩ := s.sl.getF e
    exact ⟨v, e1, h F H fp .refl v s z⟩
  · exact h.elim
theorem d_bor (i : Nat) (hN : X.N[i]? = some x := by rfl) (hv : Vis X.env.scope x := by first | exact Or.inl rfl | exact Or.inr (Or.inl rfl) | exact Or.inr (Or.inr rfl)) (hd : (x == ("__debug__" : Str)) = false := by decide)
    (hcd : (x == ("__classdict__" : Str)) = false := by decide) : PE X (.Name x pos) (cB X.K w (sBor i)) := peI (pe_var hN hv hd hcd) fun σ H Q h => by
  obtain ⟨F, ρ, fp, s, h⟩ := h
  unfold sBor at h
  split at h
  · rename_i d e
    obtain ⟨v, e1, z⟩ := s.sl.getB e
    exact ⟨v, e1, h F H fp .refl v s z⟩
  · rename_i d e
    obtain ⟨v, e1, z⟩ := s.sl.getB e
    exact ⟨v, e1, h F H fp .refl v s z⟩
  · rename_i d e
    obtain ⟨v, e1, z⟩ := s.sl.getB e
    exact ⟨v, e1, h F H fp .refl v s z⟩
  · exact h.elim
theorem d_frz (i : Nat) (hN : X.N[i]? = some x := by rfl) (hv : Vis X.env.scope x := by first | exact Or.inl rfl | exact Or.inr (Or.inl rfl) | exact Or.inr (Or.inr rfl)) (hd : (x == ("__debug__" : Str)) = false := by decide)
    (hcd : (x == ("__classdict__" : Str)) = false := by decide) : PE X (.Name x pos) (cF X.K w (sFrz i)) := peI (pe_var hN hv hd hcd) fun σ H Q h => by
  obtain ⟨F, ρ, fp, s, h⟩ := h
  unfold sFrz at h
  split at h
  · rename_i d e
    obtain ⟨a, k, vs, ds, fp1, fp2, rfl, rfl, e1, hw, hz, _, put, _, _⟩ := s.sl.own .o (.inl rfl) e
    obtain ⟨ho, em, hp⟩ := hw.nf
    obtain ⟨m1, m2, m3⟩ := mid s.nd
    have n2 : F a = none := s.own a (by simp)
    have ex : Same F (upd F a ho) := same_upd n2
    refine ⟨.ref a, e1, h (upd F a ho) H (fp1 ++ fp2) ⟨ex, fun b o h n => h, fun b q => ?_⟩ _ ⟨fun b o q => ?_, put _ H _ ex (fun _ _ _ h => h) (.nd (mkAt em upd_same) (hz.mono ex)), m2, fun b hb => ?_, fun z => (s.lock z).upd (mkNf em)⟩ (.nd (mkAt em upd_same) (hz.mono ex))⟩
    · rcases q with q | ⟨q1, q2⟩
      · exact .inl (m3.mem_iff.mp (List.mem_cons_of_mem _ q))
      · by_cases z : b = a
        · rw [z]; exact .inl (by simp)
        · rw [upd_ne z] at q2; exact absurd q1 q2
    · by_cases z : b = a
      · subst z; rw [upd_same] at q; rw [hp]; exact q
      · rw [upd_ne z] at q; exact s.ex b o q
    · rw [upd_ne (fun (z : b = a) => m1 (z ▸ hb))]; exact s.own b (m3.mem_iff.mp (List.mem_cons_of_mem _ hb))
  · rename_i d e
    obtain ⟨v, e1, z⟩ := s.sl.getF e
    exact ⟨v, e1, h F H fp .refl v s z⟩
  · exact h.elim
theorem d_mov (i : Nat) (hN : X.N[i]? = some x := by rfl) (hv : Vis X.env.scope x := by first | exact Or.inl rfl | exact Or.inr (Or.inl rfl) | exact Or.inr (Or.inr rfl)) (hd : (x == ("__debug__" : Str)) = false := by decide)
    (hcd : (x == ("__classdict__" : Str)) = false := by decide) : PE X (.Name x pos) (cO X.K w (sMov i)) := peI (pe_var hN hv hd hcd) fun σ H Q h => by
  obtain ⟨F, ρ, fp, s, h⟩ := h
  unfold sMov at h
  split at h
  · rename_i d e
    obtain ⟨a, k, vs, ds, fp1, fp2, rfl, rfl, e1, hw, hz, _, _, _, dr⟩ := s.sl.own .o (.inl rfl) e
    obtain ⟨m1, m2, m3⟩ := mid s.nd
    refine ⟨.ref a, e1, h F H (a :: (fp1 ++ fp2)) (Tr.refl.sub fun b hb => m3.mem_iff.mp hb) _ ⟨s.ex, .ow hw hz (dr F H (Same.refl _) fun _ _ _ h => h), List.nodup_cons.mpr ⟨m1, m2⟩, fun b hb => s.own b (m3.mem_iff.mp hb), s.lock⟩⟩
  · exact h.elim
theorem d_c {d : D} {v : V} {e : Expr} (h : PE X e (tC v)) (z : ∀ F, Fz X.K F v d) : PE X e (cF X.K w (sC d)) := peI h fun σ H Q h => by
  obtain ⟨F, ρ, fp, s, h⟩ := h
  exact h F H fp .refl v s (z F)
theorem d_int {i j pos} : PE X (.Constant (.int i) j pos) (cF X.K w (sC (.int i))) := d_c pe_int fun _ => .int i
theorem d_bl {i j pos} : PE X (.Constant (.bool i) j pos) (cF X.K w (sC (.bl i))) := d_c pe_bl fun _ => .bl i
theorem d_non {j pos} : PE X (.Constant .none j pos) (cF X.K w (sC .non)) := d_c pe_non fun _ => .non
theorem d_str {i j pos} (h : i.length ≤ sizeLine := by decide +kernel) : PE X (.Constant (.str i) j pos) (cF X.K w (sC (.str i))) := d_c pe_str fun _ => .str i h
/-- a module's constant -/
theorem d_glob {v : V} {d : D} {u : Value} (hg : Gl X x) (hm : X.mg x = some u) (r : RelV v u) (z : ∀ F, Fz X.K F v d) (hd : (x == ("__debug__" : Str)) = false := by decide) : PE X (.Name x pos) (cF X.K w (sC d)) := d_c (pe_glob hg hm r hd) z
end

/-! ### operators of two -/
/-- what an operation on values does: an old value, or a new object -/
def RB (K : PySem.W.Frag) (r : R2) (g : D → D → Option D) : Prop := ∀ F H x y dx dy d Q, Same F H → Fz K F x dx → Bz K F H y dy → g dx dy = some d →
  (∀ v, Fz K F v d → Q v H) → (∀ p k vs ds ho, d = .nd k ds → H p = none → mkHO k vs = some ho → Fzs K F vs ds → Q (.ref p) (upd H p ho)) → r x y H Q
/-- always a new one -/
def RN (K : PySem.W.Frag) (r : R2) (g : D → D → Option D) : Prop := ∀ F H x y dx dy d Q, Same F H → Fz K F x dx → Bz K F H y dy → g dx dy = some d →
  (∀ p k vs ds ho, d = .nd k ds → owK k = true → H p = none → mkHO k vs = some ho → Fzs K F vs ds → Q (.ref p) (upd H p ho)) → r x y H Q
def RT (K : PySem.W.Frag) (r : R2) (g : D → D → Option Bool) : Prop := ∀ F H x y dx dy b Q, Same F H → Fz K F x dx → Bz K F H y dy → g dx dy = some b → Q (.bl b) H → r x y H Q
def sBin {α : Type} (g : D → D → Option α) (a b : En → R D) : En → R α := fun ρ => bnd (a ρ) fun x ρ1 => bnd (b ρ1) fun y ρ2 => lift (g x y) ρ2
/-- how a wish for an old value and for a new one follow -/
theorem fin_new {K : PySem.W.Frag} {w : Wd} {F H : Hp} {fp : List Addr} {σ : St} {ρ : En} {d : D} {Q : VK} (s : StaW K w F H σ ρ fp) (h : ∀ F' H' fp', Tr F H fp F' H' fp' → nF K w σ Q d ρ F' H' fp') :
    (∀ v, Fz K F v d → Q v H) ∧ (∀ p k vs ds ho, d = .nd k ds → H p = none → mkHO k vs = some ho → Fzs K F vs ds → Q (.ref p) (upd H p ho)) := by
  refine ⟨fun v z => h F H fp .refl v s z, fun p k vs ds ho e hp em hs => ?_⟩
  subst e
  obtain ⟨s1, t1, z1⟩ := s.new hp em hs
  exact h _ _ _ t1 _ s1 z1
theorem fin_newO {K : PySem.W.Frag} {w : Wd} {F H : Hp} {fp : List Addr} {σ : St} {ρ : En} {d : D} {Q : VK} (s : StaW K w F H σ ρ fp) (h : ∀ F' H' fp', Tr F H fp F' H' fp' → nO K w σ Q d ρ F' H' fp') :
    (∀ p k vs ds ho, d = .nd k ds → owK k = true → H p = none → mkHO k vs = some ho → Fzs K F vs ds → Q (.ref p) (upd H p ho)) := by
  intro p k vs ds ho e o hp em hs
  subst e
  obtain ⟨s1, t1⟩ := s.newO hp em o hs
  exact h _ _ _ t1 _ s1
section
variable {X : Cx} {w : Wd} {a b : Expr} {fa fb : En → R D} {pos : Pos} {r : R2}
theorem two {K : PySem.W.Frag} {r : R2} {α : Type} {g : D → D → Option α} {σ : St} {H : Hp} {Q : VK} {N : α → En → Hp → Hp → List Addr → Prop} (h : ∃ F ρ fp, StaW K w F H σ ρ fp ∧ Pst K w F H fp σ (sBin g fa fb ρ) N)
    (k : ∀ F H x y dx dy d ρ fp, StaW K w F H σ ρ fp → Fz K F x dx → Bz K F H y dy → g dx dy = some d → (∀ F' H' fp', Tr F H fp F' H' fp' → N d ρ F' H' fp') → r x y H Q) : tOp r (cF K w fa) (cB K w fb) σ H Q := by
  obtain ⟨F, ρ, fp, s, h⟩ := h
  refine ⟨F, ρ, fp, s, h.bnd fun dx ρ1 F1 H1 fp1 t1 h1 => fun x s1 zx => ⟨F1, ρ1, fp1, s1, h1.bnd fun dy ρ2 F2 H2 fp2 t2 h2 => fun y s2 zy => ?_⟩⟩
  obtain ⟨d, e, h3⟩ := h2.lift
  exact k F2 H2 x y dx dy d ρ2 fp2 s2 (zx.mono t2.ex) zy e h3
theorem d_bin {op : Operator} {g : D → D → Option D} (ho : OpR X (binaryOp op) r) (hr : RB X.K r g) (ha : PE X a (cF X.K w fa)) (hb : PE X b (cB X.K w fb)) : PE X (.BinOp a op b pos) (cF X.K w (sBin g fa fb)) :=
  peI (pe_op ho ha hb) fun σ H Q h => two h fun F H x y dx dy d ρ fp s zx zy e n => hr F H x y dx dy d Q s.ex zx zy e (fin_new s n).1 (fin_new s n).2
theorem d_binO {op : Operator} {g : D → D → Option D} (ho : OpR X (binaryOp op) r) (hr : RN X.K r g) (ha : PE X a (cF X.K w fa)) (hb : PE X b (cB X.K w fb)) : PE X (.BinOp a op b pos) (cO X.K w (sBin g fa fb)) :=
  peI (pe_op ho ha hb) fun σ H Q h => two h fun F H x y dx dy d ρ fp s zx zy e n => hr F H x y dx dy d Q s.ex zx zy e (fin_newO s n)
def sCmp (g : D → D → Option Bool) (a b : En → R D) : En → R D := sBin (fun x y => (g x y).map D.bl) a b
theorem d_cmp {op : CmpOp} {g : D → D → Option Bool} (ho : OpR X (compareOp op) r) (hr : RT X.K r g) (ha : PE X a (cF X.K w fa)) (hb : PE X b (cB X.K w fb)) (hm : behindInMarks op b = false) : PE X (.Compare a [op] [b] pos) (cF X.K w (sCmp g fa fb)) :=
  peI (pe_cmpR ho ha hb hm) fun σ H Q h => two h fun F H x y dx dy d ρ fp s zx zy e n => by
    obtain ⟨b, e1, rfl⟩ := Option.map_eq_some_iff.mp e
    exact hr F H x y dx dy b Q s.ex zx zy e1 (n F H fp .refl _ s (.bl b))
theorem t_cmp {op : CmpOp} {g : D → D → Option Bool} (ho : OpR X (compareOp op) r) (hr : RT X.K r g) (ha : PE X a (cF X.K w fa)) (hb : PE X b (cB X.K w fb)) (hm : behindInMarks op b = false) : PT X (.Compare a [op] [b] pos) (cT X.K w (sBin g fa fb)) :=
  ptI (pt_cmpR ho ha hb hm) fun σ H Q h => two h fun F H x y dx dy b ρ fp s zx zy e n => hr F H x y dx dy b _ s.ex zx zy e ⟨b, rfl, n F H fp .refl s⟩
/-- a <= b <= c -/
def sChain {α : Type} (g g' : D → D → Option Bool) (k : Bool → α) (a b c : En → R D) : En → R α := fun ρ => bnd (a ρ) fun x ρ1 => bnd (b ρ1) fun y ρ2 => bnd (lift (g x y) ρ2) fun t ρ3 => if t then bnd (c ρ3) fun z ρ4 => lift ((g' y z).map k) ρ4 else .ok (k false) ρ3
theorem chain {fc : En → R D} {r r' : R2} {α : Type} {k : Bool → α} {K : PySem.W.Frag} {g g' : D → D → Option Bool} (hr : RT K r g) (hr' : RT K r' g') {σ : St} {H : Hp} {Q : VK} {N : α → En → Hp → Hp → List Addr → Prop} (h : ∃ F ρ fp, StaW K w F H σ ρ fp ∧ Pst K w F H fp σ (sChain g g' k fa fb fc ρ) N)
    (q : ∀ F H b ρ fp, StaW K w F H σ ρ fp → (∀ F' H' fp', Tr F H fp F' H' fp' → N (k b) ρ F' H' fp') → Q (.bl b) H) :
    (cF K w fa) σ H fun x H1 => (cF K w fb) σ H1 fun y H2 => r x y H2 fun z H3 => ∃ k, z = .bl k ∧ if k = true then (cF K w fc) σ H3 fun u H4 => r' y u H4 Q else Q (.bl false) H3 := by
  obtain ⟨F, ρ, fp, s, h⟩ := h
  refine ⟨F, ρ, fp, s, h.bnd fun dx ρ1 F1 H1 fp1 t1 h1 => fun x s1 zx => ⟨F1, ρ1, fp1, s1, h1.bnd fun dy ρ2 F2 H2 fp2 t2 h2 => fun y s2 zy => ?_⟩⟩
  have h3 := h2.bnd (N := fun t ρ3 F3 H3 fp3 => Pst K w F3 H3 fp3 σ (if t then bnd (fc ρ3) fun z ρ4 => lift ((g' dy z).map k) ρ4 else .ok (k false) ρ3) N) fun _ _ _ _ _ _ n => n
  obtain ⟨t, e, h4⟩ := h3.lift
  refine hr F2 H2 x y dx dy t _ s2.ex (zx.mono t2.ex) (.fz zy) e ⟨t, rfl, ?_⟩
  have h5 := h4 F2 H2 fp2 .refl
  cases t with
  | false => exact iteF (q F2 H2 false ρ2 fp2 s2 (show Pst K w F2 H2 fp2 σ (R.ok (k false) ρ2) N by simpa using h5))
  | true =>
    refine iteT ?_
    have h5 : Pst K w F2 H2 fp2 σ (bnd (fc ρ2) fun z ρ4 => lift ((g' dy z).map k) ρ4) N := by simpa using h5
    refine ⟨F2, ρ2, fp2, s2, h5.bnd fun dz ρ4 F4 H4 fp4 t4 h6 => fun u s4 zu => ?_⟩
    obtain ⟨kb, e6, h7⟩ := h6.lift
    obtain ⟨b, e7, rfl⟩ := Option.map_eq_some_iff.mp e6
    exact hr' F4 H4 y u dy dz b _ s4.ex (zy.mono t4.ex) (.fz zu) e7 (q F4 H4 b ρ4 fp4 s4 h7)
theorem d_chain {c : Expr} {fc : En → R D} {op op' : CmpOp} {r r' : R2} {g g' : D → D → Option Bool} (ho : OpR X (compareOp op) r) (ho' : OpR X (compareOp op') r') (hr : RT X.K r g) (hr' : RT X.K r' g') (ha : PE X a (cF X.K w fa)) (hb : PE X b (cF X.K w fb)) (hc : PE X c (cF X.K w fc))
    (hm : lastMarks [op, op'] [b, c] = false := by with_unfolding_all rfl) : PE X (.Compare a [op, op'] [b, c] pos) (cF X.K w (sChain g g' D.bl fa fb fc)) :=
  peI (pe_chain ho ho' ha hb hc hm) fun σ H Q h => chain hr hr' h fun F H b ρ fp s n => n F H fp .refl _ s (.bl b)
theorem t_chain {c : Expr} {fc : En → R D} {op op' : CmpOp} {r r' : R2} {g g' : D → D → Option Bool} (ho : OpR X (compareOp op) r) (ho' : OpR X (compareOp op') r') (hr : RT X.K r g) (hr' : RT X.K r' g') (ha : PE X a (cF X.K w fa)) (hb : PE X b (cF X.K w fb)) (hc : PE X c (cF X.K w fc))
    (hm : lastMarks [op, op'] [b, c] = false := by with_unfolding_all rfl) : PT X (.Compare a [op, op'] [b, c] pos) (cT X.K w (sChain g g' id fa fb fc)) :=
  ptI (pt_chain ho ho' ha hb hc hm) fun σ H Q h => chain hr hr' h fun F H b ρ fp s n => ⟨b, rfl, n F H fp .refl s⟩
end
end Y

set_option Elab.async false
set_option linter.all false
set_option maxRecDepth 100000
set_option maxHeartbeats 2000000
/-! Truth, and, or, not, if; argument lists, displays; built-ins called; subscripts. -/
namespace Y
open PySem L2
/-- a value's truth -/
def tru : D → Option Bool
  | .non => some false
  | .bl b => some b
  | .int i => some (i != 0)
  | .str s => some ((s.length : Int) != 0)
  | .nd .lst ds => some (!ds.isEmpty)
  | .nd .tup ds => some (!ds.isEmpty)
  | .nd .scr ds => some (!ds.isEmpty)
  | .nd .ktp ds => some (!ds.isEmpty)
  | _ => none
theorem Fzs.emp {K : PySem.W.Frag} {F : Hp} {vs : List V} {ds : List D} (h : Fzs K F vs ds) : vs.isEmpty = ds.isEmpty := by
  cases h <;> rfl
theorem Fz.tru {K : PySem.W.Frag} {F : Hp} {v : V} {d : D} {b : Bool} (h : Fz K F v d) (e : Y.tru d = some b) : TruV K v F b := by
  cases h with
  | non => simp [Y.tru] at e; subst e; exact rfl
  | bl c => simp [Y.tru] at e; subst e; exact rfl
  | int i => simp [Y.tru] at e; subst e; exact rfl
  | str s h => simp [Y.tru] at e; subst e; exact ⟨h, rfl⟩
  | ty n => simp [Y.tru] at e
  | nd h hs =>
    rename_i a k vs ds
    have q := hs.emp
    cases k <;> simp only [Y.tru, Option.some.injEq] at e
    case lst => subst e; exact .inl ⟨vs, SqL.of h.1, by rw [q]⟩
    case tup => subst e; exact .inr (.inl ⟨vs, SqT.of h.1, by rw [q]⟩)
    case ktp => subst e; exact .inr (.inl ⟨vs, h.1, by rw [q]⟩)
    case scr => subst e; exact .inl ⟨vs, h.1, by rw [q]⟩
    all_goals cases e
theorem Bz.tru {K : PySem.W.Frag} {F H : Hp} {v : V} {d : D} {b : Bool} (ex : Same F H) (h : Bz K F H v d) (e : Y.tru d = some b) : TruV K v H b := by
  cases h with
  | fz h => exact (h.mono ex).tru e
  | cell o h hs =>
    rename_i a k vs ds
    have q := hs.emp
    cases k <;> simp only [Y.tru, Option.some.injEq] at e
    case lst => subst e; exact .inl ⟨vs, SqL.of h.1, by rw [q]⟩
    case tup => subst e; exact .inr (.inl ⟨vs, SqT.of h.1, by rw [q]⟩)
    case ktp => subst e; exact .inr (.inl ⟨vs, h.1, by rw [q]⟩)
    case scr => subst e; exact .inl ⟨vs, h.1, by rw [q]⟩
    all_goals cases e
def sTru (f : En → R D) : En → R Bool := fun ρ => bnd (f ρ) fun d ρ1 => lift (tru d) ρ1
def sAndT (a b : En → R Bool) : En → R Bool := fun ρ => bnd (a ρ) fun c ρ1 => if c = true then b ρ1 else .ok false ρ1
def sOrT (a b : En → R Bool) : En → R Bool := fun ρ => bnd (a ρ) fun c ρ1 => if c = true then .ok true ρ1 else b ρ1
def sNotT (a : En → R Bool) : En → R Bool := fun ρ => bnd (a ρ) fun c ρ1 => .ok (!c) ρ1
def sAndV (a b : En → R D) : En → R D := fun ρ => bnd (a ρ) fun d ρ1 => bnd (lift (tru d) ρ1) fun c ρ2 => if c = true then b ρ2 else .ok d ρ2
def sOrV (a b : En → R D) : En → R D := fun ρ => bnd (a ρ) fun d ρ1 => bnd (lift (tru d) ρ1) fun c ρ2 => if c = true then .ok d ρ2 else b ρ2
def sNotV (a : En → R D) : En → R D := fun ρ => bnd (a ρ) fun d ρ1 => lift ((tru d).map fun c => D.bl (!c)) ρ1
def sIf {α : Type} (t : En → R Bool) (a b : En → R α) : En → R α := fun ρ => bnd (t ρ) fun c ρ1 => if c = true then a ρ1 else b ρ1
section
variable {X : Cx} {w : Wd} {a b e : Expr} {es rest : List Expr} {fa fb : En → R D} {ft fu : En → R Bool} {pos : Pos}
theorem t_tru (ha : PE X a (cB X.K w fa)) (he : ∀ whole, isTrue a X.env whole = (do let v ← whole; standAt a.pos; holding [v] (truthy v)) := by intro _; rfl) : PT X a (cT X.K w (sTru fa)) :=
  ptI (pt_truth ha he) fun σ H Q h => by
    obtain ⟨F, ρ, fp, s, h⟩ := h
    refine ⟨F, ρ, fp, s, h.bnd fun d ρ1 F1 H1 fp1 t1 h1 => fun v s1 z => ?_⟩
    obtain ⟨b, e, n⟩ := h1.lift
    exact ⟨b, z.tru s1.ex e, n F1 H1 fp1 .refl s1⟩
theorem w_and1 (h : PT X a (cT X.K w ft)) : PW X (.BoolOp .And [a] pos) (cT X.K w ft) := pw_and1 h
theorem w_or1 (h : PT X a (cT X.K w ft)) : PW X (.BoolOp .Or [a] pos) (cT X.K w ft) := pw_or1 h
theorem w_and (ha : PT X a (cT X.K w ft)) (hb : PW X (.BoolOp .And (b :: rest) pos) (cT X.K w fu)) : PW X (.BoolOp .And (a :: b :: rest) pos) (cT X.K w (sAndT ft fu)) :=
  pwI (pw_and ha hb) fun σ H Q h => by
    obtain ⟨F, ρ, fp, s, h⟩ := h
    refine ⟨F, ρ, fp, s, h.bnd fun c ρ1 F1 H1 fp1 t1 h1 => fun s1 => ?_⟩
    cases c with
    | true => exact iteT ⟨F1, ρ1, fp1, s1, (by simpa using h1)⟩
    | false =>
      have h2 : Pst X.K w F1 H1 fp1 σ (R.ok false ρ1) (nT X.K w σ Q) := by simpa using h1
      exact iteF (h2 F1 H1 fp1 .refl s1)
theorem w_or (ha : PT X a (cT X.K w ft)) (hb : PW X (.BoolOp .Or (b :: rest) pos) (cT X.K w fu)) : PW X (.BoolOp .Or (a :: b :: rest) pos) (cT X.K w (sOrT ft fu)) :=
  pwI (pw_or ha hb) fun σ H Q h => by
    obtain ⟨F, ρ, fp, s, h⟩ := h
    refine ⟨F, ρ, fp, s, h.bnd fun c ρ1 F1 H1 fp1 t1 h1 => fun s1 => ?_⟩
    cases c with
    | true =>
      have h2 : Pst X.K w F1 H1 fp1 σ (R.ok true ρ1) (nT X.K w σ Q) := by simpa using h1
      exact iteT (h2 F1 H1 fp1 .refl s1)
    | false => exact iteF ⟨F1, ρ1, fp1, s1, (by simpa using h1)⟩
theorem t_not (ha : PT X a (cT X.K w ft)) : PT X (.UnaryOp .Not a pos) (cT X.K w (sNotT ft)) :=
  ptI (pt_not ha) fun σ H Q h => by
    obtain ⟨F, ρ, fp, s, h⟩ := h
    exact ⟨F, ρ, fp, s, h.bnd fun c ρ1 F1 H1 fp1 t1 h1 => fun s1 => h1 F1 H1 fp1 .refl s1⟩
theorem d_one {op} (h : PE X a (cF X.K w fa)) : PE X (.BoolOp op [a] pos) (cF X.K w fa) := pe_one h
theorem d_and (ha : PE X a (cF X.K w fa)) (hb : PE X (.BoolOp .And (b :: rest) pos) (cF X.K w fb)) : PE X (.BoolOp .And (a :: b :: rest) pos) (cF X.K w (sAndV fa fb)) :=
  peI (pe_andT ha hb) fun σ H Q h => by
    obtain ⟨F, ρ, fp, s, h⟩ := h
    refine ⟨F, ρ, fp, s, h.bnd fun d ρ1 F1 H1 fp1 t1 h1 => fun v s1 z => ?_⟩
    obtain ⟨c, e, h2⟩ := (h1.bnd (N := fun t ρ3 F3 H3 fp3 => Pst X.K w F3 H3 fp3 σ (if t = true then fb ρ3 else .ok d ρ3) (nF X.K w σ Q)) fun _ _ _ _ _ _ n => n).lift
    have h3 := h2 F1 H1 fp1 .refl
    refine ⟨c, (z.mono s1.ex).tru e, ?_⟩
    cases c with
    | true => exact iteT ⟨F1, ρ1, fp1, s1, (by simpa using h3)⟩
    | false =>
      have h4 : Pst X.K w F1 H1 fp1 σ (R.ok d ρ1) (nF X.K w σ Q) := by simpa using h3
      exact iteF (h4 F1 H1 fp1 .refl v s1 z)
theorem d_or (ha : PE X a (cF X.K w fa)) (hb : PE X (.BoolOp .Or (b :: rest) pos) (cF X.K w fb)) : PE X (.BoolOp .Or (a :: b :: rest) pos) (cF X.K w (sOrV fa fb)) :=
  peI (pe_orT ha hb) fun σ H Q h => by
    obtain ⟨F, ρ, fp, s, h⟩ := h
    refine ⟨F, ρ, fp, s, h.bnd fun d ρ1 F1 H1 fp1 t1 h1 => fun v s1 z => ?_⟩
    obtain ⟨c, e, h2⟩ := (h1.bnd (N := fun t ρ3 F3 H3 fp3 => Pst X.K w F3 H3 fp3 σ (if t = true then .ok d ρ3 else fb ρ3) (nF X.K w σ Q)) fun _ _ _ _ _ _ n => n).lift
    have h3 := h2 F1 H1 fp1 .refl
    refine ⟨c, (z.mono s1.ex).tru e, ?_⟩
    cases c with
    | true =>
      have h4 : Pst X.K w F1 H1 fp1 σ (R.ok d ρ1) (nF X.K w σ Q) := by simpa using h3
      exact iteT (h4 F1 H1 fp1 .refl v s1 z)
    | false => exact iteF ⟨F1, ρ1, fp1, s1, (by simpa using h3)⟩
theorem d_not (ha : PE X a (cB X.K w fa)) : PE X (.UnaryOp .Not a pos) (cF X.K w (sNotV fa)) :=
  peI (pe_notT ha) fun σ H Q h => by
    obtain ⟨F, ρ, fp, s, h⟩ := h
    refine ⟨F, ρ, fp, s, h.bnd fun d ρ1 F1 H1 fp1 t1 h1 => fun v s1 z => ?_⟩
    obtain ⟨q, e, n⟩ := h1.lift
    obtain ⟨c, e2, rfl⟩ := Option.map_eq_some_iff.mp e
    exact ⟨c, z.tru s1.ex e2, n F1 H1 fp1 .refl _ s1 (.bl _)⟩
theorem ifx {K : PySem.W.Frag} {ta tb : TE} {C : (En → R D) → TE} (n : St → VK → D → En → Hp → Hp → List Addr → Prop) (hC : ∀ f σ H Q, C f σ H Q ↔ ∃ F ρ fp, StaW K w F H σ ρ fp ∧ Pst K w F H fp σ (f ρ) (n σ Q)) {σ : St} {H : Hp} {Q : VK} (h : C (sIf ft fa fb) σ H Q) : tIf (cT K w ft) (C fa) (C fb) σ H Q := by
  obtain ⟨F, ρ, fp, s, h⟩ := (hC _ _ _ _).mp h
  refine ⟨F, ρ, fp, s, h.bnd fun c ρ1 F1 H1 fp1 t1 h1 => fun s1 => ?_⟩
  cases c with
  | true => exact iteT ((hC _ _ _ _).mpr ⟨F1, ρ1, fp1, s1, (by simpa using h1)⟩)
  | false => exact iteF ((hC _ _ _ _).mpr ⟨F1, ρ1, fp1, s1, (by simpa using h1)⟩)
theorem d_if {c : Expr} (hc : PT X c (cT X.K w ft)) (ha : PE X a (cF X.K w fa)) (hb : PE X b (cF X.K w fb)) : PE X (.IfExp c a b pos) (cF X.K w (sIf ft fa fb)) :=
  peI (pe_ifExp hc ha hb) fun σ H Q h => ifx (C := cF X.K w) (ta := cF X.K w fa) (tb := cF X.K w fb) (fun σ Q => nF X.K w σ Q) (fun _ _ _ _ => Iff.rfl) h
theorem d_ifO {c : Expr} (hc : PT X c (cT X.K w ft)) (ha : PE X a (cO X.K w fa)) (hb : PE X b (cO X.K w fb)) : PE X (.IfExp c a b pos) (cO X.K w (sIf ft fa fb)) :=
  peI (pe_ifExp hc ha hb) fun σ H Q h => ifx (C := cO X.K w) (ta := cO X.K w fa) (tb := cO X.K w fb) (fun σ Q => nO X.K w σ Q) (fun _ _ _ _ => Iff.rfl) h
end

/-! ### argument lists, displays -/
def sNil : En → R (List D) := fun ρ => .ok [] ρ
def sCons (a : En → R D) (b : En → R (List D)) : En → R (List D) := fun ρ => bnd (a ρ) fun d ρ1 => bnd (b ρ1) fun ds ρ2 => .ok (d :: ds) ρ2
def sMk (k : Kd) (f : En → R (List D)) : En → R D := fun ρ => bnd (f ρ) fun ds ρ1 => lift (if ds.length ≤ sizeLine then some (.nd k ds) else none) ρ1
section
variable {X : Cx} {w : Wd} {a b e : Expr} {es rest : List Expr} {fa fb : En → R D} {fs : En → R (List D)} {pos : Pos}
theorem a_nil : PA X [] (cA X.K w sNil) := paI pa_nil fun σ H Q h => by
  obtain ⟨F, ρ, fp, s, h⟩ := h
  exact h F H fp .refl [] s .nil
theorem a_cons (ha : PE X e (cF X.K w fa)) (hr : PA X es (cA X.K w fs)) (hs : starEach (e :: es) X.env = (false, eval e X.env) :: starEach es X.env := by rfl) : PA X (e :: es) (cA X.K w (sCons fa fs)) :=
  paI (pa_cons ha hr hs) fun σ H Q h => by
    obtain ⟨F, ρ, fp, s, h⟩ := h
    refine ⟨F, ρ, fp, s, h.bnd fun d ρ1 F1 H1 fp1 t1 h1 => fun v s1 z => ⟨F1, ρ1, fp1, s1, h1.bnd fun ds ρ2 F2 H2 fp2 t2 h2 => fun vs s2 zs => ?_⟩⟩
    exact h2 F2 H2 fp2 .refl (v :: vs) s2 (.cons (z.mono t2.ex) zs)
theorem d_tup {x1} (h : PA X es (cA X.K w fs)) : PE X (.Tuple es x1 pos) (cF X.K w (sMk .tup fs)) :=
  peI (pe_tup h) fun σ H Q h => by
    obtain ⟨F, ρ, fp, s, h⟩ := h
    refine ⟨F, ρ, fp, s, h.bnd fun ds ρ1 F1 H1 fp1 t1 h1 => fun vs s1 z => ?_⟩
    obtain ⟨d, e, n⟩ := h1.lift
    split at e
    · rename_i hl
      cases e
      have hl' : vs.length ≤ sizeLine := by rw [z.length]; exact hl
      exact ⟨hl', fun p hp => (fin_new s1 n).2 p .tup vs ds _ rfl hp (if_pos hl') z⟩
    · cases e
theorem d_lst (h : PA X es (cA X.K w fs)) : PE X (.List es pos) (cO X.K w (sMk .lst fs)) :=
  peI (pe_lst h) fun σ H Q h => by
    obtain ⟨F, ρ, fp, s, h⟩ := h
    refine ⟨F, ρ, fp, s, h.bnd fun ds ρ1 F1 H1 fp1 t1 h1 => fun vs s1 z => ?_⟩
    obtain ⟨d, e, n⟩ := h1.lift
    split at e
    · rename_i hl
      cases e
      have hl' : vs.length ≤ sizeLine := by rw [z.length]; exact hl
      exact ⟨hl', fun p hp => fin_newO s1 n p .lst vs ds _ rfl rfl hp (if_pos hl') z⟩
    · cases e
theorem d_dict0 : PE X (.Dict [] [] pos) (cO X.K w (sC (.nd (.dK []) []))) := peI pe_dnewK fun σ H Q h => by
  obtain ⟨F, ρ, fp, s, h⟩ := h
  exact fun d hd => fin_newO s h d (.dK []) [] [] (.dK []) rfl rfl hd rfl .nil
theorem d_dict0T : PE X (.Dict [] [] pos) (cO X.K w (sC (.nd (.dT []) []))) := peI pe_dnewT fun σ H Q h => by
  obtain ⟨F, ρ, fp, s, h⟩ := h
  exact fun d hd => fin_newO s h d (.dT []) [] [] (.dT []) rfl rfl hd rfl .nil
end

/-! ### built-ins called by their names -/
/-- one argument, read now -/
def C1 (K : PySem.W.Frag) (r : List V → Hp → VK → Prop) (g : D → Option D) : Prop := ∀ F H x dx d Q, Same F H → Bz K F H x dx → g dx = some d →
  (∀ v, Fz K F v d → Q v H) → (∀ p k vs ds ho, d = .nd k ds → H p = none → mkHO k vs = some ho → Fzs K F vs ds → Q (.ref p) (upd H p ho)) → r [x] H Q
def C1N (K : PySem.W.Frag) (r : List V → Hp → VK → Prop) (g : D → Option D) : Prop := ∀ F H x dx d Q, Same F H → Bz K F H x dx → g dx = some d →
  (∀ p k vs ds ho, d = .nd k ds → owK k = true → H p = none → mkHO k vs = some ho → Fzs K F vs ds → Q (.ref p) (upd H p ho)) → r [x] H Q
/-- any number, frozen -/
def CN (K : PySem.W.Frag) (r : List V → Hp → VK → Prop) (g : List D → Option D) : Prop := ∀ F H xs dxs d Q, Same F H → Fzs K F xs dxs → g dxs = some d →
  (∀ v, Fz K F v d → Q v H) → (∀ p k vs ds ho, d = .nd k ds → H p = none → mkHO k vs = some ho → Fzs K F vs ds → Q (.ref p) (upd H p ho)) → r xs H Q
def s1 (g : D → Option D) (f : En → R D) : En → R D := fun ρ => bnd (f ρ) fun d ρ1 => lift (g d) ρ1
def sN (g : List D → Option D) (f : En → R (List D)) : En → R D := fun ρ => bnd (f ρ) fun d ρ1 => lift (g d) ρ1
section
variable {X : Cx} {w : Wd} {a e : Expr} {es : List Expr} {fa : En → R D} {fs : En → R (List D)} {pos p : Pos} {r : List V → Hp → VK → Prop} {x : Str} {id : String}
theorem tB1 {K : PySem.W.Frag} {σ : St} {H : Hp} {Q : List V → Hp → Prop} {N : D → En → Hp → Hp → List Addr → Prop} {g : D → Option D} (h : ∃ F ρ fp, StaW K w F H σ ρ fp ∧ Pst K w F H fp σ (s1 g fa ρ) N)
    (k : ∀ F H v dx d ρ fp, StaW K w F H σ ρ fp → Bz K F H v dx → g dx = some d → (∀ F' H' fp', Tr F H fp F' H' fp' → N d ρ F' H' fp') → Q [v] H) : tCons (cB K w fa) tNil σ H Q := by
  obtain ⟨F, ρ, fp, s, h⟩ := h
  refine ⟨F, ρ, fp, s, h.bnd fun dx ρ1 F1 H1 fp1 t1 h1 => fun v s1 z => ?_⟩
  obtain ⟨d, e, n⟩ := h1.lift
  exact k F1 H1 v dx d ρ1 fp1 s1 z e n
theorem d_b1 {g : D → Option D} (hc : CallR X (.builtin id) r) (hr : C1 X.K r g) (hg : Gl X x) (hm : X.mg x = none) (hv : bootBuiltins x = some (.builtin id)) (ha : PE X a (cB X.K w fa)) (hn : x ≠ "__name__" := by decide) (hd : (x == ("__debug__" : Str)) = false := by decide) (hs : starEach [a] X.env = (false, eval a X.env) :: starEach [] X.env := by rfl) (hpl : (backTo pos (starEach [] X.env)).any (·.1) = false := by rfl) :
    PE X (.Call (.Name x p) [a] [] pos) (cF X.K w (s1 g fa)) := peI (pe_callB hc hg hm hv (pa_cons ha pa_nil hs) hn hd hs hpl) fun σ H Q h =>
  tB1 h fun F H v dx d ρ fp s z e n => hr F H v dx d Q s.ex z e (fin_new s n).1 (fin_new s n).2
theorem d_t1 {g : D → Option D} (hc : CallR X (.type id) r) (hr : C1 X.K r g) (hg : Gl X x) (hm : X.mg x = none) (hv : bootBuiltins x = some (.type id)) (ha : PE X a (cB X.K w fa)) (hn : x ≠ "__name__" := by decide) (hd : (x == ("__debug__" : Str)) = false := by decide) (hs : starEach [a] X.env = (false, eval a X.env) :: starEach [] X.env := by rfl) (hpl : (backTo pos (starEach [] X.env)).any (·.1) = false := by rfl) :
    PE X (.Call (.Name x p) [a] [] pos) (cF X.K w (s1 g fa)) := peI (pe_callTy hc hg hm hv (pa_cons ha pa_nil hs) hn hd hs hpl) fun σ H Q h =>
  tB1 h fun F H v dx d ρ fp s z e n => hr F H v dx d Q s.ex z e (fin_new s n).1 (fin_new s n).2
theorem d_b1O {g : D → Option D} (hc : CallR X (.builtin id) r) (hr : C1N X.K r g) (hg : Gl X x) (hm : X.mg x = none) (hv : bootBuiltins x = some (.builtin id)) (ha : PE X a (cB X.K w fa)) (hn : x ≠ "__name__" := by decide) (hd : (x == ("__debug__" : Str)) = false := by decide) (hs : starEach [a] X.env = (false, eval a X.env) :: starEach [] X.env := by rfl) (hpl : (backTo pos (starEach [] X.env)).any (·.1) = false := by rfl) :
    PE X (.Call (.Name x p) [a] [] pos) (cO X.K w (s1 g fa)) := peI (pe_callB hc hg hm hv (pa_cons ha pa_nil hs) hn hd hs hpl) fun σ H Q h =>
  tB1 h fun F H v dx d ρ fp s z e n => hr F H v dx d Q s.ex z e (fin_newO s n)
theorem d_t1O {g : D → Option D} (hc : CallR X (.type id) r) (hr : C1N X.K r g) (hg : Gl X x) (hm : X.mg x = none) (hv : bootBuiltins x = some (.type id)) (ha : PE X a (cB X.K w fa)) (hn : x ≠ "__name__" := by decide) (hd : (x == ("__debug__" : Str)) = false := by decide) (hs : starEach [a] X.env = (false, eval a X.env) :: starEach [] X.env := by rfl) (hpl : (backTo pos (starEach [] X.env)).any (·.1) = false := by rfl) :
    PE X (.Call (.Name x p) [a] [] pos) (cO X.K w (s1 g fa)) := peI (pe_callTy hc hg hm hv (pa_cons ha pa_nil hs) hn hd hs hpl) fun σ H Q h =>
  tB1 h fun F H v dx d ρ fp s z e n => hr F H v dx d Q s.ex z e (fin_newO s n)
theorem d_bN {g : List D → Option D} (hc : CallR X (.builtin id) r) (hr : CN X.K r g) (hg : Gl X x) (hm : X.mg x = none) (hv : bootBuiltins x = some (.builtin id)) (ha : PA X (e :: es) (cA X.K w fs)) (hn : x ≠ "__name__" := by decide) (hd : (x == ("__debug__" : Str)) = false := by decide) (hs : starEach (e :: es) X.env = (false, eval e X.env) :: starEach es X.env := by rfl) (hpl : (backTo pos (starEach es X.env)).any (·.1) = false := by rfl) :
    PE X (.Call (.Name x p) (e :: es) [] pos) (cF X.K w (sN g fs)) := peI (pe_callB hc hg hm hv ha hn hd hs hpl) fun σ H Q h => by
  obtain ⟨F, ρ, fp, s, h⟩ := h
  refine ⟨F, ρ, fp, s, h.bnd fun ds ρ1 F1 H1 fp1 t1 h1 => fun vs s1 z => ?_⟩
  obtain ⟨d, e, n⟩ := h1.lift
  exact hr F1 H1 vs ds d Q s1.ex z e (fin_new s1 n).1 (fin_new s1 n).2
end
end Y

set_option Elab.async false
set_option linter.all false
set_option maxRecDepth 100000
set_option maxHeartbeats 2000000
/-! The operations on values. -/
namespace Y
open PySem L2

mutual
def py : D → PyData
  | .non => .none
  | .bl b => .bool b
  | .int i => .int i
  | .str s => .str s
  | .ty _ => .none
  | .nd .tup ds => .tuple (pys ds)
  | .nd .lst ds => .list (pys ds)
  | .nd .scr ds => .list (pys ds)
  | .nd .ktp ds => .tuple (pys ds)
  | .nd _ _ => .none
def pys : List D → List PyData
  | [] => []
  | d :: ds => py d :: pys ds
end
/-- no dict, no class within -/
def strG (s : Str) : Bool := PyData.canLay0 (.str s)
mutual
def okD : D → Bool
  | .str s => strG s
  | .ty _ => false
  | .nd .tup ds => okDs ds
  | .nd .lst ds => okDs ds
  | .nd .scr ds => okDs ds
  | .nd .ktp ds => okDs ds
  | .nd _ _ => false
  | _ => true
def okDs : List D → Bool
  | [] => true
  | d :: ds => okD d && okDs ds
end
def dok (d : D) : Bool := okD d && decide ((py d).depth ≤ 64)
mutual
theorem canLay_ok : ∀ d : D, okD d = true → (py d).canLay0 = true
  | .non, _ => by simp [py, PyData.canLay0]
  | .bl _, _ => by simp [py, PyData.canLay0]
  | .int _, _ => by simp [py, PyData.canLay0]
  | .str s, h => by simpa [py, okD, strG] using h
  | .ty _, h => by simp [okD] at h
  | .nd k ds, h => by
    cases k with
    | tup => simp only [py, PyData.canLay0]; exact canLays_ok ds (by simpa [okD] using h)
    | lst => simp only [py, PyData.canLay0]; exact canLays_ok ds (by simpa [okD] using h)
    | scr => simp only [py, PyData.canLay0]; exact canLays_ok ds (by simpa [okD] using h)
    | ktp => simp only [py, PyData.canLay0]; exact canLays_ok ds (by simpa [okD] using h)
    | dK _ => simp [okD] at h
    | dT _ => simp [okD] at h
theorem canLays_ok : ∀ ds : List D, okDs ds = true → PyData.canLayAll0 (pys ds) = true
  | [], _ => by simp [pys, PyData.canLayAll0]
  | d :: ds, h => by
    have h' : okD d = true ∧ okDs ds = true := by simpa [okDs] using h
    simp [pys, PyData.canLayAll0, canLay_ok d h'.1, canLays_ok ds h'.2]
end
theorem shaped_ok {d : D} (h : dok d = true) : SeqAt.shaped (py d) = true := by
  have h' : okD d = true ∧ (py d).depth ≤ 64 := by simpa [dok] using h
  show ((py d).canLay0 && decide ((py d).depth ≤ 64)) = true
  rw [canLay_ok d h'.1, decide_eq_true h'.2]
  rfl
section
variable {K : PySem.W.Frag} {F H : Hp}
mutual
theorem Fz.dp : ∀ {v : V} {d : D}, Fz K F v d → okD d = true → Dp K F v (py d)
  | _, _, .non, _ => by simpa [py] using Dp.non
  | _, _, .bl b, _ => by simpa [py] using Dp.bl b
  | _, _, .int i, _ => by simpa [py] using Dp.int i
  | _, _, .str s _, _ => by simpa [py] using Dp.str s
  | _, _, .ty _, h => by simp [okD] at h
  | _, _, .nd (k := k) h hs, o => by
    cases k with
    | tup => simp only [py]; exact .tup (SqT.of h.1) (Fzs.dp hs (by simpa [okD] using o))
    | ktp => simp only [py]; exact .tup h.1 (Fzs.dp hs (by simpa [okD] using o))
    | lst => simp only [py]; exact .lst (SqL.of h.1) (Fzs.dp hs (by simpa [okD] using o))
    | scr => simp only [py]; exact .lst h.1 (Fzs.dp hs (by simpa [okD] using o))
    | dK _ => simp [okD] at o
    | dT _ => simp [okD] at o
theorem Fzs.dp : ∀ {vs : List V} {ds : List D}, Fzs K F vs ds → okDs ds = true → DpAll K F vs (pys ds)
  | _, _, .nil, _ => by simpa [pys] using DpAll.nil
  | _, _, .cons h hs, o => by
    have o' := (Bool.and_eq_true _ _).mp (show (okD _ && okDs _) = true by simpa [okDs] using o)
    simp only [pys]
    exact .cons (Fz.dp h o'.1) (Fzs.dp hs o'.2)
end
theorem Bz.dp (ex : Same F H) {v : V} {d : D} (h : Bz K F H v d) (o : okD d = true) : Dp K H v (py d) := by
  cases h with
  | fz h => exact (h.mono ex).dp o
  | cell o' h hs =>
    rename_i a k vs ds
    have hs' := hs.mono ex
    cases k with
    | tup => simp only [py]; exact .tup (SqT.of h.1) (hs'.dp (by simpa [okD] using o))
    | ktp => simp only [py]; exact .tup h.1 (hs'.dp (by simpa [okD] using o))
    | lst => simp only [py]; exact .lst (SqL.of h.1) (hs'.dp (by simpa [okD] using o))
    | scr => simp only [py]; exact .lst h.1 (hs'.dp (by simpa [okD] using o))
    | dK _ => simp [okD] at o
    | dT _ => simp [okD] at o
theorem Fz.int_inv {v : V} {i : Int} (h : Fz K F v (.int i)) : v = .int i := by cases h; rfl
theorem Fz.bl_inv {v : V} {i : Bool} (h : Fz K F v (.bl i)) : v = .bl i := by cases h; rfl
theorem Fz.str_inv {v : V} {i : Str} (h : Fz K F v (.str i)) : v = .str i ∧ i.length ≤ sizeLine := by cases h; exact ⟨rfl, by assumption⟩
theorem Fz.ty_inv {v : V} {i : String} (h : Fz K F v (.ty i)) : v = .ty i := by cases h; rfl
theorem Fz.non_inv {v : V} (h : Fz K F v .non) : v = .non := by cases h; rfl
theorem Bz.int_inv {v : V} {i : Int} (h : Bz K F H v (.int i)) : v = .int i := by cases h with | fz h => exact h.int_inv
theorem Bz.bl_inv {v : V} {i : Bool} (h : Bz K F H v (.bl i)) : v = .bl i := by cases h with | fz h => exact h.bl_inv
theorem Bz.str_inv {v : V} {i : Str} (h : Bz K F H v (.str i)) : v = .str i ∧ i.length ≤ sizeLine := by cases h with | fz h => exact h.str_inv
theorem Bz.ty_inv {v : V} {i : String} (h : Bz K F H v (.ty i)) : v = .ty i := by cases h with | fz h => exact h.ty_inv
theorem Bz.non_inv {v : V} (h : Bz K F H v .non) : v = .non := by cases h with | fz h => exact h.non_inv
theorem Fz.node (h : Fz K F v (.nd k ds)) : ∃ a vs, v = .ref a ∧ ItemAt K F a k vs ∧ Fzs K F vs ds := by
  cases h with | nd h hs => exact ⟨_, _, rfl, h, hs⟩
end

/-! ### arithmetic -/
def dAdd : D → D → Option D
  | .int a, .int b => some (.int (a + b))
  | .str a, .str b => if a.length + b.length ≤ sizeLine then some (.str (a ++ b)) else none
  | .nd .tup a, .nd .tup b => if a.length + b.length ≤ sizeLine then some (.nd .tup (a ++ b)) else none
  | _, _ => none
def dCat : D → D → Option D
  | .nd .lst a, .nd .lst b => if a.length + b.length ≤ sizeLine then some (.nd .lst (a ++ b)) else none
  | _, _ => none
def dSub : D → D → Option D
  | .int a, .int b => some (.int (a - b))
  | _, _ => none
def dMul : D → D → Option D
  | .int a, .int b => if (-(2 ^ 64) < a ∧ a < 2 ^ 64) ∨ (-(2 ^ 64) < b ∧ b < 2 ^ 64) then some (.int (a * b)) else none
  | _, _ => none
def dDiv : D → D → Option D
  | .int a, .int b => if 0 < b ∧ b < 1073741824 then some (.int (a / b)) else none
  | _, _ => none
def dMod : D → D → Option D
  | .int a, .int b => if 0 < b then some (.int (a % b)) else none
  | _, _ => none
def dPow : D → D → Option D
  | .int a, .int b => if 0 ≤ b ∧ b ≤ 1000000 ∧ a.natAbs < 2 ^ 64 then some (.int (a ^ b.toNat)) else none
  | _, _ => none
def rPlus (K : PySem.W.Frag) : R2 := fun x y H Q => (rI0 fun i j => .int (i + j)) x y H Q ∨ ((∃ i j, x = .str i ∧ y = .str j ∧ i.length + j.length ≤ sizeLine ∧ Q (.str (i ++ j)) H) ∨ rCatA K x y H Q)
section
variable {X : Cx} {K : PySem.W.Frag}
theorem op_plus : OpR X (binaryOp .Add) (rPlus X.K) := op_add.or (op_add_str.or op_catA)
theorem rb_plus : RB K (rPlus K) dAdd := by
  intro F H x y dx dy d Q ex zx zy e old new
  unfold dAdd at e
  split at e
  · cases e
    rw [zx.int_inv, zy.int_inv]
    exact .inl ⟨_, _, rfl, rfl, old _ (.int _)⟩
  · split at e
    · rename_i c
      cases e
      obtain ⟨rfl, _⟩ := zx.str_inv
      obtain ⟨rfl, _⟩ := zy.str_inv
      exact .inr (.inl ⟨_, _, rfl, rfl, c, old _ (.str _ (by rw [PySem.Str.length_append]; exact c))⟩)
    · cases e
  · split at e
    · rename_i xs ys c
      cases e
      obtain ⟨a, vs, rfl, ha, hs⟩ := zx.node
      obtain ⟨b, ws, rfl, hb, gs⟩ := zy.node ex
      have lv := hs.length
      have lw := gs.length
      have c' : vs.length + ws.length ≤ sizeLine := by omega
      refine .inr (.inr ⟨a, b, vs, ws, rfl, rfl, SqT.of (ex _ _ ha.1), SqT.of hb.1, c', fun hx => ?_, fun hx hy => ?_, fun hx hy p hp => ?_⟩)
      · subst hx
        cases hs
        rw [List.nil_append] at old
        cases zy with
        | fz zy => exact old _ zy
        | cell o h g => cases o
      · subst hy
        cases gs
        rw [List.append_nil] at old
        exact old _ zx
      · exact new p .tup (vs ++ ws) (xs ++ ys) _ rfl hp (if_pos (by rw [List.length_append]; exact c')) (hs.append gs)
    · cases e
  · cases e
end

/-! ### more arithmetic -/
section
variable {X : Cx} {K : PySem.W.Frag}
theorem rn_cat : RN K rCat dCat := by
  intro F H x y dx dy d Q ex zx zy e new
  unfold dCat at e
  split at e
  · split at e
    · rename_i xs ys c
      cases e
      obtain ⟨a, vs, rfl, ha, hs⟩ := zx.node
      obtain ⟨b, ws, rfl, hb, gs⟩ := zy.node ex
      have lv := hs.length
      have lw := gs.length
      have c' : vs.length + ws.length ≤ sizeLine := by omega
      exact ⟨a, b, vs, ws, rfl, rfl, ex _ _ ha.1, hb.1, c', fun p hp => new p .lst (vs ++ ws) (xs ++ ys) _ rfl rfl hp (if_pos (by rw [List.length_append]; exact c')) (hs.append gs)⟩
    · cases e
  · cases e
theorem rb_sub : RB K (rI0 fun i j => .int (i - j)) dSub := by
  intro F H x y dx dy d Q ex zx zy e old new
  unfold dSub at e
  split at e
  · cases e
    rw [zx.int_inv, zy.int_inv]
    exact ⟨_, _, rfl, rfl, old _ (.int _)⟩
  · cases e
theorem rb_mul : RB K (rI CMul fun i j => .int (i * j)) dMul := by
  intro F H x y dx dy d Q ex zx zy e old new
  unfold dMul at e
  split at e
  · split at e
    · rename_i c
      cases e
      rw [zx.int_inv, zy.int_inv]
      exact ⟨_, _, rfl, rfl, c, old _ (.int _)⟩
    · cases e
  · cases e
theorem rb_div : RB K (rI CDiv fun i j => .int (i / j)) dDiv := by
  intro F H x y dx dy d Q ex zx zy e old new
  unfold dDiv at e
  split at e
  · split at e
    · rename_i c
      cases e
      rw [zx.int_inv, zy.int_inv]
      exact ⟨_, _, rfl, rfl, c, old _ (.int _)⟩
    · cases e
  · cases e
theorem rb_mod : RB K (rI (fun _ j => 0 < j) fun i j => .int (i % j)) dMod := by
  intro F H x y dx dy d Q ex zx zy e old new
  unfold dMod at e
  split at e
  · split at e
    · rename_i c
      cases e
      rw [zx.int_inv, zy.int_inv]
      exact ⟨_, _, rfl, rfl, c, old _ (.int _)⟩
    · cases e
  · cases e
theorem rb_pow : RB K (rI CPow fun i j => .int (i ^ j.toNat)) dPow := by
  intro F H x y dx dy d Q ex zx zy e old new
  unfold dPow at e
  split at e
  · split at e
    · rename_i c
      cases e
      rw [zx.int_inv, zy.int_inv]
      exact ⟨_, _, rfl, rfl, c, old _ (.int _)⟩
    · cases e
  · cases e
def dNeg : D → Option D
  | .int a => some (.int (-a))
  | _ => none
theorem d_neg {w : Wd} {a : Expr} {fa : En → R D} {pos : Pos} (ha : PE X a (cF X.K w fa)) : PE X (.UnaryOp .USub a pos) (cF X.K w (s1 dNeg fa)) :=
  peI (pe_un un_neg ha) fun σ H Q h => by
    obtain ⟨F, ρ, fp, s, h⟩ := h
    refine ⟨F, ρ, fp, s, h.bnd fun d ρ1 F1 H1 fp1 t1 h1 => fun v s1 z => ?_⟩
    obtain ⟨d', e, n⟩ := h1.lift
    unfold dNeg at e
    split at e
    · cases e
      rw [z.int_inv]
      exact ⟨_, rfl, n F1 H1 fp1 .refl _ s1 (.int _)⟩
    · cases e

/-! ### comparisons -/
def dEq (x y : D) : Option Bool := if dok x = true ∧ dok y = true then some (PyData.eqv (py x) (py y)) else none
def dNe (x y : D) : Option Bool := if dok x = true ∧ dok y = true then some (!PyData.eqv (py x) (py y)) else none
theorem okD_of {d : D} (h : dok d = true) : okD d = true := ((Bool.and_eq_true _ _).mp h).1
theorem rt_eq : RT K (rEqD K) dEq := by
  intro F H x y dx dy b Q ex zx zy e q
  unfold dEq at e
  split at e
  · rename_i c
    cases e
    exact ⟨_, _, (zx.mono ex).dp (okD_of c.1), zy.dp ex (okD_of c.2), shaped_ok c.1, shaped_ok c.2, q⟩
  · cases e
theorem rt_ne : RT K (rNeD K) dNe := by
  intro F H x y dx dy b Q ex zx zy e q
  unfold dNe at e
  split at e
  · rename_i c
    cases e
    exact ⟨_, _, (zx.mono ex).dp (okD_of c.1), zy.dp ex (okD_of c.2), shaped_ok c.1, shaped_ok c.2, q⟩
  · cases e
def cmpI (p : Int → Int → Bool) : D → D → Option Bool
  | .int a, .int b => some (p a b)
  | _, _ => none
theorem rt_int {p : Int → Int → Bool} : RT K (rI0 fun i j => .bl (p i j)) (cmpI p) := by
  intro F H x y dx dy b Q ex zx zy e q
  unfold cmpI at e
  split at e
  · cases e
    rw [zx.int_inv, zy.int_inv]
    exact ⟨_, _, rfl, rfl, q⟩
  · cases e
abbrev dLe := cmpI fun i j => decide (i ≤ j)
abbrev dGt := cmpI fun i j => decide (j < i)
abbrev dGe := cmpI fun i j => decide (j ≤ i)
theorem rt_le : RT K (rI0 fun i j => .bl (decide (i ≤ j))) dLe := rt_int
theorem rt_gt : RT K (rI0 fun i j => .bl (decide (j < i))) dGt := rt_int
theorem rt_ge : RT K (rI0 fun i j => .bl (decide (j ≤ i))) dGe := rt_int
/-- is: None, truths -/
def dIs : D → D → Option Bool
  | .non, .non => some true
  | _, .non => some false
  | .bl a, .bl b => some (decide (a = b))
  | _, _ => none
def rIs : R2 := fun x y H Q => (y = .non ∧ Q (.bl (decide (x = .non))) H) ∨ rIsB x y H Q
def rIsNot : R2 := fun x y H Q => (y = .non ∧ Q (.bl (!decide (x = .non))) H) ∨ rNotB x y H Q
theorem op_is : OpR X (compareOp .Is) rIs := op_isN.or op_isBl
theorem op_isnot : OpR X (compareOp .IsNot) rIsNot := op_notN.or op_notBl
theorem Fz.non_iff {F : Hp} {v : V} {d : D} (z : Fz K F v d) (h : d ≠ .non) : v ≠ .non := by
  intro e
  subst e
  cases z
  exact h rfl
theorem rt_is : RT K rIs dIs := by
  intro F H x y dx dy b Q ex zx zy e q
  unfold dIs at e
  split at e
  · cases e
    rw [zx.non_inv]
    exact .inl ⟨zy.non_inv, q⟩
  · rename_i h
    cases e
    refine .inl ⟨zy.non_inv, ?_⟩
    rw [decide_eq_false (zx.non_iff (by intro e; exact h (by rw [e])))]
    exact q
  · cases e
    rw [zx.bl_inv, zy.bl_inv]
    exact .inr ⟨_, _, rfl, rfl, q⟩
  · cases e
def dIsNot (x y : D) : Option Bool := (dIs x y).map not
theorem rt_isnot : RT K rIsNot dIsNot := by
  intro F H x y dx dy b Q ex zx zy e q
  unfold dIsNot at e
  obtain ⟨c, e, e2⟩ := Option.map_eq_some_iff.mp e
  unfold dIs at e
  split at e
  · cases Option.some.inj e; cases e2
    rw [zx.non_inv]
    exact .inl ⟨zy.non_inv, q⟩
  · rename_i h _
    cases Option.some.inj e; cases e2
    refine .inl ⟨zy.non_inv, ?_⟩
    rw [decide_eq_false (zx.non_iff (by intro e; exact h (by rw [e])))]
    exact q
  · rw [zx.bl_inv, zy.bl_inv]
    refine .inr ⟨_, _, rfl, rfl, ?_⟩
    rw [Option.some.inj e, e2]
    exact q
  · cases e
/-- < of ints, texts, alike tuples -/
def dLt : D → D → Option Bool
  | .int a, .int b => some (decide (a < b))
  | .str a, .str b => some (decide (a.cps.toList < b.cps.toList))
  | .nd .tup a, .nd .tup b => if dok (.nd .tup a) = true ∧ dok (.nd .tup b) = true ∧ PySem.W.alike (py (.nd .tup a)) (py (.nd .tup b)) = true then some (PySem.W.dataLt (py (.nd .tup a)) (py (.nd .tup b))) else none
  | _, _ => none
def rLtD (K : PySem.W.Frag) : R2 := fun x y H Q => ∃ d e, Dp K H x d ∧ Dp K H y e ∧ SeqAt.shaped d = true ∧ SeqAt.shaped e = true ∧ PySem.W.alike d e = true ∧ d ≠ .none ∧ Q (.bl (PySem.W.dataLt d e)) H
theorem op_ltD (hu : X.A.units + 64 < cLine) : OpR X (compareOp .Lt) (rLtD X.K) := by
  intro pins s σ H x y v u Q I rx ry h
  obtain ⟨d, e, hd, he, sd, se, al, nn, q⟩ := h
  obtain ⟨as, r1⟩ := Dp.reads I d x v hd rx
  obtain ⟨bs, r2⟩ := Dp.reads I e y u he ry
  have h1 := SeqAt.depth_of_shaped sd
  exact PySem.W.rcLt_alike d e X.A s v u as bs r1 r2 al nn (by omega) _ _ _ _ ⟨.bl _, H, I, rfl, q⟩
def rLt (K : PySem.W.Frag) : R2 := fun x y H Q => (rI0 fun i j => .bl (decide (i < j))) x y H Q ∨ ((∃ i j, x = .str i ∧ y = .str j ∧ Q (.bl (decide (i.cps.toList < j.cps.toList))) H) ∨ rLtD K x y H Q)
theorem op_lt' (hu : X.A.units + 64 < cLine) : OpR X (compareOp .Lt) (rLt X.K) := op_lt.or (op_lt_str.or (op_ltD hu))
theorem rt_lt : RT K (rLt K) dLt := by
  intro F H x y dx dy b Q ex zx zy e q
  unfold dLt at e
  split at e
  · cases e
    rw [zx.int_inv, zy.int_inv]
    exact .inl ⟨_, _, rfl, rfl, q⟩
  · cases e
    rw [zx.str_inv.1, zy.str_inv.1]
    exact .inr (.inl ⟨_, _, rfl, rfl, q⟩)
  · split at e
    · rename_i c
      cases e
      exact .inr (.inr ⟨_, _, (zx.mono ex).dp (okD_of c.1), zy.dp ex (okD_of c.2.1), shaped_ok c.1, shaped_ok c.2.1, c.2.2, by simp [py], q⟩)
    · cases e
  · cases e
end
end Y

set_option Elab.async false
set_option linter.all false
set_option maxRecDepth 100000
set_option maxHeartbeats 2000000
/-! Dicts by keys; in; built-ins of one value; subscripts. -/
namespace Y
open PySem L2

/-! ### what stands under a key -/
section
variable {κ : Type} [DecidableEq κ]
def getK (ks : List κ) (ds : List D) (k : κ) : Option D := ((ks.zip ds).find? fun p => decide (p.1 = k)).map (·.2)
def putKs (ks : List κ) (k : κ) : List κ := if k ∈ ks then ks else ks ++ [k]
def putDs (ks : List κ) (ds : List D) (k : κ) (d : D) : List D := if k ∈ ks then List.zipWith (fun k' d' => if k' = k then d else d') ks ds else ds ++ [d]
def RelK (K : PySem.W.Frag) (F : Hp) (o : Option D) (r : Option V) : Prop := match o, r with
  | some d, some v => Fz K F v d
  | none, none => True
  | _, _ => False
theorem getK_rel {K : PySem.W.Frag} {F : Hp} : ∀ {vs : List V} {ds : List D} {ks : List κ} {k : κ}, Fzs K F vs ds → RelK K F (getK ks ds k) (valV (ks.zip vs) k)
  | _, _, [], k, _ => by simp [getK, valV, RelK]
  | _, _, k' :: ks, k, .nil => by simp [getK, valV, RelK]
  | v :: vs, d :: ds, k' :: ks, k, .cons h hs => by
    have ih := getK_rel (ks := ks) (k := k) hs
    by_cases e : k' = k
    · have e1 : getK (k' :: ks) (d :: ds) k = some d := by simp [getK, List.find?_cons, e]
      have e2 : valV ((k' :: ks).zip (v :: vs)) k = some v := by simp [valV, List.find?_cons, e]
      rw [e1, e2]
      exact h
    · have e1 : getK (k' :: ks) (d :: ds) k = getK ks ds k := by simp [getK, List.find?_cons, e]
      have e2 : valV ((k' :: ks).zip (v :: vs)) k = valV (ks.zip vs) k := by simp [valV, List.find?_cons, e]
      rw [e1, e2]
      exact ih
theorem mem_zip_keys : ∀ {ks : List κ} {vs : List V} {k : κ}, ks.length = vs.length → ((ks.zip vs).any fun kv => decide (kv.1 = k)) = decide (k ∈ ks)
  | [], _, k, _ => by simp
  | k' :: ks, [], k, h => by simp at h
  | k' :: ks, v :: vs, k, h => by
    have ih := mem_zip_keys (ks := ks) (vs := vs) (k := k) (by simpa using h)
    rw [List.zip_cons_cons, List.any_cons, ih]
    by_cases e : k' = k
    · simp [e]
    · have e' : ¬ k = k' := fun z => e z.symm
      simp [e, e', List.mem_cons]
theorem zip_map_put : ∀ (ks : List κ) (vs : List V) (k : κ) (v : V), ((ks.zip vs).map fun kv => if kv.1 = k then (kv.1, v) else kv) = ks.zip (List.zipWith (fun k' v' => if k' = k then v else v') ks vs)
  | [], _, _, _ => by simp
  | _ :: _, [], _, _ => by simp
  | k' :: ks, v' :: vs, k, v => by
    simp only [List.zip_cons_cons, List.map_cons, List.zipWith_cons_cons, zip_map_put ks vs k v]
    by_cases e : k' = k <;> simp [e]
theorem fzs_put {K : PySem.W.Frag} {F : Hp} {v : V} {d : D} {k : κ} (h : Fz K F v d) : ∀ {ks : List κ} {vs : List V} {ds : List D}, Fzs K F vs ds → Fzs K F (List.zipWith (fun k' v' => if k' = k then v else v') ks vs) (List.zipWith (fun k' d' => if k' = k then d else d') ks ds)
  | [], _, _, _ => by simpa using Fzs.nil
  | _ :: _, _, _, .nil => by simpa using Fzs.nil
  | k' :: ks, _, _, .cons g gs => by
    simp only [List.zipWith_cons_cons]
    refine .cons ?_ (fzs_put h gs)
    split
    · exact h
    · exact g
def putVs (ks : List κ) (vs : List V) (k : κ) (v : V) : List V := if k ∈ ks then List.zipWith (fun k' v' => if k' = k then v else v') ks vs else vs ++ [v]
theorem putK_zip {ks : List κ} {vs : List V} {k : κ} {v : V} (hl : ks.length = vs.length) : putK (ks.zip vs) k v = (putKs ks k).zip (putVs ks vs k v) := by
  unfold putK putKs putVs
  rw [mem_zip_keys hl]
  by_cases e : k ∈ ks
  · simp only [e, decide_true, if_true]
    exact zip_map_put ks vs k v
  · simp only [e, decide_false, if_false, Bool.false_eq_true]
    rw [List.zip_append hl]
    rfl
theorem putKs_len {ks : List κ} {vs : List V} {k : κ} {v : V} (hl : ks.length = vs.length) : (putKs ks k).length = (putVs ks vs k v).length := by
  unfold putKs putVs
  split
  · simp [hl]
  · simp [hl]
theorem putVs_le {ks : List κ} {vs : List V} {k : κ} {v : V} : (putVs ks vs k v).length ≤ vs.length + 1 := by
  unfold putVs
  split
  · simp; omega
  · simp
theorem fzs_putVs {K : PySem.W.Frag} {F : Hp} {v : V} {d : D} {k : κ} (h : Fz K F v d) {ks : List κ} {vs : List V} {ds : List D} (hs : Fzs K F vs ds) : Fzs K F (putVs ks vs k v) (putDs ks ds k d) := by
  unfold putVs putDs
  split
  · exact fzs_put h hs
  · exact hs.append (.cons h .nil)
end

def keyD : D → Option Key
  | .int i => some (.inl i)
  | .str s => some (.inr s)
  | _ => none
def keysD : List D → Option (List Key)
  | [] => some []
  | d :: ds => match keyD d, keysD ds with
    | some k, some ks => some (k :: ks)
    | _, _ => none
theorem keyD_rel {K : PySem.W.Frag} {F : Hp} {v : V} {d : D} {k : Key} (h : Fz K F v d) (e : keyD d = some k) : v = kV k := by
  unfold keyD at e
  split at e
  · cases e; exact h.int_inv
  · cases e; exact h.str_inv.1
  · cases e
theorem keysD_rel {K : PySem.W.Frag} {F : Hp} : ∀ {vs : List V} {ds : List D} {ks : List Key}, Fzs K F vs ds → keysD ds = some ks → vs = ks.map kV
  | _, _, ks, .nil, e => by simp [keysD] at e; subst e; rfl
  | _, _, ks, .cons (d := d) (ds := ds) h hs, e => by
    unfold keysD at e
    split at e
    · rename_i k ks' e1 e2
      cases e
      rw [keyD_rel h e1, keysD_rel hs e2]
      rfl
    · cases e
/-- look-up in a dict's value: some none: not there -/
def lookD : D → D → Option (Option D)
  | .nd (.dK ks) ds, k => (keyD k).map fun q => getK ks ds q
  | .nd (.dT ks) ds, .nd .tup xs => (keysD xs).map fun q => getK ks ds q
  | _, _ => none
theorem lookD_rel {K : PySem.W.Frag} {F H : Hp} {v y : V} {d dy : D} {o : Option D} (ex : Same F H) (h : Bz K F H v d) (hy : Fz K F y dy) (e : lookD d dy = some o) :
    ∃ a r, v = .ref a ∧ DGet H a y r ∧ RelK K F o r := by
  cases d with
  | nd k ds =>
    cases k with
    | dK ks =>
      simp only [lookD] at e
      obtain ⟨q, e1, rfl⟩ := Option.map_eq_some_iff.mp e
      obtain ⟨a, vs, rfl, hi, hs⟩ := h.node ex
      exact ⟨a, valV (ks.zip vs) q, rfl, .inl ⟨_, q, hi.2.1, keyD_rel hy e1, rfl⟩, getK_rel hs⟩
    | dT ks =>
      cases dy with
      | nd k2 xs =>
        cases k2 with
        | tup =>
          simp only [lookD] at e
          obtain ⟨q, e1, rfl⟩ := Option.map_eq_some_iff.mp e
          obtain ⟨a, vs, rfl, hi, hs⟩ := h.node ex
          obtain ⟨b, ws, rfl, hb, gs⟩ := hy.node
          refine ⟨a, valV (ks.zip vs) q, rfl, .inr ⟨_, q, b, hi.2.1, rfl, ?_, rfl⟩, getK_rel hs⟩
          rw [← keysD_rel gs e1]
          exact ex _ _ hb.1
        | _ => simp [lookD] at e
      | _ => simp [lookD] at e
    | _ => simp [lookD] at e
  | _ => simp [lookD] at e
end Y

set_option Elab.async false
set_option linter.all false
set_option maxRecDepth 100000
set_option maxHeartbeats 2000000
/-! in, built-ins of one value, subscripts, slices. -/
namespace Y
open PySem L2
section
variable {X : Cx} {K : PySem.W.Frag}
/-! ### in -/
def dIn : D → D → Option Bool
  | .str a, .str b => match a.cps.toList with
    | [c] => some (decide (c ∈ b.cps.toList))
    | _ => none
  | x, .nd .lst ds => if dok x = true ∧ dok (.nd .lst ds) = true then some (ds.any fun z => PyData.eqv (py z) (py x)) else none
  | x, .nd .tup ds => if dok x = true ∧ dok (.nd .tup ds) = true then some (ds.any fun z => PyData.eqv (py z) (py x)) else none
  | x, .nd .ktp ds => if dok x = true ∧ dok (.nd .ktp ds) = true then some (ds.any fun z => PyData.eqv (py z) (py x)) else none
  | x, .nd (.dK ks) ds => (lookD (.nd (.dK ks) ds) x).map (·.isSome)
  | x, .nd (.dT ks) ds => (lookD (.nd (.dT ks) ds) x).map (·.isSome)
  | _, _ => none
def rInU (K : PySem.W.Frag) (neg : Bool) : R2 := fun x y H Q => ∃ d ds, Dp K H x d ∧ Dp K H y (.tuple ds) ∧ SeqAt.shaped d = true ∧ SeqAt.shaped (.tuple ds) = true ∧ Q (.bl (if neg then !(ds.any fun z => PyData.eqv z d) else (ds.any fun z => PyData.eqv z d))) H
theorem shaped_lay {ds : List PyData} (h : SeqAt.shaped (.tuple ds) = true) : PyData.canLayAll0 ds = true := by
  have := SeqAt.canLay_of_shaped h
  simpa [PyData.canLay0] using this
theorem op_inU (hu : X.A.units + 65 < cLine) : OpR X (compareOp .In) (rInU X.K false) := by
  intro pins s σ H x y v u Q I rx ry h
  obtain ⟨d, ds, hd, he, sd, se, q⟩ := h
  obtain ⟨as, r1⟩ := Dp.reads I d x v hd rx
  obtain ⟨bs, r2⟩ := Dp.reads I (.tuple ds) y u he ry
  exact SeqAt.in_tuple_reads r2 r1 (shaped_lay se) (SeqAt.canLay_of_shaped sd) (PyProof.Rows.room_in_shaped sd hu) ⟨.bl _, H, I, rfl, q⟩
theorem op_notInU (hu : X.A.units + 65 < cLine) : OpR X (compareOp .NotIn) (rInU X.K true) := by
  intro pins s σ H x y v u Q I rx ry h
  obtain ⟨d, ds, hd, he, sd, se, q⟩ := h
  obtain ⟨as, r1⟩ := Dp.reads I d x v hd rx
  obtain ⟨bs, r2⟩ := Dp.reads I (.tuple ds) y u he ry
  exact SeqAt.notIn_tuple_reads r2 r1 (shaped_lay se) (SeqAt.canLay_of_shaped sd) (PyProof.Rows.room_in_shaped sd hu) ⟨.bl _, H, I, rfl, q⟩
def rInDct (neg : Bool) : R2 := fun x y H Q => ∃ a o, y = .ref a ∧ DGet H a x o ∧ Q (.bl (if neg then !o.isSome else o.isSome)) H
theorem op_inDct (hu : X.A.units + 1 < cLine) : OpR X (compareOp .In) (rInDct false) := by
  intro pins s σ H x y v u Q I rx ry h
  obtain ⟨a, o, rfl, g, q⟩ := h
  cases ry
  exact d_in hu I g rx fun s' I' => ⟨.bl _, H, I', rfl, q⟩
theorem op_notInDct (hu : X.A.units + 1 < cLine) : OpR X (compareOp .NotIn) (rInDct true) := by
  intro pins s σ H x y v u Q I rx ry h
  obtain ⟨a, o, rfl, g, q⟩ := h
  cases ry
  exact d_notIn hu I g rx fun s' I' => ⟨.bl _, H, I', rfl, q⟩
def rInA (K : PySem.W.Frag) : R2 := fun x y H Q => (∃ (c : Nat) (z : Str), x = .str ⟨#[c]⟩ ∧ y = .str z ∧ Q (.bl (decide (c ∈ z.cps.toList))) H) ∨ (rInD K x y H Q ∨ (rInU K false x y H Q ∨ rInDct false x y H Q))
def rNotInA (K : PySem.W.Frag) : R2 := fun x y H Q => (∃ (c : Nat) (z : Str), x = .str ⟨#[c]⟩ ∧ y = .str z ∧ Q (.bl (!decide (c ∈ z.cps.toList))) H) ∨ (rNotInD K x y H Q ∨ (rInU K true x y H Q ∨ rInDct true x y H Q))
theorem op_in' (hu : X.A.units + 65 < cLine) : OpR X (compareOp .In) (rInA X.K) := op_in_sign.or ((op_inD hu).or ((op_inU hu).or (op_inDct (by omega))))
theorem op_notin' (hu : X.A.units + 65 < cLine) : OpR X (compareOp .NotIn) (rNotInA X.K) := op_notIn_sign.or ((op_notInD hu).or ((op_notInU hu).or (op_notInDct (by omega))))
theorem pys_any (ds : List D) (f : PyData → Bool) : (pys ds).any f = ds.any fun z => f (py z) := by
  induction ds with
  | nil => rfl
  | cons d ds ih => simp [pys, ih]
theorem RelK.isSome {F : Hp} {o : Option D} {r : Option V} (h : RelK K F o r) : r.isSome = o.isSome := by
  cases o <;> cases r <;> first | rfl | exact h.elim
theorem dp_nd {F H : Hp} {y : V} {k : Kd} {ds : List D} (ex : Same F H) (zy : Bz K F H y (.nd k ds)) (c : dok (.nd k ds) = true) : Dp K H y (py (.nd k ds)) := zy.dp ex (okD_of c)
theorem one_sign {a : Str} {c : Nat} (h : a.cps.toList = [c]) : a = ⟨#[c]⟩ := by
  cases a with
  | mk cps => exact congrArg Str.mk (by rw [← Array.toArray_toList (xs := cps), h])
theorem in_cases {x d : D} {b : Bool} (e : dIn x d = some b) :
    (∃ c z, x = .str ⟨#[c]⟩ ∧ d = .str z ∧ b = decide (c ∈ z.cps.toList)) ∨ (∃ ds, d = .nd .lst ds ∧ dok x = true ∧ dok (.nd .lst ds) = true ∧ b = ds.any fun z => PyData.eqv (py z) (py x)) ∨
    (∃ k ds, (k = .tup ∨ k = .ktp) ∧ d = .nd k ds ∧ dok x = true ∧ dok (.nd k ds) = true ∧ b = ds.any fun z => PyData.eqv (py z) (py x)) ∨ ∃ o, lookD d x = some o ∧ b = o.isSome := by
  cases d with
  | str z =>
    cases x with
    | str a =>
      simp only [dIn] at e
      split at e
      · rename_i c hc
        cases e
        exact .inl ⟨c, z, by rw [one_sign hc], rfl, rfl⟩
      · cases e
    | _ => simp [dIn] at e
  | nd k ds =>
    cases k with
    | lst =>
      simp only [dIn] at e
      split at e
      · rename_i c
        exact .inr (.inl ⟨ds, rfl, c.1, c.2, (Option.some.inj e).symm⟩)
      · cases e
    | tup =>
      simp only [dIn] at e
      split at e
      · rename_i c
        exact .inr (.inr (.inl ⟨_, ds, .inl rfl, rfl, c.1, c.2, (Option.some.inj e).symm⟩))
      · cases e
    | ktp =>
      simp only [dIn] at e
      split at e
      · rename_i c
        exact .inr (.inr (.inl ⟨_, ds, .inr rfl, rfl, c.1, c.2, (Option.some.inj e).symm⟩))
      · cases e
    | dK ks =>
      simp only [dIn] at e
      obtain ⟨o, e1, e2⟩ := Option.map_eq_some_iff.mp e
      exact .inr (.inr (.inr ⟨o, e1, e2.symm⟩))
    | dT ks =>
      simp only [dIn] at e
      obtain ⟨o, e1, e2⟩ := Option.map_eq_some_iff.mp e
      exact .inr (.inr (.inr ⟨o, e1, e2.symm⟩))
    | scr => simp [dIn] at e
  | _ => simp [dIn] at e
theorem rt_in : RT K (rInA K) dIn := by
  intro F H x y dx dy b Q ex zx zy e q
  rcases in_cases e with ⟨c, z, rfl, rfl, rfl⟩ | ⟨ds, rfl, c1, c2, rfl⟩ | ⟨k, ds, hk, rfl, c1, c2, rfl⟩ | ⟨o, e1, rfl⟩
  · exact .inl ⟨c, z, zx.str_inv.1, zy.str_inv.1, q⟩
  · refine .inr (.inl ⟨_, pys ds, (zx.mono ex).dp (okD_of c1), by simpa [py] using dp_nd ex zy c2, shaped_ok c1, by simpa [py] using shaped_ok c2, ?_⟩)
    rw [pys_any]
    exact q
  · have h1 : py (.nd k ds) = .tuple (pys ds) := by rcases hk with rfl | rfl <;> simp [py]
    have h2 := dp_nd ex zy c2
    have h3 := shaped_ok c2
    rw [h1] at h2 h3
    refine .inr (.inr (.inl ⟨_, pys ds, (zx.mono ex).dp (okD_of c1), h2, shaped_ok c1, h3, ?_⟩))
    rw [if_neg Bool.false_ne_true, pys_any]
    exact q
  · obtain ⟨a, r, rfl, g, rel⟩ := lookD_rel ex zy zx e1
    refine .inr (.inr (.inr ⟨a, r, rfl, g, ?_⟩))
    rw [if_neg Bool.false_ne_true, rel.isSome]
    exact q
def dNotIn (x y : D) : Option Bool := (dIn x y).map not
theorem rt_notin : RT K (rNotInA K) dNotIn := by
  intro F H x y dx dy b' Q ex zx zy e q
  unfold dNotIn at e
  obtain ⟨b, e0, e2⟩ := Option.map_eq_some_iff.mp e
  subst e2
  rcases in_cases e0 with ⟨c, z, rfl, rfl, rfl⟩ | ⟨ds, rfl, c1, c2, rfl⟩ | ⟨k, ds, hk, rfl, c1, c2, rfl⟩ | ⟨o, e1, rfl⟩
  · exact .inl ⟨c, z, zx.str_inv.1, zy.str_inv.1, q⟩
  · refine .inr (.inl ⟨_, pys ds, (zx.mono ex).dp (okD_of c1), by simpa [py] using dp_nd ex zy c2, shaped_ok c1, by simpa [py] using shaped_ok c2, ?_⟩)
    rw [pys_any]
    exact q
  · have h1 : py (.nd k ds) = .tuple (pys ds) := by rcases hk with rfl | rfl <;> simp [py]
    have h2 := dp_nd ex zy c2
    have h3 := shaped_ok c2
    rw [h1] at h2 h3
    refine .inr (.inr (.inl ⟨_, pys ds, (zx.mono ex).dp (okD_of c1), h2, shaped_ok c1, h3, ?_⟩))
    rw [if_pos rfl, pys_any]
    exact q
  · obtain ⟨a, r, rfl, g, rel⟩ := lookD_rel ex zy zx e1
    refine .inr (.inr (.inr ⟨a, r, rfl, g, ?_⟩))
    rw [if_pos rfl, rel.isSome]
    exact q

/-! ### len -/
def dLen : D → Option D
  | .str s => some (.int s.length)
  | .nd _ ds => some (.int ds.length)
  | _ => none
def rLen (K : PySem.W.Frag) : List V → Hp → VK → Prop := fun xs H Q => (∃ x n, xs = [x] ∧ LenV K x H n ∧ Q (.int n) H) ∨ ∃ a kvs, xs = [V.ref a] ∧ Rd H a (.dK kvs) ∧ Q (.int kvs.length) H
theorem call_lenR : CallR X (.builtin "len") (fun xs H Q => ∃ a kvs, xs = [V.ref a] ∧ Rd H a (.dK kvs) ∧ Q (.int kvs.length) H) := by
  intro pins s σ H xs us Q I r h
  obtain ⟨a, kvs, rfl, ha, q⟩ := h
  obtain ⟨u, rfl, ru⟩ := vals1 r
  cases ru
  exact d_len I ha fun t s' I' => ⟨.int kvs.length, H, I', ⟨t, rfl⟩, q⟩
theorem cr_len : CallR X (.builtin "len") (rLen X.K) := call_len.or call_lenR
def dLen' : D → Option D
  | .nd (.dT _) _ => none
  | d => dLen d
theorem c1_len : C1 K (rLen K) dLen' := by
  intro F H x dx d Q ex z e old new
  cases dx with
  | str s =>
    simp only [dLen', dLen] at e
    cases e
    obtain ⟨rfl, hl⟩ := z.str_inv
    exact .inl ⟨_, s.length, rfl, ⟨hl, rfl⟩, old _ (.int _)⟩
  | nd k ds =>
    obtain ⟨a, vs, rfl, hi, hs⟩ := z.node ex
    have hl := hs.length
    cases k <;> simp only [dLen', dLen, Option.some.injEq] at e
    case lst => subst e; exact .inl ⟨_, vs.length, rfl, .inl ⟨vs, SqL.of hi.1, rfl⟩, by rw [hl]; exact old _ (.int _)⟩
    case scr => subst e; exact .inl ⟨_, vs.length, rfl, .inl ⟨vs, hi.1, rfl⟩, by rw [hl]; exact old _ (.int _)⟩
    case tup => subst e; exact .inl ⟨_, vs.length, rfl, .inr ⟨vs, SqT.of hi.1, rfl⟩, by rw [hl]; exact old _ (.int _)⟩
    case ktp => subst e; exact .inl ⟨_, vs.length, rfl, .inr ⟨vs, hi.1, rfl⟩, by rw [hl]; exact old _ (.int _)⟩
    case dK ks =>
      subst e
      refine .inr ⟨a, _, rfl, hi.2.1, ?_⟩
      have : (ks.zip vs).length = ds.length := by rw [List.length_zip, hi.1, hl]; simp
      rw [this]
      exact old _ (.int _)
    case dT ks => cases e
  | _ => simp [dLen', dLen] at e

/-! ### list, tuple -/
def kD : Key → D
  | .inl i => .int i
  | .inr s => .str s
theorem fz_keys {F : Hp} : ∀ {ks : List Key}, keysL ks = true → Fzs K F (ks.map kV) (ks.map kD)
  | [], _ => .nil
  | .inl i :: ks, h => .cons (.int i) (fz_keys (ks := ks) (by simpa [keysL, keyL] using h))
  | .inr s :: ks, h => by
    have h' : s.length ≤ sizeLine ∧ keysL ks = true := by simpa [keysL, keyL] using h
    exact .cons (.str s h'.1) (fz_keys h'.2)
def dList : D → Option D
  | .nd .lst ds => some (.nd .lst ds)
  | .nd .tup ds => some (.nd .lst ds)
  | .nd .scr ds => some (.nd .lst ds)
  | .nd .ktp ds => some (.nd .lst ds)
  | .nd (.dK ks) _ => some (.nd .lst (ks.map kD))
  | _ => none
def rListR : List V → Hp → VK → Prop := fun xs H Q => ∃ p kvs, xs = [.ref p] ∧ Rd H p (.dK kvs) ∧ ∀ q, H q = none → Q (.ref q) (upd H q (.lst (kvs.map fun kv => kV kv.1)))
theorem call_list_rd (hc : X.calm = true) : CallR X (.type "list") rListR := by
  intro pins s σ H xs us Q I r h
  obtain ⟨p, kvs, e, hk, q⟩ := h
  subst e
  obtain ⟨u, eu, rx⟩ := vals1 r
  subst eu
  obtain rfl : u = Value.ref p := rx
  obtain ⟨z, lo, vs, rk, hd⟩ := (show ObjOk X.prog X.w H s.heap p (.dK kvs) from hk.ok I.hok)
  obtain ⟨ep, hat⟩ := hd.dictAt
  have hl : kvs.length = vs.length := Paired.length rk
  refine PySem.W.kdl_call (PySem.W.kdl_dict (knd := mixKind X.prog X.w) (kvs := vs) (ep := ep) lo) (I.ok.hd hc) hat (by rw [← hl]; exact z) fun h' tk acc' c' hkeep hS hacc => ?_
  refine ⟨.ref s.heap.objs.size, upd H s.heap.objs.size (.lst (kvs.map fun kv => kV kv.1)), I.laid hkeep (Nat.le_refl _) (show ObjOk X.prog X.w _ _ _ (.lst (kvs.map fun kv => kV kv.1)) from ⟨?_, acc'.toList, c', ?_, ?_⟩), rfl, q _ (I.hok.fresh (Nat.le_refl _))⟩
  · rw [List.length_map]; exact z
  · have el : acc'.toList.length = acc'.size := by simp
    refine vals_of_at (by rw [List.length_map, el, hacc.1, hl]) fun j x w h1 h2 => ?_
    obtain ⟨k, y, hky, hi⟩ := hacc.2 j w (by rw [← Array.getElem?_toList]; exact h2)
    have e1 : (kvs.map (·.1))[j]? = some k := by
      rw [KV.keys rk, List.getElem?_map, hky] <;> rfl
    have e2 : (kvs.map fun kv => kV kv.1)[j]? = some (kV k) := by
      have e3 : (kvs.map fun kv => kV kv.1) = (kvs.map (·.1)).map kV := by rw [List.map_map] <;> rfl
      rw [e3, List.getElem?_map, e1] <;> rfl
    rw [e2] at h1
    cases h1
    exact keyIs_rel hi
  · rw [Array.toArray_toList]; exact hS
def rList (K : PySem.W.Frag) : List V → Hp → VK → Prop := fun xs H Q => (∃ p ys, xs = [.ref p] ∧ (SqL K H p ys ∨ SqT K H p ys) ∧ ∀ l, H l = none → Q (.ref l) (upd H l (.lst ys))) ∨ rListR xs H Q
theorem cr_list (hc : X.calm = true) : CallR X (.type "list") (rList X.K) := call_list_of.or (call_list_rd hc)
theorem zip_keys {κ : Type} {ks : List κ} {vs : List V} (h : ks.length = vs.length) (f : κ → V) : ((ks.zip vs).map fun kv => f kv.1) = ks.map f := by
  induction ks generalizing vs with
  | nil => simp
  | cons k ks ih => cases vs with
    | nil => simp at h
    | cons v vs => simp [ih (vs := vs) (by simpa using h)]
theorem c1_list : C1N K (rList K) dList := by
  intro F H x dx d Q ex z e new
  cases dx with
  | nd k ds =>
    obtain ⟨a, vs, rfl, hi, hs⟩ := z.node ex
    cases k <;> simp only [dList, Option.some.injEq] at e
    case lst => subst e; exact .inl ⟨a, vs, rfl, .inl (SqL.of hi.1), fun l hl => new l .lst vs ds _ rfl rfl hl (if_pos hi.2) hs⟩
    case scr => subst e; exact .inl ⟨a, vs, rfl, .inl hi.1, fun l hl => new l .lst vs ds _ rfl rfl hl (if_pos hi.2) hs⟩
    case tup => subst e; exact .inl ⟨a, vs, rfl, .inr (SqT.of hi.1), fun l hl => new l .lst vs ds _ rfl rfl hl (if_pos hi.2) hs⟩
    case ktp => subst e; exact .inl ⟨a, vs, rfl, .inr hi.1, fun l hl => new l .lst vs ds _ rfl rfl hl (if_pos hi.2) hs⟩
    case dK ks =>
      subst e
      refine .inr ⟨a, _, rfl, hi.2.1, fun l hl => ?_⟩
      rw [zip_keys hi.1]
      exact new l .lst (ks.map kV) (ks.map kD) _ rfl rfl hl (if_pos (by rw [List.length_map, hi.1]; exact hi.2.2.1)) (fz_keys hi.2.2.2)
    case dT ks => cases e
  | _ => simp [dList] at e
def dTuple : D → Option D
  | .nd .lst ds => some (.nd .tup ds)
  | .nd .scr ds => some (.nd .tup ds)
  | .nd .tup ds => some (.nd .tup ds)
  | .nd .ktp ds => some (.nd .ktp ds)
  | _ => none
theorem c1_tuple : C1 K (fun xs H Q => ∃ p ys, xs = [.ref p] ∧ ((SqL K H p ys ∧ ∀ l, H l = none → Q (.ref l) (upd H l (.tup ys))) ∨ (SqT K H p ys ∧ Q (.ref p) H))) dTuple := by
  intro F H x dx d Q ex z e old new
  cases dx with
  | nd k ds =>
    obtain ⟨a, vs, rfl, hi, hs⟩ := z.node ex
    cases k <;> simp only [dTuple, Option.some.injEq] at e
    case lst => subst e; exact ⟨a, vs, rfl, .inl ⟨SqL.of hi.1, fun l hl => new l .tup vs ds _ rfl hl (if_pos hi.2) hs⟩⟩
    case scr => subst e; exact ⟨a, vs, rfl, .inl ⟨hi.1, fun l hl => new l .tup vs ds _ rfl hl (if_pos hi.2) hs⟩⟩
    case tup =>
      subst e
      cases z with
      | fz z => exact ⟨a, vs, rfl, .inr ⟨SqT.of hi.1, old _ z⟩⟩
      | cell o h g => cases o
    case ktp =>
      subst e
      cases z with
      | fz z => exact ⟨a, vs, rfl, .inr ⟨hi.1, old _ z⟩⟩
      | cell o h g => cases o
    all_goals cases e
  | _ => simp [dTuple] at e

/-! ### all, any, sum -/
def blsD : List D → Option (List Bool)
  | [] => some []
  | .bl b :: ds => (blsD ds).map (b :: ·)
  | _ => none
def intsD : List D → Option (List Int)
  | [] => some []
  | .int b :: ds => (intsD ds).map (b :: ·)
  | _ => none
theorem blsD_rel {F : Hp} : ∀ {ds : List D} {vs : List V} {bs : List Bool}, Fzs K F vs ds → blsD ds = some bs → vs = bs.map V.bl
  | _, _, bs, .nil, e => by simp [blsD] at e; subst e; rfl
  | d :: ds, _, bs, .cons h hs, e => by
    cases d with
    | bl b =>
      simp only [blsD] at e
      obtain ⟨bs', e1, rfl⟩ := Option.map_eq_some_iff.mp e
      rw [h.bl_inv, blsD_rel hs e1]
      rfl
    | _ => simp [blsD] at e
theorem intsD_rel {F : Hp} : ∀ {ds : List D} {vs : List V} {bs : List Int}, Fzs K F vs ds → intsD ds = some bs → vs = bs.map V.int
  | _, _, bs, .nil, e => by simp [intsD] at e; subst e; rfl
  | d :: ds, _, bs, .cons h hs, e => by
    cases d with
    | int b =>
      simp only [intsD] at e
      obtain ⟨bs', e1, rfl⟩ := Option.map_eq_some_iff.mp e
      rw [h.int_inv, intsD_rel hs e1]
      rfl
    | _ => simp [intsD] at e
def dAll : D → Option D
  | .nd .lst ds => (blsD ds).map fun bs => .bl (bs.all id)
  | _ => none
def dAny : D → Option D
  | .nd .lst ds => (blsD ds).map fun bs => .bl (bs.any id)
  | _ => none
def dSum : D → Option D
  | .nd .lst ds => (intsD ds).map fun bs => .int bs.sum
  | _ => none
theorem c1_all : C1 K (rAll K) dAll := by
  intro F H x dx d Q ex z e old new
  unfold dAll at e
  split at e
  · rename_i ds
    obtain ⟨bs, e1, rfl⟩ := Option.map_eq_some_iff.mp e
    obtain ⟨a, vs, rfl, hi, hs⟩ := z.node ex
    exact ⟨a, bs, rfl, by rw [← blsD_rel hs e1]; exact SqL.of hi.1, old _ (.bl _)⟩
  · cases e
theorem c1_any : C1 K (rAny K) dAny := by
  intro F H x dx d Q ex z e old new
  unfold dAny at e
  split at e
  · rename_i ds
    obtain ⟨bs, e1, rfl⟩ := Option.map_eq_some_iff.mp e
    obtain ⟨a, vs, rfl, hi, hs⟩ := z.node ex
    exact ⟨a, bs, rfl, by rw [← blsD_rel hs e1]; exact SqL.of hi.1, old _ (.bl _)⟩
  · cases e
theorem c1_sum : C1 K (rSum K) dSum := by
  intro F H x dx d Q ex z e old new
  unfold dSum at e
  split at e
  · rename_i ds
    obtain ⟨bs, e1, rfl⟩ := Option.map_eq_some_iff.mp e
    obtain ⟨a, vs, rfl, hi, hs⟩ := z.node ex
    exact ⟨a, bs, rfl, by rw [← intsD_rel hs e1]; exact SqL.of hi.1, old _ (.int _)⟩
  · cases e
/-! ### abs, min, max -/
def dAbs : D → Option D
  | .int i => some (.int (if i < 0 then -i else i))
  | _ => none
theorem c1_abs : C1 K (fun xs H Q => ∃ i, xs = [.int i] ∧ Q (.int (if i < 0 then -i else i)) H) dAbs := by
  intro F H x dx d Q ex z e old new
  unfold dAbs at e
  split at e
  · cases e
    rw [z.int_inv]
    exact ⟨_, rfl, old _ (.int _)⟩
  · cases e
def dMax2 : List D → Option D
  | [.int i, .int j] => some (.int (if j > i then j else i))
  | _ => none
def dMin2 : List D → Option D
  | [.int i, .int j] => some (.int (if j < i then j else i))
  | _ => none
theorem fzs2 {F : Hp} {vs : List V} {i j : Int} (h : Fzs K F vs [.int i, .int j]) : vs = [.int i, .int j] := by
  cases h with
  | cons h1 h => cases h with
    | cons h2 h => cases h; rw [h1.int_inv, h2.int_inv]
theorem cn_max2 : CN K (fun xs H Q => ∃ i j, xs = [.int i, .int j] ∧ Q (.int (if j > i then j else i)) H) dMax2 := by
  intro F H xs dxs d Q ex z e old new
  unfold dMax2 at e
  split at e
  · cases e
    exact ⟨_, _, fzs2 z, old _ (.int _)⟩
  · cases e
theorem cn_min2 : CN K (fun xs H Q => ∃ i j, xs = [.int i, .int j] ∧ Q (.int (if j < i then j else i)) H) dMin2 := by
  intro F H xs dxs d Q ex z e old new
  unfold dMin2 at e
  split at e
  · cases e
    exact ⟨_, _, fzs2 z, old _ (.int _)⟩
  · cases e
end
end Y

set_option Elab.async false
set_option linter.all false
set_option maxRecDepth 100000
set_option maxHeartbeats 2000000
/-! isinstance, numbers and texts, subscripts, slices. -/
namespace Y
open PySem L2

/-! ### isinstance -/
def tyN : D → Option String
  | .non => some "NoneType"
  | .bl _ => some "bool"
  | .int _ => some "int"
  | .str _ => some "str"
  | .nd .lst _ => some "list"
  | .nd .scr _ => some "list"
  | .nd .tup _ => some "tuple"
  | .nd .ktp _ => some "tuple"
  | .nd (.dK _) _ => some "dict"
  | _ => none
def isA (t T : String) : Option Bool :=
  if T = "int" then some (t = "int" ∨ t = "bool") else if T = "bool" then some (t = "bool") else if T = "str" then some (t = "str") else if T = "tuple" then some (t = "tuple") else if T = "list" then some (t = "list") else none
theorem isA_kit {d : D} {t T : String} {b : Bool} (h : tyN d = some t) (e : isA t T = some b) : kitB t T = some b := by
  have ht : t ∈ ["NoneType", "bool", "int", "str", "list", "tuple", "dict"] := by
    cases d with
    | nd k ds => cases k <;> simp [tyN] at h <;> subst h <;> simp
    | ty n => simp [tyN] at h
    | _ => simp [tyN] at h <;> subst h <;> simp
  have all : ∀ t ∈ ["NoneType", "bool", "int", "str", "list", "tuple", "dict"], ∀ T ∈ ["int", "bool", "str", "tuple", "list"], kitB t T = isA t T := by decide +kernel
  have hT : T ∈ ["int", "bool", "str", "tuple", "list"] := by
    unfold isA at e
    split at e
    · simp [*]
    · split at e
      · simp [*]
      · split at e
        · simp [*]
        · split at e
          · simp [*]
          · split at e
            · simp [*]
            · cases e
  rw [all t ht T hT]
  exact e
theorem Bz.tyx {K : PySem.W.Frag} {F H : Hp} {v : V} {d : D} {t : String} (ex : Same F H) (z : Bz K F H v d) (h : tyN d = some t) : TyX K H v (.type t) := by
  cases d with
  | non => simp [tyN] at h; subst h; rw [z.non_inv]; exact .base .non
  | bl b => simp [tyN] at h; subst h; rw [z.bl_inv]; exact .base (.bl b)
  | int i => simp [tyN] at h; subst h; rw [z.int_inv]; exact .base (.int i)
  | str s => simp [tyN] at h; subst h; rw [z.str_inv.1]; exact .base (.str s)
  | ty n => simp [tyN] at h
  | nd k ds =>
    obtain ⟨a, vs, rfl, hi, hs⟩ := z.node ex
    cases k <;> simp only [tyN, Option.some.injEq] at h
    case lst => subst h; exact .base (.lst hi.1)
    case tup => subst h; exact .base (.tup hi.1)
    case scr =>
      subst h
      rcases hi.1 with (q | ⟨o, q⟩) | ⟨o, its, n, q1, q2, _⟩
      · exact .base (.lst q)
      · exact .base (.frz q)
      · exact .kList q1 q2
    case ktp =>
      subst h
      rcases hi.1 with (q | ⟨o, q⟩) | ⟨o, its, n, q1, q2, _⟩
      · exact .base (.tup q)
      · exact .fTuple q
      · exact .kTuple q1 q2
    case dK ks =>
      subst h
      rcases hi.2.1 with q | ⟨o, q⟩
      · exact .base (.dK q)
      · exact .fDict q
    case dT => cases h
def isTy (d c : D) : Option Bool := match tyN d, c with
  | some t, .ty T => isA t T
  | _, _ => none
def dIsi : List D → Option D
  | [d, .ty T] => (isTy d (.ty T)).map .bl
  | [d, .nd .tup [.ty S, .ty T]] => match isTy d (.ty S), isTy d (.ty T) with
    | some a, some b => some (.bl (a || b))
    | _, _ => none
  | _ => none
def rIsiA (K : PySem.W.Frag) : List V → Hp → VK → Prop := fun xs H Q => rIsi K xs H Q ∨ rIsiT K xs H Q
theorem cr_isi {X : Cx} : CallR X (.builtin "isinstance") (rIsiA X.K) := call_isi.or call_isiT
theorem cn_isi {K : PySem.W.Frag} : CN K (rIsiA K) dIsi := by
  intro F H xs dxs d Q ex z e old new
  unfold dIsi at e
  split at e
  · rename_i d' T
    obtain ⟨b, e1, rfl⟩ := Option.map_eq_some_iff.mp e
    cases z with
    | cons z1 z => cases z with
      | cons z2 z =>
        cases z
        rw [z2.ty_inv]
        unfold isTy at e1
        split at e1
        · rename_i t T' ht hT
          cases hT
          exact .inl ⟨_, _, _, _, b, rfl, .ty T, (Bz.fz z1).tyx ex ht, kit_ty (isA_kit ht e1), old _ (.bl _)⟩
        · cases e1
  · rename_i d' S T
    split at e
    · rename_i a b e1 e2
      cases e
      cases z with
      | cons z1 z => cases z with
        | cons z2 z =>
          cases z
          obtain ⟨tp, cs, rfl, hi, hs⟩ := z2.node
          unfold isTy at e1 e2
          split at e1
          · rename_i t T' ht hT
            cases hT
            split at e2
            · rename_i t2 T2 ht2 hT2
              cases hT2
              rw [ht] at ht2
              cases ht2
              cases hs with
              | cons h1 hs => cases hs with
                | cons h2 hs =>
                  cases hs
                  have k1 := kit_ty (K := K) (isA_kit ht e1)
                  have k2 := kit_ty (K := K) (isA_kit ht e2)
                  refine .inr ⟨_, tp, _, _, [.type S, .type T], a || b, rfl, ex _ _ hi.1, .cons (by rw [h1.ty_inv]; exact .ty S) (.cons (by rw [h2.ty_inv]; exact .ty T) .nil), (Bz.fz z1).tyx ex ht, ?_, old _ (.bl _)⟩
                  refine kitAny_cons k1 (fun ha => ?_) (fun ha => by rw [ha]; rfl)
                  rw [ha, Bool.false_or]
                  exact kitAny_cons k2 (fun hb => by rw [hb]; exact kitAny_nil) (fun hb => hb)
            · cases e2
          · cases e1
    · cases e
  · cases e
section
variable {X : Cx} {w : Wd} {x : Str} {pos : Pos}
/-- a built-in class as a value -/
theorem d_ty {n : String} (hg : Gl X x) (hm : X.mg x = none) (hv : bootBuiltins x = some (.type n)) (hn : x ≠ "__name__" := by decide) (hd : (x == ("__debug__" : Str)) = false := by decide) : PE X (.Name x pos) (cF X.K w (sC (.ty n))) :=
  d_c (pe_bltn (v := .ty n) hg hm hv rfl hn hd) fun _ => .ty n
end

/-! ### numbers and texts -/
def dInt : D → Option D
  | .int i => some (.int i)
  | .bl b => some (.int (if b then 1 else 0))
  | .str s => if s.length ≤ 640 then (PySem.intText? s).map .int else none
  | _ => none
def rInt : List V → Hp → VK → Prop := fun xs H Q => ((∃ i, xs = [.int i] ∧ Q (.int i) H) ∨ ∃ k, xs = [.bl k] ∧ Q (.int (if k then 1 else 0)) H) ∨ ∃ a n, xs = [.str a] ∧ PySem.intText? a = some n ∧ a.length ≤ 640 ∧ Q (.int n) H
theorem cr_int {X : Cx} : CallR X (.type "int") rInt := call_int1.or call_int_str
theorem c1_int {K : PySem.W.Frag} : C1 K rInt dInt := by
  intro F H x dx d Q ex z e old new
  cases dx with
  | int i => simp only [dInt] at e; cases e; rw [z.int_inv]; exact .inl (.inl ⟨_, rfl, old _ (.int _)⟩)
  | bl b => simp only [dInt] at e; cases e; rw [z.bl_inv]; exact .inl (.inr ⟨_, rfl, old _ (.int _)⟩)
  | str s =>
    simp only [dInt] at e
    split at e
    · rename_i c
      obtain ⟨n, e1, rfl⟩ := Option.map_eq_some_iff.mp e
      rw [z.str_inv.1]
      exact .inr ⟨_, n, rfl, e1, c, old _ (.int _)⟩
    · cases e
  | _ => simp [dInt] at e
def dStr : D → Option D
  | .int i => if i.natAbs.log2 < 1920 ∧ (toString i : Str).length ≤ sizeLine then some (.str (toString i)) else none
  | .str s => some (.str s)
  | _ => none
def rStr : List V → Hp → VK → Prop := fun xs H Q => (∃ i, xs = [.int i] ∧ i.natAbs.log2 < 1920 ∧ Q (.str (toString i)) H) ∨ ∃ a, xs = [.str a] ∧ Q (.str a) H
theorem cr_str {X : Cx} : CallR X (.type "str") rStr := call_str_int.or SkE.call_str_str
theorem c1_str {K : PySem.W.Frag} : C1 K rStr dStr := by
  intro F H x dx d Q ex z e old new
  cases dx with
  | int i =>
    simp only [dStr] at e
    split at e
    · rename_i c
      cases e
      rw [z.int_inv]
      exact .inl ⟨_, rfl, c.1, old _ (.str _ c.2)⟩
    · cases e
  | str s => simp only [dStr] at e; cases e; obtain ⟨rfl, hl⟩ := z.str_inv; exact .inr ⟨_, rfl, old _ (.str _ hl)⟩
  | _ => simp [dStr] at e

/-! ### subscripts -/
def dIx : D → D → Option D
  | .nd .lst ds, .int i => atI ds i
  | .nd .tup ds, .int i => atI ds i
  | .nd .scr ds, .int i => atI ds i
  | .nd .ktp ds, .int i => atI ds i
  | .str s, .int i => (atI s.cps.toList i).map fun c => .str ⟨#[c]⟩
  | .nd (.dK ks) ds, k => (lookD (.nd (.dK ks) ds) k).bind id
  | .nd (.dT ks) ds, k => (lookD (.nd (.dT ks) ds) k).bind id
  | _, _ => none
def isDct : D → Bool
  | .nd (.dK _) _ => true
  | .nd (.dT _) _ => true
  | _ => false
section
variable {K : PySem.W.Frag} {F H : Hp}
theorem fzs_atI {vs : List V} {ds : List D} {i : Int} {d : D} (hs : Fzs K F vs ds) (e : atI ds i = some d) : ∃ v, atI vs i = some v ∧ Fz K F v d := by
  unfold atI at e ⊢
  rw [hs.length]
  cases q : ixN ds.length i with
  | none => rw [q] at e; cases e
  | some j =>
    rw [q] at e
    obtain ⟨v, h1, h2⟩ := hs.get (i := j) (by simpa using e)
    exact ⟨v, by simpa using h1, h2⟩
/-- of a sequence or text -/
theorem ix_seqD {v y : V} {d dy r : D} {Q : VK} (ex : Same F H) (z : Bz K F H v d) (zy : Fz K F y dy) (nd : isDct d = false) (e : dIx d dy = some r) (old : ∀ v, Fz K F v r → Q v H) : rIx K v y H Q := by
  cases d with
  | str s =>
    cases dy with
    | int i =>
      simp only [dIx] at e
      obtain ⟨c, e1, rfl⟩ := Option.map_eq_some_iff.mp e
      obtain ⟨rfl, hl⟩ := z.str_inv
      rw [zy.int_inv]
      exact .inr (.inr ⟨s, i, c, rfl, rfl, hl, e1, old _ (.str _ (by show 1 ≤ sizeLine; decide))⟩)
    | _ => simp [dIx] at e
  | nd k ds =>
    obtain ⟨a, vs, rfl, hi, hs⟩ := z.node ex
    cases k with
    | dK _ => simp [isDct] at nd
    | dT _ => simp [isDct] at nd
    | lst =>
      cases dy with
      | int i =>
        simp only [dIx] at e
        obtain ⟨v', e1, z1⟩ := fzs_atI hs e
        rw [zy.int_inv]
        exact .inl ⟨a, vs, i, v', rfl, rfl, SqL.of hi.1, e1, old _ z1⟩
      | _ => simp [dIx] at e
    | scr =>
      cases dy with
      | int i =>
        simp only [dIx] at e
        obtain ⟨v', e1, z1⟩ := fzs_atI hs e
        rw [zy.int_inv]
        exact .inl ⟨a, vs, i, v', rfl, rfl, hi.1, e1, old _ z1⟩
      | _ => simp [dIx] at e
    | tup =>
      cases dy with
      | int i =>
        simp only [dIx] at e
        obtain ⟨v', e1, z1⟩ := fzs_atI hs e
        rw [zy.int_inv]
        exact .inr (.inl ⟨a, vs, i, v', rfl, rfl, SqT.of hi.1, e1, old _ z1⟩)
      | _ => simp [dIx] at e
    | ktp =>
      cases dy with
      | int i =>
        simp only [dIx] at e
        obtain ⟨v', e1, z1⟩ := fzs_atI hs e
        rw [zy.int_inv]
        exact .inr (.inl ⟨a, vs, i, v', rfl, rfl, hi.1, e1, old _ z1⟩)
      | _ => simp [dIx] at e
  | _ => simp [dIx] at e
theorem ix_dctD {v y : V} {d dy r : D} {Q : VK} (ex : Same F H) (z : Bz K F H v d) (zy : Fz K F y dy) (nd : isDct d = true) (e : dIx d dy = some r) (old : ∀ v, Fz K F v r → Q v H) : ∃ a v', v = .ref a ∧ DGet H a y (some v') ∧ Q v' H := by
  have e1 : (lookD d dy).bind id = some r := by
    cases d with
    | nd k ds => cases k <;> first | (simp [isDct] at nd; done) | (simpa [dIx] using e)
    | _ => simp [isDct] at nd
  cases q : lookD d dy with
  | none => rw [q] at e1; cases e1
  | some o =>
    rw [q] at e1
    have e2 : o = some r := by simpa using e1
    subst e2
    obtain ⟨a, rr, rfl, g, rel⟩ := lookD_rel ex z zy q
    cases rr with
    | none => exact rel.elim
    | some v' => exact ⟨a, v', rfl, g, old _ rel⟩
end
theorem pe_or2 {X : Cx} {e : Expr} {t t' : TE} (h : PE X e t) (h' : PE X e t') : PE X e (fun σ H Q => t σ H Q ∨ t' σ H Q) := ⟨fun pins s σ H Q I q => q.elim (h.run pins s σ H Q I) (h'.run pins s σ H Q I)⟩
section
variable {X : Cx} {w : Wd} {a b : Expr} {fa fb : En → R D} {pos : Pos}
theorem d_sub (hu : X.A.units + 1 < cLine) (ha : PE X a (cF X.K w fa)) (hb : PE X b (cF X.K w fb)) (hs : PlainIx b := by exact fun _ _ => rfl) (hn : NoSl b := by exact fun _ _ => rfl) : PE X (.Subscript a b pos) (cF X.K w (sBin dIx fa fb)) :=
  peI (pe_or2 (pe_ix ix_seq ha hb hs) (pe_dget hu ha hb hn)) fun σ H Q h => by
    obtain ⟨F, ρ, fp, s, h⟩ := h
    by_cases q : (match fa ρ with | .ok d _ => isDct d | _ => false) = true
    · refine .inr ⟨F, ρ, fp, s, ?_⟩
      cases e0 : fa ρ with
      | bad => rw [e0] at q; cases q
      | exc c x ρ1 => rw [e0] at q; cases q
      | ok d ρ1 =>
        rw [e0] at q
        unfold sBin at h
        rw [e0] at h
        intro F1 H1 fp1 t1 v s1 z
        refine ⟨F1, ρ1, fp1, s1, (Pst.tr (r := bnd (fb ρ1) _) h t1).bnd fun dy ρ2 F2 H2 fp2 t2 h2 => fun y s2 zy => ?_⟩
        obtain ⟨r, e, n⟩ := h2.lift
        exact ix_dctD s2.ex (.fz (z.mono t2.ex)) zy q e (fin_new s2 n).1
    · refine .inl ⟨F, ρ, fp, s, ?_⟩
      cases e0 : fa ρ with
      | bad => unfold sBin at h; rw [e0] at h; exact h
      | exc c x ρ1 => unfold sBin at h; rw [e0] at h; exact h
      | ok d ρ1 =>
        rw [e0] at q
        unfold sBin at h
        rw [e0] at h
        intro F1 H1 fp1 t1 v s1 z
        refine ⟨F1, ρ1, fp1, s1, (Pst.tr (r := bnd (fb ρ1) _) h t1).bnd fun dy ρ2 F2 H2 fp2 t2 h2 => fun y s2 zy => ?_⟩
        obtain ⟨r, e, n⟩ := h2.lift
        exact ix_seqD s2.ex (.fz (z.mono t2.ex)) zy (by simpa using q) e (fin_new s2 n).1
/-- x[e], x a name that changes -/
def sIxV (i : Nat) (fb : En → R D) : En → R D := fun ρ => bnd (sBor i ρ) fun _ _ => bnd (fb ρ) fun k ρ1 => bnd (sBor i ρ1) fun x ρ2 => lift (dIx x k) ρ2
def bor (i : Nat) (ρ : En) : Option D := match ρ[i]? with
  | some (some (.f d)) => some d
  | some (some (.o d)) => some d
  | some (some (.b d)) => some d
  | _ => none
theorem sBor_eq (i : Nat) (ρ : En) : sBor i ρ = lift (bor i ρ) ρ := by
  unfold sBor bor
  split <;> simp_all [lift]
theorem bor_rel {K : PySem.W.Frag} {w : Wd} {F H : Hp} {fp : List Addr} {σ : St} {ρ : En} {i : Nat} {d : D} (s : StaW K w F H σ ρ fp) (e : bor i ρ = some d) : ∃ v, σ[i]? = some (some v) ∧ Bz K F H v d := by
  unfold bor at e
  split at e
  · rename_i d e1
    cases e
    exact s.sl.getB e1
  · rename_i d e1
    cases e
    exact s.sl.getB e1
  · rename_i d e1
    cases e
    exact s.sl.getB e1
  · cases e
theorem sBor_ok {K : PySem.W.Frag} {w : Wd} {F H : Hp} {fp : List Addr} {σ : St} {ρ : En} {i : Nat} {β : Type} {g : D → En → R β} {N : β → En → Hp → Hp → List Addr → Prop} (s : StaW K w F H σ ρ fp) (h : Pst K w F H fp σ (bnd (sBor i ρ) g) N) : ∃ d v, bor i ρ = some d ∧ σ[i]? = some (some v) ∧ Bz K F H v d ∧ Pst K w F H fp σ (g d ρ) N := by
  rw [sBor_eq] at h
  cases e : bor i ρ with
  | none => rw [e] at h; exact h.elim
  | some d =>
    rw [e] at h
    obtain ⟨v, e1, z⟩ := bor_rel s e
    exact ⟨d, v, rfl, e1, z, h⟩
theorem d_subV (i : Nat) {x : Str} {p : Pos} (hu : X.A.units + 1 < cLine) (hb : PE X b (cF X.K w fb)) (hN : X.N[i]? = some x := by rfl) (hv : Vis X.env.scope x := by first | exact Or.inl rfl | exact Or.inr (Or.inl rfl) | exact Or.inr (Or.inr rfl)) (hd : (x == ("__debug__" : Str)) = false := by decide)
    (hcd : (x == ("__classdict__" : Str)) = false := by decide) (hs : PlainIx b := by exact fun _ _ => rfl) (hn : NoSl b := by exact fun _ _ => rfl) : PE X (.Subscript (.Name x p) b pos) (cF X.K w (sIxV i fb)) :=
  peI (pe_or2 (pe_ix ix_seq (pe_var hN hv hd hcd) hb hs) (pe_dget hu (pe_var hN hv hd hcd) hb hn)) fun σ H Q h => by
    obtain ⟨F, ρ, fp, s, h⟩ := h
    unfold sIxV at h
    obtain ⟨d0, v, _, ev, z0, h⟩ := sBor_ok s h
    have go : ∀ (F1 H1 : Hp) (fp1 : List Addr) (k : D) (ρ1 : En), Tr F H fp F1 H1 fp1 → Pst X.K w F1 H1 fp1 σ (bnd (sBor i ρ1) fun x ρ2 => lift (dIx x k) ρ2) (nF X.K w σ Q) → StaW X.K w F1 H1 σ ρ1 fp1 →
        ∃ d r, bor i ρ1 = some d ∧ Bz X.K F1 H1 v d ∧ dIx d k = some r ∧ ∀ v, Fz X.K F1 v r → Q v H1 := by
      intro F1 H1 fp1 k ρ1 t1 h1 s1
      obtain ⟨d, v', e0, e1, z, h2⟩ := sBor_ok s1 h1
      rw [ev] at e1
      cases e1
      obtain ⟨r, e, n⟩ := h2.lift
      exact ⟨d, r, e0, z, e, (fin_new s1 n).1⟩
    by_cases q : (match fb ρ with | .ok k ρ1 => (match bor i ρ1 with | some d => isDct d | none => false) | _ => false) = true
    · refine .inr ⟨v, ev, F, ρ, fp, s, ?_⟩
      cases e0 : fb ρ with
      | bad => rw [e0] at h; exact h
      | exc c x ρ1 => rw [e0] at h; exact h
      | ok k ρ1 =>
        rw [e0] at h q
        intro F1 H1 fp1 t1 y s1 zy
        obtain ⟨d, r, e1, z, e, n⟩ := go F1 H1 fp1 k ρ1 t1 (Pst.tr (r := bnd (sBor i ρ1) _) h t1) s1
        simp only [e1] at q
        exact ix_dctD s1.ex z zy q e n
    · refine .inl ⟨v, ev, F, ρ, fp, s, ?_⟩
      cases e0 : fb ρ with
      | bad => rw [e0] at h; exact h
      | exc c x ρ1 => rw [e0] at h; exact h
      | ok k ρ1 =>
        rw [e0] at h q
        intro F1 H1 fp1 t1 y s1 zy
        obtain ⟨d, r, e1, z, e, n⟩ := go F1 H1 fp1 k ρ1 t1 (Pst.tr (r := bnd (sBor i ρ1) _) h t1) s1
        simp only [e1] at q
        exact ix_seqD s1.ex z zy (by simpa using q) e n

/-! ### slices -/
def cutD (ds : List D) (lo hi : Option Int) : List D := (ds.drop (HT.sIx ds.length 0 lo)).take (HT.sIx ds.length ds.length hi - HT.sIx ds.length 0 lo)
theorem fzs_cut {K : PySem.W.Frag} {F : Hp} {vs : List V} {ds : List D} (h : Fzs K F vs ds) (lo hi : Option Int) : Fzs K F (cutV vs lo hi) (cutD ds lo hi) := by
  unfold cutV cutD
  rw [h.length]
  exact (h.drop _).take _
def dSlc : D → Option Int → Option Int → Option D
  | .nd .lst ds, lo, hi => some (.nd .lst (cutD ds lo hi))
  | .nd .scr ds, lo, hi => some (.nd .lst (cutD ds lo hi))
  | .nd .tup ds, lo, hi => some (.nd .tup (cutD ds lo hi))
  | .str s, lo, hi => some (.str (cutS s lo hi))
  | _, _, _ => none
def rSl (K : PySem.W.Frag) : V → Option Int → Option Int → Hp → VK → Prop := fun x lo hi H Q => rSlL K x lo hi H Q ∨ (rSlA K x lo hi H Q ∨ rSlS x lo hi H Q)
theorem sl_any : SlR X (rSl X.K) := sl_list.or (sl_tupA.or sl_str)
theorem cut_whole {α : Type} {xs : List α} {lo hi : Option Int} (h : HT.sIx xs.length 0 lo = 0 ∧ HT.sIx xs.length xs.length hi = xs.length) : (xs.drop (HT.sIx xs.length 0 lo)).take (HT.sIx xs.length xs.length hi - HT.sIx xs.length 0 lo) = xs := by
  rw [h.1, h.2]; simp
theorem rslc {K : PySem.W.Frag} {F H : Hp} {v : V} {d r : D} {lo hi : Option Int} {Q : VK} (ex : Same F H) (z : Bz K F H v d) (e : dSlc d lo hi = some r)
    (old : ∀ v, Fz K F v r → Q v H) (new : ∀ p k vs ds ho, r = .nd k ds → H p = none → mkHO k vs = some ho → Fzs K F vs ds → Q (.ref p) (upd H p ho)) : rSl K v lo hi H Q := by
  cases d with
  | str s =>
    simp only [dSlc] at e
    cases e
    obtain ⟨rfl, hl⟩ := z.str_inv
    exact .inr (.inr ⟨s, rfl, hl, old _ (.str _ (Nat.le_trans (cutS_length s lo hi) hl))⟩)
  | nd k ds =>
    obtain ⟨a, vs, rfl, hi', hs⟩ := z.node ex
    have hc := fzs_cut hs lo hi
    have hl : (cutV vs lo hi).length ≤ vs.length := cutV_length vs lo hi
    cases k with
    | lst =>
      simp only [dSlc] at e; cases e
      exact .inl ⟨a, vs, rfl, SqL.of hi'.1, fun p hp => new p .lst _ _ _ rfl hp (if_pos (Nat.le_trans hl hi'.2)) hc⟩
    | scr =>
      simp only [dSlc] at e; cases e
      exact .inl ⟨a, vs, rfl, hi'.1, fun p hp => new p .lst _ _ _ rfl hp (if_pos (Nat.le_trans hl hi'.2)) hc⟩
    | tup =>
      simp only [dSlc] at e; cases e
      refine .inr (.inl ⟨a, vs, rfl, SqT.of hi'.1, fun hw => ?_, fun hw p hp => new p .tup _ _ _ rfl hp (if_pos (Nat.le_trans hl hi'.2)) hc⟩)
      have hw' := hw
      rw [hs.length] at hw'
      have : cutD ds lo hi = ds := cut_whole hw'
      rw [this] at old
      cases z with
      | fz z => exact old _ z
      | cell o h g => cases o
    | _ => simp [dSlc] at e
  | _ => simp [dSlc] at e
def sPt (f : En → R D) : En → R (Option Int) := fun ρ => bnd (f ρ) fun d ρ1 => lift (match d with | .int i => some (some i) | _ => none) ρ1
def sNoPt : En → R (Option Int) := fun ρ => .ok none ρ
def nP (K : PySem.W.Frag) (w : Wd) (σ : St) (Q : Option Int → Hp → Prop) : Option Int → En → Hp → Hp → List Addr → Prop := fun o ρ F H fp => StaW K w F H σ ρ fp → Q o H
def cP (K : PySem.W.Frag) (w : Wd) (f : En → R (Option Int)) : TO := fun σ H Q => ∃ F ρ fp, StaW K w F H σ ρ fp ∧ Pst K w F H fp σ (f ρ) (nP K w σ Q)
theorem poI {e : Option Expr} {t t' : TO} (h : PO X e t) (k : ∀ σ H Q, t' σ H Q → t σ H Q) : PO X e t' := ⟨fun pins s σ H Q I q => h.run pins s σ H Q I (k σ H Q q)⟩
theorem p_some {e : Expr} {f : En → R D} (h : PE X e (cF X.K w f)) : PO X (some e) (cP X.K w (sPt f)) := poI (po_some h) fun σ H Q h => by
  obtain ⟨F, ρ, fp, s, h⟩ := h
  refine ⟨F, ρ, fp, s, h.bnd fun d ρ1 F1 H1 fp1 t1 h1 => fun v s1 z => ?_⟩
  obtain ⟨o, e, n⟩ := h1.lift
  cases d with
  | int i => cases e; exact ⟨i, z.int_inv, n F1 H1 fp1 .refl s1⟩
  | _ => simp at e
theorem p_none : PO X none (cP X.K w sNoPt) := poI po_none fun σ H Q h => by
  obtain ⟨F, ρ, fp, s, h⟩ := h
  exact h F H fp .refl s
def sSlc (fa : En → R D) (fl fu : En → R (Option Int)) : En → R D := fun ρ => bnd (fa ρ) fun x ρ1 => bnd (fl ρ1) fun l ρ2 => bnd (fu ρ2) fun u ρ3 => lift (dSlc x l u) ρ3
theorem d_slc {lo hi : Option Expr} {fl fu : En → R (Option Int)} {p2 : Pos} (ha : PE X a (cF X.K w fa)) (hl : PO X lo (cP X.K w fl)) (hh : PO X hi (cP X.K w fu)) : PE X (.Subscript a (.Slice lo hi none p2) pos) (cF X.K w (sSlc fa fl fu)) :=
  peI (pe_slice sl_any ha hl hh) fun σ H Q h => by
    obtain ⟨F, ρ, fp, s, h⟩ := h
    refine ⟨F, ρ, fp, s, h.bnd fun d ρ1 F1 H1 fp1 t1 h1 => fun v s1 z => ⟨F1, ρ1, fp1, s1, h1.bnd fun l ρ2 F2 H2 fp2 t2 h2 => fun s2 => ⟨F2, ρ2, fp2, s2, h2.bnd fun u ρ3 F3 H3 fp3 t3 h3 => fun s3 => ?_⟩⟩⟩
    obtain ⟨r, e, n⟩ := h3.lift
    exact rslc s3.ex (.fz ((z.mono t2.ex).mono t3.ex)) e (fin_new s3 n).1 (fin_new s3 n).2
/-- of a list: a new list -/
def dSlcL : D → Option Int → Option Int → Option D
  | .nd .lst ds, lo, hi => some (.nd .lst (cutD ds lo hi))
  | .nd .scr ds, lo, hi => some (.nd .lst (cutD ds lo hi))
  | _, _, _ => none
def sSlcL (fa : En → R D) (fl fu : En → R (Option Int)) : En → R D := fun ρ => bnd (fa ρ) fun x ρ1 => bnd (fl ρ1) fun l ρ2 => bnd (fu ρ2) fun u ρ3 => lift (dSlcL x l u) ρ3
theorem d_slcO {lo hi : Option Expr} {fl fu : En → R (Option Int)} {p2 : Pos} (ha : PE X a (cF X.K w fa)) (hl : PO X lo (cP X.K w fl)) (hh : PO X hi (cP X.K w fu)) : PE X (.Subscript a (.Slice lo hi none p2) pos) (cO X.K w (sSlcL fa fl fu)) :=
  peI (pe_slice sl_list ha hl hh) fun σ H Q h => by
    obtain ⟨F, ρ, fp, s, h⟩ := h
    refine ⟨F, ρ, fp, s, h.bnd fun d ρ1 F1 H1 fp1 t1 h1 => fun v s1 z => ⟨F1, ρ1, fp1, s1, h1.bnd fun l ρ2 F2 H2 fp2 t2 h2 => fun s2 => ⟨F2, ρ2, fp2, s2, h2.bnd fun u ρ3 F3 H3 fp3 t3 h3 => fun s3 => ?_⟩⟩⟩
    obtain ⟨r, e, n⟩ := h3.lift
    have z3 := (z.mono t2.ex).mono t3.ex
    cases d with
    | nd k ds =>
      obtain ⟨a, vs, rfl, hi', hs⟩ := (Bz.fz z3).node s3.ex
      have hl : (cutV vs l u).length ≤ vs.length := cutV_length vs l u
      cases k with
      | lst => simp only [dSlcL] at e; cases e; exact ⟨a, vs, rfl, SqL.of hi'.1, fun p hp => fin_newO s3 n p .lst _ _ _ rfl rfl hp (if_pos (Nat.le_trans hl hi'.2)) (fzs_cut hs l u)⟩
      | scr => simp only [dSlcL] at e; cases e; exact ⟨a, vs, rfl, hi'.1, fun p hp => fin_newO s3 n p .lst _ _ _ rfl rfl hp (if_pos (Nat.le_trans hl hi'.2)) (fzs_cut hs l u)⟩
      | _ => simp [dSlcL] at e
    | _ => simp [dSlcL] at e
/-- xs[::-1] -/
def dRev : D → Option D
  | .nd .lst ds => some (.nd .lst ds.reverse)
  | _ => none
theorem d_rev {k : Nat} {p1 p2 p3 : Pos} (ha : PE X a (cF X.K w fa)) : PE X (.Subscript a (.Slice none none (some (.UnaryOp .USub (.Constant (.int 1) k p1) p2)) p3) pos) (cF X.K w (s1 dRev fa)) :=
  peI (pe_revL ha) fun σ H Q h => by
    obtain ⟨F, ρ, fp, s, h⟩ := h
    refine ⟨F, ρ, fp, s, h.bnd fun d ρ1 F1 H1 fp1 t1 h1 => fun v s1 z => ?_⟩
    obtain ⟨r, e, n⟩ := h1.lift
    cases d with
    | nd k ds =>
      cases k with
      | lst =>
        simp only [dRev] at e; cases e
        obtain ⟨a, vs, rfl, hi, hs⟩ := (Bz.fz z).node s1.ex
        exact ⟨a, vs, rfl, SqL.of hi.1, fun p hp => (fin_new s1 n).2 p .lst _ _ _ rfl hp (if_pos (by rw [List.length_reverse]; exact hi.2)) hs.reverse⟩
      | _ => simp [dRev] at e
    | _ => simp [dRev] at e
end
end Y

set_option Elab.async false
set_option linter.all false
set_option maxRecDepth 100000
set_option maxHeartbeats 2000000
/-! Statements by values. -/
namespace Y
open PySem L2

inductive Fl where
  | nx | ct | bk | rt (d : D) | ro (d : D)
def PstS (K : PySem.W.Frag) (w : Wd) (F H : Hp) (fp : List Addr) (r : R Fl) (D : Ends) : Prop :=
  match r with
  | .ok .nx ρ' => ∀ σ' F' H' fp', Tr F H fp F' H' fp' → StaW K w F' H' σ' ρ' fp' → D.nx σ' H'
  | .ok .ct ρ' => ∀ σ' F' H' fp', Tr F H fp F' H' fp' → StaW K w F' H' σ' ρ' fp' → D.ct σ' H'
  | .ok .bk ρ' => ∀ σ' F' H' fp', Tr F H fp F' H' fp' → StaW K w F' H' σ' ρ' fp' → D.bk σ' H'
  | .ok (.rt d) ρ' => ∀ v σ' F' H' fp', Tr F H fp F' H' fp' → StaW K w F' H' σ' ρ' fp' → Fz K F' v d → D.rt v H'
  | .ok (.ro d) ρ' => ∀ v σ' F' H' fp', Tr F H fp F' H' fp' → StaW K w F' H' (some v :: σ') (some (.o d) :: ρ') fp' → D.rt v H'
  | .exc c x ρ' => ∀ σ' F' H' fp' dd, Tr F H fp F' H' fp' → StaW K w F' H' σ' ρ' fp' → XR K F' H' x dd → w.W (w.cls c) dd σ' H'
  | .bad => False
def cS (K : PySem.W.Frag) (w : Wd) (m : En → R Fl) : TS := fun D σ H => ∃ F ρ fp, StaW K w F H σ ρ fp ∧ PstS K w F H fp (m ρ) D
section
variable {K : PySem.W.Frag} {w : Wd} {F F1 H H1 : Hp} {fp fp1 : List Addr} {σ : St} {r : R Fl} {D D' : Ends}
theorem PstS.tr (h : PstS K w F H fp r D) (t : Tr F H fp F1 H1 fp1) : PstS K w F1 H1 fp1 r D := by
  cases r with
  | ok a ρ =>
    cases a with
    | nx => exact fun σ' F' H' fp' u => h σ' F' H' fp' (t.trans u)
    | ct => exact fun σ' F' H' fp' u => h σ' F' H' fp' (t.trans u)
    | bk => exact fun σ' F' H' fp' u => h σ' F' H' fp' (t.trans u)
    | rt d => exact fun v σ' F' H' fp' u => h v σ' F' H' fp' (t.trans u)
    | ro d => exact fun v σ' F' H' fp' u => h v σ' F' H' fp' (t.trans u)
  | exc c x ρ => exact fun σ' F' H' fp' dd u => h σ' F' H' fp' dd (t.trans u)
  | bad => exact h
/-- an expression first -/
theorem PstS.bnd {α : Type} {e : R α} {g : α → En → R Fl} {N : α → En → Hp → Hp → List Addr → Prop} (h : PstS K w F H fp (bnd e g) D) (k : ∀ a ρ1 F1 H1 fp1, Tr F H fp F1 H1 fp1 → PstS K w F1 H1 fp1 (g a ρ1) D → N a ρ1 F1 H1 fp1) : Pst K w F H fp σ e N := by
  cases e with
  | ok a ρ => exact fun F' H' fp' u => k a ρ F' H' fp' u (PstS.tr (r := g a ρ) h u)
  | exc c x ρ => exact fun F' H' fp' dd => h σ F' H' fp' dd
  | bad => exact h
/-- a statement first -/
def sq (r : R Fl) (g : En → R Fl) : R Fl := match r with
  | .ok .nx ρ => g ρ
  | r => r
theorem PstS.seq {g : En → R Fl} (h : PstS K w F H fp (sq r g) D) : PstS K w F H fp r { D with nx := cS K w g D } := by
  cases r with
  | ok a ρ =>
    cases a with
    | nx => exact fun σ' F' H' fp' u s => ⟨F', ρ, fp', s, PstS.tr (r := g ρ) h u⟩
    | ct => exact h
    | bk => exact h
    | rt d => exact h
    | ro d => exact h
  | exc c x ρ => exact h
  | bad => exact h
theorem StaW.of (s : StaW K w F H σ ρ fp) : Same F H := s.ex
end
section
variable {X : Cx} {w : Wd}
theorem psI {st : Stmt} {t t' : TS} (h : PS X st t) (k : ∀ D σ H, t' D σ H → t D σ H) : PS X st t' := ⟨fun pins s σ H D I q => h.run pins s σ H D I (k D σ H q)⟩
theorem pssI {st : List Stmt} {t t' : TS} (h : PSs X st t) (k : ∀ D σ H, t' D σ H → t D σ H) : PSs X st t' := ⟨fun pins s σ H D I q => h.run pins s σ H D I (k D σ H q)⟩
def sNx : En → R Fl := fun ρ => .ok .nx ρ
def sSeq (a b : En → R Fl) : En → R Fl := fun ρ => sq (a ρ) b
def sDrop (f : En → R D) : En → R Fl := fun ρ => bnd (f ρ) fun _ ρ1 => .ok .nx ρ1
def sRet (f : En → R D) : En → R Fl := fun ρ => bnd (f ρ) fun d ρ1 => .ok (.rt d) ρ1
def sRetO (f : En → R D) : En → R Fl := fun ρ => bnd (f ρ) fun d ρ1 => .ok (.ro d) ρ1
def sIfS (t : En → R Bool) (a b : En → R Fl) : En → R Fl := fun ρ => bnd (t ρ) fun c ρ1 => if c = true then a ρ1 else b ρ1
def sSet (i : Nat) (f : En → R D) : En → R Fl := fun ρ => bnd (f ρ) fun d ρ1 => .ok .nx (ρ1.set i (some (.f d)))
def sSetO (i : Nat) (f : En → R D) : En → R Fl := fun ρ => bnd (f ρ) fun d ρ1 => .ok .nx (ρ1.set i (some (.o d)))
/-- names forgotten -/
def forget : List Nat → En → En
  | [], ρ => ρ
  | i :: is, ρ => forget is (ρ.set i none)
variable {st : Stmt} {rest : List Stmt} {m n : En → R Fl} {e : Expr} {f : En → R D} {pos : Pos}
theorem ss_nil : PSs X [] (cS X.K w sNx) := pssI pss_nil fun D σ H h => by
  obtain ⟨F, ρ, fp, s, h⟩ := h
  exact h σ F H fp .refl s
theorem ss_cons (h1 : PS X st (cS X.K w m)) (h2 : PSs X rest (cS X.K w n)) : PSs X (st :: rest) (cS X.K w (sSeq m n)) := pssI (pss_cons h1 h2) fun D σ H h => by
  obtain ⟨F, ρ, fp, s, h⟩ := h
  exact ⟨F, ρ, fp, s, PstS.seq h⟩
theorem ss_one (h1 : PS X st (cS X.K w m)) : PSs X [st] (cS X.K w m) := pss_one h1
theorem s_expr (he : PE X e (cF X.K w f)) (hs : swapsWith e none pos.line X.env = pure false := by rfl) : PS X (.Expr e pos) (cS X.K w (sDrop f)) := psI (ps_expr he hs) fun D σ H h => by
  obtain ⟨F, ρ, fp, s, h⟩ := h
  exact ⟨F, ρ, fp, s, h.bnd fun d ρ1 F1 H1 fp1 t1 h1 => fun v s1 z => h1 σ F1 H1 fp1 .refl s1⟩
theorem s_doc {x j pos pos'} : PS X (.Expr (.Constant (.str x) j pos) pos') (cS X.K w sNx) := psI ps_doc fun D σ H h => by
  obtain ⟨F, ρ, fp, s, h⟩ := h
  exact h σ F H fp .refl s
theorem s_pass : PS X (.Pass pos) (cS X.K w sNx) := psI ps_pass fun D σ H h => by
  obtain ⟨F, ρ, fp, s, h⟩ := h
  exact h σ F H fp .refl s
theorem s_cont : PS X (.Continue pos) (cS X.K w fun ρ => .ok .ct ρ) := psI ps_continue fun D σ H h => by
  obtain ⟨F, ρ, fp, s, h⟩ := h
  exact h σ F H fp .refl s
theorem s_ret (he : PE X e (cF X.K w f)) : PS X (.Return (some e) pos) (cS X.K w (sRet f)) := psI (ps_ret he) fun D σ H h => by
  obtain ⟨F, ρ, fp, s, h⟩ := h
  exact ⟨F, ρ, fp, s, h.bnd fun d ρ1 F1 H1 fp1 t1 h1 => fun v s1 z => h1 v σ F1 H1 fp1 .refl s1 z⟩
theorem s_retO (he : PE X e (cO X.K w f)) : PS X (.Return (some e) pos) (cS X.K w (sRetO f)) := psI (ps_ret he) fun D σ H h => by
  obtain ⟨F, ρ, fp, s, h⟩ := h
  exact ⟨F, ρ, fp, s, h.bnd fun d ρ1 F1 H1 fp1 t1 h1 => fun v s1 => h1 v σ F1 H1 fp1 .refl s1⟩
theorem s_retN : PS X (.Return none pos) (cS X.K w fun ρ => .ok (.rt .non) ρ) := psI ps_retN fun D σ H h => by
  obtain ⟨F, ρ, fp, s, h⟩ := h
  exact h .non σ F H fp .refl s .non
theorem s_if {c : Expr} {a b : List Stmt} {t : En → R Bool} (hc : PT X c (cT X.K w t)) (ha : PSs X a (cS X.K w m)) (hb : PSs X b (cS X.K w n)) : PS X (.If c a b pos) (cS X.K w (sIfS t m n)) := psI (ps_if hc ha hb) fun D σ H h => by
  obtain ⟨F, ρ, fp, s, h⟩ := h
  refine ⟨F, ρ, fp, s, h.bnd fun c ρ1 F1 H1 fp1 t1 h1 => fun s1 => ?_⟩
  cases c with
  | true => exact iteT ⟨F1, ρ1, fp1, s1, (by simpa using h1)⟩
  | false => exact iteF ⟨F1, ρ1, fp1, s1, (by simpa using h1)⟩
/-- .. where neither branch is taken further than it should: code that never comes -/
theorem ss_never {sts : List Stmt} : PSs X sts (cS X.K w fun _ => .bad) := pssI pss_never fun D σ H h => by
  obtain ⟨F, ρ, fp, s, h⟩ := h
  exact h
theorem Sta.store {K : PySem.W.Frag} {β : V} {lk : Bool} {F H : Hp} {σ : St} {ρ : En} {fp : List Addr} {v : V} {d : D} (s : Sta K β lk F H σ ρ fp) (z : Fz K F v d) (i : Nat) : ∃ fp', Sta K β lk F H (σ.set i (some v)) (ρ.set i (some (.f d))) fp' ∧ Tr F H fp F H fp' := by
  obtain ⟨fp', sl, sub⟩ := s.sl.store z (i := i)
  exact ⟨fp', ⟨s.ex, sl, s.nd.sublist sub, fun a ha => s.own a (sub.subset ha), s.lock⟩, Tr.refl.sub fun a ha => sub.subset ha⟩
theorem Sta.storeO {K : PySem.W.Frag} {β : V} {lk : Bool} {F H : Hp} {σ : St} {ρ : En} {fp : List Addr} {v : V} {d : D} (s : Sta K β lk F H (some v :: σ) (some (.o d) :: ρ) fp) (i : Nat) : ∃ fp', Sta K β lk F H (σ.set i (some v)) (ρ.set i (some (.o d))) fp' ∧ Tr F H fp F H fp' := by
  cases hs : s.sl with
  | @ow a k vs ds σ ρ fp hw hz sl =>
    obtain ⟨fp', sl', h1, h2⟩ := sl.storeO hw hz (i := i)
    exact ⟨fp', ⟨s.ex, sl', h2 s.nd, fun b hb => s.own b (h1 b hb), s.lock⟩, Tr.refl.sub h1⟩
theorem Sta.tail {K : PySem.W.Frag} {β : V} {lk : Bool} {F H : Hp} {σ : St} {ρ : En} {fp : List Addr} (s : Sta K β lk F H σ ρ fp) (i : Nat) (x : Option V) : ∃ fp', Sta K β lk F H (σ.set i x) (ρ.set i none) fp' ∧ Tr F H fp F H fp' := by
  obtain ⟨fp', sl, sub⟩ := s.sl.drop (i := i) x
  exact ⟨fp', ⟨s.ex, sl, s.nd.sublist sub, fun a ha => s.own a (sub.subset ha), s.lock⟩, Tr.refl.sub fun a ha => sub.subset ha⟩
theorem s_set (i : Nat) {x : Str} {pos' : Pos} (he : PE X e (cF X.K w f)) (hN : X.N.Nodup) (hi : X.N[i]? = some x := by rfl) (hx : Loc X.env.scope x := by first | exact Or.inl rfl | exact Or.inr rfl) (hs : swapsWith e (some (.Name x pos')) pos.line X.env = pure false := by rfl)
    (hf : X.fn x = true ∨ X.env.scope.names.lookup x = some .local := by first | exact .inl rfl | exact .inr rfl) : PS X (.Assign [.Name x pos'] e pos) (cS X.K w (sSet i f)) := psI (ps_set hN hi hx he hs hf) fun D σ H h => by
  obtain ⟨F, ρ, fp, s, h⟩ := h
  refine ⟨F, ρ, fp, s, h.bnd fun d ρ1 F1 H1 fp1 t1 h1 => fun v s1 z => ?_⟩
  obtain ⟨fp2, s2, t2⟩ := s1.store z i
  exact h1 _ F1 H1 fp2 t2 s2
theorem s_setO (i : Nat) {x : Str} {pos' : Pos} (he : PE X e (cO X.K w f)) (hN : X.N.Nodup) (hi : X.N[i]? = some x := by rfl) (hx : Loc X.env.scope x := by first | exact Or.inl rfl | exact Or.inr rfl) (hs : swapsWith e (some (.Name x pos')) pos.line X.env = pure false := by rfl)
    (hf : X.fn x = true ∨ X.env.scope.names.lookup x = some .local := by first | exact .inl rfl | exact .inr rfl) : PS X (.Assign [.Name x pos'] e pos) (cS X.K w (sSetO i f)) := psI (ps_set hN hi hx he hs hf) fun D σ H h => by
  obtain ⟨F, ρ, fp, s, h⟩ := h
  refine ⟨F, ρ, fp, s, h.bnd fun d ρ1 F1 H1 fp1 t1 h1 => fun v s1 => ?_⟩
  obtain ⟨fp2, s2, t2⟩ := s1.storeO i
  exact h1 _ F1 H1 fp2 t2 s2

/-! ### targets -/
/-- but for the slots is the same -/
def Only (is : List Nat) (σ σ' : St) : Prop := ∀ vs : List Nat, (∀ i ∈ is, i ∈ vs) → wipe σ' vs = wipe σ vs
theorem only_set (σ : St) (i : Nat) (x : Option V) : Only [i] σ (σ.set i x) := by
  intro vs h
  have hi : i ∈ vs := h i (by simp)
  clear h
  induction vs with
  | nil => cases hi
  | cons v vs ih =>
    unfold wipe
    rcases List.mem_cons.mp hi with rfl | hi
    · by_cases hm : i ∈ vs
      · rw [ih hm]
      · clear ih hi
        have : ∀ vs : List Nat, (wipe (σ.set i x) vs).set i none = (wipe σ vs).set i none := by
          intro vs
          induction vs with
          | nil => unfold wipe; rw [List.set_set]
          | cons v vs ih =>
            unfold wipe
            by_cases e : v = i
            · rw [e, ih]
            · rw [List.set_comm _ _ e, ih, List.set_comm _ _ e]
        exact this vs
    · rw [ih hi]
theorem Only.refl (is : List Nat) (σ : St) : Only is σ σ := fun _ _ => rfl
theorem Only.trans {is js : List Nat} {σ σ1 σ2 : St} (a : Only is σ σ1) (b : Only js σ1 σ2) : Only (is ++ js) σ σ2 := fun vs h =>
  (b vs fun i hi => h i (List.mem_append_right _ hi)).trans (a vs fun i hi => h i (List.mem_append_left _ hi))
def cG (K : PySem.W.Frag) (w : Wd) (is : List Nat) (h : D → En → Option En) : TG := fun v σ H Q => ∃ F ρ fp d ρ', StaW K w F H σ ρ fp ∧ Fz K F v d ∧ h d ρ = some ρ' ∧ ∀ σ' fp', StaW K w F H σ' ρ' fp' → Tr F H fp F H fp' → Only is σ σ' → Q σ' H
def cGs (K : PySem.W.Frag) (w : Wd) (is : List Nat) (h : List D → En → Option En) : TGs := fun vs σ H Q => ∃ F ρ fp ds ρ', StaW K w F H σ ρ fp ∧ Fzs K F vs ds ∧ h ds ρ = some ρ' ∧ ∀ σ' fp', StaW K w F H σ' ρ' fp' → Tr F H fp F H fp' → Only is σ σ' → Q σ' H
theorem pgI {tg : Expr} {t t' : TG} (h : PG X tg t) (k : ∀ v σ H Q, t' v σ H Q → t v σ H Q) : PG X tg t' := ⟨fun pins s σ H v u Q I r q => h.run pins s σ H v u Q I r (k v σ H Q q)⟩
theorem pgsI {tg : List Expr} {t t' : TGs} (h : PGs X tg t) (k : ∀ v σ H Q, t' v σ H Q → t v σ H Q) : PGs X tg t' := ⟨fun pins s σ H v u Q I r q => h.run pins s σ H v u Q I r (k v σ H Q q)⟩
def hName (i : Nat) : D → En → Option En := fun d ρ => some (ρ.set i (some (.f d)))
def hNil : List D → En → Option En := fun ds ρ => match ds with | [] => some ρ | _ => none
def hCons (g : D → En → Option En) (gs : List D → En → Option En) : List D → En → Option En := fun ds ρ => match ds with
  | d :: ds => (g d ρ).bind (gs ds)
  | _ => none
def hTup (n : Nat) (gs : List D → En → Option En) : D → En → Option En := fun d ρ => match d with
  | .nd .tup ds => if ds.length = n then gs ds ρ else none
  | .nd .ktp ds => if ds.length = n then gs ds ρ else none
  | _ => none
theorem g_name (i : Nat) {x : Str} (hN : X.N.Nodup) (hi : X.N[i]? = some x := by rfl) (hx : Loc X.env.scope x := by first | exact Or.inl rfl | exact Or.inr rfl) (hf : X.fn x = true ∨ X.env.scope.names.lookup x = some .local := by first | exact .inl rfl | exact .inr rfl) : PG X (.Name x pos) (cG X.K w [i] (hName i)) :=
  pgI (pg_name hN hi hx hf) fun v σ H Q h => by
    obtain ⟨F, ρ, fp, d, ρ', s, z, e, k⟩ := h
    cases e
    obtain ⟨fp2, s2, t2⟩ := s.store z i
    exact k _ fp2 s2 t2 (only_set _ _ _)
theorem gs_nil : PGs X [] (cGs X.K w [] hNil) := pgsI pgs_nil fun v σ H Q h => by
  obtain ⟨F, ρ, fp, ds, ρ', s, z, e, k⟩ := h
  cases z with
  | nil => simp only [hNil] at e; cases e; exact ⟨rfl, k _ fp s .refl (.refl _ _)⟩
  | cons _ _ => simp [hNil] at e
theorem gs_cons {es : List Expr} {is js : List Nat} {g : D → En → Option En} {gs : List D → En → Option En} (h1 : PG X e (cG X.K w is g)) (h2 : PGs X es (cGs X.K w js gs)) (hs : (assignEach (e :: es) X.env).map (·.2) = assign e X.env :: (assignEach es X.env).map (·.2) := by rfl) : PGs X (e :: es) (cGs X.K w (is ++ js) (hCons g gs)) :=
  pgsI (pgs_cons h1 h2 hs) fun v σ H Q h => by
    obtain ⟨F, ρ, fp, ds, ρ', s, z, e, k⟩ := h
    cases z with
    | nil => simp [hCons] at e
    | cons z zs =>
      simp only [hCons] at e
      obtain ⟨ρ1, e1, e2⟩ := Option.bind_eq_some_iff.mp e
      exact ⟨_, _, rfl, F, ρ, fp, _, ρ1, s, z, e1, fun σ1 fp1 s1 t1 o1 => ⟨F, ρ1, fp1, _, ρ', s1, zs, e2, fun σ2 fp2 s2 t2 o2 => k σ2 fp2 s2 (t1.trans t2) (o1.trans o2)⟩⟩
theorem g_tup {es : List Expr} {k n : Nat} {is : List Nat} {gs : List D → En → Option En} (hc : X.calm = true) (h : PGs X es (cGs X.K w is gs)) (hn : (assignEach es X.env).length = n := by rfl) (hst : (assignEach es X.env).findIdx? (·.1) = none := by rfl) : PG X (.Tuple es k pos) (cG X.K w is (hTup n gs)) :=
  pgI (pg_tup hc h hn hst) fun v σ H Q h => by
    obtain ⟨F, ρ, fp, d, ρ', s, z, e, kk⟩ := h
    cases d with
    | nd kd ds =>
      obtain ⟨a, vs, rfl, hi, hs⟩ := z.node
      have hl := hs.length
      cases kd with
      | tup =>
        simp only [hTup] at e
        split at e
        · exact ⟨a, vs, rfl, SqT.of (s.ex _ _ hi.1), by omega, F, ρ, fp, ds, ρ', s, hs, e, kk⟩
        · cases e
      | ktp =>
        simp only [hTup] at e
        split at e
        · exact ⟨a, vs, rfl, sqT_mono s.ex hi.1, by omega, F, ρ, fp, ds, ρ', s, hs, e, kk⟩
        · cases e
      | _ => simp [hTup] at e
    | _ => simp [hTup] at e
/-- target = value -/
def sAsg (g : D → En → Option En) (f : En → R D) : En → R Fl := fun ρ => bnd (f ρ) fun d ρ1 => match g d ρ1 with | some ρ2 => .ok .nx ρ2 | none => .bad
theorem s_asg {tg : Expr} {is : List Nat} {g : D → En → Option En} (he : PE X e (cF X.K w f)) (hg : PG X tg (cG X.K w is g)) (hs : swapsWithSole [tg] e pos.line X.env = pure false := by rfl) (hw : swappedStores [tg] e X.env = pure none := by rfl)
    (h1 : (assignEach [tg] X.env).map (·.2) = [assign tg X.env] := by rfl) : PS X (.Assign [tg] e pos) (cS X.K w (sAsg g f)) := psI (ps_asg he hg hs hw h1) fun D σ H h => by
  obtain ⟨F, ρ, fp, s, h⟩ := h
  refine ⟨F, ρ, fp, s, h.bnd fun d ρ1 F1 H1 fp1 t1 h1 => fun v s1 z => ?_⟩
  cases q : g d ρ1 with
  | none => rw [q] at h1; exact h1.elim
  | some ρ2 =>
    rw [q] at h1
    exact ⟨F1, ρ1, fp1, d, ρ2, s1, z, q, fun σ2 fp2 s2 t2 _ => h1 σ2 F1 H1 fp2 t2 s2⟩
/-- a, b = x, y -/
def sPar (i j : Nat) (f : En → R (List D)) : En → R Fl := fun ρ => bnd (f ρ) fun ds ρ1 => match ds with | [d, e] => .ok .nx ((ρ1.set i (some (.f d))).set j (some (.f e))) | _ => .bad
theorem s_par (i j : Nat) {x y : Str} {a b : Expr} {fs : En → R (List D)} {px py pt : Pos} {kt k2 pt2} (hc : X.calm = true) (hN : X.N.Nodup) (ha : PA X [a, b] (cA X.K w fs)) (hi : X.N[i]? = some x := by rfl) (hj : X.N[j]? = some y := by rfl) (hij : i ≠ j := by decide)
    (hx : X.env.scope.names.lookup x = some .local := by rfl) (hy : X.env.scope.names.lookup y = some .local := by rfl)
    (hw : swappedStores [.Tuple [.Name x px, .Name y py] kt pt] (.Tuple [a, b] k2 pt2) X.env = pure (some [x, y]) := by rfl)
    (hs : swapsWithSole [.Tuple [.Name x px, .Name y py] kt pt] (.Tuple [a, b] k2 pt2) pos.line X.env = pure false := by rfl) :
    PS X (.Assign [.Tuple [.Name x px, .Name y py] kt pt] (.Tuple [a, b] k2 pt2) pos) (cS X.K w (sPar i j fs)) := psI (ps_par hc hN hi hj hij hx hy ha hw hs) fun D σ H h => by
  obtain ⟨F, ρ, fp, s, h⟩ := h
  refine ⟨F, ρ, fp, s, h.bnd fun ds ρ1 F1 H1 fp1 t1 h1 => fun vs s1 z => ?_⟩
  cases z with
  | nil => exact h1.elim
  | cons z1 z => cases z with
    | nil => exact h1.elim
    | cons z2 z => cases z with
      | nil =>
        obtain ⟨fp2, s2, t2⟩ := s1.store z1 i
        obtain ⟨fp3, s3, t3⟩ := s2.store z2 j
        exact ⟨_, _, rfl, h1 _ F1 H1 fp3 (t2.trans t3) s3⟩
      | cons _ _ => exact h1.elim
/-- name op= e, frozen values -/
def sAug (i : Nat) (g : D → D → Option D) (f : En → R D) : En → R Fl := fun ρ => bnd (sVar i ρ) fun x ρ1 => bnd (f ρ1) fun y ρ2 => bnd (lift (g x y) ρ2) fun d ρ3 => .ok .nx (ρ3.set i (some (.f d)))
theorem sVar_eq {i : Nat} {ρ : En} : sVar i ρ = lift (match ρ[i]? with | some (some (.f d)) => some d | _ => none) ρ := by
  unfold sVar
  split <;> simp_all [lift]
theorem s_aug (i : Nat) {x : Str} {op : Operator} {r : R2} {g : D → D → Option D} {pos' : Pos} (ho : PIp X op r) (hr : RB X.K r g) (he : PE X e (cF X.K w f)) (hN : X.N.Nodup) (hi : X.N[i]? = some x := by rfl) (hx : Loc X.env.scope x := by first | exact Or.inl rfl | exact Or.inr rfl)
    (hf : X.fn x = true ∨ X.env.scope.names.lookup x = some .local := by first | exact .inl rfl | exact .inr rfl) : PS X (.AugAssign (.Name x pos') op e pos) (cS X.K w (sAug i g f)) := psI (ps_aug hN hi hx he ho hf) fun D σ H h => by
  obtain ⟨F, ρ, fp, s, h⟩ := h
  unfold sAug at h
  rw [sVar_eq] at h
  cases e0 : ρ[i]? with
  | none => rw [e0] at h; exact h.elim
  | some o =>
    rw [e0] at h
    cases o with
    | none => exact h.elim
    | some x =>
      cases x with
      | o d => exact h.elim
      | b d => exact h.elim
      | f dx =>
        obtain ⟨v, ev, zx⟩ := s.sl.getF e0
        refine ⟨v, ev, F, ρ, fp, s, PstS.bnd (e := f ρ) h fun dy ρ2 F2 H2 fp2 t2 h2 => fun y s2 zy => ?_⟩
        have h3 : ∃ d, g dx dy = some d ∧ PstS X.K w F2 H2 fp2 (.ok .nx (ρ2.set i (some (.f d)))) D := by
          cases q : g dx dy with
          | none => rw [q] at h2; exact h2.elim
          | some d => rw [q] at h2; exact ⟨d, rfl, h2⟩
        obtain ⟨d, q, h3⟩ := h3
        refine hr F2 H2 v y dx dy d _ s2.ex (zx.mono t2.ex) (.fz zy) q (fun v' z' => ?_) (fun p k vs ds ho' e' hp em hs => ?_)
        · obtain ⟨fp3, s3, t3⟩ := s2.store z' i
          exact h3 _ F2 H2 fp3 t3 s3
        · subst e'
          obtain ⟨s3, t3, z3⟩ := s2.new hp em hs
          obtain ⟨fp4, s4, t4⟩ := s3.store z3 i
          exact h3 _ _ _ fp4 (t3.trans t4) s4
end
end Y

set_option Elab.async false
set_option linter.all false
set_option maxRecDepth 100000
set_option maxHeartbeats 2000000
/-! What changes: owned names; methods, stores. -/
namespace Y
open PySem L2
def ownD (i : Nat) (ρ : En) : Option D := match ρ[i]? with
  | some (some (.o d)) => some d
  | some (some (.b d)) => some d
  | _ => none
def chg (i : Nat) (d : D) (ρ : En) : En := match ρ[i]? with
  | some (some (.b _)) => ρ.set i (some (.b d))
  | _ => ρ.set i (some (.o d))
theorem Sta.change {K : PySem.W.Frag} {β : V} {lk : Bool} {F H : Hp} {σ : St} {ρ : En} {fp : List Addr} {i : Nat} {d : D} (s : Sta K β lk F H σ ρ fp) (e : ownD i ρ = some d) :
    ∃ a k vs ds, d = .nd k ds ∧ σ[i]? = some (some (.ref a)) ∧ ItemW H a k vs ∧ Fzs K F vs ds ∧ a ∈ fp ∧ ∀ k' vs' ds' ho, mkHO k' vs' = some ho → owK k' = true → Fzs K F vs' ds' →
      Sta K β lk F (upd H a ho) σ (chg i (.nd k' ds') ρ) fp ∧ Tr F H fp F (upd H a ho) fp := by
  have main : ∀ mk : D → S, (mk = S.o ∨ mk = S.b) → ρ[i]? = some (some (mk d)) → (∀ d', chg i d' ρ = ρ.set i (some (mk d'))) → ∃ a k vs ds, d = .nd k ds ∧ σ[i]? = some (some (.ref a)) ∧ ItemW H a k vs ∧ Fzs K F vs ds ∧ a ∈ fp ∧ ∀ k' vs' ds' ho, mkHO k' vs' = some ho → owK k' = true → Fzs K F vs' ds' →
      Sta K β lk F (upd H a ho) σ (chg i (.nd k' ds') ρ) fp ∧ Tr F H fp F (upd H a ho) fp := by
    intro mk hm e1 hc
    obtain ⟨a, k, vs, ds, fp1, fp2, h1, h2, h3, h4, h5, h6, h7, h8, h9⟩ := s.sl.own mk hm e1
    subst h2
    obtain ⟨m1, m2, m3⟩ := mid s.nd
    have n2 : F a = none := s.own a (by simp)
    refine ⟨a, k, vs, ds, h1, h3, h4, h5, by simp, fun k' vs' ds' ho em ow hz => ⟨⟨same_updR s.ex n2, ?_, s.nd, s.own, s.lock⟩, ⟨Same.refl _, fun b o q n => ?_, fun b q => q.elim .inl fun ⟨q1, q2⟩ => absurd q1 q2⟩⟩⟩
    · rw [hc]
      exact h8 F _ k' vs' ds' (Same.refl _) (fun b hb o q => by rw [upd_ne (fun (z : b = a) => m1 (z ▸ hb))]; exact q) (mkW em ow upd_same) hz
    · rw [upd_ne (fun (z : b = a) => n (by rw [z]; simp))]; exact q
  unfold ownD at e
  split at e
  · rename_i d' e1
    cases e
    exact main S.o (.inl rfl) e1 fun d' => by unfold chg; rw [e1]
  · rename_i d' e1
    cases e
    exact main S.b (.inr rfl) e1 fun d' => by unfold chg; rw [e1]
  · cases e
def isLst : D → Bool
  | .nd .lst _ => true
  | _ => false
def ownL (i : Nat) (ρ : En) : Option D := (ownD i ρ).bind fun d => if isLst d = true then some d else none
/-- a method that changes its receiver -/
def MtO (K : PySem.W.Frag) (r : V → List V → Hp → VK → Prop) (g : D → List D → Option (D × D)) : Prop := ∀ F H a k vs ds args das d' res Q, Same F H → ItemW H a k vs → Fzs K F vs ds → Fzs K F args das → g (.nd k ds) das = some (d', res) →
  (∀ k' vs' ds' ho v, d' = .nd k' ds' → owK k' = true → mkHO k' vs' = some ho → Fzs K F vs' ds' → Fz K F v res → Q v (upd H a ho)) → r (.ref a) args H Q
def sMeth (i : Nat) (g : D → List D → Option (D × D)) (f : En → R (List D)) : En → R D := fun ρ => bnd (lift (ownL i ρ) ρ) fun _ _ => bnd (f ρ) fun ds ρ1 => match ownD i ρ1 with
  | some d0 => match g d0 ds with
    | some (d', res) => .ok res (chg i d' ρ1)
    | none => .bad
  | none => .bad
theorem own_bnd {K : PySem.W.Frag} {w : Wd} {F H : Hp} {fp : List Addr} {σ : St} {ρ : En} {i : Nat} {β : Type} {g : D → En → R β} {N : β → En → Hp → Hp → List Addr → Prop} (h : Pst K w F H fp σ (bnd (lift (ownL i ρ) ρ) g) N) : ∃ ds, ownD i ρ = some (.nd .lst ds) ∧ Pst K w F H fp σ (g (.nd .lst ds) ρ) N := by
  unfold ownL at h
  cases q : ownD i ρ with
  | none => rw [q] at h; exact h.elim
  | some d =>
    rw [q] at h
    cases d with
    | nd k ds =>
      cases k with
      | lst => exact ⟨ds, rfl, h⟩
      | _ => exact h.elim
    | _ => exact h.elim
section
variable {X : Cx} {w : Wd} {e : Expr} {es : List Expr} {fs : En → R (List D)} {x name : Str} {p apos cpos pos : Pos} {id : String} {r : V → List V → Hp → VK → Prop} {g : D → List D → Option (D × D)}
theorem meth_end {K : PySem.W.Frag} {F H : Hp} {fp : List Addr} {σ : St} {ρ1 : En} {a : Addr} {i : Nat} {vs : List V} {ds : List D} {Q : VK} (hr : MtO K r g) (s1 : StaW K w F H σ ρ1 fp) (z : Fzs K F vs ds) (ev : σ[i]? = some (some (.ref a)))
    (h1 : Pst K w F H fp σ (match ownD i ρ1 with | some d0 => (match g d0 ds with | some (d', res) => R.ok res (chg i d' ρ1) | none => R.bad) | none => R.bad) (nF K w σ Q)) : r (.ref a) vs H Q := by
  cases q : ownD i ρ1 with
  | none => rw [q] at h1; exact h1.elim
  | some d0 =>
    rw [q] at h1
    obtain ⟨a2, k2, vs2, ds2, rfl, ev2, hw2, hz2, _, cont⟩ := s1.change q
    rw [ev] at ev2
    cases ev2
    cases q2 : g (.nd k2 ds2) ds with
    | none => simp only [q2] at h1; exact h1.elim
    | some pr =>
      obtain ⟨d', res⟩ := pr
      simp only [q2] at h1
      refine hr F H a k2 vs2 ds2 vs ds d' res Q s1.ex hw2 hz2 z q2 fun k' vs' ds' ho v ed ow em hz zr => ?_
      subst ed
      obtain ⟨s2, t2⟩ := cont k' vs' ds' ho em ow hz
      exact h1 _ _ _ t2 v s2 zr
theorem d_meth (i : Nat) (slot : Slot "list" name id) (hty : typeOf (.builtin id) = pure (.type "method_descriptor")) (hm : MtR X id r) (hr : MtO X.K r g) (ha : PA X (e :: es) (cA X.K w fs))
    (hN : X.N[i]? = some x := by rfl) (hv : Vis X.env.scope x := by first | exact Or.inl rfl | exact Or.inr (Or.inl rfl) | exact Or.inr (Or.inr rfl)) (hd : (x == ("__debug__" : Str)) = false := by decide) (hcd : (x == ("__classdict__" : Str)) = false := by decide)
    (hbase : attributeBase (.Name x p) name X.env (eval (.Name x p) X.env) = eval (.Name x p) X.env := by rfl)
    (hfew : ((backTo cpos (starEach (e :: es) X.env)).all (fun x => !x.1) && (backToKw cpos (keywordEach [] X.env)).all (fun x => x.1.isSome)
      && decide ((e :: es).length + ([] : List Keyword).length + (if ([] : List Keyword).isEmpty then 0 else 1) < 30)) = true := by rfl)
    (hline : (apos.endLine == cpos.line) = true := by rfl) (hs : starEach (e :: es) X.env = (false, eval e X.env) :: starEach es X.env := by rfl) (hplain : (backTo cpos (starEach es X.env)).any (·.1) = false := by rfl) :
    PE X (.Call (.Attribute (.Name x p) name apos) (e :: es) [] cpos) (cF X.K w (sMeth i g fs)) :=
  peI (pe_bm PySem.F.plainAttrs_list slot hty hm (pe_var hN hv hd hcd) ha hbase hfew hline hs hplain) fun σ H Q h => by
    obtain ⟨F, ρ, fp, s, h⟩ := h
    obtain ⟨ds, e0, h⟩ := own_bnd h
    obtain ⟨a, k, vs, ds', ee, ev, hw, hz, _, _⟩ := s.change e0
    cases ee
    exact ⟨.ref a, ev, .inl ⟨rfl, vs, SqL.of hw.1⟩, F, ρ, fp, s, h.bnd fun das ρ1 F1 H1 fp1 t1 h1 => fun avs s1 z => meth_end hr s1 z ev h1⟩
/-- without arguments -/
theorem d_meth0 (i : Nat) (slot : Slot "list" name id) (hty : typeOf (.builtin id) = pure (.type "method_descriptor")) (hm : MtR X id r) (hr : MtO X.K r g)
    (hN : X.N[i]? = some x := by rfl) (hv : Vis X.env.scope x := by first | exact Or.inl rfl | exact Or.inr (Or.inl rfl) | exact Or.inr (Or.inr rfl)) (hd : (x == ("__debug__" : Str)) = false := by decide) (hcd : (x == ("__classdict__" : Str)) = false := by decide)
    (hbase : attributeBase (.Name x p) name X.env (eval (.Name x p) X.env) = eval (.Name x p) X.env := by rfl) (hline : (apos.endLine == cpos.line) = true := by rfl) :
    PE X (.Call (.Attribute (.Name x p) name apos) [] [] cpos) (cF X.K w (sMeth i g sNil)) :=
  peI (pe_bm0 PySem.F.plainAttrs_list slot hty hm (pe_var hN hv hd hcd) hbase hline) fun σ H Q h => by
    obtain ⟨F, ρ, fp, s, h⟩ := h
    obtain ⟨ds, e0, h⟩ := own_bnd h
    obtain ⟨a, k, vs, ds', ee, ev, hw, hz, _, _⟩ := s.change e0
    cases ee
    exact ⟨.ref a, ev, .inl ⟨rfl, vs, SqL.of hw.1⟩, meth_end hr s .nil ev h⟩
/-! ### append, insert, pop -/
def gAppend : D → List D → Option (D × D)
  | .nd .lst ds, [d] => if ds.length < sizeLine then some (.nd .lst (ds ++ [d]), .non) else none
  | _, _ => none
theorem mo_append {K : PySem.W.Frag} : MtO K rAppend gAppend := by
  intro F H a k vs ds args das d' res Q ex hw hz za e q
  cases k with
  | lst =>
    cases za with
    | nil => simp [gAppend] at e
    | cons z1 z => cases z with
      | nil =>
        simp only [gAppend] at e
        split at e
        · rename_i c
          cases e
          have c' : vs.length < sizeLine := by rw [hz.length]; exact c
          exact ⟨a, vs, _, rfl, rfl, hw.1, c', q .lst _ _ _ _ rfl rfl (if_pos (by rw [List.length_append]; exact c')) (hz.append (.cons z1 .nil)) .non⟩
        · cases e
      | cons _ _ => simp [gAppend] at e
  | _ => first | exact hw.elim | simp [gAppend] at e
def gInsert : D → List D → Option (D × D)
  | .nd .lst ds, [.int i, d] => if ds.length < sizeLine ∧ 0 ≤ i ∧ i < 2 ^ 63 then some (.nd .lst (ds.take i.toNat ++ [d] ++ ds.drop i.toNat), .non) else none
  | _, _ => none
def rInsert : V → List V → Hp → VK → Prop := fun x vs H Q => ∃ (l : Addr) (xs : List V) (i : Int) (y : V), x = .ref l ∧ vs = [.int i, y] ∧ H l = some (.lst xs) ∧ xs.length < sizeLine ∧ 0 ≤ i ∧ i < 2 ^ 63 ∧ Q .non (upd H l (.lst (xs.take i.toNat ++ [y] ++ xs.drop i.toNat)))
theorem mo_insert {K : PySem.W.Frag} : MtO K rInsert gInsert := by
  intro F H a k vs ds args das d' res Q ex hw hz za e q
  cases k with
  | lst =>
    cases za with
    | nil => simp [gInsert] at e
    | @cons v1 d1 _ _ z1 z => cases z with
      | nil => cases d1 <;> simp [gInsert] at e
      | cons z2 z => cases z with
        | nil =>
          cases d1 with
          | int i =>
            simp only [gInsert] at e
            split at e
            · rename_i c
              cases e
              have c' : vs.length < sizeLine := by rw [hz.length]; exact c.1
              have hl : ∀ y : V, (vs.take i.toNat ++ [y] ++ vs.drop i.toNat : List V).length ≤ sizeLine := fun y => by
                rw [List.length_append, List.length_append, List.length_take, List.length_drop, List.length_singleton]; omega
              exact ⟨a, vs, i, _, rfl, by rw [z1.int_inv], hw.1, c', c.2.1, c.2.2, q .lst _ _ _ _ rfl rfl (if_pos (hl _)) (((hz.take _).append (.cons z2 .nil)).append (hz.drop _)) .non⟩
            · cases e
          | _ => simp [gInsert] at e
        | cons _ _ => cases d1 <;> simp [gInsert] at e
  | _ => first | exact hw.elim | simp [gInsert] at e
def gPop : D → List D → Option (D × D)
  | .nd .lst ds, [] => match ds[ds.length - 1]? with
    | some d => some (.nd .lst ds.dropLast, d)
    | none => none
  | _, _ => none
theorem Fzs.dropLast {K : PySem.W.Frag} {F : Hp} {vs : List V} {ds : List D} (h : Fzs K F vs ds) : Fzs K F vs.dropLast ds.dropLast := by
  rw [List.dropLast_eq_take, List.dropLast_eq_take, h.length]
  exact h.take _
theorem mo_pop {K : PySem.W.Frag} : MtO K rPop gPop := by
  intro F H a k vs ds args das d' res Q ex hw hz za e q
  cases k with
  | lst =>
    cases za with
    | nil =>
      simp only [gPop] at e
      cases q0 : ds[ds.length - 1]? with
      | none => rw [q0] at e; cases e
      | some d =>
        rw [q0] at e
        cases e
        obtain ⟨v, h1, h2⟩ := hz.get q0
        exact ⟨a, vs, v, rfl, rfl, hw.1, by rw [hz.length]; exact h1, q .lst _ _ _ _ rfl rfl (if_pos (by rw [List.length_dropLast]; exact Nat.le_trans (Nat.sub_le _ _) hw.2)) hz.dropLast h2⟩
    | cons _ _ => simp [gPop] at e
  | _ => first | exact hw.elim | simp [gPop] at e
def gPopAt : D → List D → Option (D × D)
  | .nd .lst ds, [.int i] => if -(2 ^ 63) ≤ i ∧ i < 2 ^ 63 then (match seqIndex? i ds.length with
    | some k => (match ds[k]? with
      | some d => some (.nd .lst (ds.eraseIdx k), d)
      | none => none)
    | none => none) else none
  | _, _ => none
theorem mo_popAt {K : PySem.W.Frag} : MtO K rPopAt gPopAt := by
  intro F H a k vs ds args das d' res Q ex hw hz za e q
  cases k with
  | lst =>
    cases za with
    | nil => simp [gPopAt] at e
    | @cons v1 d1 _ _ z1 z => cases z with
      | cons _ _ => cases d1 <;> simp [gPopAt] at e
      | nil =>
        cases d1 with
        | int i =>
          simp only [gPopAt] at e
          split at e
          · rename_i c
            cases q0 : seqIndex? i ds.length with
            | none => rw [q0] at e; cases e
            | some j =>
              rw [q0] at e
              cases q1 : ds[j]? with
              | none => simp only [q1] at e; cases e
              | some d =>
                simp only [q1] at e
                cases e
                obtain ⟨v, h1, h2⟩ := hz.get q1
                exact ⟨a, vs, i, j, v, rfl, by rw [z1.int_inv], hw.1, c.1, c.2, by rw [hz.length]; exact q0, h1, q .lst _ _ _ _ rfl rfl (if_pos (Nat.le_trans (len_erase _ _) hw.2)) (hz.eraseIdx j) h2⟩
          · cases e
        | _ => simp [gPopAt] at e
  | _ => first | exact hw.elim | simp [gPopAt] at e

/-! ### xs += ys, x[i] = e -/
def sAugL (i : Nat) (f : En → R D) : En → R Fl := fun ρ => bnd (lift (ownL i ρ) ρ) fun _ _ => bnd (f ρ) fun y ρ1 => match ownD i ρ1 with
  | some d0 => match dCat d0 y with
    | some d' => .ok .nx (chg i d' ρ1)
    | none => .bad
  | none => .bad
variable {f : En → R D}
theorem own_bndS {K : PySem.W.Frag} {F H : Hp} {fp : List Addr} {ρ : En} {i : Nat} {g : D → En → R Fl} {D : Ends} (h : PstS K w F H fp (bnd (lift (ownL i ρ) ρ) g) D) : ∃ ds, ownD i ρ = some (.nd .lst ds) ∧ PstS K w F H fp (g (.nd .lst ds) ρ) D := by
  unfold ownL at h
  cases q : ownD i ρ with
  | none => rw [q] at h; exact h.elim
  | some d =>
    rw [q] at h
    cases d with
    | nd k ds =>
      cases k with
      | lst => exact ⟨ds, rfl, h⟩
      | _ => exact h.elim
    | _ => exact h.elim
theorem set_same {σ : St} {i : Nat} {v : V} (h : σ[i]? = some (some v)) : σ.set i (some v) = σ := by
  obtain ⟨hi, e⟩ := List.getElem?_eq_some_iff.mp h
  rw [← e]
  exact List.set_getElem_self hi
theorem s_augL (i : Nat) {pos' : Pos} (he : PE X e (cF X.K w f)) (hN : X.N.Nodup) (hi : X.N[i]? = some x := by rfl) (hx : Loc X.env.scope x := by first | exact Or.inl rfl | exact Or.inr rfl)
    (hf : X.fn x = true ∨ X.env.scope.names.lookup x = some .local := by first | exact .inl rfl | exact .inr rfl) : PS X (.AugAssign (.Name x pos') .Add e pos) (cS X.K w (sAugL i f)) := psI (ps_aug hN hi hx he iop_ext hf) fun D σ H h => by
  obtain ⟨F, ρ, fp, s, h⟩ := h
  obtain ⟨ds0, e0, h⟩ := own_bndS h
  obtain ⟨a, k, vs, ds', ee, ev, hw, hz, _, _⟩ := s.change e0
  cases ee
  refine ⟨.ref a, ev, F, ρ, fp, s, PstS.bnd (e := f ρ) h fun dy ρ1 F1 H1 fp1 t1 h1 => fun y s1 zy => ?_⟩
  cases q : ownD i ρ1 with
  | none => simp only [q] at h1; exact h1.elim
  | some d0 =>
    simp only [q] at h1
    obtain ⟨a2, k2, vs2, ds2, ee2, ev2, hw2, hz2, _, cont⟩ := s1.change q
    subst ee2
    rw [ev] at ev2
    cases ev2
    cases q2 : dCat (.nd k2 ds2) dy with
    | none => simp only [q2] at h1; exact h1.elim
    | some d' =>
      simp only [q2] at h1
      cases k2 with
      | lst =>
        cases dy with
        | nd k3 ds3 =>
          cases k3 with
          | lst =>
            simp only [dCat] at q2
            split at q2
            · rename_i c
              cases q2
              obtain ⟨b, ws, rfl, hb, gs⟩ := zy.node
              have c' : vs2.length + ws.length ≤ sizeLine := by rw [hz2.length, gs.length]; exact c
              obtain ⟨s2, t2⟩ := cont .lst (vs2 ++ ws) (ds2 ++ ds3) _ (if_pos (by rw [List.length_append]; exact c')) rfl (hz2.append gs)
              refine ⟨a, b, vs2, ws, rfl, rfl, hw2.1, s1.ex _ _ hb.1, c', ?_⟩
              show D.nx (σ.set i (some (.ref a))) _
              rw [set_same ev]
              exact h1 σ _ _ _ t2 s2
            · cases q2
          | _ => simp [dCat] at q2
        | _ => simp [dCat] at q2
      | _ => simp [dCat] at q2

/-! ### x[k] = e -/
def gSetL : D → D → D → Option D
  | .nd .lst ds, .int k, d => match ixN ds.length k with
    | some j => some (.nd .lst (ds.set j d))
    | none => none
  | _, _, _ => none
def gSetD : D → D → D → Option D
  | .nd (.dK ks) ds, k, d => match keyD k with
    | some q => if ks.length < sizeLine then some (.nd (.dK (putKs ks q)) (putDs ks ds q d)) else none
    | none => none
  | .nd (.dT ks) ds, .nd .tup xs, d => match keysD xs with
    | some q => if ks.length < sizeLine then some (.nd (.dT (putKs ks q)) (putDs ks ds q d)) else none
    | none => none
  | _, _, _ => none
/-- by g -/
def sPut (i : Nat) (g : D → D → D → Option D) (fk fe : En → R D) : En → R Fl := fun ρ => bnd (fe ρ) fun d ρ1 => bnd (lift (ownD i ρ1) ρ1) fun _ _ => bnd (fk ρ1) fun k ρ2 => match ownD i ρ2 with
  | some d0 => match g d0 k d with
    | some d' => .ok .nx (chg i d' ρ2)
    | none => .bad
  | none => .bad
variable {fk : En → R D} {k : Expr}
theorem keyL_of {K : PySem.W.Frag} {F : Hp} {v : V} {d : D} {q : Key} (z : Fz K F v d) (e : keyD d = some q) : keyL q = true := by
  unfold keyD at e
  split at e
  · cases e; rfl
  · cases e; simpa [keyL] using z.str_inv.2
  · cases e
theorem keysL_of {K : PySem.W.Frag} {F : Hp} : ∀ {vs : List V} {ds : List D} {ks : List Key}, Fzs K F vs ds → keysD ds = some ks → keysL ks = true
  | _, _, ks, .nil, e => by simp [keysD] at e; subst e; rfl
  | _, _, ks, .cons (d := d) (ds := ds) h hs, e => by
    unfold keysD at e
    split at e
    · rename_i k ks' e1 e2
      cases e
      have h1 := keyL_of h e1
      have h2 := keysL_of hs e2
      simp only [keysL] at h2
      simp [keysL, h1, h2]
    · cases e
theorem putKs_L {ks : List Key} {q : Key} (h : keysL ks = true) (hq : keyL q = true) : keysL (putKs ks q) = true := by
  unfold putKs
  split
  · exact h
  · simp only [keysL] at h
    simp [keysL, h, hq]
theorem putKss_L {ks : List (List Key)} {q : List Key} (h : keyssL ks = true) (hq : keysL q = true) : keyssL (putKs ks q) = true := by
  unfold putKs
  split
  · exact h
  · simp only [keyssL] at h
    simp [keyssL, h, hq]
theorem put_mid {K : PySem.W.Frag} {F H : Hp} {fp : List Addr} {ρ1 : En} {d : D} {g : D → D → D → Option D} {D : Ends} {i : Nat} (h : PstS K w F H fp (bnd (lift (ownD i ρ1) ρ1) fun _ _ => bnd (fk ρ1) fun k ρ2 => match ownD i ρ2 with
  | some d0 => (match g d0 k d with
    | some d' => .ok .nx (chg i d' ρ2)
    | none => .bad)
  | none => .bad) D) : ∃ d0, ownD i ρ1 = some d0 ∧ PstS K w F H fp (bnd (fk ρ1) fun k ρ2 => match ownD i ρ2 with
  | some d0 => (match g d0 k d with
    | some d' => .ok .nx (chg i d' ρ2)
    | none => .bad)
  | none => .bad) D := by
  cases q : ownD i ρ1 with
  | none => rw [q] at h; exact h.elim
  | some d0 => rw [q] at h; exact ⟨d0, rfl, h⟩
theorem put_end {K : PySem.W.Frag} {F H : Hp} {fp : List Addr} {σ : St} {ρ2 : En} {d dk : D} {g : D → D → D → Option D} {D : Ends} {i : Nat} {a : Addr} (s : StaW K w F H σ ρ2 fp) (ev : σ[i]? = some (some (.ref a))) (h : PstS K w F H fp (match ownD i ρ2 with
  | some d0 => (match g d0 dk d with
    | some d' => R.ok Fl.nx (chg i d' ρ2)
    | none => .bad)
  | none => .bad) D) : ∃ k vs ds d', ItemW H a k vs ∧ Fzs K F vs ds ∧ g (.nd k ds) dk d = some d' ∧ ∀ k' vs' ds' ho, d' = .nd k' ds' → mkHO k' vs' = some ho → owK k' = true → Fzs K F vs' ds' → D.nx σ (upd H a ho) := by
  cases q : ownD i ρ2 with
  | none => simp only [q] at h; exact h.elim
  | some d0 =>
    simp only [q] at h
    obtain ⟨a2, k2, vs2, ds2, ee2, ev2, hw2, hz2, _, cont⟩ := s.change q
    subst ee2
    rw [ev] at ev2
    cases ev2
    cases q2 : g (.nd k2 ds2) dk d with
    | none => simp only [q2] at h; exact h.elim
    | some d' =>
      simp only [q2] at h
      refine ⟨k2, vs2, ds2, d', hw2, hz2, q2, fun k' vs' ds' ho ed em ow hz => ?_⟩
      subst ed
      obtain ⟨s2, t2⟩ := cont k' vs' ds' ho em ow hz
      exact h σ _ _ _ t2 s2
theorem s_setL (i : Nat) {pos' : Pos} (he : PE X e (cF X.K w f)) (hk : PE X k (cF X.K w fk)) (hN : X.N[i]? = some x := by rfl) (hv : Vis X.env.scope x := by first | exact Or.inl rfl | exact Or.inr (Or.inl rfl) | exact Or.inr (Or.inr rfl)) (hd : (x == ("__debug__" : Str)) = false := by decide) (hcd : (x == ("__classdict__" : Str)) = false := by decide)
    (ha : ∀ v, assign (.Subscript (.Name x p) k pos') X.env v = (do
      let ov ← holding [v] (eval (.Name x p) X.env)
      let iv ← holding [v, ov] (eval k X.env)
      standAt pos'
      holding [v, ov, iv] (setItem ov iv v)
      release [v, ov, iv] []) := by intro _; rfl)
    (hs : swapsWithSole [.Subscript (.Name x p) k pos'] e pos.line X.env = pure false := by rfl) (hw : swappedStores [.Subscript (.Name x p) k pos'] e X.env = pure none := by rfl)
    (h1 : (assignEach [.Subscript (.Name x p) k pos'] X.env).map (·.2) = [assign (.Subscript (.Name x p) k pos') X.env] := by rfl) :
    PS X (.Assign [.Subscript (.Name x p) k pos'] e pos) (cS X.K w (sPut i gSetL fk f)) := psI (ps_asg he (pg_sub (pe_var hN hv hd hcd) hk set_list ha) hs hw h1) fun D σ H h => by
  obtain ⟨F, ρ, fp, s, h⟩ := h
  refine ⟨F, ρ, fp, s, PstS.bnd (e := f ρ) h fun d ρ1 F1 H1 fp1 t1 h1 => fun v s1 zv => ?_⟩
  obtain ⟨d0, e0, h2⟩ := put_mid h1
  obtain ⟨a, _, _, _, _, ev, _, _, _, _⟩ := s1.change e0
  refine ⟨.ref a, ev, F1, ρ1, fp1, s1, PstS.bnd (e := fk ρ1) h2 fun dk ρ2 F2 H2 fp2 t2 h3 => fun y s2 zy => ?_⟩
  obtain ⟨kd, vs, ds, d', hw, hz, ge, cont⟩ := put_end s2 ev h3
  cases kd with
  | lst =>
    cases dk with
    | int n =>
      simp only [gSetL] at ge
      split at ge
      · rename_i j ej
        cases ge
        rw [zy.int_inv]
        refine ⟨a, vs, n, j, rfl, rfl, hw.1, by rw [hz.length]; exact ej, ?_⟩
        exact cont .lst _ _ _ rfl (if_pos (by rw [List.length_set]; exact hw.2)) rfl (hz.set (zv.mono t2.ex) j)
      · cases ge
    | _ => simp [gSetL] at ge
  | _ => simp [gSetL] at ge
theorem s_setD (i : Nat) {pos' : Pos} (hu : X.A.units + 1 < cLine) (he : PE X e (cF X.K w f)) (hk : PE X k (cF X.K w fk)) (hN : X.N[i]? = some x := by rfl) (hv : Vis X.env.scope x := by first | exact Or.inl rfl | exact Or.inr (Or.inl rfl) | exact Or.inr (Or.inr rfl)) (hd : (x == ("__debug__" : Str)) = false := by decide) (hcd : (x == ("__classdict__" : Str)) = false := by decide)
    (hs : swapsWith e (some (.Subscript (.Name x p) k pos')) pos.line X.env = pure false := by rfl) :
    PS X (.Assign [.Subscript (.Name x p) k pos'] e pos) (cS X.K w (sPut i gSetD fk f)) := psI (ps_dput hu (pe_var hN hv hd hcd) hk he hs) fun D σ H h => by
  obtain ⟨F, ρ, fp, s, h⟩ := h
  refine ⟨F, ρ, fp, s, PstS.bnd (e := f ρ) h fun d ρ1 F1 H1 fp1 t1 h1 => fun v s1 zv => ?_⟩
  obtain ⟨d0, e0, h2⟩ := put_mid h1
  obtain ⟨a, _, _, _, _, ev, _, _, _, _⟩ := s1.change e0
  refine ⟨.ref a, ev, F1, ρ1, fp1, s1, PstS.bnd (e := fk ρ1) h2 fun dk ρ2 F2 H2 fp2 t2 h3 => fun y s2 zy => ?_⟩
  obtain ⟨kd, vs, ds, d', hw, hz, ge, cont⟩ := put_end s2 ev h3
  have zv2 := zv.mono t2.ex
  cases kd with
  | dK ks =>
    simp only [gSetD] at ge
    cases q : keyD dk with
    | none => rw [q] at ge; cases ge
    | some kq =>
      simp only [q] at ge
      split at ge
      · rename_i c
        cases ge
        have hl := hw.1
        have c' : (ks.zip vs).length < sizeLine := by rw [List.length_zip, ← hl, Nat.min_self]; exact c
        refine ⟨a, _, rfl, .inl ⟨_, kq, hw.2.1, keyD_rel zy q, c', rfl⟩, ?_⟩
        rw [putK_zip hl]
        refine cont (.dK _) (putVs ks vs kq v) _ _ rfl (if_pos ⟨putKs_len hl, Nat.le_trans putVs_le (by omega), putKs_L hw.2.2.2 (keyL_of zy q)⟩) rfl (fzs_putVs zv2 hz)
      · cases ge
  | dT ks =>
    cases dk with
    | nd k4 xs =>
      cases k4 with
      | tup =>
        simp only [gSetD] at ge
        cases q : keysD xs with
        | none => rw [q] at ge; cases ge
        | some kq =>
          simp only [q] at ge
          split at ge
          · rename_i c
            cases ge
            have hl := hw.1
            have c' : (ks.zip vs).length < sizeLine := by rw [List.length_zip, ← hl, Nat.min_self]; exact c
            obtain ⟨b, ws, rfl, hb, gs⟩ := zy.node
            refine ⟨a, _, rfl, .inr ⟨_, kq, b, hw.2.1, rfl, by rw [← keysD_rel gs q]; exact s2.ex _ _ hb.1, c', rfl⟩, ?_⟩
            rw [putK_zip hl]
            refine cont (.dT _) (putVs ks vs kq v) _ _ rfl (if_pos ⟨putKs_len hl, Nat.le_trans putVs_le (by omega), putKss_L hw.2.2.2 (keysL_of gs q)⟩) rfl (fzs_putVs zv2 hz)
          · cases ge
      | _ => simp [gSetD] at ge
    | _ => simp [gSetD] at ge
  | _ => simp [gSetD] at ge
end
end Y

set_option Elab.async false
set_option linter.all false
set_option maxRecDepth 100000
set_option maxHeartbeats 2000000
/-! Loops, comprehensions. -/
namespace Y
open PySem L2

/-! ### what is walked -/
structure Itz (K : PySem.W.Frag) (F : Hp) (J : It) (ds : List D) : Prop where
  go : ∀ i H, Same F H → i < ds.length → J.go i H
  stop : ∀ H, Same F H → J.stop ds.length H
  yld : ∀ i H x H', Same F H → i < ds.length → J.yld i H x H' → ∃ d, ds[i]? = some d ∧ ((H' = H ∧ Fz K F x d) ∨ ∃ T vs es, x = .ref T ∧ H T = none ∧ H' = upd H T (.tup vs) ∧ Fzs K F vs es ∧ vs.length ≤ sizeLine ∧ d = .nd .tup es)
def nI (K : PySem.W.Frag) (w : Wd) (σ : St) (R : It → Hp → Prop) : List D → En → Hp → Hp → List Addr → Prop := fun ds ρ F H fp => ∀ J, StaW K w F H σ ρ fp → Itz K F J ds → R J H
def cI (K : PySem.W.Frag) (w : Wd) (f : En → R (List D)) : TI := fun σ H Q => ∃ F ρ fp, StaW K w F H σ ρ fp ∧ Pst K w F H fp σ (f ρ) (nI K w σ Q)
section
variable {X : Cx} {w : Wd} {tg e a b : Expr} {fa fb : En → R D} {fs : En → R (List D)}
theorem piI {wi wi' : TI} (h : PI X tg e wi) (k : ∀ σ H R, wi' σ H R → wi σ H R) : PI X tg e wi' := ⟨fun pins s σ H R I q => h.run pins s σ H R I (k σ H R q)⟩
theorem pi_or2 {wi wi' : TI} (h : PI X tg e wi) (h' : PI X tg e wi') : PI X tg e (fun σ H R => wi σ H R ∨ wi' σ H R) := ⟨fun pins s σ H R I q => q.elim (h.run pins s σ H R I) (h'.run pins s σ H R I)⟩
theorem itz_lst {K : PySem.W.Frag} {F : Hp} {a : Addr} {vs : List V} {ds : List D} (h : SqL K F a vs) (hs : Fzs K F vs ds) : Itz K F (Itl K a) ds := by
  have hl := hs.length
  refine ⟨fun i H ex hi => ?_, fun H ex => ⟨vs, sqL_mono ex h, by omega⟩, fun i H x H' ex hi y => ?_⟩
  · obtain ⟨v, e, _⟩ := hs.get (i := i) (List.getElem?_eq_getElem hi)
    exact ⟨vs, v, sqL_mono ex h, e⟩
  · obtain ⟨rfl, y⟩ := y
    obtain ⟨d, e, z⟩ := hs.getV (y vs (sqL_mono ex h))
    exact ⟨d, e, .inl ⟨rfl, z⟩⟩
theorem itz_tup {K : PySem.W.Frag} {F : Hp} {a : Addr} {vs : List V} {ds : List D} (h : SqT K F a vs) (hs : Fzs K F vs ds) : Itz K F (Itt K a) ds := by
  have hl := hs.length
  refine ⟨fun i H ex hi => ?_, fun H ex => ⟨vs, sqT_mono ex h, by omega⟩, fun i H x H' ex hi y => ?_⟩
  · obtain ⟨v, e, _⟩ := hs.get (i := i) (List.getElem?_eq_getElem hi)
    exact ⟨vs, v, sqT_mono ex h, e⟩
  · obtain ⟨rfl, y⟩ := y
    obtain ⟨d, e, z⟩ := hs.getV (y vs (sqT_mono ex h))
    exact ⟨d, e, .inl ⟨rfl, z⟩⟩
def sgD (c : Nat) : D := .str ⟨#[c]⟩
theorem itz_str {K : PySem.W.Frag} {F : Hp} {s : Str} : Itz K F (Its s) (s.cps.toList.map sgD) := by
  refine ⟨fun i H ex hi => ?_, fun H ex => ?_, fun i H x H' ex hi y => ?_⟩
  · show i < s.cps.size
    simpa using hi
  · show s.cps.size ≤ _
    simp
  · obtain ⟨rfl, c, e, rfl⟩ := y
    refine ⟨sgD c, ?_, .inl ⟨rfl, .str _ (by show 1 ≤ sizeLine; decide)⟩⟩
    rw [List.getElem?_map, Array.getElem?_toList, e]
    rfl
def itD : D → Option (List D)
  | .nd .lst ds => some ds
  | .nd .tup ds => some ds
  | .nd .scr ds => some ds
  | .nd .ktp ds => some ds
  | .str s => some (s.cps.toList.map sgD)
  | _ => none
def sIt (f : En → R D) : En → R (List D) := fun ρ => bnd (f ρ) fun d ρ1 => lift (itD d) ρ1
theorem i_seq (ha : PE X e (cF X.K w fa)) : PI X tg e (cI X.K w (sIt fa)) := piI (pi_or2 (pi_list ha) (pi_or2 (pi_tup ha) (pi_str ha))) fun σ H Q h => by
  obtain ⟨F, ρ, fp, s, h⟩ := h
  cases e0 : fa ρ with
  | bad => unfold sIt at h; rw [e0] at h; exact h.elim
  | exc c x ρ1 =>
    unfold sIt at h
    rw [e0] at h
    exact .inl ⟨F, ρ, fp, s, by rw [e0]; exact h⟩
  | ok d ρ1 =>
    unfold sIt at h
    rw [e0] at h
    have k : ∀ {N : D → En → Hp → Hp → List Addr → Prop}, (∀ F' H' fp', Tr F H fp F' H' fp' → Pst X.K w F' H' fp' σ (lift (itD d) ρ1) (nI X.K w σ Q) → N d ρ1 F' H' fp') → Pst X.K w F H fp σ (fa ρ) N := fun {N} q => by
      rw [e0]
      exact fun F' H' fp' t => q F' H' fp' t (Pst.tr (r := lift (itD d) ρ1) h t)
    cases d with
    | str z =>
      refine .inr (.inr ⟨F, ρ, fp, s, k fun F' H' fp' t h1 => fun v s1 zv => ?_⟩)
      obtain ⟨ds, e1, n⟩ := h1.lift
      simp only [itD] at e1
      cases e1
      exact ⟨z, zv.str_inv.1, n F' H' fp' .refl _ s1 itz_str⟩
    | nd kd ds =>
      cases kd with
      | lst =>
        refine .inl ⟨F, ρ, fp, s, k fun F' H' fp' t h1 => fun v s1 zv => ?_⟩
        obtain ⟨ds', e1, n⟩ := h1.lift
        simp only [itD] at e1
        cases e1
        obtain ⟨a, vs, rfl, hi, hs⟩ := zv.node
        exact ⟨a, rfl, ⟨vs, SqL.of (s1.ex _ _ hi.1)⟩, n F' H' fp' .refl _ s1 (itz_lst (SqL.of hi.1) hs)⟩
      | scr =>
        refine .inl ⟨F, ρ, fp, s, k fun F' H' fp' t h1 => fun v s1 zv => ?_⟩
        obtain ⟨ds', e1, n⟩ := h1.lift
        simp only [itD] at e1
        cases e1
        obtain ⟨a, vs, rfl, hi, hs⟩ := zv.node
        exact ⟨a, rfl, ⟨vs, sqL_mono s1.ex hi.1⟩, n F' H' fp' .refl _ s1 (itz_lst hi.1 hs)⟩
      | tup =>
        refine .inr (.inl ⟨F, ρ, fp, s, k fun F' H' fp' t h1 => fun v s1 zv => ?_⟩)
        obtain ⟨ds', e1, n⟩ := h1.lift
        simp only [itD] at e1
        cases e1
        obtain ⟨a, vs, rfl, hi, hs⟩ := zv.node
        exact ⟨a, rfl, ⟨vs, SqT.of (s1.ex _ _ hi.1)⟩, n F' H' fp' .refl _ s1 (itz_tup (SqT.of hi.1) hs)⟩
      | ktp =>
        refine .inr (.inl ⟨F, ρ, fp, s, k fun F' H' fp' t h1 => fun v s1 zv => ?_⟩)
        obtain ⟨ds', e1, n⟩ := h1.lift
        simp only [itD] at e1
        cases e1
        obtain ⟨a, vs, rfl, hi, hs⟩ := zv.node
        exact ⟨a, rfl, ⟨vs, sqT_mono s1.ex hi.1⟩, n F' H' fp' .refl _ s1 (itz_tup hi.1 hs)⟩
      | dK _ => exact h.elim
      | dT _ => exact h.elim
    | _ => exact h.elim
/-! ranges -/
def rgD (lo hi : Int) : List D := (List.range (hi - lo).toNat).map fun i => D.int (lo + (i : Nat))
theorem itz_rg {K : PySem.W.Frag} {F : Hp} {lo : Int} {n : Nat} : Itz K F (Itr lo n) ((List.range n).map fun i => D.int (lo + (i : Nat))) := by
  refine ⟨fun i H ex hi => ?_, fun H ex => ?_, fun i H x H' ex hi y => ?_⟩
  · show i < n
    simpa using hi
  · show n ≤ _
    simp
  · obtain ⟨rfl, rfl⟩ := y
    refine ⟨.int (lo + i), ?_, .inl ⟨rfl, .int _⟩⟩
    have hi' : i < n := by simpa using hi
    simp [List.getElem?_range hi']
def rg1 : List D → Option (List D)
  | [.int n] => if -(2 ^ 62) ≤ n ∧ n < 2 ^ 62 then some (rgD 0 n) else none
  | _ => none
def rg2 : List D → Option (List D)
  | [.int m, .int n] => if -(2 ^ 62) ≤ m ∧ m < 2 ^ 62 ∧ -(2 ^ 62) ≤ n ∧ n < 2 ^ 62 then some (rgD m n) else none
  | _ => none
def sRg (g : List D → Option (List D)) (f : En → R (List D)) : En → R (List D) := fun ρ => bnd (f ρ) fun ds ρ1 => lift (g ds) ρ1
theorem i_range1 {p pos : Pos} (hg : Gl X "range") (hm : X.mg "range" = none) (ha : PA X [a] (cA X.K w fs)) (hs : starEach [a] X.env = [(false, eval a X.env)] := by rfl) : PI X tg (.Call (.Name "range" p) [a] [] pos) (cI X.K w (sRg rg1 fs)) :=
  piI (pi_range1 hg hm ha hs) fun σ H Q h => by
    obtain ⟨F, ρ, fp, s, h⟩ := h
    refine ⟨F, ρ, fp, s, h.bnd fun ds ρ1 F1 H1 fp1 t1 h1 => fun vs s1 z => ?_⟩
    obtain ⟨es, e, n⟩ := h1.lift
    unfold rg1 at e
    split at e
    · rename_i k
      split at e
      · rename_i c
        cases e
        cases z with
        | cons z1 z =>
          cases z
          refine ⟨k, by rw [z1.int_inv], c.1, c.2, n F1 H1 fp1 .refl _ s1 ?_⟩
          have : (k - 0).toNat = k.toNat := by rw [Int.sub_zero]
          unfold rgD
          rw [this]
          exact itz_rg
      · cases e
    · cases e
theorem i_range2 {p pos : Pos} (hg : Gl X "range") (hm : X.mg "range" = none) (ha : PA X [a, b] (cA X.K w fs)) (hs : starEach [a, b] X.env = [(false, eval a X.env), (false, eval b X.env)] := by rfl) (hs2 : starEach [b] X.env = [(false, eval b X.env)] := by rfl) : PI X tg (.Call (.Name "range" p) [a, b] [] pos) (cI X.K w (sRg rg2 fs)) :=
  piI (pi_range2 hg hm ha hs hs2) fun σ H Q h => by
    obtain ⟨F, ρ, fp, s, h⟩ := h
    refine ⟨F, ρ, fp, s, h.bnd fun ds ρ1 F1 H1 fp1 t1 h1 => fun vs s1 z => ?_⟩
    obtain ⟨es, e, n⟩ := h1.lift
    unfold rg2 at e
    split at e
    · rename_i m k
      split at e
      · rename_i c
        cases e
        cases z with
        | cons z1 z => cases z with
          | cons z2 z =>
            cases z
            exact ⟨m, k, by rw [z1.int_inv, z2.int_inv], c, n F1 H1 fp1 .refl _ s1 itz_rg⟩
      · cases e
    · cases e
/-! enumerate, zip -/
def enD (ds : List D) : List D := ds.zipIdx.map fun p => .nd .tup [.int (p.2 : Nat), p.1]
def zpD (ds es : List D) : List D := (ds.zip es).map fun p => .nd .tup [p.1, p.2]
def en1 : List D → Option (List D)
  | [.nd .lst ds] => some (enD ds)
  | _ => none
def zp2 : List D → Option (List D)
  | [.nd .lst ds, .nd .lst es] => some (zpD ds es)
  | [.nd .tup ds, .nd .tup es] => some (zpD ds es)
  | _ => none
theorem itz_pair {K : PySem.W.Frag} {F : Hp} {J : It} {n : Nat} {G : Hp → Prop} {f g : Nat → Option V} {ds : List D} (W : Walk J n G (YPair f g)) (hG : ∀ H, Same F H → G H) (hl : ds.length = n)
    (hd : ∀ i x y, i < n → f i = some x → g i = some y → ∃ dx dy, ds[i]? = some (.nd .tup [dx, dy]) ∧ Fz K F x dx ∧ Fz K F y dy) : Itz K F J ds := by
  refine ⟨fun i H ex hi => W.goes i H (by omega) (hG H ex), fun H ex => by rw [hl]; exact W.stops H (hG H ex), fun i H x H' ex hi y => ?_⟩
  obtain ⟨T, a, b, rfl, hT, rfl, e1, e2⟩ := W.yields i H x H' (by omega) (hG H ex) y
  obtain ⟨da, db, e3, z1, z2⟩ := hd i a b (by omega) e1 e2
  exact ⟨_, e3, .inr ⟨T, [a, b], [da, db], rfl, hT, rfl, .cons z1 (.cons z2 .nil), by show 2 ≤ sizeLine; decide, rfl⟩⟩
theorem i_enum {p pos tpos : Pos} {elts : List Expr} {kk : Nat} (hg : Gl X "enumerate") (hm : X.mg "enumerate" = none) (ha : PA X [e] (cA X.K w fs)) (hs : starEach [e] X.env = [(false, eval e X.env)] := by rfl) : PI X (.Tuple elts kk tpos) (.Call (.Name "enumerate" p) [e] [] pos) (cI X.K w (sRg en1 fs)) :=
  piI (pi_enum hg hm ha hs) fun σ H Q h => by
    obtain ⟨F, ρ, fp, s, h⟩ := h
    refine ⟨F, ρ, fp, s, h.bnd fun ds ρ1 F1 H1 fp1 t1 h1 => fun vs s1 z => ?_⟩
    obtain ⟨es, e, n⟩ := h1.lift
    unfold en1 at e
    split at e
    · rename_i ds
      cases e
      cases z with
      | cons z1 z =>
        cases z
        obtain ⟨a, xs, rfl, hi, hz⟩ := z1.node
        have hl := hz.length
        refine ⟨a, xs, rfl, SqL.of (s1.ex _ _ hi.1), n F1 H1 fp1 .refl _ s1 (itz_pair (walk_enum (K := X.K) (a := a) (xs := xs)) (fun H ex => SqL.of (ex _ _ hi.1)) (by simp [enD, hl]) fun i x y hlt e1 e2 => ?_)⟩
        cases e1
        obtain ⟨d, e3, z3⟩ := hz.getV e2
        refine ⟨.int (i : Nat), d, ?_, .int _, z3⟩
        simp [enD, List.getElem?_zipIdx, e3]
    · cases e
def rZip : List D → Option (List D) := zp2
theorem i_zip {p pos tpos : Pos} {elts : List Expr} {kk : Nat} (hg : Gl X "zip") (hm : X.mg "zip" = none) (ha : PA X [a, b] (cA X.K w fs)) (hs : starEach [a, b] X.env = (false, eval a X.env) :: starEach [b] X.env := by rfl) (hpl : (backTo pos (starEach [b] X.env)).any (·.1) = false := by rfl) : PI X (.Tuple elts kk tpos) (.Call (.Name "zip" p) [a, b] [] pos) (cI X.K w (sRg zp2 fs)) :=
  piI (RZ.pi_zipA hg hm ha hs hpl) fun σ H Q h => by
    obtain ⟨F, ρ, fp, s, h⟩ := h
    refine ⟨F, ρ, fp, s, h.bnd fun ds ρ1 F1 H1 fp1 t1 h1 => fun vs s1 z => ?_⟩
    obtain ⟨es, e, n⟩ := h1.lift
    unfold zp2 at e
    split at e
    · rename_i ds es
      cases e
      cases z with
      | cons z1 z => cases z with
        | cons z2 z =>
          cases z
          obtain ⟨a, xs, rfl, hi, hz⟩ := z1.node
          obtain ⟨b, ys, rfl, hj, gz⟩ := z2.node
          have hl := hz.length
          have gl := gz.length
          refine ⟨a, b, xs, ys, rfl, .inl ⟨SqL.of (s1.ex _ _ hi.1), SqL.of (s1.ex _ _ hj.1), n F1 H1 fp1 .refl _ s1 (itz_pair (walk_zip (K := X.K) (a := a) (b := b) (xs := xs) (ys := ys) rfl) (fun H ex => ⟨SqL.of (ex _ _ hi.1), SqL.of (ex _ _ hj.1)⟩) (by simp [zpD, hl, gl]) fun i x y hlt e1 e2 => ?_)⟩⟩
          obtain ⟨d, e3, z3⟩ := hz.getV e1
          obtain ⟨d', e4, z4⟩ := gz.getV e2
          refine ⟨d, d', ?_, z3, z4⟩
          have e5 : (ds.zip es)[i]? = some (d, d') := List.getElem?_zip_eq_some.mpr ⟨e3, e4⟩
          simp [zpD, e5]
    · rename_i ds es
      cases e
      cases z with
      | cons z1 z => cases z with
        | cons z2 z =>
          cases z
          obtain ⟨a, xs, rfl, hi, hz⟩ := z1.node
          obtain ⟨b, ys, rfl, hj, gz⟩ := z2.node
          have hl := hz.length
          have gl := gz.length
          have zl : (zpD ds es).length = min xs.length ys.length := by simp [zpD, hl, gl]
          refine ⟨a, b, xs, ys, rfl, .inr ⟨SqT.of (s1.ex _ _ hi.1), SqT.of (s1.ex _ _ hj.1), n F1 H1 fp1 .refl _ s1 ⟨fun i H ex hlt => ?_, fun H ex => ?_, fun i H x H' ex hlt y => ?_⟩⟩⟩
          · rw [zl] at hlt
            exact ⟨xs, ys, xs[i]'(by omega), ys[i]'(by omega), SqT.of (ex _ _ hi.1), SqT.of (ex _ _ hj.1), by simp [show i < xs.length by omega], by simp [show i < ys.length by omega]⟩
          · exact ⟨xs, ys, SqT.of (ex _ _ hi.1), SqT.of (ex _ _ hj.1), by omega⟩
          · obtain ⟨T, x1, y1, rfl, hT, rfl, e1, e2⟩ := y
            obtain ⟨d, e3, z3⟩ := hz.getV (e1 xs (SqT.of (ex _ _ hi.1)))
            obtain ⟨d', e4, z4⟩ := gz.getV (e2 ys (SqT.of (ex _ _ hj.1)))
            have e5 : (ds.zip es)[i]? = some (d, d') := List.getElem?_zip_eq_some.mpr ⟨e3, e4⟩
            exact ⟨.nd .tup [d, d'], by simp [zpD, e5], .inr ⟨T, [x1, y1], [d, d'], rfl, hT, rfl, .cons z3 (.cons z4 .nil), by show 2 ≤ sizeLine; decide, rfl⟩⟩
    · cases e
end

/-! ### for, while -/
def forL (g : D → En → Option En) (b : En → R Fl) : List D → En → R Fl
  | [], ρ => .ok .nx ρ
  | d :: ds, ρ => match g d ρ with
    | none => .bad
    | some ρ1 => match b ρ1 with
      | .ok .nx ρ2 => forL g b ds ρ2
      | .ok .ct ρ2 => forL g b ds ρ2
      | .ok .bk ρ2 => .ok .nx ρ2
      | r => r
def sFor (src : En → R (List D)) (g : D → En → Option En) (b : En → R Fl) : En → R Fl := fun ρ => bnd (src ρ) fun ds ρ1 => forL g b ds ρ1
def whL (t : En → R Bool) (b : En → R Fl) : Nat → En → R Fl
  | 0, _ => .bad
  | n + 1, ρ => bnd (t ρ) fun c ρ1 => if c = true then (match b ρ1 with
      | .ok .nx ρ2 => whL t b n ρ2
      | .ok .ct ρ2 => whL t b n ρ2
      | .ok .bk ρ2 => .ok .nx ρ2
      | r => r) else .ok .nx ρ1
section
variable {K : PySem.W.Frag} {w : Wd} {F H : Hp} {fp : List Addr} {D : Ends}
theorem turn_end {r : R Fl} {k : En → R Fl} {N : St → Hp → Prop} (h : PstS K w F H fp (match r with | .ok .nx ρ2 => k ρ2 | .ok .ct ρ2 => k ρ2 | .ok .bk ρ2 => .ok .nx ρ2 | r => r) D)
    (hN : ∀ σ' F' H' fp' ρ2, Tr F H fp F' H' fp' → StaW K w F' H' σ' ρ2 fp' → PstS K w F' H' fp' (k ρ2) D → N σ' H') : PstS K w F H fp r { D with nx := N, ct := N, bk := D.nx } := by
  cases r with
  | ok a ρ =>
    cases a with
    | nx => exact fun σ' F' H' fp' t s => hN σ' F' H' fp' ρ t s (PstS.tr (r := k ρ) h t)
    | ct => exact fun σ' F' H' fp' t s => hN σ' F' H' fp' ρ t s (PstS.tr (r := k ρ) h t)
    | bk => exact h
    | rt d => exact h
    | ro d => exact h
  | exc c x ρ => exact h
  | bad => exact h
end
section
variable {X : Cx} {w : Wd} {tg iter c : Expr} {body : List Stmt} {is : List Nat} {g : D → En → Option En} {m : En → R Fl} {src : En → R (List D)} {t : En → R Bool} {pos : Pos}
/-- an item is given out -/
theorem given {K : PySem.W.Frag} {F F1 H H' : Hp} {fp : List Addr} {σ : St} {ρ : En} {J : It} {ds : List D} {i : Nat} {x : V} (I : Itz K F1 J ds) (s : StaW K w F H σ ρ fp) (ex : Same F1 F) (hi : i < ds.length) (y : J.yld i H x H') :
    ∃ d F', ds[i]? = some d ∧ StaW K w F' H' σ ρ fp ∧ Tr F H fp F' H' fp ∧ Fz K F' x d := by
  obtain ⟨d, e, ⟨rfl, z⟩ | ⟨T, vs, es, rfl, hT, rfl, zs, hl, rfl⟩⟩ := I.yld i H x H' (ex.trans s.ex) hi y
  · exact ⟨d, F, e, s, .refl, z.mono ex⟩
  · obtain ⟨s1, t1, z1⟩ := s.new (k := .tup) hT (if_pos hl) (zs.mono ex)
    exact ⟨_, _, e, s1, t1, z1⟩
theorem s_for (hp : PassesOwn (model X.prog X.w) X.A X.env X.xe) (hc : X.calm = true) (hi : PI X tg iter (cI X.K w src)) (hg : PG X tg (cG X.K w is g)) (hb : PSs X body (cS X.K w m)) (hs : ∀ x, foldedSetIterable iter X.env x = pure x := by intro _; rfl) :
    PS X (.For tg iter body [] pos) (cS X.K w (sFor src g m)) := psI (ps_for hp hc hi hg hb hs) fun D σ H h => by
  obtain ⟨F, ρ, fp, s, h⟩ := h
  refine ⟨F, ρ, fp, s, PstS.bnd (e := src ρ) h fun ds ρ1 F1 H1 fp1 t1 h1 => fun J s1 I => ?_⟩
  refine ⟨fun i m' σ H => m' = ds.length - i ∧ i ≤ ds.length ∧ ∃ F ρ fp, StaW X.K w F H σ ρ fp ∧ Same F1 F ∧ PstS X.K w F H fp (forL g m (ds.drop i) ρ) D, ⟨ds.length, by simp, Nat.zero_le _, F1, ρ1, fp1, s1, Same.refl _, h1⟩, ?_⟩
  rintro i m' σ H ⟨rfl, hi, F, ρ, fp, s, ex, h⟩
  by_cases hlt : i < ds.length
  · refine .inr ⟨I.go i H (ex.trans s.ex) hlt, fun σ H => ∃ F ρ fp, StaW X.K w F H σ ρ fp ∧ Same F1 F ∧ PstS X.K w F H fp (forL g m (ds.drop (i + 1)) ρ) D, fun σ' H' q => ⟨ds.length - (i + 1), by omega, rfl, hlt, q⟩, fun x H' y => ?_⟩
    obtain ⟨d, F2, e, s2, t2, z⟩ := given I s ex hlt y
    have ed : ds.drop i = d :: ds.drop (i + 1) := by
      obtain ⟨h1, h2⟩ := List.getElem?_eq_some_iff.mp e
      rw [← h2]
      exact List.drop_eq_getElem_cons h1
    rw [ed] at h
    unfold forL at h
    cases q : g d ρ with
    | none => simp only [q] at h; exact h.elim
    | some ρ2 =>
      simp only [q] at h
      refine ⟨F2, ρ, fp, d, ρ2, s2, z, q, fun σ' fp' s3 t3 _ => ⟨F2, ρ2, fp', s3, ?_⟩⟩
      have h2 := PstS.tr h (t2.trans t3)
      exact turn_end (k := forL g m (ds.drop (i + 1))) h2 fun σ4 F4 H4 fp4 ρ4 t4 s4 h4 => ⟨F4, ρ4, fp4, s4, (ex.trans t2.ex).trans t4.ex, h4⟩
  · have e : i = ds.length := by omega
    subst e
    rw [List.drop_length] at h
    exact .inl ⟨I.stop H (ex.trans s.ex), h σ F H fp .refl s⟩
theorem s_while (n : Nat) (hp : PassesOwn (model X.prog X.w) X.A X.env X.xe) (hc : PT X c (cT X.K w t)) (hb : PSs X body (cS X.K w m)) : PS X (.While c body [] pos) (cS X.K w (whL t m n)) := psI (ps_while hp hc hb) fun D σ H h => by
  obtain ⟨F, ρ, fp, s, h⟩ := h
  refine ⟨fun k σ H => ∃ F ρ fp, StaW X.K w F H σ ρ fp ∧ PstS X.K w F H fp (whL t m k ρ) D, ⟨n, F, ρ, fp, s, h⟩, ?_⟩
  rintro k σ H ⟨F, ρ, fp, s, h⟩
  cases k with
  | zero => exact h.elim
  | succ k =>
    unfold whL at h
    refine ⟨F, ρ, fp, s, PstS.bnd (e := t ρ) h fun b ρ1 F1 H1 fp1 t1 h1 => fun s1 => ?_⟩
    cases b with
    | true =>
      refine iteT ⟨fun σ H => ∃ F ρ fp, StaW X.K w F H σ ρ fp ∧ PstS X.K w F H fp (whL t m k ρ) D, fun σ' H' q => ⟨k, Nat.lt_succ_self k, q⟩, F1, ρ1, fp1, s1, ?_⟩
      have h2 : PstS X.K w F1 H1 fp1 (match m ρ1 with | .ok .nx ρ2 => whL t m k ρ2 | .ok .ct ρ2 => whL t m k ρ2 | .ok .bk ρ2 => .ok .nx ρ2 | r => r) D := by simpa using h1
      exact turn_end (k := whL t m k) h2 fun σ4 F4 H4 fp4 ρ4 t4 s4 h4 => ⟨F4, ρ4, fp4, s4, h4⟩
    | false =>
      have h2 : PstS X.K w F1 H1 fp1 (.ok .nx ρ1) D := by simpa using h1
      exact iteF (h2 σ F1 H1 fp1 .refl s1)
end
end Y

set_option Elab.async false
set_option linter.all false
set_option maxRecDepth 100000
set_option maxHeartbeats 2000000
/-! Comprehensions. -/
namespace Y
open PySem L2
def noX {α : Type} : R α → R α
  | .ok a ρ => .ok a ρ
  | _ => .bad
theorem noX_ok {α : Type} (a : α) (ρ : En) : noX (.ok a ρ) = .ok a ρ := rfl
theorem bnd_ok {α β : Type} (a : α) (ρ : En) (g : α → En → R β) : bnd (.ok a ρ) g = g a ρ := rfl
/-- within a block nothing is raised -/
def Wd.in1 (w : Wd) : Wd := { w with W := fun _ _ _ _ => False }
def wipeE (vs : List Nat) (ρ : En) : En := match vs with
  | [] => ρ
  | v :: vs => (wipeE vs ρ).set v none
section
variable {K : PySem.W.Frag} {w : Wd} {F H : Hp} {fp : List Addr} {σ σ' : St} {ρ : En} {α : Type} {r : R α} {N : α → En → Hp → Hp → List Addr → Prop}
theorem Pst.noX (h : Pst K w F H fp σ (noX r) N) : Pst K w.in1 F H fp σ' r N := by
  cases r with
  | ok a ρ => exact h
  | exc c x ρ => exact h.elim
  | bad => exact h
theorem Pst.noX2 {β : Type} {g : α → En → R β} {M : β → En → Hp → Hp → List Addr → Prop} (h : Pst K w F H fp σ (Y.bnd (Y.noX r) g) M) (k : ∀ a ρ1 F1 H1 fp1, Tr F H fp F1 H1 fp1 → Pst K w F1 H1 fp1 σ (g a ρ1) M → N a ρ1 F1 H1 fp1) : Pst K w.in1 F H fp σ' r N := by
  cases r with
  | ok a ρ => exact fun F1 H1 fp1 t => k a ρ F1 H1 fp1 t (Pst.tr (r := g a ρ) h t)
  | exc c x ρ => exact h.elim
  | bad => exact h
theorem wipe_set (i : Nat) (x : Option V) (σ : St) {vs : List Nat} (h : i ∈ vs) : L2.wipe (σ.set i x) vs = L2.wipe σ vs := only_set σ i x vs fun j hj => by
  rw [List.mem_singleton.mp hj]; exact h
theorem wipe_sub : ∀ {ws vs : List Nat}, (∀ i ∈ ws, i ∈ vs) → L2.wipe (L2.wipe σ ws) vs = L2.wipe σ vs
  | [], _, _ => rfl
  | v :: ws, vs, h => by
    show L2.wipe ((L2.wipe σ ws).set v none) vs = _
    rw [wipe_set v none _ (h v List.mem_cons_self)]
    exact wipe_sub fun i hi => h i (List.mem_cons_of_mem _ hi)
theorem Sl.unset {β : V} {i : Nat} : ∀ {σ : St} {ρ : En} {fp : List Addr}, Sl K β F H (σ.set i none) ρ fp → Sl K β F H σ ρ fp := by
  intro σ
  induction σ generalizing i with
  | nil => intro ρ fp h; exact h
  | cons x σ ih =>
    intro ρ fp h
    cases i with
    | zero =>
      cases h with
      | skip t => exact .skip t
    | succ i =>
      cases h with
      | skip t => exact .skip (ih (i := i) t)
      | fr z t => exact .fr z (ih (i := i) t)
      | ow a b t => exact .ow a b (ih (i := i) t)
      | bo e a b t => exact .bo e a b (ih (i := i) t)
theorem StaW.unwipe : ∀ {vs : List Nat} {ρ : En} {fp : List Addr}, StaW K w F H (wipe σ vs) ρ fp → StaW K w F H σ ρ fp
  | [], _, _, s => s
  | v :: vs, _, _, s => StaW.unwipe (vs := vs) ⟨s.ex, s.sl.unset, s.nd, s.own, s.lock⟩
theorem StaW.wipe : ∀ {vs : List Nat} {ρ : En} {fp : List Addr}, StaW K w F H σ ρ fp → ∃ fp', StaW K w F H (L2.wipe σ vs) (wipeE vs ρ) fp' ∧ Tr F H fp F H fp'
  | [], _, fp, s => ⟨fp, s, .refl⟩
  | v :: vs, _, fp, s => by
    obtain ⟨fp1, s1, t1⟩ := StaW.wipe (vs := vs) s
    obtain ⟨fp2, s2, t2⟩ := s1.tail v none
    exact ⟨fp2, s2, t1.trans t2⟩
theorem Tr.cons {F' H' : Hp} {fp' : List Addr} {a : Addr} (t : Tr F H fp F' H' fp') : Tr F H (a :: fp) F' H' (a :: fp') := by
  refine ⟨t.ex, fun b o h n => t.keep b o h fun m => n (List.mem_cons_of_mem _ m), fun b h => ?_⟩
  rcases h with h | h
  · rcases List.mem_cons.mp h with rfl | h
    · exact .inl List.mem_cons_self
    · exact (t.new b (.inl h)).imp (List.mem_cons_of_mem _) id
  · exact (t.new b (.inr h)).imp (List.mem_cons_of_mem _) id
end
/-- the list so far at L -/
def lcL (g : D → En → Option En) (t : En → R Bool) (e : En → R D) (vs : List Nat) : List D → En → List D → R D
  | [], ρ, acc => .ok (.nd .lst acc) ρ
  | d :: ds, ρ, acc => match g d ρ with
    | none => .bad
    | some ρ1 => bnd (noX (t ρ1)) fun b ρ2 => if b = true then bnd (noX (e ρ2)) fun x ρ3 => if acc.length < sizeLine then lcL g t e vs ds (wipeE vs ρ3) (acc ++ [x]) else .bad else lcL g t e vs ds (wipeE vs ρ2) acc
def sLc (src : En → R (List D)) (g : D → En → Option En) (t : En → R Bool) (e : En → R D) (vs : List Nat) : En → R D := fun ρ => bnd (src ρ) fun ds ρ1 => lcL g t e vs ds (wipeE vs ρ1) []
def sYes : En → R Bool := fun ρ => .ok true ρ
/-- the new list at L in the making -/
structure Mk (K : PySem.W.Frag) (w : Wd) (F1 F H : Hp) (L : Addr) (σ : St) (ρ : En) (fp : List Addr) (acc : List D) : Prop where
  s : StaW K w F H σ ρ fp
  ex : Same F1 F
  nf : L ∉ fp
  nF : F L = none
  at_ : ∃ vs, H L = some (.lst vs) ∧ Fzs K F vs acc
section
variable {K : PySem.W.Frag} {w : Wd} {F1 F F' H H' : Hp} {fp fp' : List Addr} {σ σ' : St} {ρ ρ' : En} {L : Addr} {acc : List D} {x : V} {d : D}
theorem Mk.go (m : Mk K w F1 F H L σ ρ fp acc) (t : Tr F H fp F' H' fp') (s : StaW K w F' H' σ' ρ' fp') : Mk K w F1 F' H' L σ' ρ' fp' acc := by
  obtain ⟨vs, h1, h2⟩ := m.at_
  refine ⟨s, m.ex.trans t.ex, fun h => ?_, ?_, vs, t.keep L _ h1 m.nf, h2.mono t.ex⟩
  · rcases t.new L (.inl h) with q | q
    · exact m.nf q
    · rw [h1] at q; cases q
  · cases q : F' L with
    | none => rfl
    | some o =>
      rcases t.new L (.inr ⟨m.nF, by rw [q]; exact fun z => nomatch z⟩) with r | r
      · exact absurd r m.nf
      · rw [h1] at r; cases r
theorem Mk.app (m : Mk K w F1 F H L σ ρ fp acc) (z : Fz K F x d) (hl : acc.length < sizeLine) : ∃ vs, H L = some (.lst vs) ∧ vs.length < sizeLine ∧ Mk K w F1 F (upd H L (.lst (vs ++ [x]))) L σ ρ fp (acc ++ [d]) ∧ Tr F H (L :: fp) F (upd H L (.lst (vs ++ [x]))) (L :: fp) := by
  obtain ⟨vs, h1, h2⟩ := m.at_
  refine ⟨vs, h1, by rw [h2.length]; exact hl, ⟨⟨same_updR m.s.ex m.nF, m.s.sl.frame (Same.refl _) fun a ha o h => ?_, m.s.nd, m.s.own, m.s.lock⟩, m.ex, m.nf, m.nF, _, upd_same, h2.append (.cons z .nil)⟩, ⟨Same.refl _, fun b o h n => ?_, fun b h => h.elim .inl fun ⟨q1, q2⟩ => absurd q1 q2⟩⟩
  · rw [upd_ne (fun (q : a = L) => m.nf (q ▸ ha))]; exact h
  · rw [upd_ne (fun (q : b = L) => n (q ▸ List.mem_cons_self))]; exact h
theorem Mk.start (s : StaW K w F H σ ρ fp) (hL : H L = none) : Mk K w F F (upd H L (.lst [])) L σ ρ fp [] ∧ Tr F H fp F (upd H L (.lst [])) (L :: fp) := by
  obtain ⟨n1, n2⟩ := s.fresh hL
  obtain ⟨s1, t1⟩ := s.newO (k := .lst) (vs := []) (ds := []) hL rfl rfl .nil
  refine ⟨⟨⟨same_updR s.ex n2, s.sl.frame (Same.refl _) fun a ha o h => ?_, s.nd, s.own, s.lock⟩, Same.refl _, n1, n2, [], upd_same, .nil⟩, t1⟩
  rw [upd_ne (ne_of_none h hL)]; exact h
theorem Mk.done (m : Mk K w F1 F H L σ ρ fp acc) (hl : acc.length ≤ sizeLine) : StaW K w F H (some (.ref L) :: σ) (some (.o (.nd .lst acc)) :: ρ) (L :: fp) := by
  obtain ⟨vs, h1, h2⟩ := m.at_
  exact ⟨m.s.ex, .ow (k := .lst) ⟨h1, by rw [h2.length]; exact hl⟩ h2 m.s.sl, List.nodup_cons.mpr ⟨m.nf, m.s.nd⟩, fun a ha => (List.mem_cons.mp ha).elim (fun e => e ▸ m.nF) (m.s.own a), m.s.lock⟩
end
section
variable {K : PySem.W.Frag} {w : Wd} {src : En → R (List D)} {g : D → En → Option En} {t : En → R Bool} {e : En → R D} {vs is : List Nat} {σ : St} {H : Hp} {Q : VK}
/-- the block's turns -/
theorem lc_body {ds : List D} {J : It} {F1 H1 : Hp} {ρ1 : En} {fp1 : List Addr} (his : ∀ i ∈ is, i ∈ vs) (s1 : StaW K w F1 H1 σ ρ1 fp1) (I : Itz K F1 J ds) (h1 : Pst K w F1 H1 fp1 σ (lcL g t e vs ds (wipeE vs ρ1) []) (nO K w σ Q)) : tLc (fun _ H R => R J H) (cG K w.in1 is g) (cT K w.in1 t) (cF K w.in1 e) vs σ H1 Q := fun L hL => by
  obtain ⟨fpw, sw, tw⟩ := StaW.wipe (vs := vs) s1
  obtain ⟨m0, t0⟩ := Mk.start sw hL
  refine ⟨fun i k H => k = ds.length - i ∧ i ≤ ds.length ∧ ∃ F ρ fp acc, Mk K w F1 F H L (wipe σ vs) ρ fp acc ∧ acc.length ≤ sizeLine ∧ Pst K w F H (L :: fp) σ (lcL g t e vs (ds.drop i) ρ acc) (nO K w σ Q), ⟨ds.length, by simp, Nat.zero_le _, F1, _, fpw, [], m0, Nat.zero_le _, Pst.tr h1 (tw.trans t0)⟩, ?_⟩
  rintro i k H ⟨rfl, hi, F, ρ, fp, acc, m, hz, h⟩
  by_cases hlt : i < ds.length
  · refine .inr ⟨I.go i H (m.ex.trans m.s.ex) hlt, fun H => ∃ F ρ fp acc, Mk K w F1 F H L (wipe σ vs) ρ fp acc ∧ acc.length ≤ sizeLine ∧ Pst K w F H (L :: fp) σ (lcL g t e vs (ds.drop (i + 1)) ρ acc) (nO K w σ Q), fun H' q => ⟨ds.length - (i + 1), by omega, rfl, hlt, q⟩, fun x H' y => ?_⟩
    obtain ⟨d, F2, ed, s2, t2, z⟩ := given I m.s m.ex hlt y
    have m2 := m.go t2 s2
    have edr : ds.drop i = d :: ds.drop (i + 1) := by
      obtain ⟨h1, h2⟩ := List.getElem?_eq_some_iff.mp ed
      rw [← h2]
      exact List.drop_eq_getElem_cons h1
    rw [edr] at h
    unfold lcL at h
    cases q : g d ρ with
    | none => simp only [q] at h; exact h.elim
    | some ρ2 =>
      simp only [q] at h
      refine ⟨F2, ρ, fp, d, ρ2, s2, z, q, fun σ3 fp3 s3 t3 o3 => ?_⟩
      have ew : wipe σ3 vs = wipe σ vs := (o3 vs his).trans (wipe_sub fun _ h => h)
      have h3 := Pst.tr h (t2.trans t3).cons
      have m3 := m2.go t3 s3
      have h3' : Pst K w F2 H' (L :: fp3) σ (bnd (noX (t ρ2)) fun b ρ2 => if b = true then bnd (noX (e ρ2)) fun x ρ3 => if acc.length < sizeLine then lcL g t e vs (ds.drop (i + 1)) (wipeE vs ρ3) (acc ++ [x]) else .bad else lcL g t e vs (ds.drop (i + 1)) (wipeE vs ρ2) acc) (nO K w σ Q) := h3
      refine ⟨ew, F2, ρ2, fp3, s3, ?_⟩
      -- the test
      cases q1 : t ρ2 with
      | bad => rw [q1] at h3'; exact h3'.elim
      | exc c x ρ => rw [q1] at h3'; exact h3'.elim
      | ok b ρ4 =>
        rw [q1] at h3'
        intro F4 H4 fp4 t4 s4
        have m4 := m3.go t4 s4
        have h4 := Pst.tr h3' t4.cons
        cases b with
        | false =>
          refine iteF ?_
          obtain ⟨fp5, s5, t5⟩ := StaW.wipe (vs := vs) s4
          rw [ew] at s5
          exact ⟨F4, _, fp5, acc, m4.go t5 s5, hz, by simpa [noX_ok, bnd_ok] using Pst.tr h4 t5.cons⟩
        | true =>
          refine iteT ⟨F4, ρ4, fp4, s4, ?_⟩
          have h4' : Pst K w F4 H4 (L :: fp4) σ (bnd (noX (e ρ4)) fun x ρ3 => if acc.length < sizeLine then lcL g t e vs (ds.drop (i + 1)) (wipeE vs ρ3) (acc ++ [x]) else .bad) (nO K w σ Q) := by simpa [noX_ok, bnd_ok] using h4
          cases q2 : e ρ4 with
          | bad => rw [q2] at h4'; exact h4'.elim
          | exc c x ρ => rw [q2] at h4'; exact h4'.elim
          | ok dx ρ5 =>
            rw [q2] at h4'
            intro F5 H5 fp5 t5 v s5 zv
            have m5 := m4.go t5 s5
            have h5 := Pst.tr h4' t5.cons
            obtain ⟨fp6, s6, t6⟩ := StaW.wipe (vs := vs) s5
            rw [ew] at s6
            have m6 := m5.go t6 s6
            have h6 := Pst.tr h5 t6.cons
            by_cases hl : acc.length < sizeLine
            · obtain ⟨ws, e1, e2, m7, t7⟩ := m6.app zv hl
              refine ⟨ws, e1, e2, F5, _, fp6, _, m7, by rw [List.length_append]; exact hl, ?_⟩
              have h7 := Pst.tr h6 t7
              simpa [bnd, noX, hl] using h7
            · exact (show False by simpa [bnd, noX, hl, Pst] using h6).elim
  · have e : i = ds.length := by omega
    subst e
    rw [List.drop_length] at h
    have mu : Mk K w F1 F H L σ ρ fp acc := ⟨StaW.unwipe m.s, m.ex, m.nf, m.nF, m.at_⟩
    exact .inl ⟨I.stop H (m.ex.trans m.s.ex), h F H (L :: fp) .refl (.ref L) (mu.done hz)⟩
/-- what the block is read as -/
theorem lc_canon (his : ∀ i ∈ is, i ∈ vs) (h : cO K w (sLc src g t e vs) σ H Q) : tLc (cI K w src) (cG K w.in1 is g) (cT K w.in1 t) (cF K w.in1 e) vs σ H Q := by
  obtain ⟨F, ρ, fp, s, h⟩ := h
  exact ⟨F, ρ, fp, s, h.bnd fun ds ρ1 F1 H1 fp1 t1 h1 => fun J s1 I => lc_body his s1 I h1⟩
variable {X : Cx} {elt tg iter : Expr} {ifs : List Expr} {scope : Scope} {own : List (Str × Nat)} {pos : Pos}
theorem ts_nil : PTs X [] (cT X.K w sYes) := ⟨fun pins s σ H Q I h => pts_nil.run pins s σ H Q I (by
  obtain ⟨F, ρ, fp, s, h⟩ := h
  exact h F H fp .refl s)⟩
theorem ts_one {c : Expr} (h : PT X c (cT X.K w t)) : PTs X [c] (cT X.K w t) := pts_one h
theorem d_lc (own : List (Str × Nat)) (hc : X.calm = true) (hN : X.N.Nodup) (hi : PI X tg iter (cI X.K w src)) (ok : BlkOk X.N X.env.scope scope own) (his : ∀ i ∈ is, i ∈ own.map (·.2))
    (hg : ∀ (s : Shared) (H : Hp) (C : Addr) (cl : List (Str × Addr)) (fp : List Addr), PG (X.blk s H scope (compEnvC scope cl C X.env) fp) tg (cG X.K w.in1 is g)) (ht : ∀ (s : Shared) (H : Hp) (C : Addr) (cl : List (Str × Addr)) (fp : List Addr), PTs (X.blk s H scope (compEnvC scope cl C X.env) fp) ifs (cT X.K w.in1 t))
    (he : ∀ (s : Shared) (H : Hp) (C : Addr) (cl : List (Str × Addr)) (fp : List Addr), PE (X.blk s H scope (compEnvC scope cl C X.env) fp) elt (cF X.K w.in1 e)) (hs : ∀ x, foldedSetIterable iter X.env x = pure x := by intro _; rfl) :
    PE X (.ListComp elt [⟨tg, iter, ifs, 0⟩] scope pos) (cO X.K w (sLc src g t e (own.map (·.2)))) := peI (pe_lc hc hN hi ok hg ht he hs) fun σ H Q h => lc_canon his h
theorem s_setLc (i : Nat) (own : List (Str × Nat)) {y : Str} {py spos : Pos} (hc : X.calm = true) (hN : X.N.Nodup) (hi : PI X tg iter (cI X.K w src)) (ok : BlkOk X.N X.env.scope scope own) (his : ∀ i ∈ is, i ∈ own.map (·.2))
    (hg : ∀ (s : Shared) (H : Hp) (C : Addr) (cl : List (Str × Addr)) (fp : List Addr), PG (X.blk s H scope (compEnvC scope cl C X.env) fp) tg (cG X.K w.in1 is g)) (ht : ∀ (s : Shared) (H : Hp) (C : Addr) (cl : List (Str × Addr)) (fp : List Addr), PTs (X.blk s H scope (compEnvC scope cl C X.env) fp) ifs (cT X.K w.in1 t))
    (he : ∀ (s : Shared) (H : Hp) (C : Addr) (cl : List (Str × Addr)) (fp : List Addr), PE (X.blk s H scope (compEnvC scope cl C X.env) fp) elt (cF X.K w.in1 e))
    (hsw : swapsWith (.ListComp elt [⟨tg, iter, ifs, 0⟩] scope pos) (some (.Name y py)) spos.line X.env = pure true)
    (hy : X.N[i]? = some y := by rfl) (hyl : X.env.scope.names.lookup y = some .local := by rfl) (hs : ∀ x, foldedSetIterable iter X.env x = pure x := by intro _; rfl) :
    PS X (.Assign [.Name y py] (.ListComp elt [⟨tg, iter, ifs, 0⟩] scope pos) spos) (cS X.K w (sSetO i (sLc src g t e (own.map (·.2))))) := psI (ps_setLc hc hN hy hyl hsw hi ok hg ht he hs) fun D σ H h => by
  refine lc_canon his (Q := fun x H1 => D.nx (σ.set i (some x)) H1) ?_
  obtain ⟨F, ρ, fp, s, h⟩ := h
  refine ⟨F, ρ, fp, s, h.bnd fun d ρ1 F1 H1 fp1 t1 h1 => fun v s1 => ?_⟩
  obtain ⟨fp2, s2, t2⟩ := s1.storeO i
  exact h1 _ F1 H1 fp2 t2 s2
theorem s_setLcF (i : Nat) (own : List (Str × Nat)) {y : Str} {py spos : Pos} (hc : X.calm = true) (hN : X.N.Nodup) (hi : PI X tg iter (cI X.K w src)) (ok : BlkOk X.N X.env.scope scope own) (his : ∀ i ∈ is, i ∈ own.map (·.2))
    (hg : ∀ (s : Shared) (H : Hp) (C : Addr) (cl : List (Str × Addr)) (fp : List Addr), PG (X.blk s H scope (compEnvC scope cl C X.env) fp) tg (cG X.K w.in1 is g)) (ht : ∀ (s : Shared) (H : Hp) (C : Addr) (cl : List (Str × Addr)) (fp : List Addr), PTs (X.blk s H scope (compEnvC scope cl C X.env) fp) ifs (cT X.K w.in1 t))
    (he : ∀ (s : Shared) (H : Hp) (C : Addr) (cl : List (Str × Addr)) (fp : List Addr), PE (X.blk s H scope (compEnvC scope cl C X.env) fp) elt (cF X.K w.in1 e))
    (hsw : swapsWith (.ListComp elt [⟨tg, iter, ifs, 0⟩] scope pos) (some (.Name y py)) spos.line X.env = pure true)
    (hy : X.N[i]? = some y := by rfl) (hyl : X.env.scope.names.lookup y = some .local := by rfl) (hs : ∀ x, foldedSetIterable iter X.env x = pure x := by intro _; rfl) :
    PS X (.Assign [.Name y py] (.ListComp elt [⟨tg, iter, ifs, 0⟩] scope pos) spos) (cS X.K w (sSet i (sLc src g t e (own.map (·.2))))) := psI (ps_setLc hc hN hy hyl hsw hi ok hg ht he hs) fun D σ H h => by
  refine lc_canon his (Q := fun x H1 => D.nx (σ.set i (some x)) H1) (cF_fz ?_)
  obtain ⟨F, ρ, fp, s, h⟩ := h
  refine ⟨F, ρ, fp, s, h.bnd fun d ρ1 F1 H1 fp1 t1 h1 => fun v s1 z => ?_⟩
  obtain ⟨fp2, s2, t2⟩ := s1.store z i
  exact h1 _ F1 H1 fp2 t2 s2
end
end Y

set_option Elab.async false
set_option linter.all false
set_option maxRecDepth 100000
set_option maxHeartbeats 2000000
/-! Defs by values, their calls. -/
namespace Y
open PySem PySem.Spec PyProof.Rows L2
inductive FO where
  | val (o : Bool) (d : D) (out : Option D) | exc (c : Str) (x : Option (Str × D)) (out : Option D) | bad
def outs (io : Bool) (ρ : En) (k : Option D → FO) : FO := match io with
  | true => match ρ with
    | some (.b d) :: _ => k (some d)
    | _ => .bad
  | false => k none
def finF (io : Bool) : R Fl → FO
  | .ok (.rt d) ρ => outs io ρ (.val false d)
  | .ok (.ro d) ρ => outs io ρ (.val true d)
  | .ok .nx ρ => outs io ρ (.val false .non)
  | .exc c x ρ => outs io ρ (.exc c x)
  | _ => .bad
def argS (io : Bool) (ds : List D) : En := match io, ds with
  | true, d :: ds => some (.b d) :: ds.map fun d => some (.f d)
  | _, ds => ds.map fun d => some (.f d)
/-- np parameters, n names -/
def runF (io : Bool) (np n : Nat) (m : En → R Fl) (ds : List D) : FO := if ds.length = np then finF io (m (argS io ds ++ List.replicate (n - np) none)) else .bad
def outσ (io : Bool) (β : V) : L2.St := match io with | true => [some β] | false => []
def outρ (out : Option D) : En := match out with | some d => [some (.b d)] | none => []
def mkS (o : Bool) (d : D) : S := match o with | true => .o d | false => .f d
def PstF (K : PySem.W.Frag) (cls : Str → Value) (io lk : Bool) (β : V) (F H : Hp) (fp : List Addr) (r : FO) (Q : VK) (E : XK) : Prop :=
  match r with
  | .val o d out => ∀ v F' H' fp', Tr F H fp F' H' fp' → Sta K β lk F' H' (some v :: outσ io β) (some (mkS o d) :: outρ out) fp' → Q v H'
  | .exc c x out => ∀ F' H' fp' dd, Tr F H fp F' H' fp' → Sta K β lk F' H' (outσ io β) (outρ out) fp' → XR K F' H' x dd → E (cls c) dd H'
  | .bad => False
def spF (K : PySem.W.Frag) (cls : Str → Value) (io lk0 : Bool) (np : Nat) (fs : List D → FO) : Sp := fun vs H Q E => vs.length = np ∧ ∃ F fp ds lk β, (lk = true → lk0 = true) ∧ (io = true → vs.head? = some β) ∧ Sta K β lk F H (vs.map some) (argS io ds) fp ∧ PstF K cls io lk β F H fp (fs ds) Q E
/-- the def that the name x stands for -/
structure Def (P : Program) (w : World) (K : PySem.W.Frag) (mg : Str → Option Value) (base : Heap) (CX : CXT) (k : Nat) (x : Str) (cls : Str → Value) (io lk0 : Bool) (np : Nat) (fs : List D → FO) : Prop where
  ex : ∃ f fd ps, FnOk P w K mg base CX k f fd ps (spF K cls io lk0 np fs) ∧ mg x = some (.ref f) ∧ PySem.W.keepIn K (.ref f) = true ∧ Binds K fd ps []
  nb : ∀ ds, ds.length ≠ np → fs ds = .bad
theorem Def.mono {P : Program} {w : World} {K : PySem.W.Frag} {mg : Str → Option Value} {base : Heap} {CX : CXT} {j k : Nat} {x : Str} {cls : Str → Value} {io lk0 : Bool} {np : Nat} {fs : List D → FO} (G : Def P w K mg base CX j x cls io lk0 np fs) (h : j ≤ k) : Def P w K mg base CX k x cls io lk0 np fs := by
  obtain ⟨f, fd, ps, F, r⟩ := G.ex
  exact ⟨⟨f, fd, ps, F.mono h, r⟩, G.nb⟩
theorem runF_nb {io : Bool} {np n : Nat} {m : En → R Fl} : ∀ ds, ds.length ≠ np → runF io np n m ds = .bad := fun ds h => if_neg h
section
variable {K : PySem.W.Frag} {β : V} {F F' H H' : Hp} {fp fp' : List Addr} {σ : L2.St} {ρ : En}
theorem Sl.app : ∀ {n : Nat}, Sl K β F H σ ρ fp → Sl K β F H (σ ++ List.replicate n none) (ρ ++ List.replicate n none) fp := by
  intro n s
  induction s with
  | nil =>
    induction n with
    | zero => exact .nil
    | succ n ih => exact .skip ih
  | skip t ih => exact .skip ih
  | fr z t ih => exact .fr z ih
  | ow a b t ih => exact .ow a b ih
  | bo e a b t ih => exact .bo e a b ih
theorem argS_len {io : Bool} {ds : List D} : (argS io ds).length = ds.length := by
  unfold argS
  split
  · simp
  · simp
/-- what a def hands back of its first parameter -/
theorem outs_out {io : Bool} {ρ : En} {k : Option D → FO} {K : PySem.W.Frag} {cls : Str → Value} {lk : Bool} {β : V} {F H F' H' : Hp} {fp fp' : List Addr} {σ' : L2.St} {Q : VK} {E : XK} (h : PstF K cls io lk β F H fp (outs io ρ k) Q E) (s : Sta K β lk F' H' σ' ρ fp') :
    ∃ out fp2, PstF K cls io lk β F H fp (k out) Q E ∧ Sta K β lk F' H' (outσ io β) (outρ out) fp2 ∧ (∀ a ∈ fp2, a ∈ fp') ∧ Tr F' H' fp' F' H' fp2 := by
  cases io with
  | false => exact ⟨none, [], h, ⟨s.ex, .nil, List.nodup_nil, fun a ha => (by cases ha), s.lock⟩, fun a ha => (by cases ha), Tr.refl.sub fun a ha => (by cases ha)⟩
  | true =>
    cases hs : s.sl with
    | bo e hw hz t =>
      rename_i a k vs ds σ ρ fp2
      clear hs
      subst e
      refine ⟨some _, [a], h, ⟨s.ex, .bo rfl hw hz .nil, by simp, fun b hb => s.own b (by rw [List.mem_singleton.mp hb]; exact List.mem_cons_self), s.lock⟩, fun b hb => by rw [List.mem_singleton.mp hb]; exact List.mem_cons_self, Tr.refl.sub fun b hb => by rw [List.mem_singleton.mp hb]; exact List.mem_cons_self⟩
    | nil => exact h.elim
    | skip t => exact h.elim
    | fr z t => exact h.elim
    | ow a b t => exact h.elim
theorem argS_nil {io : Bool} {β : V} {lk : Bool} {vs : List V} {ds : List D} (s : Sta K β lk F H (vs.map some) (argS io ds) fp) : vs.length = ds.length := by
  have := s.sl.len
  rw [argS_len] at this
  simpa using this
/-- from a body's reading to its def's promise -/
theorem body_ok {w : Wd} {io : Bool} {np n : Nat} {m : En → R Fl} {vs : List V} {Q : VK} {E : XK} {ds : List D} (hW : w.W = fun c dd _ H => E c dd H) (s : Sta K w.β w.lk F H (vs.map some) (argS io ds) fp) (hl : vs.length = np) (h : PstF K w.cls io w.lk w.β F H fp (runF io np n m ds) Q E) :
    cS K w m { nx := fun _ H' => Q .non H', rt := Q } (vs.map some ++ List.replicate (n - vs.length) none) H := by
  have hd : ds.length = np := by rw [← argS_nil s]; exact hl
  unfold runF at h
  rw [if_pos hd] at h
  rw [hl]
  refine ⟨F, _, fp, ⟨s.ex, s.sl.app, s.nd, s.own, s.lock⟩, ?_⟩
  cases q : m (argS io ds ++ List.replicate (n - np) none) with
  | bad => rw [q] at h; exact h
  | exc c x ρ' =>
    rw [q] at h
    intro σ' F' H' fp' dd t s' xr
    obtain ⟨out, fp2, h1, s2, sub, t2⟩ := outs_out (k := .exc c x) h s'
    rw [hW]
    exact h1 F' H' fp2 dd (t.trans t2) s2 xr
  | ok a ρ' =>
    rw [q] at h
    cases a with
    | nx =>
      intro σ' F' H' fp' t s'
      obtain ⟨out, fp2, h1, s2, sub, t2⟩ := outs_out (k := .val false .non) h s'
      exact h1 .non F' H' fp2 (t.trans t2) ⟨s2.ex, .fr .non s2.sl, s2.nd, s2.own, s2.lock⟩
    | rt d =>
      intro v σ' F' H' fp' t s' z
      obtain ⟨out, fp2, h1, s2, sub, t2⟩ := outs_out (k := .val false d) h s'
      exact h1 v F' H' fp2 (t.trans t2) ⟨s2.ex, .fr z s2.sl, s2.nd, s2.own, s2.lock⟩
    | ro d =>
      intro v σ' F' H' fp' t s'
      cases hs : s'.sl with
      | ow hw hz sl =>
        rename_i a k ws es fp3
        have nd := List.nodup_cons.mp s'.nd
        obtain ⟨out, fp2, h1, s2, sub, t2⟩ := outs_out (k := .val true _) h (⟨s'.ex, sl, nd.2, fun b hb => s'.own b (List.mem_cons_of_mem _ hb), s'.lock⟩ : Sta K w.β w.lk F' H' σ' ρ' fp3)
        exact h1 _ F' H' (a :: fp2) (t.trans t2.cons) ⟨s2.ex, .ow hw hz s2.sl, List.nodup_cons.mpr ⟨fun z => nd.1 (sub _ z), s2.nd⟩, fun b hb => (List.mem_cons.mp hb).elim (fun e => e ▸ s'.own a List.mem_cons_self) (s2.own b), s2.lock⟩
    | ct => exact h.elim
    | bk => exact h.elim
end

/-! ### a def that raises nothing -/
section
variable {P : Program} {w : World} {K : PySem.W.Frag} {mg : Str → Option Value} {base : Heap}
theorem mkDef {x : Str} {st : Stmt} {f : Addr} {fd : FuncData} {N ps : List Str} {k np n : Nat} {cls : Str → Value} {io lk0 : Bool} {m : En → R Fl} (F : Fun K x x st f fd) (hm : mg x = some (.ref f)) (b : Binds K fd ps []) (S : FnScope N ps (defScope st)) (hn : N.length = n := by rfl) (hp : ps.length = np := by rfl)
    (body : ∀ (cdv : Value) (A : Around) (outer : List Env) (s : Shared) (H : Hp) (E : XK) (W : Wd), Room k (A.deeper (envOfC x (defScope st) s.heap.objs.size f cdv)) → (W.lk = true → lk0 = true) → W.cls = cls → PSs (cxOf CX0 P w K mg base N x (defScope st) f cdv A outer s H E).nox (defBody st) (cS K W m)) : Def P w K mg base CX0 (k + 1) x cls io lk0 np (runF io np n m) := by
  refine ⟨⟨f, fd, ps, F.ok S (fun vs H Q E h => h.1.trans hp.symm) (fun cdv A outer s H vs Q E hr h => ?_), hm, F.kp, b⟩, runF_nb⟩
  obtain ⟨hl, G, fp, ds, lk, β, hlk, hio, st', h⟩ := h
  refine ⟨_, body cdv A outer s H E ⟨β, lk, cls, fun c dd _ H => E c dd H⟩ hr hlk rfl, ?_⟩
  subst hn
  exact body_ok (w := ⟨β, lk, cls, fun c dd _ H => E c dd H⟩) rfl st' hl h
end

/-! ### calls -/
def sCall (fs : List D → FO) (f : En → R (List D)) : En → R D := fun ρ => bnd (f ρ) fun ds ρ1 => match fs ds with
  | .val _ d _ => .ok d ρ1
  | _ => .bad
def sCallO (fs : List D → FO) (f : En → R (List D)) : En → R D := fun ρ => bnd (f ρ) fun ds ρ1 => match fs ds with
  | .val true d _ => .ok d ρ1
  | _ => .bad
def sCallI (i : Nat) (fs : List D → FO) (f : En → R (List D)) : En → R D := fun ρ => bnd (lift (ownD i ρ) ρ) fun _ _ => bnd (f ρ) fun ds ρ1 => match ownD i ρ1 with
  | some d0 => match fs (d0 :: ds) with
    | .val _ d (some d') => .ok d (chg i d' ρ1)
    | _ => .bad
  | none => .bad
def sCallIO (i : Nat) (fs : List D → FO) (f : En → R (List D)) : En → R D := fun ρ => bnd (lift (ownD i ρ) ρ) fun _ _ => bnd (f ρ) fun ds ρ1 => match ownD i ρ1 with
  | some d0 => match fs (d0 :: ds) with
    | .val true d (some d') => .ok d (chg i d' ρ1)
    | _ => .bad
  | none => .bad
section
variable {K : PySem.W.Frag} {β : V} {lk : Bool} {F F' H H' : Hp} {fp fp' : List Addr} {σ : L2.St} {ρ : En}
theorem fzs_args : ∀ {vs : List V} {ds : List D}, Fzs K F vs ds → Sl K β F H (vs.map some) (ds.map fun d => some (.f d)) []
  | _, _, .nil => .nil
  | _, _, .cons z zs => .fr z (fzs_args zs)
theorem argS_false (ds : List D) : argS false ds = ds.map fun d => some (.f d) := by
  unfold argS
  split <;> first | rfl | contradiction
/-- a name lent to a callee -/
theorem Sta.lend {i : Nat} {d0 : D} (s : Sta K β lk F H σ ρ fp) (e : ownD i ρ = some d0) :
    ∃ a, σ[i]? = some (some (.ref a)) ∧ a ∈ fp ∧ F a = none ∧ Sl K (.ref a) F H [some (.ref a)] [some (.b d0)] [a] ∧
      ∀ F' H' d', Tr F H [a] F' H' [a] → Same F' H' → (lk = false → NoLock F') → Sl K (.ref a) F' H' [some (.ref a)] [some (.b d')] [a] → F' a = none → Sta K β lk F' H' σ (chg i d' ρ) fp ∧ Tr F H fp F' H' fp := by
  have main : ∀ mk : D → S, (mk = S.o ∨ mk = S.b) → ρ[i]? = some (some (mk d0)) → (∀ d', chg i d' ρ = ρ.set i (some (mk d'))) → ∃ a, σ[i]? = some (some (.ref a)) ∧ a ∈ fp ∧ F a = none ∧ Sl K (.ref a) F H [some (.ref a)] [some (.b d0)] [a] ∧
      ∀ F' H' d', Tr F H [a] F' H' [a] → Same F' H' → (lk = false → NoLock F') → Sl K (.ref a) F' H' [some (.ref a)] [some (.b d')] [a] → F' a = none → Sta K β lk F' H' σ (chg i d' ρ) fp ∧ Tr F H fp F' H' fp := by
    intro mk hm e1 hc
    obtain ⟨a, k, vs, ds, fp1, fp2, h1, h2, h3, h4, h5, h6, h7, h8, h9⟩ := s.sl.own mk hm e1
    subst h1 h2
    obtain ⟨m1, m2, m3⟩ := mid s.nd
    refine ⟨a, h3, by simp, s.own a (by simp), .bo rfl h4 h5 .nil, fun F' H' d' t ex lock sl na => ?_⟩
    have keep : ∀ b ∈ fp1 ++ fp2, ∀ o, H b = some o → H' b = some o := fun b hb o q => t.keep b o q fun z => m1 (by rw [← List.mem_singleton.mp z]; exact hb)
    cases sl with
    | bo _ hw hz _ =>
      have tt := t.wide (gp := fp1 ++ a :: fp2) fun b hb => by rw [List.mem_singleton.mp hb]; simp
      refine ⟨⟨ex, ?_, s.nd, fun b hb => ?_, lock⟩, ?_⟩
      · rw [hc]
        exact h8 F' H' _ _ _ t.ex keep hw hz
      · by_cases q : b = a
        · rw [q]; exact na
        · have hb' : b ∈ fp1 ++ fp2 := by
            rcases List.mem_cons.mp (m3.mem_iff.mpr hb) with z | z
            · exact absurd z q
            · exact z
          cases r : F' b with
          | none => rfl
          | some o =>
            rcases t.new b (.inr ⟨s.own b hb, by rw [r]; exact fun z => nomatch z⟩) with z | z
            · exact absurd (List.mem_singleton.mp z) q
            · obtain ⟨o', ho⟩ := s.sl.fpH b hb
              rw [z] at ho; cases ho
      · refine ⟨tt.ex, tt.keep, fun b q => ?_⟩
        rcases q with q | q
        · exact .inl q
        · exact tt.new b (.inr q)
  unfold ownD at e
  split at e
  · rename_i d' e1
    cases e
    exact main S.o (.inl rfl) e1 fun d' => by unfold chg; rw [e1]
  · rename_i d' e1
    cases e
    exact main S.b (.inr rfl) e1 fun d' => by unfold chg; rw [e1]
  · cases e
end
end Y

set_option Elab.async false
set_option linter.all false
set_option maxRecDepth 100000
set_option maxHeartbeats 2000000
/-! Calls by values. -/
namespace Y
open PySem L2
section
variable {K : PySem.W.Frag} {w : Wd} {F F' H H' : Hp} {fp fp' gp : List Addr} {σ : St} {ρ : En} {d : D} {v : V}
/-- a callee without a borrowed name is back: its result beside ours -/
theorem back_plain {o : Bool} (s : StaW K w F H σ ρ fp) (t : Tr F H [] F' H' gp) (r : Sta K β w.lk F' H' [some v] [some (mkS o d)] gp) :
    StaW K w F' H' (some v :: σ) (some (mkS o d) :: ρ) (gp ++ fp) ∧ Tr F H fp F' H' (gp ++ fp) := by
  obtain ⟨s1, dj⟩ := s.frame t (fun a _ h => by cases h) r.ex r.lock
  have tt : Tr F H fp F' H' (gp ++ fp) := by
    refine ⟨t.ex, fun a q h n => t.keep a q h (by simp), fun a q => ?_⟩
    rcases q with q | q
    · rcases List.mem_append.mp q with q | q
      · exact (t.new a (.inl q)).imp (fun z => by cases z) id
      · exact .inl q
    · exact (t.new a (.inr q)).imp (fun z => by cases z) id
  cases o with
  | false =>
    cases hs : r.sl with
    | fr z tl =>
      cases tl with
      | nil => exact ⟨⟨s1.ex, .fr z s1.sl, s1.nd, s1.own, s1.lock⟩, tt⟩
  | true =>
    cases hs : r.sl with
    | ow hw hz tl =>
      cases tl with
      | nil =>
        refine ⟨⟨s1.ex, .ow hw hz s1.sl, List.nodup_cons.mpr ⟨fun m => dj _ m (by simp), s1.nd⟩, fun a ha => ?_, s1.lock⟩, tt⟩
        rcases List.mem_cons.mp ha with rfl | ha
        · exact r.own _ (by simp)
        · exact s1.own a ha
/-- a callee with a borrowed name is back -/
theorem back_lent {o : Bool} {i : Nat} {a : Addr} {d' : D} (s : StaW K w F H σ ρ fp) (ha : a ∈ fp)
    (ret : ∀ F' H' d', Tr F H [a] F' H' [a] → Same F' H' → (w.lk = false → NoLock F') → Sl K (.ref a) F' H' [some (.ref a)] [some (.b d')] [a] → F' a = none → StaW K w F' H' σ (chg i d' ρ) fp ∧ Tr F H fp F' H' fp)
    (t : Tr F H [a] F' H' gp) (r : Sta K (.ref a) w.lk F' H' [some v, some (.ref a)] [some (mkS o d), some (.b d')] gp) :
    ∃ fp2, StaW K w F' H' (some v :: σ) (some (mkS o d) :: chg i d' ρ) fp2 ∧ Tr F H fp F' H' fp2 := by
  cases o with
  | false =>
    cases hs : r.sl with
    | fr z tl =>
      cases tl with
      | bo e hw hz tl =>
        cases e
        cases tl with
        | nil =>
          obtain ⟨s2, t2⟩ := ret F' H' _ t r.ex r.lock (.bo rfl hw hz .nil) (r.own a (by simp))
          exact ⟨fp, ⟨s2.ex, .fr z s2.sl, s2.nd, s2.own, s2.lock⟩, t2⟩
  | true =>
    cases hs : r.sl with
    | ow hw1 hz1 tl =>
      rename_i b k1 vs1 ds1 gp2
      cases tl with
      | bo e hw hz tl =>
        cases e
        cases tl with
        | nil =>
          have nd := List.nodup_cons.mp r.nd
          obtain ⟨s2, t2⟩ := ret F' H' _ (t.sub fun c hc => List.mem_cons_of_mem _ hc) r.ex r.lock (.bo rfl hw hz .nil) (r.own a (by simp))
          have nb : b ∉ fp := fun hb => by
            rcases t.new b (.inl List.mem_cons_self) with q | q
            · exact nd.1 q
            · obtain ⟨ob, e2⟩ := s.sl.fpH b hb
              rw [q] at e2; cases e2
          refine ⟨b :: fp, ⟨s2.ex, .ow hw1 hz1 s2.sl, List.nodup_cons.mpr ⟨nb, s2.nd⟩, fun c hc => ?_, s2.lock⟩, ⟨t2.ex, t2.keep, fun c q => ?_⟩⟩
          · rcases List.mem_cons.mp hc with rfl | hc
            · exact r.own _ List.mem_cons_self
            · exact s2.own c hc
          · rcases q with q | q
            · rcases List.mem_cons.mp q with rfl | q
              · rcases t.new _ (.inl List.mem_cons_self) with q | q
                · exact absurd q nd.1
                · exact .inr q
              · exact .inl q
            · exact t2.new c (.inr q)
/-- frozen, if it is ours -/
theorem toF {o : Bool} {Q : VK} {ρ' : En} (s : StaW K w F' H' (some v :: σ) (some (mkS o d) :: ρ') fp') (t : Tr F H fp F' H' fp') (h : ∀ F' H' fp', Tr F H fp F' H' fp' → nF K w σ Q d ρ' F' H' fp') : Q v H' := by
  cases o with
  | false =>
    cases hs : s.sl with
    | fr z tl => exact h F' H' fp' t v ⟨s.ex, tl, s.nd, s.own, s.lock⟩ z
  | true =>
    cases hs : s.sl with
    | ow hw hz tl =>
      obtain ⟨F2, s2, t2, z⟩ := Sta.freeze s hw hz tl
      exact h F2 H' _ (t.trans t2) _ s2 z
end
section
variable {X : Cx} {w : Wd} {e : Expr} {es : List Expr} {f : En → R (List D)} {x y : Str} {p p2 pos : Pos} {fs : List D → FO} {k np : Nat} {lk0 : Bool}
theorem call_plain {K : PySem.W.Frag} {Q : VK} {σ : St} {F H : Hp} {fp : List Addr} {ρ1 : En} {vs : List V} {ds : List D} {N : VK → D → En → Hp → Hp → List Addr → Prop} {r : FO → R D} (nb : ∀ ds, ds.length ≠ np → fs ds = .bad) (hlk : w.lk = true → lk0 = true)
    (s1 : StaW K w F H σ ρ1 fp) (z : Fzs K F vs ds) (nbad : fs ds ≠ .bad) (h : PstF K w.cls false w.lk w.β F H [] (fs ds) Q E0) : spF K w.cls false lk0 np fs vs H Q E0 := by
  refine ⟨?_, F, [], ds, w.lk, w.β, hlk, (fun q => nomatch q), ?_, h⟩
  · rw [z.length]
    exact Decidable.byContradiction fun q => nbad (nb ds q)
  · rw [argS_false]
    exact ⟨s1.ex, fzs_args z, List.nodup_nil, fun a h => (by cases h), s1.lock⟩
theorem d_call (G : Def X.prog X.w X.K X.mg X.base CX0 k x w.cls false lk0 np fs) (hlk : w.lk = true → lk0 = true) (hr : Room k X.A) (hg : Gl X x) (ha : PA X (e :: es) (cA X.K w f)) (hdb : (x == ("__debug__" : Str)) = false := by decide)
    (he : starEach (e :: es) X.env = (false, eval e X.env) :: starEach es X.env := by rfl) (hpl : (backTo pos (starEach es X.env)).any (·.1) = false := by rfl) : PE X (.Call (.Name x p) (e :: es) [] pos) (cF X.K w (sCall fs f)) := by
  obtain ⟨⟨fa, fd, ps, F0, hm, hk, hb⟩, nb⟩ := G
  refine peI (pe_call F0 hr hg hm hk hb .nil pass0 ha hdb he hpl) fun σ H Q h => ?_
  obtain ⟨F, ρ, fp, s, h⟩ := h
  refine ⟨F, ρ, fp, s, h.bnd fun ds ρ1 F1 H1 fp1 t1 h1 => fun vs s1 z => ?_⟩
  show spF X.K w.cls false lk0 np fs (vs ++ []) H1 Q E0
  rw [List.append_nil]
  cases q : fs ds with
  | bad => simp only [q] at h1; exact h1.elim
  | exc c x o => simp only [q] at h1; exact h1.elim
  | val o d out =>
    simp only [q] at h1
    refine call_plain (N := fun _ _ _ _ _ _ => True) (r := fun _ => .bad) nb hlk s1 z (by rw [q]; exact fun z => nomatch z) ?_
    rw [q]
    intro v F' H' gp t r
    cases out with
    | none =>
      obtain ⟨s2, t2⟩ := back_plain s1 t r
      exact toF s2 t2 h1
    | some d' => have := r.sl.len; simp [outσ, outρ] at this
theorem d_callO (G : Def X.prog X.w X.K X.mg X.base CX0 k x w.cls false lk0 np fs) (hlk : w.lk = true → lk0 = true) (hr : Room k X.A) (hg : Gl X x) (ha : PA X (e :: es) (cA X.K w f)) (hdb : (x == ("__debug__" : Str)) = false := by decide)
    (he : starEach (e :: es) X.env = (false, eval e X.env) :: starEach es X.env := by rfl) (hpl : (backTo pos (starEach es X.env)).any (·.1) = false := by rfl) : PE X (.Call (.Name x p) (e :: es) [] pos) (cO X.K w (sCallO fs f)) := by
  obtain ⟨⟨fa, fd, ps, F0, hm, hk, hb⟩, nb⟩ := G
  refine peI (pe_call F0 hr hg hm hk hb .nil pass0 ha hdb he hpl) fun σ H Q h => ?_
  obtain ⟨F, ρ, fp, s, h⟩ := h
  refine ⟨F, ρ, fp, s, h.bnd fun ds ρ1 F1 H1 fp1 t1 h1 => fun vs s1 z => ?_⟩
  show spF X.K w.cls false lk0 np fs (vs ++ []) H1 Q E0
  rw [List.append_nil]
  cases q : fs ds with
  | bad => simp only [q] at h1; exact h1.elim
  | exc c x o => simp only [q] at h1; exact h1.elim
  | val o d out =>
    cases o with
    | false => simp only [q] at h1; exact h1.elim
    | true =>
      simp only [q] at h1
      refine call_plain (N := fun _ _ _ _ _ _ => True) (r := fun _ => .bad) nb hlk s1 z (by rw [q]; exact fun z => nomatch z) ?_
      rw [q]
      intro v F' H' gp t r
      cases out with
      | none =>
        obtain ⟨s2, t2⟩ := back_plain s1 t r
        exact h1 F' H' _ t2 v s2
      | some d' => have := r.sl.len; simp [outσ, outρ] at this
theorem call_lent {K : PySem.W.Frag} {Q : VK} {σ : St} {F H : Hp} {fp : List Addr} {ρ1 : En} {vs : List V} {d0 : D} {ds : List D} {a : Addr} (nb : ∀ ds, ds.length ≠ np → fs ds = .bad) (hlk : w.lk = true → lk0 = true)
    (s1 : StaW K w F H σ ρ1 fp) (na : F a = none) (sl : Sl K (.ref a) F H [some (.ref a)] [some (.b d0)] [a]) (z : Fzs K F vs ds) (nbad : fs (d0 :: ds) ≠ .bad) (h : PstF K w.cls true w.lk (.ref a) F H [a] (fs (d0 :: ds)) Q E0) : spF K w.cls true lk0 np fs (.ref a :: vs) H Q E0 := by
  refine ⟨?_, F, [a], d0 :: ds, w.lk, .ref a, hlk, fun _ => rfl, ?_, h⟩
  · have : (V.ref a :: vs).length = (d0 :: ds).length := by simp [z.length]
    rw [this]
    exact Decidable.byContradiction fun q => nbad (nb _ q)
  · refine ⟨s1.ex, ?_, by simp, fun b hb => by rw [List.mem_singleton.mp hb]; exact na, s1.lock⟩
    cases sl with
    | bo e hw hz _ => exact .bo e hw hz (fzs_args z)
theorem d_callI (i : Nat) (G : Def X.prog X.w X.K X.mg X.base CX0 k x w.cls true lk0 np fs) (hlk : w.lk = true → lk0 = true) (hr : Room k X.A) (hg : Gl X x) (ha : PA X es (cA X.K w f))
    (hN : X.N[i]? = some y := by rfl) (hv : Vis X.env.scope y := by first | exact Or.inl rfl | exact Or.inr (Or.inl rfl) | exact Or.inr (Or.inr rfl)) (hd : (y == ("__debug__" : Str)) = false := by decide) (hcd : (y == ("__classdict__" : Str)) = false := by decide) (hdb : (x == ("__debug__" : Str)) = false := by decide)
    (he : starEach ((.Name y p2) :: es) X.env = (false, eval (.Name y p2) X.env) :: starEach es X.env := by rfl) (hpl : (backTo pos (starEach es X.env)).any (·.1) = false := by rfl) : PE X (.Call (.Name x p) (.Name y p2 :: es) [] pos) (cF X.K w (sCallI i fs f)) := by
  obtain ⟨⟨fa, fd, ps, F0, hm, hk, hb⟩, nb⟩ := G
  refine peI (pe_call F0 hr hg hm hk hb .nil pass0 (pa_cons (pe_var hN hv hd hcd) ha he) hdb he hpl) fun σ H Q h => ?_
  obtain ⟨F, ρ, fp, s, h⟩ := h
  cases e0 : ownD i ρ with
  | none => unfold sCallI at h; rw [e0] at h; exact h.elim
  | some d0 =>
    have h : Pst X.K w F H fp σ (bnd (f ρ) fun ds ρ1 => match ownD i ρ1 with
      | some d0 => (match fs (d0 :: ds) with
        | .val _ d (some d') => .ok d (chg i d' ρ1)
        | _ => .bad)
      | none => .bad) (nF X.K w σ Q) := by unfold sCallI at h; rw [e0] at h; exact h
    obtain ⟨a, ev, _, _, _, _⟩ := s.lend e0
    refine ⟨.ref a, ev, F, ρ, fp, s, h.bnd fun ds ρ1 F1 H1 fp1 t1 h1 => fun vs s1 z => ?_⟩
    show spF X.K w.cls true lk0 np fs ((.ref a :: vs) ++ []) H1 Q E0
    rw [List.append_nil]
    cases e1 : ownD i ρ1 with
    | none => simp only [e1] at h1; exact h1.elim
    | some d1 =>
      simp only [e1] at h1
      obtain ⟨b, ev', hb', nb', sl, ret⟩ := s1.lend e1
      rw [ev] at ev'
      cases ev'
      cases q : fs (d1 :: ds) with
      | bad => simp only [q] at h1; exact h1.elim
      | exc c x o => simp only [q] at h1; exact h1.elim
      | val o d out =>
        cases out with
        | none => simp only [q] at h1; exact h1.elim
        | some d' =>
          simp only [q] at h1
          refine call_lent nb hlk s1 nb' sl z (by rw [q]; exact fun z => nomatch z) ?_
          rw [q]
          intro v F' H' gp t r
          obtain ⟨fp2, s2, t2⟩ := back_lent s1 hb' ret t r
          exact toF s2 t2 h1
theorem d_callIO (i : Nat) (G : Def X.prog X.w X.K X.mg X.base CX0 k x w.cls true lk0 np fs) (hlk : w.lk = true → lk0 = true) (hr : Room k X.A) (hg : Gl X x) (ha : PA X es (cA X.K w f))
    (hN : X.N[i]? = some y := by rfl) (hv : Vis X.env.scope y := by first | exact Or.inl rfl | exact Or.inr (Or.inl rfl) | exact Or.inr (Or.inr rfl)) (hd : (y == ("__debug__" : Str)) = false := by decide) (hcd : (y == ("__classdict__" : Str)) = false := by decide) (hdb : (x == ("__debug__" : Str)) = false := by decide)
    (he : starEach ((.Name y p2) :: es) X.env = (false, eval (.Name y p2) X.env) :: starEach es X.env := by rfl) (hpl : (backTo pos (starEach es X.env)).any (·.1) = false := by rfl) : PE X (.Call (.Name x p) (.Name y p2 :: es) [] pos) (cO X.K w (sCallIO i fs f)) := by
  obtain ⟨⟨fa, fd, ps, F0, hm, hk, hb⟩, nb⟩ := G
  refine peI (pe_call F0 hr hg hm hk hb .nil pass0 (pa_cons (pe_var hN hv hd hcd) ha he) hdb he hpl) fun σ H Q h => ?_
  obtain ⟨F, ρ, fp, s, h⟩ := h
  cases e0 : ownD i ρ with
  | none => unfold sCallIO at h; rw [e0] at h; exact h.elim
  | some d0 =>
    have h : Pst X.K w F H fp σ (bnd (f ρ) fun ds ρ1 => match ownD i ρ1 with
      | some d0 => (match fs (d0 :: ds) with
        | .val true d (some d') => .ok d (chg i d' ρ1)
        | _ => .bad)
      | none => .bad) (nO X.K w σ Q) := by unfold sCallIO at h; rw [e0] at h; exact h
    obtain ⟨a, ev, _, _, _, _⟩ := s.lend e0
    refine ⟨.ref a, ev, F, ρ, fp, s, h.bnd fun ds ρ1 F1 H1 fp1 t1 h1 => fun vs s1 z => ?_⟩
    show spF X.K w.cls true lk0 np fs ((.ref a :: vs) ++ []) H1 Q E0
    rw [List.append_nil]
    cases e1 : ownD i ρ1 with
    | none => simp only [e1] at h1; exact h1.elim
    | some d1 =>
      simp only [e1] at h1
      obtain ⟨b, ev', hb', nb', sl, ret⟩ := s1.lend e1
      rw [ev] at ev'
      cases ev'
      cases q : fs (d1 :: ds) with
      | bad => simp only [q] at h1; exact h1.elim
      | exc c x o => simp only [q] at h1; exact h1.elim
      | val o d out =>
        cases o with
        | false => simp only [q] at h1; exact h1.elim
        | true =>
          cases out with
          | none => simp only [q] at h1; exact h1.elim
          | some d' =>
            simp only [q] at h1
            refine call_lent nb hlk s1 nb' sl z (by rw [q]; exact fun z => nomatch z) ?_
            rw [q]
            intro v F' H' gp t r
            obtain ⟨fp2, s2, t2⟩ := back_lent s1 hb' ret t r
            exact h1 F' H' fp2 t2 v s2
end
end Y

set_option Elab.async false
set_option linter.all false
set_option maxRecDepth 100000
set_option maxHeartbeats 2000000
/-! sorted(..). -/
namespace Y
open PySem PySem.Spec PyProof.Rows L2 PySem.W

section
variable {P : Program} {w : World} {A : Around} {E : Value → Shared → Prop} {s : Shared}
theorem collect_tup {l : Addr} {vs : List Value} {Q : List Value → Shared → Prop} (hl : IsTup s.heap l vs.toArray)
    (h : Q vs { s with heap := (s.heap.push (seqObj "list" #[] 0)).update s.heap.objs.size (Obj.mapSeq (· ++ vs.toArray)) }) (hsz : vs.length ≤ sizeLine) :
    wpAny (model P w) A (collect (.ref l)) Q E s := by
  obtain ⟨o, ho, hc, n, hd⟩ := id hl
  unfold collect
  refine wpAny_bind (wpAny_runValue (codeAny_builtin entry_proto_collect' ?_))
  show wpAny _ _ (do again (.builtin "list.__iadd__" ⟨[← newList [], .ref l], []⟩)) _ _ s
  refine wpAny_bind (wpAny_newList (wpAny_pure ⟨Code.quiet_builtin _ (by decide +kernel), codeAny_builtin entry_list_iadd' ?_⟩))
  show wpAny _ _ (Builtin.List.listExtendWith (.ref s.heap.objs.size) (.ref l) (.ref s.heap.objs.size)) _ _ { s with heap := s.heap.push (seqObj "list" #[] 0) }
  unfold Builtin.List.listExtendWith
  have ho' : (s.heap.push (seqObj "list" #[] 0)).get? l = some o := Heap.get?_push_of_some _ ho
  refine wpAny_bind (wpAny_typeOf (T := "tuple") ⟨o, ho', hc⟩ ?_)
  have ht : (Value.type "tuple" == Value.type "tuple") = true := by rfl
  rw [if_pos (by rw [ht]; simp)]
  refine wpAny_bind (listItems_at ho' hd ?_)
  refine wpAny_bind (listItems_at (xs := #[]) (n := 0) (Heap.get?_push_size _ rfl) rfl ?_)
  rw [if_neg (by simp)]
  refine wpAny_bind (listUpdate_at (xs := #[]) (n := 0) (Heap.get?_push_size _ rfl) rfl ?_ (Nat.zero_le _) (by show (#[] ++ vs.toArray).size ≤ sizeLine + 1; simp only [Array.size_append, List.size_toArray, List.length_nil]; omega))
  refine wpAny_pure ?_
  show wpAny (model P w) A (do
      let o ← load s.heap.objs.size
      match o.data with
      | .seq xs _ => pure xs.toList
      | _ => unsupported "internal:collect") Q E { s with heap := (s.heap.push (seqObj "list" #[] 0)).update s.heap.objs.size (Obj.mapSeq (· ++ vs.toArray)) }
  refine wpAny_bind (wpAny_load (get?_update_seq (Heap.get?_push_size _ rfl) _) ?_)
  show wpAny _ _ (pure ((#[] : Array Value) ++ vs.toArray).toList) Q E _
  rw [show ((#[] : Array Value) ++ vs.toArray).toList = vs by simp]
  exact wpAny_pure h
end

abbrev Each (us : List Value) (bs : List (V × D)) : Prop := EachIs (fun u (b : V × D) => RelV b.1 u) us bs
abbrev pyb (b : V × D) : PyData := py b.2
theorem each_vals : ∀ {us : List Value} {bs : List (V × D)}, Each us bs → Vals (bs.map (·.1)) us
  | _, _, .nil => .nil
  | _, _, .cons h t => .cons h (each_vals t)
theorem vals_each : ∀ {vs : List V} {ds : List D} {us : List Value}, Vals vs us → vs.length = ds.length → Each us (vs.zip ds)
  | [], [], _, .nil, _ => .nil
  | v :: vs, d :: ds, _, .cons h t, e => .cons h (vals_each t (by simpa using e))
  | [], _ :: _, _, _, e => by simp at e
  | _ :: _, [], _, _, e => by simp at e
theorem each_reads {h : Heap} : ∀ {us : List Value} {bs : List (V × D)}, Each us bs → (∀ u b, b ∈ bs → RelV b.1 u → ∃ as, Reads h u (pyb b) as) → EachIs (fun v b => ∃ as, Reads h v (pyb b) as) us bs
  | _, _, .nil, _ => .nil
  | _, _, .cons h t, k => .cons (k _ _ List.mem_cons_self h) (each_reads t fun u b m => k u b (List.mem_cons_of_mem _ m))

/-- the items may be sorted -/
structure SortOk (K : PySem.W.Frag) (H : Hp) (bs : List (V × D)) : Prop where
  len : bs.length ≤ sizeLine
  al : AllAlike (bs.map pyb)
  so : PySem.W.Sortable (bs.map pyb)
  dp : ∀ b ∈ bs, Dp K H b.1 (pyb b) ∧ (pyb b).depth ≤ 64
theorem sorted_gath {X : Cx} {pins : List (Addr × Obj)} {σ : L2.St} {H : Hp} {s : Shared} {u : Value} {Q : VK} {E : Value → Shared → Prop} {P : List (V × D) → Prop} (hu : X.A.units + 69 < cLine)
    (G : ∀ (Q' : List Value → Shared → Prop) (E' : Value → Shared → Prop), (∀ s' us bs, Inv X pins σ H s' → Each us bs → P bs → Q' us s') → wpAny (model X.prog X.w) X.A.in1 (collect u) Q' E' s)
    (hP : ∀ bs, P bs → SortOk X.K H bs)
    (q : ∀ bs p, P bs → H p = none → Q (.ref p) (upd H p (.lst ((bs.mergeSort (dataLe false pyb)).map (·.1))))) :
    wpAny (model X.prog X.w) X.A (call (.builtin "sorted") [u]) (fun v s' => ∃ x H', Inv X pins σ H' s' ∧ RelV x v ∧ Q x H') E s := by
  refine Calls.call_function_entry kind_sorted plain_sorted entry_sorted (args_sorted1 _) ?_
  unfold Builtin.«sorted»
  refine wpAny_bind (m := checkCount "sorted" 1 1 _) (wpAny_pure ?_)
  refine wpAny_bind (G _ _ fun s1 us bs I1 e pb => ?_)
  have ok := hP bs pb
  have hl : us.length ≤ sizeLine := by rw [e.length]; exact ok.len
  refine wpAny_bind (wpAny_newList ?_ hl)
  have hoL : (s1.heap.push (seqObj "list" us.toArray 0)).get? s1.heap.objs.size = some (seqObj "list" us.toArray 0) := Heap.get?_push_size _ rfl
  show wpAny _ _ _ _ _ { s1 with heap := s1.heap.push (seqObj "list" us.toArray 0) }
  have er : EachIs (fun v b => ∃ as, Reads (sortingHeap (s1.heap.push (seqObj "list" us.toArray 0)) s1.heap.objs.size us) v (pyb b) as) us bs := each_reads e fun u b m r => by
    obtain ⟨as, h⟩ := Dp.reads I1 (pyb b) b.1 u (ok.dp b m).1 r
    exact ⟨as, PyProof.Rows.Reads.keeps (fun b o h => sortingHeap_old (Nat.ne_of_lt (Heap.lt_size h)) (Heap.get?_push_of_some _ h)) h⟩
  have S : SortsAt X.prog X.w X.A.in1.in1 { s1 with heap := sortingHeap (s1.heap.push (seqObj "list" us.toArray 0)) s1.heap.objs.size us } (dataKind (sortingHeap (s1.heap.push (seqObj "list" us.toArray 0)) s1.heap.objs.size us) (bs.map pyb)) us :=
    SortsAt.data (s := { s1 with heap := sortingHeap (s1.heap.push (seqObj "list" us.toArray 0)) s1.heap.objs.size us }) (each_map (R := fun v d => ∃ as, Reads (sortingHeap (s1.heap.push (seqObj "list" us.toArray 0)) s1.heap.objs.size us) v d as) pyb er) ok.al ok.so fun d hd => by
      obtain ⟨b, hb, rfl⟩ := List.mem_map.mp hd
      have := (ok.dp b hb).2
      show X.A.in1.in1.units + _ < _
      have : X.A.in1.in1.units = X.A.units + 1 + 1 := rfl
      omega
  refine wpAny_bind (wpAny_holding (wpAny_call_entry slot_list_sort ⟨_, hoL, rfl⟩ entry_list_sort
    (list_sort_vals (s := { s1 with heap := s1.heap.push (seqObj "list" us.toArray 0) }) hoL S hl ⟨_, rfl, ?_⟩) (args_list_sort _)))
  have out := sortVals_data (R := fun u (b : V × D) => RelV b.1 u) false e er ok.al
  obtain ⟨c, hc⟩ := sortedHeap_at (vs := us) (out := (sortVals (dataKind (sortingHeap (s1.heap.push (seqObj "list" us.toArray 0)) s1.heap.objs.size us) (bs.map pyb)) false us us).toArray) hoL
  refine wpAny_pure ⟨_, rfl, .ref s1.heap.objs.size, upd H s1.heap.objs.size (.lst ((bs.mergeSort (dataLe false pyb)).map (·.1))), I1.laid (t' := s1.toks) (fun b u e => ?_) (Nat.le_refl _)
    (show ObjOk X.prog X.w _ _ _ (.lst _) from ⟨?_, _, c, each_vals out, hc⟩), rfl, q bs _ pb (I1.hok.fresh (Nat.le_refl _))⟩
  · have hb : b < s1.heap.objs.size := Heap.lt_size e
    rw [sortedHeap_old (Nat.ne_of_lt hb) (by rw [size_push']; exact Nat.lt_succ_of_lt hb)]
    exact Heap.get?_push_of_some _ e
  · rw [List.length_map, List.length_mergeSort]; exact ok.len

/-! ### on data -/
def leD (a b : D) : Bool := dataLe false py a b
def tupC : D → Bool
  | .nd .tup (_ :: _) => true
  | .nd .ktp (_ :: _) => true
  | _ => false
def noTup : D → Bool
  | .non => false
  | .ty _ => false
  | .nd .lst _ => true
  | .nd .scr _ => true
  | .nd _ _ => false
  | _ => true
def likeD (ds : List D) : Bool := (ds.all fun a => ds.all fun b => alike (py a) (py b)) && (ds.all dok && (ds.all tupC || ds.all noTup))
def sortD (ds : List D) : Option D := if likeD ds = true ∧ ds.length ≤ sizeLine then some (.nd .lst (ds.mergeSort leD)) else none
def dSorted : D → Option D
  | .nd .lst ds => sortD ds
  | .nd .tup ds => sortD ds
  | .nd (.dK ks) _ => sortD (ks.map kD)
  | _ => none
theorem sort_snd (bs : List (V × D)) : (bs.mergeSort (dataLe false pyb)).map (·.2) = (bs.map (·.2)).mergeSort leD := sort_maps (r := dataLe false pyb) (s := leD) (fun b : V × D => b.2) fun _ _ _ _ => rfl
theorem fzs_zip {K : PySem.W.Frag} {F : Hp} : ∀ {vs : List V} {ds : List D}, Fzs K F vs ds → ∀ b ∈ vs.zip ds, Fz K F b.1 b.2
  | _, _, .nil, b, h => by simp at h
  | _, _, .cons z t, b, h => by
    rcases List.mem_cons.mp (by simpa using h) with rfl | h
    · exact z
    · exact fzs_zip t b h
theorem fzs_of {K : PySem.W.Frag} {F : Hp} : ∀ {bs : List (V × D)}, (∀ b ∈ bs, Fz K F b.1 b.2) → Fzs K F (bs.map (·.1)) (bs.map (·.2))
  | [], _ => .nil
  | b :: bs, h => .cons (h b List.mem_cons_self) (fzs_of fun c m => h c (List.mem_cons_of_mem _ m))
theorem fzs_sort {K : PySem.W.Frag} {F : Hp} {bs : List (V × D)} (h : ∀ b ∈ bs, Fz K F b.1 b.2) : Fzs K F ((bs.mergeSort (dataLe false pyb)).map (·.1)) ((bs.map (·.2)).mergeSort leD) := by
  rw [← sort_snd]
  exact fzs_of fun b m => h b ((List.mergeSort_perm bs _).mem_iff.mp m)
theorem okD_dok {d : D} (h : dok d = true) : okD d = true ∧ (py d).depth ≤ 64 := by simpa [dok] using h
theorem sortOk {K : PySem.W.Frag} {F H : Hp} (ex : Same F H) {bs : List (V × D)} (h : ∀ b ∈ bs, Fz K F b.1 b.2) (l : likeD (bs.map (·.2)) = true) (hl : bs.length ≤ sizeLine) : SortOk K H bs := by
  unfold likeD at l
  simp only [Bool.and_eq_true, Bool.or_eq_true, List.all_eq_true, List.mem_map] at l
  obtain ⟨l1, l2, l3⟩ := l
  refine ⟨hl, ?_, ?_, fun b m => ?_⟩
  · intro d hd d' hd'
    obtain ⟨b, m, rfl⟩ := List.mem_map.mp hd
    obtain ⟨b', m', rfl⟩ := List.mem_map.mp hd'
    exact l1 _ ⟨b, m, rfl⟩ _ ⟨b', m', rfl⟩
  · rcases l3 with l3 | l3
    · refine .inl fun d hd => ?_
      obtain ⟨b, m, rfl⟩ := List.mem_map.mp hd
      have q := l3 b.2 ⟨b, m, rfl⟩
      unfold tupC at q
      split at q
      · rename_i e; exact ⟨_, _, by unfold pyb; rw [e]; simp only [py, pys]; rfl⟩
      · rename_i e; exact ⟨_, _, by unfold pyb; rw [e]; simp only [py, pys]; rfl⟩
      · cases q
    · refine .inr fun d hd => ?_
      obtain ⟨b, m, rfl⟩ := List.mem_map.mp hd
      have q := l3 b.2 ⟨b, m, rfl⟩
      unfold pyb
      cases e : b.2 with
      | non => rw [e] at q; cases q
      | ty n => rw [e] at q; cases q
      | bl b => simp [py]
      | int b => simp [py]
      | str b => simp [py]
      | nd k xs =>
        rw [e] at q
        cases k <;> first | (cases q; done) | simp [py]
  · obtain ⟨o1, o2⟩ := okD_dok (l2 b.2 ⟨b, m, rfl⟩)
    exact ⟨((h b m).mono ex).dp o1, o2⟩
def rSorted (K : PySem.W.Frag) : List V → Hp → VK → Prop := fun xs H Q => ∃ a bs, xs = [.ref a] ∧ (SqL K H a (bs.map (·.1)) ∨ (SqT K H a (bs.map (·.1)) ∨ ∃ kvs, Rd H a (.dK kvs) ∧ bs.map (·.1) = kvs.map fun kv => kV kv.1)) ∧ SortOk K H bs ∧
  ∀ p, H p = none → Q (.ref p) (upd H p (.lst ((bs.mergeSort (dataLe false pyb)).map (·.1))))
theorem zip_1 : ∀ {vs : List V} {ds : List D}, vs.length = ds.length → (vs.zip ds).map (·.1) = vs
  | [], [], _ => rfl
  | v :: vs, d :: ds, e => by
    show v :: (vs.zip ds).map (·.1) = _
    rw [zip_1 (by simpa using e)]
  | [], _ :: _, e => by simp at e
  | _ :: _, [], e => by simp at e
theorem zip_2 : ∀ {vs : List V} {ds : List D}, vs.length = ds.length → (vs.zip ds).map (·.2) = ds
  | [], [], _ => rfl
  | v :: vs, d :: ds, e => by
    show d :: (vs.zip ds).map (·.2) = _
    rw [zip_2 (by simpa using e)]
  | [], _ :: _, e => by simp at e
  | _ :: _, [], e => by simp at e
theorem unzip_self : ∀ (bs : List (V × D)), (bs.map (·.1)).zip (bs.map (·.2)) = bs
  | [] => rfl
  | b :: bs => by
    show (b.1, b.2) :: (bs.map (·.1)).zip (bs.map (·.2)) = _
    rw [unzip_self bs]
theorem each_of {bs : List (V × D)} {us : List Value} (r : Vals (bs.map (·.1)) us) : Each us bs := by
  have := vals_each (ds := bs.map (·.2)) r (by simp)
  rw [unzip_self] at this
  exact this
theorem cr_sorted {X : Cx} (hc : X.calm = true) (hu : X.A.units + 69 < cLine) : CallR X (.builtin "sorted") (rSorted X.K) := by
  intro pins s σ H xs us Q I r h
  obtain ⟨a, bs, rfl, hs, ok, q⟩ := h
  obtain ⟨u, rfl, rx⟩ := vals1 r
  cases rx
  refine sorted_gath (P := (· = bs)) hu (fun Q' E' g => ?_) (fun b e => e ▸ ok) (fun b p e hp => e ▸ q p hp)
  have grow : ∀ vs : List Value, Inv X pins σ H { s with heap := (s.heap.push (seqObj "list" #[] 0)).update s.heap.objs.size (Obj.mapSeq (· ++ vs.toArray)) } := fun vs => I.kept (t' := s.toks) fun b o e => by
    rw [Heap.get?_update_ne _ _ _ _ (Nat.ne_of_lt (Heap.lt_size e))]
    exact Heap.get?_push_of_some _ e
  rcases hs with hs | hs | ⟨kvs, hs, ek⟩
  · obtain ⟨its, rv, pl, hl⟩ := I.list hs
    exact collect_list pl.isList (g _ _ bs (grow its) (each_of rv) rfl) (by rw [← rv.length]; exact hl)
  · obtain ⟨its, rv, pl, hl⟩ := I.tuple hs
    exact collect_tup pl (g _ _ bs (grow its) (each_of rv) rfl) (by rw [← rv.length]; exact hl)
  · obtain ⟨z, lo, vs, rel, dd⟩ := dk_rd I.hok hs
    obtain ⟨ep, hat⟩ := dd.dictAt
    have h16 : vs.length ≤ sizeLine := by rw [← rel.length]; exact z
    refine PySem.W.kdu_collect (A := X.A.in1) (PySem.W.kdl_dict (knd := mixKind X.prog X.w) (kvs := vs) (ep := ep) lo) (I.ok.hd hc) hat h16 fun h' tk acc hk hacc => ?_
    refine g _ _ bs (I.kept hk) (each_of ?_) rfl
    · rw [ek]
      have hal : acc.toList.length = kvs.length := by rw [Array.length_toList, hacc.1, ← rel.length]
      refine vals_of_at (by rw [List.length_map]; exact hal.symm) fun j x u e1 e2 => ?_
      obtain ⟨k, y, e3, e4⟩ := hacc.2 j u (by rw [← Array.getElem?_toList]; exact e2)
      have e5 : (vs.map (·.1))[j]? = some k := by rw [List.getElem?_map, e3]; rfl
      rw [← rel.keys, List.getElem?_map] at e5
      rw [List.getElem?_map] at e1
      cases e6 : kvs[j]? with
      | none => rw [e6] at e5; cases e5
      | some kv =>
        rw [e6] at e5 e1
        cases e5; cases e1
        exact keyIs_rel e4
theorem fz_key {K : PySem.W.Frag} {F : Hp} {ks : List Key} {k : Key} (h : keysL ks = true) (m : k ∈ ks) : Fz K F (kV k) (kD k) := by
  have q : keyL k = true := List.all_eq_true.mp h k m
  cases k with
  | inl i => exact .int i
  | inr s => exact .str s (by simpa [keyL] using q)
theorem c1_sorted {K : PySem.W.Frag} : C1N K (rSorted K) dSorted := by
  intro F H x dx d Q ex z e new
  have main : ∀ a (bs : List (V × D)), x = .ref a → (SqL K H a (bs.map (·.1)) ∨ (SqT K H a (bs.map (·.1)) ∨ ∃ kvs, Rd H a (.dK kvs) ∧ bs.map (·.1) = kvs.map fun kv => kV kv.1)) → (∀ b ∈ bs, Fz K F b.1 b.2) → sortD (bs.map (·.2)) = some d → rSorted K [x] H Q := by
    intro a bs ea hs hb e
    subst ea
    unfold sortD at e
    split at e
    · rename_i c
      cases e
      have hl : bs.length ≤ sizeLine := by simpa using c.2
      refine ⟨a, bs, rfl, hs, sortOk ex hb c.1 hl, fun p hp => ?_⟩
      exact new p .lst _ _ _ rfl rfl hp (if_pos (by rw [List.length_map, List.length_mergeSort]; exact hl)) (fzs_sort hb)
    · cases e
  have e0 := e
  unfold dSorted at e
  split at e
  · obtain ⟨a, vs, rfl, hi, hs⟩ := z.node ex
    have hl := hs.length
    exact main a (vs.zip _) rfl (.inl (by rw [zip_1 hl]; exact SqL.of hi.1)) (fzs_zip hs) (by rw [zip_2 hl]; exact e)
  · obtain ⟨a, vs, rfl, hi, hs⟩ := z.node ex
    have hl := hs.length
    exact main a (vs.zip _) rfl (.inr (.inl (by rw [zip_1 hl]; exact SqT.of hi.1))) (fzs_zip hs) (by rw [zip_2 hl]; exact e)
  · rename_i ks ds
    obtain ⟨a, vs, rfl, hi, hs⟩ := z.node ex
    refine main a (ks.map fun k => (kV k, kD k)) rfl (.inr (.inr ⟨ks.zip vs, hi.2.1, ?_⟩)) (fun b m => ?_) (by rw [List.map_map]; exact e)
    · rw [List.map_map]
      have : (ks.zip vs).map (fun kv => kV kv.1) = ((ks.zip vs).map (·.1)).map kV := by rw [List.map_map]; rfl
      rw [this, List.map_fst_zip (Nat.le_of_eq hi.1)]
      rfl
    · obtain ⟨k, mk, rfl⟩ := List.mem_map.mp m
      exact fz_key hi.2.2.2 mk
  · cases e
end Y

set_option Elab.async false
set_option linter.all false
set_option maxRecDepth 100000
set_option maxHeartbeats 4000000
/-! Sets of whole numbers and texts, made of a list or a tuple, then sorted or counted. -/
namespace Y
open PySem PySem.Spec PyProof.Rows L2

def inKs (ks : List Key) (k : Key) : Bool := ks.any fun x => decide (x = k)
theorem inKs_iff {ks : List Key} {k : Key} : inKs ks k = true ↔ k ∈ ks := by simp [inKs]
def keyE (e : Int × Value) : Key := match e.2 with | .int k _ => .inl k | .str x _ => .inr x | _ => .inl 0
def GoodK (w : World) (e : Int × Value) : Prop := ∃ k, keyIs k e.2 = true ∧ e.1 = keyH w k
theorem keyE_is {e : Int × Value} {k : Key} (h : keyIs k e.2 = true) : keyE e = k := by
  unfold keyE
  rcases keyIs_shape h with ⟨i, t, rfl, ev⟩ | ⟨x, t, rfl, ev⟩
  · rw [ev]
  · rw [ev]
/-- the set of keys at a -/
def SetG (w : World) (h : Heap) (a : Addr) (S : Key → Bool) (n : Nat) : Prop :=
  ∃ o es ep t, h.get? a = some o ∧ o.ExactSet ∧ o.data = .set es ep t ∧ (∀ e ∈ es.toList, GoodK w e) ∧ (es.toList.map keyE).Nodup ∧ (∀ k, S k = true ↔ k ∈ es.toList.map keyE) ∧
    es.size < scanBound ∧ t.fits es.size = true ∧ es.size = n ∧ Ris t.place.toList ∧ (w.params.followText "set-order" = true ∨ t.led = true)
section
variable {P : Program} {w : World} {h h' : Heap} {a : Addr} {S : Key → Bool} {n : Nat}
theorem SetG.at (R : SetG w h a S n) (k : ∀ o, h.get? a = some o → h'.get? a = some o) : SetG w h' a S n := by
  obtain ⟨o, es, ep, t, ho, r⟩ := R
  exact ⟨o, es, ep, t, k o ho, r⟩
theorem SetG.congr {S' : Key → Bool} (R : SetG w h a S n) (e : ∀ k, S' k = S k) : SetG w h a S' n := by
  have q : S' = S := funext e
  rw [q]; exact R
theorem goodK_elems {l : List (Int × Value)} (g : ∀ e ∈ l, GoodK w e) : ElemsOf (mixKind P w) l := fun e he => by
  obtain ⟨k, h1, h2⟩ := g e he
  refine ⟨⟨k, h1, h2⟩, ?_⟩
  rcases keyIs_shape h1 with ⟨i, t, _, ev⟩ | ⟨x, t, _, ev⟩ <;> rw [ev] <;> rfl
theorem goodK_is {e : Int × Value} (g : GoodK w e) (k : Key) : (mixKind P w).is k e.2 = true ↔ keyE e = k := by
  obtain ⟨k0, h1, _⟩ := g
  rw [keyE_is h1]
  constructor
  · exact fun h2 => (mixKind P w).inj e.2 k0 k h1 h2
  · rintro rfl; exact h1
theorem goodK_mem {l : List (Int × Value)} (g : ∀ e ∈ l, GoodK w e) (k : Key) : k ∈ l.map keyE ↔ ∃ e ∈ l, (mixKind P w).is k e.2 = true := by
  rw [List.mem_map]
  constructor
  · rintro ⟨e, he, q⟩
    exact ⟨e, he, (goodK_is (g e he) k).2 q⟩
  · rintro ⟨e, he, q⟩
    exact ⟨e, he, (goodK_is (g e he) k).1 q⟩
end
section
variable {P : Program} {w : World} {A : Around} {E : Value → Shared → Prop} {s : Shared} {a : Addr} {S : Key → Bool} {n : Nat}
theorem setG_add_tail {g : Bool → Sem Unit} (hg : ∀ (b : Bool) (s₁ : Shared) (Q' : Unit → Shared → Prop), Q' () s₁ → wpAny (model P w) A (g b) Q' E s₁)
    {o : Obj} {es : Array (Int × Value)} {ep : Nat} {t : SetTable} (ho : s.heap.get? a = some o) (hex : o.ExactSet) (hd : o.data = .set es ep t)
    {es1 : Array (Int × Value)} {t2 : SetTable} {S' : Key → Bool} (g1 : ∀ e ∈ es1.toList, GoodK w e) (nd1 : (es1.toList.map keyE).Nodup) (m1 : ∀ k, S' k = true ↔ k ∈ es1.toList.map keyE)
    (hb1 : es1.size < scanBound) (hf2 : t2.fits es1.size = true) (hr : Ris t2.place.toList) (hl : w.params.followText "set-order" = true ∨ t2.led = true) {wasDummy : Bool} {R : Option Bool → Shared → Prop}
    (hR : ∀ h', Heap.SameBut a s.heap h' → SetG w h' a S' es1.size → R (some true) { s with heap := h' }) :
    wpAny (model P w) A (do
        storeSet a es1 t2
        if (!wasDummy && t2.tooFull) = true then do
            g (relayAll t2 es1 (SetTable.grown es1.size)).2.2
            storeSet a (relayAll t2 es1 (SetTable.grown es1.size)).1 (relayAll t2 es1 (SetTable.grown es1.size)).2.1
            pure (some true)
          else pure (some true)) R E s := by
  refine wpAny_bind (wpAny_storeSet_of ho hd ?_ (fits_of_scanBound hb1))
  have ho1 := store_at (es' := es1) (t' := t2) ho hd
  have sb1 := Heap.SameBut.update s.heap a (Obj.putSet es1 t2)
  split
  · have pm := relayAll_perm t2 es1 (SetTable.grown es1.size)
    have hf3 := relayAll_fits t2 es1 (SetTable.grown es1.size)
    have hr3 := relayAll_ris t2 es1 (SetTable.grown es1.size)
    have hl3 := relayAll_led t2 es1 (SetTable.grown es1.size)
    generalize relayAll t2 es1 (SetTable.grown es1.size) = Z at pm hf3 hr3 hl3 ⊢
    obtain ⟨es2, t3, gave⟩ := Z
    dsimp only at pm hf3 hr3 hl3 ⊢
    have hsz : es2.size = es1.size := by rw [← Array.length_toList, pm.length_eq, Array.length_toList]
    have hb2 : es2.size < scanBound := by rw [hsz]; exact hb1
    refine wpAny_bind (hg _ _ _ ?_)
    refine wpAny_bind (wpAny_storeSet_of ho1 rfl ?_ (fits_of_scanBound hb2))
    have ho2 := store_at (es' := es2) (t' := t3) ho1 rfl
    refine wpAny_pure (hR _ (sb1.trans (Heap.SameBut.update _ a _)) ?_)
    exact ⟨_, es2, _, t3, ho2, hex, rfl, fun e he => g1 e (pm.mem_iff.mp he), (pm.map keyE).nodup_iff.mpr nd1, fun k => (m1 k).trans (pm.map keyE).mem_iff.symm, hb2, hf3, hsz, hr3,
      hl.imp id fun z => by rw [hl3]; exact z⟩
  · exact wpAny_pure (hR _ sb1 ⟨_, es1, _, t2, ho1, hex, rfl, g1, nd1, m1, hb1, hf2, rfl, hr, hl⟩)
theorem setG_add_hashed {k : Key} {v : Value} {Q : Bool → Shared → Prop} (R : SetG w s.heap a S n) (hkey : keyIs k v = true) (room : n + 1 < scanBound)
    (hQ : ∀ h', Heap.SameBut a s.heap h' → SetG w h' a (fun j => S j || decide (j = k)) (if S k = true then n else n + 1) → Q (!S k) { s with heap := h' }) :
    wpAny (model P w) A (setAddHashed a v ((mixKind P w).hash k)) Q E s := by
  obtain ⟨o, es, ep, t, ho, hex, hd, g, nd, hm, hb, hf, hn, hr, hl⟩ := R
  have hkey' : (mixKind P w).is k v = true := hkey
  have hsc : v.scannable = true := by rcases keyIs_shape hkey with ⟨i, u, _, rfl⟩ | ⟨x, u, _, rfl⟩ <;> rfl
  have hel : ElemsOf (mixKind P w) es.toList := goodK_elems g
  unfold setAddHashed setAddHashedIn
  refine wpAny_holding (wpAny_bind (wpAny_setState_of ho hd hf ?_))
  dsimp only
  rw [byScan_of hsc hb hel]
  simp only [↓reduceIte]
  unfold setAddByScan
  refine wpAny_bind ?_
  refine wpAny_bind (wpAny_rule ?_)
  refine wpAny_bind (wpAny_setScan_of hkey' ho hd hf hel ?_)
  cases hfi : List.findIdx? (fun e => (mixKind P w).is k e.2) es.toList with
  | some j =>
    dsimp only
    obtain ⟨hj, pj, _⟩ := List.findIdx?_eq_some_iff_getElem.mp hfi
    have hSk : S k = true := (hm k).2 ((goodK_mem (P := P) (w := w) g k).2 ⟨es.toList[j], List.getElem_mem hj, pj⟩)
    refine wpAny_pure (wpAny_pure ?_)
    have q := hQ s.heap (Heap.SameBut.refl a s.heap) ⟨o, es, ep, t, ho, hex, hd, g, nd, fun i => by
      rw [Bool.or_eq_true, decide_eq_true_eq, ← hm i]
      exact ⟨fun z => z.elim id (fun e => e ▸ hSk), .inl⟩, hb, hf, by rw [if_pos hSk]; exact hn, hr, hl⟩
    rw [hSk] at q
    exact q
  | none =>
    dsimp only
    have hnk : k ∉ es.toList.map keyE := fun z => by
      obtain ⟨e, he, q⟩ := (goodK_mem (P := P) (w := w) g k).1 z
      have c := List.findIdx?_eq_none_iff.mp hfi e he
      rw [q] at c
      cases c
    have hSk : S k = false := by
      cases q : S k with
      | false => rfl
      | true => exact absurd ((hm k).1 q) hnk
    have hgw : ∀ (b : Bool) {s₁ : Shared} {Q' : Unit → Shared → Prop}, Q' () s₁ → wpAny (model P w) A (match b with | true => rule "set.scan.the-table-gave-way" | false => pure ()) Q' E s₁ :=
      fun b s₁ Q' q => by cases b <;> first | exact wpAny_pure q | exact wpAny_rule q
    have pm := layNew_perm t es ((mixKind P w).hash k) v
    have hf1 := layNew_fits t es ((mixKind P w).hash k) v
    have hr1 := layNew_ris t es ((mixKind P w).hash k) v hr
    have hl1 := layNew_led t es ((mixKind P w).hash k) v
    generalize layNew t es ((mixKind P w).hash k) v = Z at pm hf1 hr1 hl1 ⊢
    obtain ⟨es1, t1, wasDummy, gave⟩ := Z
    dsimp only at pm hf1 hr1 hl1 ⊢
    rw [Array.toList_push] at pm
    have pc : es1.toList.Perm (((mixKind P w).hash k, v) :: es.toList) := pm.trans (List.perm_append_singleton _ _)
    have pk : (es1.toList.map keyE).Perm (k :: es.toList.map keyE) := by
      have q := pc.map keyE
      rw [List.map_cons, keyE_is (e := ((mixKind P w).hash k, v)) hkey] at q
      exact q
    have g1 : ∀ e ∈ es1.toList, GoodK w e := fun e he => by
      rcases List.mem_cons.mp (pc.mem_iff.mp he) with z | z
      · rw [z]; exact ⟨k, hkey, rfl⟩
      · exact g e z
    have nd1 : (es1.toList.map keyE).Nodup := pk.nodup_iff.mpr (List.nodup_cons.mpr ⟨hnk, nd⟩)
    have m1 : ∀ i, (S i || decide (i = k)) = true ↔ i ∈ es1.toList.map keyE := fun i => by
      rw [Bool.or_eq_true, decide_eq_true_eq, hm i, pk.mem_iff, List.mem_cons]
      exact Or.comm
    have hsz : es1.size = n + 1 := by rw [← Array.length_toList, pc.length_eq, List.length_cons, Array.length_toList, hn]
    have hb1 : es1.size < scanBound := by rw [hsz]; exact room
    have hled : w.params.followText "set-order" = true ∨ t1.led = true := hl.imp id fun z => by rw [hl1]; exact z
    have fin : ∀ h', Heap.SameBut a s.heap h' → SetG w h' a (fun j => S j || decide (j = k)) es1.size → Q true { s with heap := h' } := fun h' sb r => by
      have q := hQ h' sb
      rw [hSk] at q
      rw [hsz] at r
      exact q r
    refine wpAny_bind (hgw _ ?_)
    split
    · refine wpAny_bind ?_
      rw [hashByValue_scannable 8 hsc]
      refine wpAny_pure ?_
      refine setG_add_tail ?_ ho hex hd g1 nd1 m1 hb1 ?_ ?_ ?_ ?_
      · intro b s₁ Q' q; cases b <;> first | exact wpAny_pure q | exact wpAny_rule q
      · first | (split <;> first | exact hf1 | exact SetTable.fits_plain_off hf1) | exact hf1
      · first | (split <;> exact hr1) | exact hr1
      · first | (split <;> exact hled) | exact hled
      · intro h' sb r; dsimp only; exact wpAny_pure (fin h' sb r)
    · refine wpAny_bind (wpAny_pure ?_)
      simp only [↓reduceIte]
      refine setG_add_tail ?_ ho hex hd g1 nd1 m1 hb1 hf1 hr1 hled ?_
      · intro b s₁ Q' q; cases b <;> first | exact wpAny_pure q | exact wpAny_rule q
      · intro h' sb r; dsimp only; exact wpAny_pure (fin h' sb r)
theorem setG_fresh {h : Heap} (w : World) : SetG w (h.push { cls := .type "set", dict := none, data := .set #[] 0 (.fresh 0 0 (!w.params.followText "set-order")) }) h.objs.size (fun _ => false) 0 :=
  ⟨_, #[], 0, _, Heap.get?_push_size _ rfl, ⟨rfl, rfl, rfl⟩, rfl, (fun e he => by simp at he), (by simp), (fun k => by simp), (by decide), (by rfl), rfl, List.Pairwise.nil, by
    show _ ∨ (!w.params.followText "set-order") = true
    cases w.params.followText "set-order"
    · exact .inr rfl
    · exact .inl rfl⟩
end
section
variable {P : Program} {w : World} {A : Around} {R : Result → Shared → Prop} {I : Addr} {fp wr : List Addr} {G : Array GenState → Array GenState → Prop} {n : Nat} {Pv : Nat → Value → Prop} {St : Nat → Shared → Prop}
theorem setG_loop (W : WalksS P w A.in1 I fp wr G n Pv St) (S : Addr) (hSf : S ∉ fp) (ks : List Key) (hl : ks.length = n) (hval : ∀ i v, Pv i v → ∃ k, ks[i]? = some k ∧ keyIs k v = true) (hb : n + 1 < scanBound) :
    ∀ (k i : Nat) (s : Shared), n - i = k → i ≤ n → St i s → (∃ m, m ≤ i ∧ SetG w s.heap S (inKs (ks.take i)) m) →
      (∀ s', Moved (S :: wr) G s s' → (∃ m, m ≤ n ∧ SetG w s'.heap S (inKs ks) m) → R (.ok (.ret .none)) s') →
      codeAny (model P w) A (.builtin "set.update.loop" ⟨[.ref S, .ref I], []⟩) R s := by
  have hSw : S ∉ wr := fun h => hSf (W.sub _ h)
  have hsub : ∀ b ∈ wr, b ∈ S :: wr := fun b hb => List.mem_cons_of_mem _ hb
  intro k
  induction k with
  | zero =>
    intro i s hk hi hst hS hR
    have hin : i = n := by omega
    subst hin
    refine codeAny_builtin F.entry_set_update_loop ?_
    rw [Around.under_plainId F.plain_set_update_loop _]
    show wpAny _ A.in1 (pyNext (.ref I) >>= _) _ _ s
    refine wpAny_bind (W.done s _ _ hst fun s' hm => ?_)
    show wpAny _ A.in1 (ret Value.none) _ _ s'
    obtain ⟨m, h1, h2⟩ := hS
    refine wpAny_pure (hR s' (hm.mono hsub) ⟨m, h1, SetG.at (h := s.heap) ?_ fun o ho => hm.heap S _ hSw ho⟩)
    rw [← hl, List.take_length] at h2
    exact h2
  | succ k ih =>
    intro i s hk hi hst hS hR
    have hlt : i < n := by omega
    refine codeAny_builtin F.entry_set_update_loop ?_
    rw [Around.under_plainId F.plain_set_update_loop _]
    show wpAny _ A.in1 (pyNext (.ref I) >>= _) _ _ s
    refine wpAny_bind (W.item i s _ _ hlt hst fun v s' hP hst' hm => ?_)
    obtain ⟨kk, ek, hkey⟩ := hval i v hP
    obtain ⟨m, hm1, hS⟩ := hS
    have hS' : SetG w s'.heap S (inKs (ks.take i)) m := hS.at fun o ho => hm.heap S _ hSw ho
    show wpAny _ A.in1 (holding [v] (setAdd S v) >>= _) _ _ s'
    refine wpAny_bind (wpAny_holding ?_)
    unfold setAdd
    refine wpAny_holding ?_
    refine wpAny_bind ((mixKind P w).pyHash (k := kk) hkey ?_)
    refine setG_add_hashed (s := { s' with toks := _ }) hS' hkey (by omega) fun h' hsb hS2 => ?_
    have et : ks.take (i + 1) = ks.take i ++ [kk] := by
      rw [List.take_add_one, ek]; rfl
    have hSi : ∃ m, m ≤ i + 1 ∧ SetG w h' S (inKs (ks.take (i + 1))) m := by
      refine ⟨_, ?_, hS2.congr fun j => ?_⟩
      · split <;> omega
      · rw [et]
        unfold inKs
        rw [List.any_append]
        simp only [List.any_cons, List.any_nil, Bool.or_false, eq_comm]
    refine wpAny_pure ⟨plainId_quiet F.plain_set_update_loop _, ih (i + 1) _ (by omega) hlt (W.frame _ s' _ _ hst' (Nat.le_add_right _ _) fun b hb o e => ?_) hSi fun s'' hm'' hS'' => ?_⟩
    · rw [hsb.2 b (fun h : b = S => hSf (by rw [← h]; exact hb))]; exact e
    · refine hR s'' (Moved.trans W.gtrans ((hm.mono hsub).then_heap (Nat.le_add_right _ _) fun b o hb e => ?_) hm'') hS''
      rw [hsb.2 b (fun h : b = S => hb (by rw [h]; exact List.mem_cons_self))]; exact e
end
section
variable {P : Program} {w : World} {A : Around} {E : Value → Shared → Prop} {s : Shared}

set_option maxHeartbeats 6400000 in
theorem call_set_l {l : Addr} {items : Array Value} {ks : List Key} {Q : Value → Shared → Prop} (hh : A.handled = none) (hl : s.heap.IsList l items) (hsz : ks.length = items.size) (hi : ∀ (i : Nat) (v : Value), items[i]? = some v → ∃ k, ks[i]? = some k ∧ keyIs k v = true) (hb : items.size + 1 < scanBound)
    (h : ∀ (h' : Heap) (tk m : Nat), m ≤ items.size → SetG w h' s.heap.objs.size (inKs ks) m → (∀ b o, s.heap.get? b = some o → h'.get? b = some o) → Q (.ref s.heap.objs.size) { s with heap := h', toks := tk }) :
    wpAny (model P w) A (call (.type "set") [.ref l]) Q E s := by
  obtain ⟨c, tl, hmro⟩ := F.called_set.mro
  have hmade := F.called_set.made
  have hsub := F.called_set.sub
  refine wpAny_call (codeAny_of_tree ?_)
  show wpAny _ _ (callAny (.type "set") _) _ _ _
  refine wpAny_pure ⟨Code.quiet_builtin _ (by decide +kernel), codeAny_builtin F.entry_type_call ?_⟩
  rw [Around.under_plain (weight_type_call_type "set" [.ref l] []) rfl]
  have h1 := F.called_set.notType
  have h2 := F.called_set.canCreate
  have hct := F.typeCall_set_1 (.ref l)
  repeat (any_goals (first | assumption | wp_step))
  refine codeAny_mono (code_set_led1 (.ref l) (E := E) (Q₁ := fun obj s₁ => obj = .ref s.heap.objs.size ∧ s₁ = { s with heap := s.heap.push { cls := .type "set", dict := none, data := .set #[] 0 (.fresh 0 0 (!w.params.followText "set-order")) } }) ⟨rfl, rfl⟩) fun r s₁ hr => ?_
  cases r with
  | error e => exact hr
  | ok fl =>
    cases fl with
    | ret obj =>
      obtain ⟨rfl, rfl⟩ := hr
      have hS : (s.heap.push { cls := .type "set", dict := none, data := .set #[] 0 (.fresh 0 0 (!w.params.followText "set-order")) }).get? s.heap.objs.size = some { cls := .type "set", dict := none, data := .set #[] 0 (.fresh 0 0 (!w.params.followText "set-order")) } := Heap.get?_push_size _ rfl
      have hT : Shared.TypeIs { s with heap := s.heap.push { cls := .type "set", dict := none, data := .set #[] 0 (.fresh 0 0 (!w.params.followText "set-order")) } } (.ref s.heap.objs.size) "set" := ⟨_, hS, rfl⟩
      have hli := F.called_set.init.lookup
      have hbi := F.called_set.init.bind (.ref s.heap.objs.size)
      repeat (any_goals (first | assumption | wp_step))
      refine codeAny_mono (codeAny_call_builtin (R := wants (fun r s₂ => r = .none ∧ ∃ h' tk m, s₂ = { s with heap := h', toks := tk } ∧ m ≤ items.size ∧ SetG w h' s.heap.objs.size (inKs ks) m ∧
          (∀ b o, s.heap.get? b = some o → h'.get? b = some o)) E) F.called_set.init.plain F.entry_set_init (check_set_init_1 hT ?_)) fun r₂ s₂ hr₂ => ?_
      · obtain ⟨ol, hol, hcl, nl, hdl⟩ := hl
        obtain ⟨ocls, odict, odata, oslots⟩ := ol
        simp only at hcl hdl
        subst hcl; subst hdl
        have hol' : (s.heap.push { cls := .type "set", dict := none, data := .set #[] 0 (.fresh 0 0 (!w.params.followText "set-order")) }).get? l = some { cls := .type "list", dict := odict, data := .seq items nl, slots := oslots } := Heap.get?_push_of_some _ hol
        have hsls := F.sub_list_set
        have hslf := F.sub_list_frozenset
        have hne : (Value.type "list" == Value.type "dict") = false := by decide
        have hl1 : (s.heap.push { cls := .type "set", dict := none, data := .set #[] 0 (.fresh 0 0 (!w.params.followText "set-order")) }).IsList l items := ⟨_, hol', rfl, nl, rfl⟩
        unfold Builtin.«set.__init__» noKeywords Builtin.Frozenset.updateFrom
        generalize hPI : pyIter = PI
        wp_walk
        subst hPI
        refine wpAny_pyIter_list hl1 ?_
        refine wpAny_bind (wpAny_runValue ?_)
        have hlS : l < s.heap.objs.size := Heap.lt_size hol
        have hh3 : A.in1.in1.in1.handled = none := by simp [hh]
        have hneI : l ≠ (s.heap.push { cls := .type "set", dict := none, data := .set #[] 0 (.fresh 0 0 (!w.params.followText "set-order")) }).objs.size := by
          rw [Heap.size_push]; exact Nat.ne_of_lt (Nat.lt_succ_of_lt hlS)
        have hSf : s.heap.objs.size ∉ [(s.heap.push { cls := .type "set", dict := none, data := .set #[] 0 (.fresh 0 0 (!w.params.followText "set-order")) }).objs.size, l] := by
          rw [Heap.size_push]; simp only [List.mem_cons, List.mem_singleton, List.not_mem_nil, or_false, not_or]
          exact ⟨Nat.ne_of_lt (Nat.lt_succ_self _), Nat.ne_of_gt hlS⟩
        refine setG_loop ((Walks.list hh3 _ l hneI items).toS) s.heap.objs.size hSf ks hsz hi hb (items.size - 0) 0 _ (by omega) (Nat.zero_le _)
          ⟨⟨_, Heap.get?_push_size _ rfl, rfl, rfl⟩, (hl1.push _)⟩ ?hS0 ?hR
        case hS0 =>
          exact ⟨0, Nat.le_refl 0, ((setG_fresh w).at fun o e => Heap.get?_push_of_some _ e).congr fun k => rfl⟩
        case hR =>
          intro s' hm hS'
          obtain ⟨h', g', d', tk', os'⟩ := s'
          have eg : g' = s.gens := hm.gens
          have ed : d' = s.drawn := hm.drawn
          have eo : os' = s.os := hm.os
          subst eg; subst ed; subst eo
          show wpAny _ _ _ _ _ _
          refine wpAny_pure ?_
          show wpAny _ _ (ret Value.none) _ _ _
          obtain ⟨m, hm1, hm2⟩ := hS'
          refine wpAny_pure ⟨rfl, h', tk', m, rfl, hm1, hm2, fun b o e => ?_⟩
          have hb0 : b < s.heap.objs.size := Heap.lt_size e
          have hb1 : b ≠ s.heap.objs.size := Nat.ne_of_lt hb0
          have hb2 : b ≠ (s.heap.push { cls := .type "set", dict := none, data := .set #[] 0 (.fresh 0 0 (!w.params.followText "set-order")) }).objs.size := by
            rw [Heap.size_push]; exact Nat.ne_of_lt (Nat.lt_succ_of_lt hb0)
          exact hm.heap b o (by simp only [List.mem_cons, List.mem_singleton, List.not_mem_nil, or_false, not_or]; exact ⟨hb1, hb2⟩) (Heap.get?_push_of_some _ (Heap.get?_push_of_some _ e))
      · cases r₂ with
        | error e => exact hr₂
        | ok fl₂ =>
          cases fl₂ with
          | ret r =>
            obtain ⟨rfl, h', tk, m, rfl, hm1, hm2, hk'⟩ := hr₂
            repeat (any_goals (first | assumption | wp_step))
            exact h _ _ _ hm1 hm2 hk'
          | _ => exact hr₂.elim
    | _ => exact hr.elim

set_option maxHeartbeats 6400000 in
theorem call_set_t {l : Addr} {items : Array Value} {ks : List Key} {Q : Value → Shared → Prop} (hh : A.handled = none) (hl : s.heap.IsTuple l items) (hsz : ks.length = items.size) (hi : ∀ (i : Nat) (v : Value), items[i]? = some v → ∃ k, ks[i]? = some k ∧ keyIs k v = true) (hb : items.size + 1 < scanBound)
    (h : ∀ (h' : Heap) (tk m : Nat), m ≤ items.size → SetG w h' s.heap.objs.size (inKs ks) m → (∀ b o, s.heap.get? b = some o → h'.get? b = some o) → Q (.ref s.heap.objs.size) { s with heap := h', toks := tk }) :
    wpAny (model P w) A (call (.type "set") [.ref l]) Q E s := by
  obtain ⟨c, tl, hmro⟩ := F.called_set.mro
  have hmade := F.called_set.made
  have hsub := F.called_set.sub
  refine wpAny_call (codeAny_of_tree ?_)
  show wpAny _ _ (callAny (.type "set") _) _ _ _
  refine wpAny_pure ⟨Code.quiet_builtin _ (by decide +kernel), codeAny_builtin F.entry_type_call ?_⟩
  rw [Around.under_plain (weight_type_call_type "set" [.ref l] []) rfl]
  have h1 := F.called_set.notType
  have h2 := F.called_set.canCreate
  have hct := F.typeCall_set_1 (.ref l)
  repeat (any_goals (first | assumption | wp_step))
  refine codeAny_mono (code_set_led1 (.ref l) (E := E) (Q₁ := fun obj s₁ => obj = .ref s.heap.objs.size ∧ s₁ = { s with heap := s.heap.push { cls := .type "set", dict := none, data := .set #[] 0 (.fresh 0 0 (!w.params.followText "set-order")) } }) ⟨rfl, rfl⟩) fun r s₁ hr => ?_
  cases r with
  | error e => exact hr
  | ok fl =>
    cases fl with
    | ret obj =>
      obtain ⟨rfl, rfl⟩ := hr
      have hS : (s.heap.push { cls := .type "set", dict := none, data := .set #[] 0 (.fresh 0 0 (!w.params.followText "set-order")) }).get? s.heap.objs.size = some { cls := .type "set", dict := none, data := .set #[] 0 (.fresh 0 0 (!w.params.followText "set-order")) } := Heap.get?_push_size _ rfl
      have hT : Shared.TypeIs { s with heap := s.heap.push { cls := .type "set", dict := none, data := .set #[] 0 (.fresh 0 0 (!w.params.followText "set-order")) } } (.ref s.heap.objs.size) "set" := ⟨_, hS, rfl⟩
      have hli := F.called_set.init.lookup
      have hbi := F.called_set.init.bind (.ref s.heap.objs.size)
      repeat (any_goals (first | assumption | wp_step))
      refine codeAny_mono (codeAny_call_builtin (R := wants (fun r s₂ => r = .none ∧ ∃ h' tk m, s₂ = { s with heap := h', toks := tk } ∧ m ≤ items.size ∧ SetG w h' s.heap.objs.size (inKs ks) m ∧
          (∀ b o, s.heap.get? b = some o → h'.get? b = some o)) E) F.called_set.init.plain F.entry_set_init (check_set_init_1 hT ?_)) fun r₂ s₂ hr₂ => ?_
      · obtain ⟨ol, hol, hcl, nl, hdl⟩ := hl
        obtain ⟨ocls, odict, odata, oslots⟩ := ol
        simp only at hcl hdl
        subst hcl; subst hdl
        have hol' : (s.heap.push { cls := .type "set", dict := none, data := .set #[] 0 (.fresh 0 0 (!w.params.followText "set-order")) }).get? l = some { cls := .type "tuple", dict := odict, data := .seq items nl, slots := oslots } := Heap.get?_push_of_some _ hol
        have hsls := F.sub_tuple_set
        have hslf := F.sub_tuple_frozenset
        have hne : (Value.type "tuple" == Value.type "dict") = false := by decide
        have hl1 : (s.heap.push { cls := .type "set", dict := none, data := .set #[] 0 (.fresh 0 0 (!w.params.followText "set-order")) }).IsTuple l items := ⟨_, hol', rfl, nl, rfl⟩
        unfold Builtin.«set.__init__» noKeywords Builtin.Frozenset.updateFrom
        generalize hPI : pyIter = PI
        wp_walk
        subst hPI
        refine wpAny_pyIter_tuple hl1 ?_
        refine wpAny_bind (wpAny_runValue ?_)
        have hlS : l < s.heap.objs.size := Heap.lt_size hol
        have hh3 : A.in1.in1.in1.handled = none := by simp [hh]
        have hneI : l ≠ (s.heap.push { cls := .type "set", dict := none, data := .set #[] 0 (.fresh 0 0 (!w.params.followText "set-order")) }).objs.size := by
          rw [Heap.size_push]; exact Nat.ne_of_lt (Nat.lt_succ_of_lt hlS)
        have hSf : s.heap.objs.size ∉ [(s.heap.push { cls := .type "set", dict := none, data := .set #[] 0 (.fresh 0 0 (!w.params.followText "set-order")) }).objs.size, l] := by
          rw [Heap.size_push]; simp only [List.mem_cons, List.mem_singleton, List.not_mem_nil, or_false, not_or]
          exact ⟨Nat.ne_of_lt (Nat.lt_succ_self _), Nat.ne_of_gt hlS⟩
        refine setG_loop ((Walks.tuple hh3 _ l hneI items).toS) s.heap.objs.size hSf ks hsz hi hb (items.size - 0) 0 _ (by omega) (Nat.zero_le _)
          ⟨⟨_, Heap.get?_push_size _ rfl, rfl, rfl⟩, (hl1.push _)⟩ ?hS0 ?hR
        case hS0 =>
          exact ⟨0, Nat.le_refl 0, ((setG_fresh w).at fun o e => Heap.get?_push_of_some _ e).congr fun k => rfl⟩
        case hR =>
          intro s' hm hS'
          obtain ⟨h', g', d', tk', os'⟩ := s'
          have eg : g' = s.gens := hm.gens
          have ed : d' = s.drawn := hm.drawn
          have eo : os' = s.os := hm.os
          subst eg; subst ed; subst eo
          show wpAny _ _ _ _ _ _
          refine wpAny_pure ?_
          show wpAny _ _ (ret Value.none) _ _ _
          obtain ⟨m, hm1, hm2⟩ := hS'
          refine wpAny_pure ⟨rfl, h', tk', m, rfl, hm1, hm2, fun b o e => ?_⟩
          have hb0 : b < s.heap.objs.size := Heap.lt_size e
          have hb1 : b ≠ s.heap.objs.size := Nat.ne_of_lt hb0
          have hb2 : b ≠ (s.heap.push { cls := .type "set", dict := none, data := .set #[] 0 (.fresh 0 0 (!w.params.followText "set-order")) }).objs.size := by
            rw [Heap.size_push]; exact Nat.ne_of_lt (Nat.lt_succ_of_lt hb0)
          exact hm.heap b o (by simp only [List.mem_cons, List.mem_singleton, List.not_mem_nil, or_false, not_or]; exact ⟨hb1, hb2⟩) (Heap.get?_push_of_some _ (Heap.get?_push_of_some _ e))
      · cases r₂ with
        | error e => exact hr₂
        | ok fl₂ =>
          cases fl₂ with
          | ret r =>
            obtain ⟨rfl, h', tk, m, rfl, hm1, hm2, hk'⟩ := hr₂
            repeat (any_goals (first | assumption | wp_step))
            exact h _ _ _ hm1 hm2 hk'
          | _ => exact hr₂.elim
    | _ => exact hr.elim
end
end Y

set_option Elab.async false
set_option linter.all false
set_option maxRecDepth 100000
set_option maxHeartbeats 2000000
/-! sorted(set(..)) by values. -/
namespace Y
open PySem PySem.Spec PyProof.Rows L2 PySem.W
/-! ### plain -/
def dedupK : List Key → List Key
  | [] => []
  | k :: ks => if inKs ks k = true then dedupK ks else k :: dedupK ks
theorem mem_dedup {k : Key} : ∀ {ks : List Key}, k ∈ dedupK ks ↔ k ∈ ks
  | [] => Iff.rfl
  | j :: ks => by
    unfold dedupK
    split
    · rename_i h
      rw [mem_dedup, List.mem_cons]
      exact ⟨.inr, fun z => z.elim (fun e => e ▸ inKs_iff.mp h) id⟩
    · rw [List.mem_cons, List.mem_cons, mem_dedup]
theorem nodup_dedup : ∀ {ks : List Key}, (dedupK ks).Nodup
  | [] => List.nodup_nil
  | j :: ks => by
    unfold dedupK
    split
    · exact nodup_dedup
    · rename_i h
      exact List.nodup_cons.mpr ⟨fun z => h (inKs_iff.mpr (mem_dedup.mp z)), nodup_dedup⟩
theorem length_dedup : ∀ {ks : List Key}, (dedupK ks).length ≤ ks.length
  | [] => Nat.le_refl _
  | j :: ks => by
    unfold dedupK
    have := length_dedup (ks := ks)
    split
    · simp; omega
    · simp; omega
def sortKs (ks : List Key) : D := .nd .lst (((dedupK ks).map kD).mergeSort leD)
theorem leD_int {i j : Int} : leD (.int i) (.int j) = decide (i ≤ j) := by
  show (!dataLt (py (.int j)) (py (.int i))) = _
  simp only [py]
  rw [dataLt_int, not_lt_int]
theorem leD_str {i j : Str} : leD (.str i) (.str j) = decide (i.cps.toList ≤ j.cps.toList) := by
  show (!dataLt (py (.str j)) (py (.str i))) = _
  simp only [py]
  rw [dataLt_str, not_lt_str]
theorem str_ext {i j : Str} (h : i.cps.toList = j.cps.toList) : i = j := by
  obtain ⟨a⟩ := i
  obtain ⟨b⟩ := j
  exact congrArg Str.mk (Array.toList_inj.mp h)
theorem kD_anti {k k' : Key} (al : alike (py (kD k)) (py (kD k')) = true) (h1 : leD (kD k) (kD k') = true) (h2 : leD (kD k') (kD k) = true) : kD k = kD k' := by
  cases k with
  | inl i =>
    cases k' with
    | inl j =>
      simp only [kD, leD_int, decide_eq_true_eq] at h1 h2
      rw [Int.le_antisymm h1 h2]
    | inr j => simp [kD, py, alike] at al
  | inr i =>
    cases k' with
    | inl j => simp [kD, py, alike] at al
    | inr j =>
      simp only [kD, leD_str, decide_eq_true_eq] at h1 h2
      rw [str_ext (List.le_antisymm h1 h2)]
theorem kD_inj {k k' : Key} (h : kD k = kD k') : k = k' := by
  cases k <;> cases k' <;> simp [kD] at h <;> rw [h]
theorem leD_total : TotalLe leD := show TotalLe (sortLe (listOrd itemOrd) false fun b : D => keyToks (py b)) from sortLe_total _ _ _
theorem sort_same {l l' : List D} (p : l.Perm l') (anti : ∀ a ∈ l, ∀ b ∈ l, leD a b = true → leD b a = true → a = b) : l.mergeSort leD = l'.mergeSort leD := by
  have p' : (l.mergeSort leD).Perm (l'.mergeSort leD) := (List.mergeSort_perm l leD).trans (p.trans (List.mergeSort_perm l' leD).symm)
  exact List.Perm.eq_of_pairwise (le := fun a b => leD a b = true) (fun a b ha hb => anti a ((List.mergeSort_perm l leD).mem_iff.mp ha) b (p.mem_iff.mpr ((List.mergeSort_perm l' leD).mem_iff.mp hb))) (sort_pairwise leD_total l) (sort_pairwise leD_total l') p'
theorem likeD_anti {ks : List Key} (h : likeD (ks.map kD) = true) : ∀ a ∈ ks.map kD, ∀ b ∈ ks.map kD, leD a b = true → leD b a = true → a = b := by
  intro a ha b hb h1 h2
  unfold likeD at h
  simp only [Bool.and_eq_true, List.all_eq_true] at h
  have al := h.1 a ha b hb
  obtain ⟨k, _, rfl⟩ := List.mem_map.mp ha
  obtain ⟨k', _, rfl⟩ := List.mem_map.mp hb
  exact kD_anti al h1 h2
theorem likeD_sub {l l' : List D} (h : likeD l = true) (s : ∀ a ∈ l', a ∈ l) : likeD l' = true := by
  unfold likeD at h ⊢
  simp only [Bool.and_eq_true, Bool.or_eq_true, List.all_eq_true] at h ⊢
  exact ⟨fun a ha b hb => h.1 a (s a ha) b (s b hb), fun a ha => h.2.1 a (s a ha), h.2.2.imp (fun z a ha => z a (s a ha)) fun z a ha => z a (s a ha)⟩
/-- whatever the order in which a set gives its members -/
theorem sortKs_any {ks ks' : List Key} (h : likeD (ks.map kD) = true) (nd : ks'.Nodup) (hm : ∀ k, k ∈ ks' ↔ k ∈ ks) : (ks'.map kD).mergeSort leD = ((dedupK ks).map kD).mergeSort leD := by
  have p : ks'.Perm (dedupK ks) := (List.perm_ext_iff_of_nodup nd nodup_dedup).mpr fun k => (hm k).trans mem_dedup.symm
  exact sort_same (p.map kD) (likeD_anti (likeD_sub h fun a ha => by
    obtain ⟨k, m, rfl⟩ := List.mem_map.mp ha
    exact List.mem_map.mpr ⟨k, (hm k).mp m, rfl⟩))

/-! ### the set as a tracked thing -/
def SetGO (w : World) (a : Addr) (S : Key → Bool) (n : Nat) : HO := .ext fun h => SetG w h a S n
theorem setGO_new {w : World} {P : Program} {H : Hp} {h : Heap} {a : Addr} {S : Key → Bool} {n : Nat} (R : SetG w h a S n) : ObjOk P w H h a (SetGO w a S n) := by
  have ⟨o, _, _, _, ho, _⟩ := R
  exact ⟨R, ⟨o, ho⟩, fun h1 h2 p k => SetG.at p k⟩
section
variable {X : Cx}
theorem keyIs_of {k : Key} {u : Value} (h : L2.RelV (kV k) u) : keyIs k u = true := by
  cases k with
  | inl i => obtain ⟨t, rfl⟩ := h; exact keyIs_int i t
  | inr x => obtain ⟨t, rfl⟩ := h; exact keyIs_str x t
def rSetOf (K : PySem.W.Frag) (w : World) : List V → Hp → VK → Prop := fun xs H Q => ∃ a ks, xs = [V.ref a] ∧ (SqL K H a (ks.map kV) ∨ SqT K H a (ks.map kV)) ∧ ks.length + 1 < scanBound ∧ ∀ p n, n ≤ ks.length → H p = none → Q (.ref p) (upd H p (SetGO w p (inKs ks) n))
theorem keys_vals {ks : List Key} {us : List Value} (r : Vals (ks.map kV) us) : ∀ (i : Nat) (v : Value), us.toArray[i]? = some v → ∃ k, ks[i]? = some k ∧ keyIs k v = true := by
  intro i v e
  have e' : us[i]? = some v := by simpa using e
  have hl := r.length
  have hi : i < ks.length := by
    have := (List.getElem?_eq_some_iff.mp e').1
    simp at hl; omega
  have ek : ks[i]? = some ks[i] := List.getElem?_eq_getElem hi
  obtain ⟨u, h1, h2⟩ := r.get (i := i) (x := kV ks[i]) (by rw [List.getElem?_map, ek]; rfl)
  rw [e'] at h1
  cases h1
  exact ⟨_, ek, keyIs_of h2⟩
theorem cr_setOf (hc : X.calm = true) : CallR X (.type "set") (rSetOf X.K X.w) := by
  intro pins s σ H xs us Q I r h
  obtain ⟨a, ks, rfl, hs, hb, q⟩ := h
  obtain ⟨u, rfl, rx⟩ := vals1 r
  cases rx
  have fin : ∀ (h' : Heap) (tk m : Nat), m ≤ ks.length → SetG X.w h' s.heap.objs.size (inKs ks) m → (∀ b o, s.heap.get? b = some o → h'.get? b = some o) → ∃ x H', Inv X pins σ H' { s with heap := h', toks := tk } ∧ RelV x (.ref s.heap.objs.size) ∧ Q x H' := fun h' tk m hm R k =>
    ⟨.ref s.heap.objs.size, _, I.laid (t' := tk) k (Nat.le_refl _) (setGO_new R), rfl, q _ m hm (I.hok.fresh (Nat.le_refl _))⟩
  rcases hs with hs | hs
  · obtain ⟨its, rv, pl, hl⟩ := I.list hs
    have e := rv.length
    rw [List.length_map] at e
    refine call_set_l (I.ok.hd hc) pl.isList (by simpa using e) (keys_vals rv) (by rw [List.size_toArray]; omega) fun h' tk m hm R k => fin h' tk m (by rw [List.size_toArray] at hm; omega) R k
  · obtain ⟨its, rv, pl, hl⟩ := I.tuple hs
    have e := rv.length
    rw [List.length_map] at e
    refine call_set_t (I.ok.hd hc) pl (by simpa using e) (keys_vals rv) (by rw [List.size_toArray]; omega) fun h' tk m hm R k => fin h' tk m (by rw [List.size_toArray] at hm; omega) R k
abbrev kb (k : Key) : V × D := (kV k, kD k)
def rSortSet (K : PySem.W.Frag) (w : World) : List V → Hp → VK → Prop := fun xs H Q => ∃ a ks n, xs = [V.ref a] ∧ H a = some (SetGO w a (inKs ks) n) ∧ (∀ ks' : List Key, ks'.Nodup → (∀ k, k ∈ ks' ↔ k ∈ ks) → SortOk K H (ks'.map kb)) ∧
  ∀ (ks' : List Key) p, ks'.Nodup → (∀ k, k ∈ ks' ↔ k ∈ ks) → H p = none → Q (.ref p) (upd H p (.lst (((ks'.map kb).mergeSort (dataLe false pyb)).map (·.1))))
theorem each_kb : ∀ {es : List (Int × Value)}, (∀ e ∈ es, keyIs (keyE e) e.2 = true) → Each (es.map (·.2)) ((es.map keyE).map kb)
  | [], _ => .nil
  | e :: es, h => .cons (keyIs_rel (h e List.mem_cons_self)) (each_kb fun x m => h x (List.mem_cons_of_mem _ m))
theorem perm_map_inv {α β : Type} (f : α → β) : ∀ {l : List α} {m : List β}, m.Perm (l.map f) → ∃ l' : List α, l'.Perm l ∧ l'.map f = m := by
  intro l m p
  generalize e : l.map f = n at p
  induction p generalizing l with
  | nil => exact ⟨l, .refl _, e⟩
  | @cons x l1 l2 p ih =>
    cases l with
    | nil => cases e
    | cons a l =>
      obtain ⟨e1, e2⟩ := List.cons.inj e
      obtain ⟨l', q1, q2⟩ := ih e2
      exact ⟨a :: l', q1.cons _, by rw [List.map_cons, e1, q2]⟩
  | swap x y l1 =>
    match l, e with
    | a :: b :: l, e =>
      simp only [List.map_cons, List.cons.injEq] at e
      obtain ⟨e1, e2, e3⟩ := e
      exact ⟨b :: a :: l, List.Perm.swap .., by rw [List.map_cons, List.map_cons, e1, e2, e3]⟩
  | trans p1 p2 ih1 ih2 =>
    obtain ⟨l1, q1, q2⟩ := ih2 e
    obtain ⟨l2, q3, q4⟩ := ih1 q2
    exact ⟨l2, q3.trans q1, q4⟩
theorem cr_sortSet (hc : X.calm = true) (hu : X.A.units + 69 < cLine) : CallR X (.builtin "sorted") (rSortSet X.K X.w) := by
  intro pins s σ H xs us Q I r h
  obtain ⟨a, ks, n, rfl, hs, ok, q⟩ := h
  obtain ⟨u, rfl, rx⟩ := vals1 r
  cases rx
  obtain ⟨o, es, ep, t, ho, hex, hd, g, nd, hm, hb, hf, hn, hr, hl⟩ : SetG X.w s.heap a (inKs ks) n := (I.hok a _ hs).1
  refine sorted_gath (P := fun bs => ∃ ks' : List Key, ks'.Nodup ∧ (∀ k, k ∈ ks' ↔ k ∈ ks) ∧ bs = ks'.map kb) hu (fun Q' E' gg => ?_) (fun b ⟨ks', n1, n2, e⟩ => e ▸ ok ks' n1 n2) (fun b p ⟨ks', n1, n2, e⟩ hp => e ▸ q ks' p n1 n2 hp)
  refine collect_set (A := X.A.in1) (I.ok.hd hc) ⟨o, ho, hex.1, hd⟩ hf hb hr hl fun s1 vs k1 hz g1 o1 pm => ?_
  obtain ⟨es', p1, e1⟩ := perm_map_inv (fun x : Int × Value => x.2) pm
  have g' : ∀ e ∈ es', keyIs (keyE e) e.2 = true := fun e m => by
    obtain ⟨k, h1, _⟩ := g e (p1.mem_iff.mp m)
    rw [keyE_is h1]; exact h1
  refine gg s1 vs _ ?_ (e1 ▸ each_kb g') ⟨es'.map keyE, (p1.map keyE).nodup_iff.mpr nd, fun k => ?_, rfl⟩
  · have J : Inv X pins σ H { s with heap := s1.heap, gens := s1.gens, drawn := s1.drawn, toks := s1.toks } := I.call (ch := []) (Un.kept k1) (I.hok.kept k1) (by rw [g1]; exact I.bare) (fun _ z => nomatch z)
    have e : s1 = { s with heap := s1.heap, gens := s1.gens, drawn := s1.drawn, toks := s1.toks } := by
      cases s1
      cases s
      cases o1
      rfl
    rw [e]
    exact J
  · rw [(p1.map keyE).mem_iff, ← hm k, inKs_iff]
/-! by values -/
theorem Sta.ghost {K : PySem.W.Frag} {β : V} {lk : Bool} {F H : Hp} {fp : List Addr} {σ : L2.St} {ρ : En} {p : Addr} {o : HO} (s : Sta K β lk F H σ ρ fp) (hp : H p = none) : Sta K β lk F (upd H p o) σ ρ fp ∧ Tr F H fp F (upd H p o) fp := by
  obtain ⟨n1, n2⟩ := s.fresh hp
  refine ⟨⟨same_updR s.ex n2, s.sl.frame (Same.refl _) fun a ha u h => ?_, s.nd, s.own, s.lock⟩, ⟨Same.refl _, fun a u h n => ?_, fun a h => ?_⟩⟩
  · rw [upd_ne (ne_of_none h hp)]; exact h
  · rw [upd_ne (ne_of_none h hp)]; exact h
  · exact h.elim .inl fun q => absurd q.1 q.2
def dSortSet : D → Option D
  | .nd k ds => if (match k with | .lst => true | .tup => true | _ => false) = true then (match keysD ds with
    | some ks => if likeD (ks.map kD) = true ∧ ks.length + 1 < scanBound then some (sortKs ks) else none
    | none => none) else none
  | _ => none
theorem fz_keyD {K : PySem.W.Frag} {F : Hp} : ∀ {vs : List V} {ds : List D} {ks : List Key}, Fzs K F vs ds → keysD ds = some ks → ∀ k ∈ ks, Fz K F (kV k) (kD k)
  | _, _, ks, .nil, e => by simp [keysD] at e; subst e; simp
  | _, _, ks, .cons (d := d) (ds := ds) h hs, e => by
    unfold keysD at e
    split at e
    · rename_i k ks' e1 e2
      cases e
      intro j m
      rcases List.mem_cons.mp m with rfl | m
      · rw [← keyD_rel h e1]
        unfold keyD at e1
        split at e1
        · cases e1; exact h
        · cases e1; exact h
        · cases e1
      · exact fz_keyD hs e2 j m
    · cases e
theorem d_sortedSet {w : Wd} {e : Expr} {fa : En → R D} {x y : Str} {p p2 pos pos2 : Pos} (hc : X.calm = true) (hu : X.A.units + 69 < cLine) (hg : Gl X x) (hm : X.mg x = none) (hv : bootBuiltins x = some (.builtin "sorted")) (hg2 : Gl X y) (hm2 : X.mg y = none) (hv2 : bootBuiltins y = some (.type "set")) (ha : PE X e (cB X.K w fa))
    (hn : x ≠ "__name__" := by decide) (hd : (x == ("__debug__" : Str)) = false := by decide) (hn2 : y ≠ "__name__" := by decide) (hd2 : (y == ("__debug__" : Str)) = false := by decide)
    (hs : starEach [e] X.env = (false, eval e X.env) :: starEach [] X.env := by rfl) (hs2 : starEach [.Call (.Name y p2) [e] [] pos2] X.env = (false, eval (.Call (.Name y p2) [e] [] pos2) X.env) :: starEach [] X.env := by rfl)
    (hpl : (backTo pos (starEach [] X.env)).any (·.1) = false := by rfl) (hpl2 : (backTo pos2 (starEach [] X.env)).any (·.1) = false := by rfl) :
    PE X (.Call (.Name x p) [.Call (.Name y p2) [e] [] pos2] [] pos) (cO X.K w (s1 dSortSet fa)) :=
  peI (pe_callB (cr_sortSet hc hu) hg hm hv (pa_cons (pe_callTy (cr_setOf hc) hg2 hm2 hv2 (pa_cons ha pa_nil hs) hn2 hd2 hs hpl2) pa_nil hs2) hn hd hs2 hpl) fun σ H Q h => by
    have goal : tCons (cB X.K w fa) tNil σ H (fun xs H1 => rSetOf X.K X.w xs H1 fun x H2 => rSortSet X.K X.w [x] H2 Q) := tB1 h fun F H v dx d ρ fp s z e n => by
      have main : ∀ a (ks : List Key) vs ds, v = .ref a → (SqL X.K H a vs ∨ SqT X.K H a vs) → Fzs X.K F vs ds → vs.length ≤ sizeLine → keysD ds = some ks → (if likeD (ks.map kD) = true ∧ ks.length + 1 < scanBound then some (sortKs ks) else none) = some d → rSetOf X.K X.w [v] H fun x H2 => rSortSet X.K X.w [x] H2 Q := by
        intro a ks vs ds ea hs hz hl hk e
        subst ea
        split at e
        · rename_i c
          cases e
          have ek := keysD_rel hz hk
          subst ek
          have fz : ∀ ks' : List Key, (∀ k, k ∈ ks' ↔ k ∈ ks) → ∀ b ∈ ks'.map kb, Fz X.K F b.1 b.2 := fun ks' hm b m => by
            obtain ⟨k, mk, rfl⟩ := List.mem_map.mp m
            exact fz_keyD hz hk k ((hm k).mp mk)
          have len : ∀ ks' : List Key, ks'.Nodup → (∀ k, k ∈ ks' ↔ k ∈ ks) → (ks'.map kb).length ≤ sizeLine := fun ks' nd hm => by
            have p : ks'.Perm (dedupK ks) := (List.perm_ext_iff_of_nodup nd nodup_dedup).mpr fun k => (hm k).trans mem_dedup.symm
            have := p.length_eq
            have := length_dedup (ks := ks)
            rw [List.length_map] at hl ⊢
            omega
          have m2 : ∀ ks' : List Key, (ks'.map kb).map (·.2) = ks'.map kD := fun ks' => by rw [List.map_map]; rfl
          refine ⟨a, ks, rfl, hs, c.2, fun p n' _ hp => ⟨p, ks, n', rfl, upd_same, fun ks' nd hm => ?_, fun ks' q nd hm hq => ?_⟩⟩
          · have lk : likeD ((ks'.map kb).map (·.2)) = true := likeD_sub c.1 fun x m => by
              rw [m2] at m
              obtain ⟨k, mk, rfl⟩ := List.mem_map.mp m
              exact List.mem_map.mpr ⟨k, (hm k).mp mk, rfl⟩
            exact sortOk (same_updR s.ex (s.fresh hp).2) (fz ks' hm) lk (len ks' nd hm)
          · obtain ⟨s1, t1⟩ := Sta.ghost (o := SetGO X.w p (inKs ks) n') s hp
            have z1 := fzs_sort (fz ks' hm)
            rw [m2, sortKs_any c.1 nd hm] at z1
            exact fin_newO s1 (fun F' H' fp' t => n F' H' fp' (t1.trans t)) q .lst _ _ _ rfl rfl hq (if_pos (by rw [List.length_map, List.length_mergeSort]; exact len ks' nd hm)) z1
        · cases e
      cases dx with
      | nd k ds =>
        cases k with
        | lst =>
          obtain ⟨a, vs, rfl, hi, hs⟩ := z.node s.ex
          simp only [dSortSet, if_true] at e
          split at e
          · rename_i ks hk
            exact main a ks vs ds rfl (.inl (SqL.of hi.1)) hs hi.2 hk e
          · cases e
        | tup =>
          obtain ⟨a, vs, rfl, hi, hs⟩ := z.node s.ex
          simp only [dSortSet, if_true] at e
          split at e
          · rename_i ks hk
            exact main a ks vs ds rfl (.inr (SqT.of hi.1)) hs hi.2 hk e
          · cases e
        | _ => simp [dSortSet] at e
      | _ => simp [dSortSet] at e
    exact goal
end
end Y

set_option Elab.async false
set_option linter.all false
set_option maxRecDepth 100000
set_option maxHeartbeats 2000000
/-! Walks over dicts. -/
namespace Y
open PySem L2
/-- as F, but for dicts locked or not -/
def LkR (F G : Hp) : Prop := ∀ a, G a = F a ∨ ∃ kvs o, (F a = some (.dK kvs) ∧ G a = some (.frz o (.dK kvs))) ∨ (F a = some (.frz o (.dK kvs)) ∧ G a = some (.dK kvs))
section
variable {K : PySem.W.Frag} {F G H : Hp} {a : Addr} {k : Kd} {v : V} {d : D} {vs : List V} {ds : List D}
theorem LkR.dK (r : LkR F G) {kvs : List (Key × V)} (h : Rd F a (.dK kvs)) : Rd G a (.dK kvs) := by
  rcases r a with e | ⟨kvs', o, e | e⟩
  · rcases h with h | ⟨o, h⟩
    · exact .inl (e.trans h)
    · exact .inr ⟨o, e.trans h⟩
  · rcases h with h | ⟨o, h⟩
    · rw [e.1] at h; cases h; exact .inr ⟨_, e.2⟩
    · rw [e.1] at h; cases h
  · rcases h with h | ⟨o, h⟩
    · rw [e.1] at h; cases h
    · rw [e.1] at h; cases h; exact .inl e.2
theorem LkR.other (r : LkR F G) {u : HO} (h : F a = some u) (n1 : ∀ kvs, u ≠ .dK kvs) (n2 : ∀ o kvs, u ≠ .frz o (.dK kvs)) : G a = some u := by
  rcases r a with e | ⟨kvs', o, e | e⟩
  · exact e.trans h
  · rw [e.1] at h; cases h; exact absurd rfl (n1 _)
  · rw [e.1] at h; cases h; exact absurd rfl (n2 _ _)
theorem LkR.dT (r : LkR F G) {kvs : List (List Key × V)} (h : Rd F a (.dT kvs)) : Rd G a (.dT kvs) := by
  rcases h with h | ⟨o, h⟩
  · exact .inl (r.other h (fun _ z => by cases z) (fun _ _ z => by cases z))
  · exact .inr ⟨o, r.other h (fun _ z => by cases z) (fun _ _ z => by cases z)⟩
theorem ItemAt.lk (r : LkR F G) (h : ItemAt K F a k vs) : ItemAt K G a k vs := by
  cases k with
  | tup => exact ⟨r.other h.1 (fun _ z => by cases z) (fun _ _ z => by cases z), h.2⟩
  | lst => exact ⟨r.other h.1 (fun _ z => by cases z) (fun _ _ z => by cases z), h.2⟩
  | scr =>
    refine ⟨?_, h.2⟩
    rcases h.1 with q | q
    · refine .inl ?_
      rcases q with q | ⟨o, q⟩
      · exact .inl (r.other q (fun _ z => by cases z) (fun _ _ z => by cases z))
      · exact .inr ⟨o, r.other q (fun _ z => by cases z) (fun _ _ z => by cases z)⟩
    · exact .inr q
  | ktp =>
    refine ⟨?_, h.2⟩
    rcases h.1 with q | q
    · rcases q with q | ⟨o, q⟩
      · exact .inl (.inl (r.other q (fun _ z => by cases z) (fun _ _ z => by cases z)))
      · exact .inl (.inr ⟨o, r.other q (fun _ z => by cases z) (fun _ _ z => by cases z)⟩)
    · exact .inr q
  | dK ks => exact ⟨h.1, r.dK h.2.1, h.2.2⟩
  | dT ks => exact ⟨h.1, r.dT h.2.1, h.2.2⟩
mutual
theorem Fz.lk (r : LkR F G) : ∀ {v : V} {d : D}, Fz K F v d → Fz K G v d
  | _, _, .non => .non
  | _, _, .bl b => .bl b
  | _, _, .int i => .int i
  | _, _, .str s h => .str s h
  | _, _, .ty n => .ty n
  | _, _, .nd h hs => .nd (h.lk r) (hs.lk r)
theorem Fzs.lk (r : LkR F G) : ∀ {vs : List V} {ds : List D}, Fzs K F vs ds → Fzs K G vs ds
  | _, _, .nil => .nil
  | _, _, .cons h hs => .cons (h.lk r) (hs.lk r)
end
theorem lkr_lock {kvs : List (Key × V)} {od : Obj} (h : F a = some (.dK kvs)) : LkR F (upd F a (.frz od (.dK kvs))) := fun b => by
  by_cases e : b = a
  · subst e; exact .inr ⟨kvs, od, .inl ⟨h, upd_same⟩⟩
  · exact .inl (upd_ne e)
theorem lkr_unlock {kvs : List (Key × V)} {od : Obj} (h : F a = some (.frz od (.dK kvs))) : LkR F (upd F a (.dK kvs)) := fun b => by
  by_cases e : b = a
  · subst e; exact .inr ⟨kvs, od, .inr ⟨h, upd_same⟩⟩
  · exact .inl (upd_ne e)
end
section
variable {K : PySem.W.Frag} {β : V} {lk : Bool} {F F' H H' : Hp} {fp fp' : List Addr} {σ σ' : St} {ρ : En} {a : Addr} {u x : HO}
theorem same_both (h : Same F H) : Same (upd F a u) (upd H a u) := fun b o e => by
  by_cases q : b = a
  · subst q; rw [upd_same] at e ⊢; exact e
  · rw [upd_ne q] at e ⊢; exact h b o e
theorem Sl.lkd (s : Sl K β F H σ ρ fp) (r : LkR F F') (k : ∀ b ∈ fp, ∀ o, H b = some o → H' b = some o) : Sl K β F' H' σ ρ fp := by
  induction s with
  | nil => exact .nil
  | skip t ih => exact .skip (ih k)
  | fr h t ih => exact .fr (h.lk r) (ih k)
  | ow h hs t ih => exact .ow (h.keep (k _ List.mem_cons_self)) (hs.lk r) (ih fun b hb => k b (List.mem_cons_of_mem _ hb))
  | bo e h hs t ih => exact .bo e (h.keep (k _ List.mem_cons_self)) (hs.lk r) (ih fun b hb => k b (List.mem_cons_of_mem _ hb))
theorem Sta.lkd (s : Sta K β lk F H σ ρ fp) (h : F a = some x) (r : LkR F (upd F a u)) : Sta K β lk (upd F a u) (upd H a u) σ ρ fp := by
  have nf : ∀ b ∈ fp, b ≠ a := fun b hb e => by rw [e] at hb; rw [s.own a hb] at h; cases h
  refine ⟨same_both s.ex, s.sl.lkd r fun b hb o e => by rw [upd_ne (nf b hb)]; exact e, s.nd, fun b hb => by rw [upd_ne (nf b hb)]; exact s.own b hb, fun _ => trivial⟩
/-- behind the unlocking -/
theorem Tr.lkd {v : HO} (hF : F a = some u) (hH : H a = some u) (n : a ∉ fp) (t : Tr (upd F a v) (upd H a v) fp F' H' fp') : Tr F H fp (upd F' a u) (upd H' a u) fp' := by
  refine ⟨fun b o e => ?_, fun b o e nb => ?_, fun b h => ?_⟩
  · by_cases q : b = a
    · subst q; rw [hF] at e; cases e; exact upd_same
    · rw [upd_ne q]; exact t.ex b o (by rw [upd_ne q]; exact e)
  · by_cases q : b = a
    · subst q; rw [hH] at e; cases e; exact upd_same
    · rw [upd_ne q]; exact t.keep b o (by rw [upd_ne q]; exact e) nb
  · by_cases q : b = a
    · subst q
      rcases h with h | h
      · rcases t.new b (.inl h) with z | z
        · exact .inl z
        · rw [upd_same] at z; cases z
      · rw [hF] at h; cases h.1
    · have h' : b ∈ fp' ∨ (upd F a v b = none ∧ F' b ≠ none) := h.imp id fun z => ⟨by rw [upd_ne q]; exact z.1, by have := z.2; rw [upd_ne q] at this; exact this⟩
      exact (t.new b h').imp id fun z => by rw [upd_ne q] at z; exact z
/-- an owned slot is frozen -/
theorem Sta.toF {i : Nat} {d : D} (s : Sta K β lk F H σ ρ fp) (e : ρ[i]? = some (some (.o d))) : ∃ F' fp', Sta K β lk F' H σ (ρ.set i (some (.f d))) fp' ∧ Tr F H fp F' H fp' := by
  obtain ⟨a, k, vs, ds, fp1, fp2, rfl, rfl, e1, hw, hz, _, put, _, _⟩ := s.sl.own .o (.inl rfl) e
  obtain ⟨ho, em, hp⟩ := hw.nf
  obtain ⟨m1, m2, m3⟩ := mid s.nd
  have n2 : F a = none := s.own a (by simp)
  have ex : Same F (upd F a ho) := same_upd n2
  refine ⟨upd F a ho, fp1 ++ fp2, ⟨fun b o q => ?_, put _ H _ ex (fun _ _ _ h => h) (.nd (mkAt em upd_same) (hz.mono ex)), m2, fun b hb => ?_, fun _ => trivial⟩, ⟨ex, fun b o h n => h, fun b q => ?_⟩⟩
  · by_cases z : b = a
    · subst z; rw [upd_same] at q; rw [hp]; exact q
    · rw [upd_ne z] at q; exact s.ex b o q
  · rw [upd_ne (fun (z : b = a) => m1 (z ▸ hb))]; exact s.own b (m3.mem_iff.mp (List.mem_cons_of_mem _ hb))
  · rcases q with q | ⟨q1, q2⟩
    · exact .inl (m3.mem_iff.mp (List.mem_cons_of_mem _ q))
    · by_cases z : b = a
      · rw [z]; exact .inl (by simp)
      · rw [upd_ne z] at q2; exact absurd q1 q2
end
/-! ### what is walked -/
def isLk (F : Hp) (σ : St) (i : Nat) (a : Addr) (o : Obj) (kvs : List (Key × V)) : Prop := σ[i]? = some (some (.ref a)) ∧ F a = some (.frz o (.dK kvs))
/-- iter, over the dict in slot i, gives out src of it -/
def WkD (X : Cx) (tg iter : Expr) (i : Nat) (src : List Key → List D → List D) : Prop := ∃ wi, PI X tg iter wi ∧ ∀ σ F H a o ks vs ds R, isLk F σ i a o (ks.zip vs) → ks.length = vs.length → keysL ks = true → Same F H → Fzs X.K F vs ds → (∀ J, Itz X.K F J (src ks ds) → R J H) → wi σ H R
def vaD : List Key → List D → List D := fun _ ds => ds
def kyD : List Key → List D → List D := fun ks _ => ks.map kD
def imD : List Key → List D → List D := fun ks ds => (ks.zip ds).map fun p => .nd .tup [kD p.1, p.2]
section
variable {X : Cx} {tg e : Expr} {x : Str} {p apos cpos : Pos}
theorem zget {κ : Type} {ks : List κ} {vs : List V} {j : Nat} {k : κ} {v : V} (e : (ks.zip vs)[j]? = some (k, v)) : ks[j]? = some k ∧ vs[j]? = some v := List.getElem?_zip_eq_some.mp e
theorem itz_keys {K : PySem.W.Frag} {F : Hp} {a : Addr} {o : Obj} {ks : List Key} {vs : List V} {ds : List D} (h : F a = some (.frz o (.dK (ks.zip vs)))) (hl : ks.length = vs.length) (hk : keysL ks = true) : Itz K F (Itk a o (ks.zip vs)) (kyD ks ds) := by
  have hz : (ks.zip vs).length = ks.length := by rw [List.length_zip]; omega
  refine ⟨fun i H ex hi => ⟨ex _ _ h, by rw [hz]; simpa [kyD] using hi⟩, fun H ex => ⟨ex _ _ h, by rw [hz]; simp [kyD]⟩, fun i H x H' ex hi y => ?_⟩
  obtain ⟨rfl, k, v, e, rfl⟩ := y
  have ek := (zget e).1
  exact ⟨kD k, by simp [kyD, ek], .inl ⟨rfl, fz_key hk (List.mem_of_getElem? ek)⟩⟩
theorem itz_vals {K : PySem.W.Frag} {F : Hp} {a : Addr} {o : Obj} {ks : List Key} {vs : List V} {ds : List D} (h : F a = some (.frz o (.dK (ks.zip vs)))) (hl : ks.length = vs.length) (hs : Fzs K F vs ds) : Itz K F (Itd a o (ks.zip vs)) (vaD ks ds) := by
  have hz : (ks.zip vs).length = ds.length := by rw [List.length_zip, ← hs.length]; omega
  refine ⟨fun i H ex hi => ⟨ex _ _ h, by rw [hz]; exact hi⟩, fun H ex => ⟨ex _ _ h, by rw [hz]; exact Nat.le_refl _⟩, fun i H x H' ex hi y => ?_⟩
  obtain ⟨rfl, k, e⟩ := y
  obtain ⟨d, e3, z3⟩ := hs.getV (zget e).2
  exact ⟨d, e3, .inl ⟨rfl, z3⟩⟩
theorem itz_items {K : PySem.W.Frag} {F : Hp} {a : Addr} {o : Obj} {ks : List Key} {vs : List V} {ds : List D} (h : F a = some (.frz o (.dK (ks.zip vs)))) (hl : ks.length = vs.length) (hk : keysL ks = true) (hs : Fzs K F vs ds) : Itz K F (Iti a o (ks.zip vs)) (imD ks ds) := by
  have hz : (ks.zip vs).length = (imD ks ds).length := by simp [imD, ← hs.length]
  refine ⟨fun i H ex hi => ⟨ex _ _ h, by rw [hz]; exact hi⟩, fun H ex => ⟨ex _ _ h, by rw [hz]; exact Nat.le_refl _⟩, fun i H x H' ex hi y => ?_⟩
  obtain ⟨T, k, v, e, rfl, hT, rfl⟩ := y
  obtain ⟨d, e3, z3⟩ := hs.getV (zget e).2
  have ek := (zget e).1
  have e5 : (ks.zip ds)[i]? = some (k, d) := List.getElem?_zip_eq_some.mpr ⟨ek, e3⟩
  exact ⟨.nd .tup [kD k, d], by simp [imD, e5], .inr ⟨T, [kV k, v], [kD k, d], rfl, hT, rfl, .cons (fz_key hk (List.mem_of_getElem? ek)) (.cons z3 .nil), by show 2 ≤ sizeLine; decide, rfl⟩⟩
theorem k_keys (i : Nat) (hN : X.N[i]? = some x := by rfl) (hv : Vis X.env.scope x := by first | exact Or.inl rfl | exact Or.inr (Or.inl rfl) | exact Or.inr (Or.inr rfl)) (hd : (x == ("__debug__" : Str)) = false := by decide) (hcd : (x == ("__classdict__" : Str)) = false := by decide) : WkD X tg (.Name x p) i kyD :=
  ⟨_, pi_keys (pe_var hN hv hd hcd), fun σ F H a o ks vs ds R h hl hk ex hs q => ⟨.ref a, h.1, a, o, rfl, .inl ⟨_, ex _ _ h.2, q _ (itz_keys h.2 hl hk)⟩⟩⟩
theorem k_vals (i : Nat) (hN : X.N[i]? = some x := by rfl) (hv : Vis X.env.scope x := by first | exact Or.inl rfl | exact Or.inr (Or.inl rfl) | exact Or.inr (Or.inr rfl)) (hd : (x == ("__debug__" : Str)) = false := by decide) (hcd : (x == ("__classdict__" : Str)) = false := by decide)
    (hbase : attributeBase (.Name x p) "values" X.env (eval (.Name x p) X.env) = eval (.Name x p) X.env := by rfl) (hline : (apos.endLine == cpos.line) = true := by rfl) : WkD X tg (.Call (.Attribute (.Name x p) "values" apos) [] [] cpos) i vaD :=
  ⟨_, pi_values (pe_var hN hv hd hcd) hbase hline, fun σ F H a o ks vs ds R h hl hk ex hs q => ⟨.ref a, h.1, a, o, _, rfl, ex _ _ h.2, q _ (itz_vals h.2 hl hs)⟩⟩
theorem k_items (i : Nat) {elts : List Expr} {kk : Nat} {tpos : Pos} (hN : X.N[i]? = some x := by rfl) (hv : Vis X.env.scope x := by first | exact Or.inl rfl | exact Or.inr (Or.inl rfl) | exact Or.inr (Or.inr rfl)) (hd : (x == ("__debug__" : Str)) = false := by decide) (hcd : (x == ("__classdict__" : Str)) = false := by decide)
    (hbase : attributeBase (.Name x p) "items" X.env (eval (.Name x p) X.env) = eval (.Name x p) X.env := by rfl) (hline : (apos.endLine == cpos.line) = true := by rfl) : WkD X (.Tuple elts kk tpos) (.Call (.Attribute (.Name x p) "items" apos) [] [] cpos) i imD :=
  ⟨_, pi_items (pe_var hN hv hd hcd) hbase hline, fun σ F H a o ks vs ds R h hl hk ex hs q => ⟨.ref a, h.1, a, o, _, rfl, ex _ _ h.2, q _ (itz_items h.2 hl hk hs)⟩⟩
end
/-- the dict in slot i, frozen from now on -/
def sDct {α : Type} (i : Nat) (g : List Key → List D → En → R α) : En → R α := fun ρ => match ρ[i]? with
  | some (some (.f (.nd (.dK ks) ds))) => g ks ds ρ
  | some (some (.o (.nd (.dK ks) ds))) => g ks ds (ρ.set i (some (.f (.nd (.dK ks) ds))))
  | _ => .bad
def quiet {α : Type} : R α → Prop
  | .exc _ _ _ => False
  | _ => True
section
variable {K : PySem.W.Frag} {w : Wd} {F H : Hp} {fp : List Addr} {σ : St} {ρ : En} {α : Type} {i : Nat}
/-- a walk over the dict in slot i, as a value: in the locked world, or in this one where it is locked already -/
theorem dct_lock {g : List Key → List D → En → R D} {t : TE} {Q : VK} (s : StaW K w F H σ ρ fp) (h : Pst K w F H fp σ (sDct i g ρ) (nO K w σ Q)) (hq : ∀ ks ds ρ, quiet (g ks ds ρ))
    (run : ∀ F H ρ fp a o ks vs ds Q, StaW K w F H σ ρ fp → isLk F σ i a o (ks.zip vs) → ks.length = vs.length → keysL ks = true → Fzs K F vs ds → Pst K w F H fp σ (g ks ds ρ) (nO K w σ Q) → t σ H Q) :
    tLockE t σ H Q ∨ t σ H Q := by
  have main : ∀ F ρ fp ks ds, StaW K w F H σ ρ fp → ρ[i]? = some (some (.f (.nd (.dK ks) ds))) → Pst K w F H fp σ (g ks ds ρ) (nO K w σ Q) → tLockE t σ H Q ∨ t σ H Q := by
    intro F ρ fp ks ds s e h
    obtain ⟨v, e1, z⟩ := s.sl.getF e
    obtain ⟨a, vs, rfl, hi, hs⟩ := z.node
    rcases hi.2.1 with hu | ⟨o, hu⟩
    · left
      have hH := s.ex _ _ hu
      have na : a ∉ fp := fun m => by rw [s.own a m] at hu; cases hu
      refine ⟨a, _, hH, trivial, fun od => ?_⟩
      refine run (upd F a (.frz od (.dK (ks.zip vs)))) _ ρ fp a od ks vs ds _ (s.lkd hu (lkr_lock hu)) ⟨e1, upd_same⟩ hi.1 hi.2.2.2 (hs.lk (lkr_lock hu)) ?_
      have q := hq ks ds ρ
      cases r : g ks ds ρ with
      | bad => rw [r] at h; exact h
      | exc c x ρ1 => rw [r] at q; exact q.elim
      | ok d ρ1 =>
        rw [r] at h
        intro F1 H1 fp1 t1 v s1
        have k1 : H1 a = some (.frz od (.dK (ks.zip vs))) := t1.keep a _ upd_same na
        have k2 : F1 a = some (.frz od (.dK (ks.zip vs))) := t1.ex a _ upd_same
        exact ⟨k1, h _ _ _ (t1.lkd hu hH na) v (s1.lkd k2 (lkr_unlock k2))⟩
    · right
      exact run F H ρ fp a o ks vs ds Q s ⟨e1, hu⟩ hi.1 hi.2.2.2 hs h
  unfold sDct at h
  split at h
  · rename_i ks ds e
    exact main F ρ fp ks ds s e h
  · rename_i ks ds e
    obtain ⟨F', fp', s1, t1⟩ := s.toF e
    have hi : i < ρ.length := (List.getElem?_eq_some_iff.mp e).1
    exact main F' _ fp' ks ds s1 (by rw [List.getElem?_set_self hi]) (Pst.tr h t1)
  · exact h.elim
theorem lcL_quiet {g : D → En → Option En} {t : En → R Bool} {e : En → R D} {vs : List Nat} : ∀ (ds : List D) (ρ : En) (acc : List D), quiet (lcL g t e vs ds ρ acc)
  | [], ρ, acc => trivial
  | d :: ds, ρ, acc => by
    unfold lcL
    cases g d ρ with
    | none => trivial
    | some ρ1 =>
      dsimp only
      cases h : t ρ1 with
      | bad => trivial
      | exc c x ρ => trivial
      | ok b ρ2 =>
        cases b with
        | false => simpa [noX, bnd] using lcL_quiet ds _ acc
        | true =>
          cases h2 : e ρ2 with
          | bad => simp [noX, bnd, h2, quiet]
          | exc c x ρ => simp [noX, bnd, h2, quiet]
          | ok x ρ3 =>
            simp only [noX, bnd, h2, if_true]
            split
            · exact lcL_quiet ds _ _
            · trivial
end
section
variable {X : Cx} {w : Wd} {tg iter elt : Expr} {ifs : List Expr} {scope : Scope} {is : List Nat} {g : D → En → Option En} {t : En → R Bool} {e : En → R D} {src : List Key → List D → List D} {pos : Pos}
/-- [e for tg in a dict's walk if ..] -/
def sLcD (i : Nat) (src : List Key → List D → List D) (g : D → En → Option En) (t : En → R Bool) (e : En → R D) (vs : List Nat) : En → R D := sDct i fun ks ds ρ => lcL g t e vs (src ks ds) (wipeE vs ρ) []
theorem d_lcD (i : Nat) (own : List (Str × Nat)) (hc : X.calm = true) (hN : X.N.Nodup) (hi : WkD X tg iter i src) (ok : BlkOk X.N X.env.scope scope own) (his : ∀ i ∈ is, i ∈ own.map (·.2))
    (hg : ∀ (s : Shared) (H : Hp) (C : Addr) (cl : List (Str × Addr)) (fp : List Addr), PG (X.blk s H scope (compEnvC scope cl C X.env) fp) tg (cG X.K w.in1 is g)) (ht : ∀ (s : Shared) (H : Hp) (C : Addr) (cl : List (Str × Addr)) (fp : List Addr), PTs (X.blk s H scope (compEnvC scope cl C X.env) fp) ifs (cT X.K w.in1 t))
    (he : ∀ (s : Shared) (H : Hp) (C : Addr) (cl : List (Str × Addr)) (fp : List Addr), PE (X.blk s H scope (compEnvC scope cl C X.env) fp) elt (cF X.K w.in1 e)) (hs : ∀ x, foldedSetIterable iter X.env x = pure x := by intro _; rfl) :
    PE X (.ListComp elt [⟨tg, iter, ifs, 0⟩] scope pos) (cO X.K w (sLcD i src g t e (own.map (·.2)))) := by
  obtain ⟨wi, pw, run⟩ := hi
  have P := pe_lc (pos := pos) hc hN pw ok hg ht he hs
  refine peI (pe_or2 (pe_lock P) P) fun σ H Q h => ?_
  obtain ⟨F, ρ, fp, s, h⟩ := h
  refine dct_lock s h (fun ks ds ρ => lcL_quiet _ _ _) fun F H ρ fp a o ks vs ds Q s hl hlen hk hz h => ?_
  exact run σ F H a o ks vs ds _ hl hlen hk s.ex hz fun J I => lc_body his s I h
end
end Y

set_option Elab.async false
set_option linter.all false
set_option maxRecDepth 100000
set_option maxHeartbeats 2000000
/-! Comprehensions of two fors. -/
namespace Y
open PySem L2
def lc2I (g1 : D → En → Option En) (t1 : En → R Bool) (e : En → R D) (vs1 : List Nat) (k : En → List D → R D) : List D → En → List D → R D
  | [], ρ, acc => k ρ acc
  | d :: ds, ρ, acc => match g1 d ρ with
    | none => .bad
    | some ρ1 => bnd (noX (t1 ρ1)) fun b ρ2 => if b = true then bnd (noX (e ρ2)) fun x ρ3 => if acc.length < sizeLine then lc2I g1 t1 e vs1 k ds (wipeE vs1 ρ3) (acc ++ [x]) else .bad else lc2I g1 t1 e vs1 k ds (wipeE vs1 ρ2) acc
def lc2L (g : D → En → Option En) (t : En → R Bool) (s1 : En → R (List D)) (g1 : D → En → Option En) (t1 : En → R Bool) (e : En → R D) (vs vs1 : List Nat) : List D → En → List D → R D
  | [], ρ, acc => .ok (.nd .lst acc) ρ
  | d :: ds, ρ, acc => match g d ρ with
    | none => .bad
    | some ρ1 => bnd (noX (t ρ1)) fun b ρ2 => if b = true then bnd (noX (s1 ρ2)) fun ds1 ρ3 => lc2I g1 t1 e vs1 (fun ρ acc => lc2L g t s1 g1 t1 e vs vs1 ds (wipeE vs ρ) acc) ds1 (wipeE vs1 ρ3) acc else lc2L g t s1 g1 t1 e vs vs1 ds (wipeE vs ρ2) acc
section
variable {K : PySem.W.Frag} {w : Wd} {g g1 : D → En → Option En} {t t1 : En → R Bool} {e : En → R D} {src1 : En → R (List D)} {vs vs1 is is1 : List Nat} {σ : St} {Q : VK}
theorem lc2_body {ds : List D} {J : It} {F1 H1 : Hp} {ρ1 : En} {fp1 : List Addr} (his : ∀ i ∈ is, i ∈ vs) (his1 : ∀ i ∈ is1, i ∈ vs1) (hv : ∀ i ∈ vs1, i ∈ vs) (s1 : StaW K w F1 H1 σ ρ1 fp1) (I : Itz K F1 J ds) (h1 : Pst K w F1 H1 fp1 σ (lc2L g t src1 g1 t1 e vs vs1 ds (wipeE vs ρ1) []) (nO K w σ Q)) :
    tLc2 (fun _ H R => R J H) (cG K w.in1 is g) (cT K w.in1 t) (cI K w.in1 src1) (cG K w.in1 is1 g1) (cT K w.in1 t1) (cF K w.in1 e) vs vs1 σ H1 Q := fun L hL => by
  obtain ⟨fpw, sw, tw⟩ := StaW.wipe (vs := vs) s1
  obtain ⟨m0, t0⟩ := Mk.start sw hL
  refine ⟨fun i k H => k = ds.length - i ∧ i ≤ ds.length ∧ ∃ F ρ fp acc, Mk K w F1 F H L (wipe σ vs) ρ fp acc ∧ acc.length ≤ sizeLine ∧ Pst K w F H (L :: fp) σ (lc2L g t src1 g1 t1 e vs vs1 (ds.drop i) ρ acc) (nO K w σ Q), ⟨ds.length, by simp, Nat.zero_le _, F1, _, fpw, [], m0, Nat.zero_le _, Pst.tr h1 (tw.trans t0)⟩, ?_⟩
  rintro i k H ⟨rfl, hi, F, ρ, fp, acc, m, hz, h⟩
  by_cases hlt : i < ds.length
  · refine .inr ⟨I.go i H (m.ex.trans m.s.ex) hlt, fun H => ∃ F ρ fp acc, Mk K w F1 F H L (wipe σ vs) ρ fp acc ∧ acc.length ≤ sizeLine ∧ Pst K w F H (L :: fp) σ (lc2L g t src1 g1 t1 e vs vs1 (ds.drop (i + 1)) ρ acc) (nO K w σ Q), fun H' q => ⟨ds.length - (i + 1), by omega, rfl, hlt, q⟩, fun x H' y => ?_⟩
    obtain ⟨d, F2, ed, s2, t2, z⟩ := given I m.s m.ex hlt y
    have m2 := m.go t2 s2
    have edr : ds.drop i = d :: ds.drop (i + 1) := by
      obtain ⟨h1, h2⟩ := List.getElem?_eq_some_iff.mp ed
      rw [← h2]
      exact List.drop_eq_getElem_cons h1
    rw [edr] at h
    unfold lc2L at h
    cases q : g d ρ with
    | none => simp only [q] at h; exact h.elim
    | some ρ2 =>
      simp only [q] at h
      refine ⟨F2, ρ, fp, d, ρ2, s2, z, q, fun σ3 fp3 s3 t3 o3 => ?_⟩
      have ew : wipe σ3 vs = wipe σ vs := (o3 vs his).trans (wipe_sub fun _ h => h)
      have h3 := Pst.tr h (t2.trans t3).cons
      have m3 := m2.go t3 s3
      refine ⟨ew, F2, ρ2, fp3, s3, ?_⟩
      cases q1 : t ρ2 with
      | bad => rw [q1] at h3; exact h3.elim
      | exc c x ρ => rw [q1] at h3; exact h3.elim
      | ok b ρ4 =>
        rw [q1] at h3
        intro F4 H4 fp4 t4 s4
        have m4 := m3.go t4 s4
        have h4 := Pst.tr h3 t4.cons
        cases b with
        | false =>
          refine iteF ?_
          obtain ⟨fp5, s5, t5⟩ := StaW.wipe (vs := vs) s4
          rw [ew] at s5
          exact ⟨F4, _, fp5, acc, m4.go t5 s5, hz, by simpa [noX_ok, bnd_ok] using Pst.tr h4 t5.cons⟩
        | true =>
          refine iteT ⟨F4, ρ4, fp4, s4, ?_⟩
          have h4' : Pst K w F4 H4 (L :: fp4) σ (bnd (noX (src1 ρ4)) fun ds1 ρ3 => lc2I g1 t1 e vs1 (fun ρ acc => lc2L g t src1 g1 t1 e vs vs1 (ds.drop (i + 1)) (wipeE vs ρ) acc) ds1 (wipeE vs1 ρ3) acc) (nO K w σ Q) := by simpa [noX_ok, bnd_ok] using h4
          cases q2 : src1 ρ4 with
          | bad => rw [q2] at h4'; exact h4'.elim
          | exc c x ρ => rw [q2] at h4'; exact h4'.elim
          | ok ds1 ρ5 =>
            rw [q2] at h4'
            intro F5 H5 fp5 t5 J1 s5 I1
            have m5 := m4.go t5 s5
            have h5 := Pst.tr h4' t5.cons
            obtain ⟨fp6, s6, t6⟩ := StaW.wipe (vs := vs1) s5
            have m6 := m5.go t6 s6
            have h6 : Pst K w F5 H5 (L :: fp6) σ (lc2I g1 t1 e vs1 (fun ρ acc => lc2L g t src1 g1 t1 e vs vs1 (ds.drop (i + 1)) (wipeE vs ρ) acc) ds1 (wipeE vs1 ρ5) acc) (nO K w σ Q) := by simpa [noX_ok, bnd_ok] using Pst.tr h5 t6.cons
            refine ⟨fun j k H => k = ds1.length - j ∧ j ≤ ds1.length ∧ ∃ F ρ fp acc, Mk K w F1 F H L (wipe σ3 vs1) ρ fp acc ∧ Same F5 F ∧ acc.length ≤ sizeLine ∧ Pst K w F H (L :: fp) σ (lc2I g1 t1 e vs1 (fun ρ acc => lc2L g t src1 g1 t1 e vs vs1 (ds.drop (i + 1)) (wipeE vs ρ) acc) (ds1.drop j) ρ acc) (nO K w σ Q), ⟨ds1.length, by simp, Nat.zero_le _, F5, _, fp6, acc, m6, Same.refl _, hz, h6⟩, ?_⟩
            rintro j k H7 ⟨rfl, hj, F7, ρ7, fp7, acc7, m7, ex7, hz7, h7⟩
            by_cases hlt1 : j < ds1.length
            · refine .inr ⟨I1.go j H7 (ex7.trans m7.s.ex) hlt1, fun H => ∃ F ρ fp acc, Mk K w F1 F H L (wipe σ3 vs1) ρ fp acc ∧ Same F5 F ∧ acc.length ≤ sizeLine ∧ Pst K w F H (L :: fp) σ (lc2I g1 t1 e vs1 (fun ρ acc => lc2L g t src1 g1 t1 e vs vs1 (ds.drop (i + 1)) (wipeE vs ρ) acc) (ds1.drop (j + 1)) ρ acc) (nO K w σ Q), fun H' q => ⟨ds1.length - (j + 1), by omega, rfl, hlt1, q⟩, fun x H' y => ?_⟩
              obtain ⟨d8, F8, ed8, s8, t8, z8⟩ := given I1 m7.s ex7 hlt1 y
              have m8 := m7.go t8 s8
              have edr8 : ds1.drop j = d8 :: ds1.drop (j + 1) := by
                obtain ⟨h1, h2⟩ := List.getElem?_eq_some_iff.mp ed8
                rw [← h2]
                exact List.drop_eq_getElem_cons h1
              rw [edr8] at h7
              unfold lc2I at h7
              cases q8 : g1 d8 ρ7 with
              | none => simp only [q8] at h7; exact h7.elim
              | some ρ9 =>
                simp only [q8] at h7
                refine ⟨F8, ρ7, fp7, d8, ρ9, s8, z8, q8, fun σ9 fp9 s9 t9 o9 => ?_⟩
                have ew9 : wipe σ9 vs1 = wipe σ3 vs1 := (o9 vs1 his1).trans (wipe_sub fun _ h => h)
                have h9 := Pst.tr h7 (t8.trans t9).cons
                have m9 := m8.go t9 s9
                refine ⟨ew9, F8, ρ9, fp9, s9, ?_⟩
                have ex8 := ex7.trans (t8.trans t9).ex
                cases qa : t1 ρ9 with
                | bad => rw [qa] at h9; exact h9.elim
                | exc c x ρ => rw [qa] at h9; exact h9.elim
                | ok b ρa =>
                  rw [qa] at h9
                  intro Fa Ha fpa ta sa
                  have ma := m9.go ta sa
                  have ha := Pst.tr h9 ta.cons
                  cases b with
                  | false =>
                    refine iteF ?_
                    obtain ⟨fpb, sb, tb⟩ := StaW.wipe (vs := vs1) sa
                    rw [ew9] at sb
                    exact ⟨Fa, _, fpb, acc7, ma.go tb sb, ex8.trans ta.ex, hz7, by simpa [noX_ok, bnd_ok] using Pst.tr ha tb.cons⟩
                  | true =>
                    refine iteT ⟨Fa, ρa, fpa, sa, ?_⟩
                    have ha' : Pst K w Fa Ha (L :: fpa) σ (bnd (noX (e ρa)) fun x ρ3 => if acc7.length < sizeLine then lc2I g1 t1 e vs1 (fun ρ acc => lc2L g t src1 g1 t1 e vs vs1 (ds.drop (i + 1)) (wipeE vs ρ) acc) (ds1.drop (j + 1)) (wipeE vs1 ρ3) (acc7 ++ [x]) else .bad) (nO K w σ Q) := by simpa [noX_ok, bnd_ok] using ha
                    cases qb : e ρa with
                    | bad => rw [qb] at ha'; exact ha'.elim
                    | exc c x ρ => rw [qb] at ha'; exact ha'.elim
                    | ok dx ρb =>
                      rw [qb] at ha'
                      intro Fb Hb fpb tb v sb zv
                      have mb := ma.go tb sb
                      have hb := Pst.tr ha' tb.cons
                      obtain ⟨fpc, sc, tc⟩ := StaW.wipe (vs := vs1) sb
                      rw [ew9] at sc
                      have mc := mb.go tc sc
                      have hc := Pst.tr hb tc.cons
                      by_cases hl : acc7.length < sizeLine
                      · obtain ⟨ws, e1, e2, md, td⟩ := mc.app zv hl
                        refine ⟨ws, e1, e2, Fb, _, fpc, _, md, (ex8.trans ta.ex).trans (tb.trans tc).ex, by rw [List.length_append]; exact hl, ?_⟩
                        have he := Pst.tr hc td
                        simpa [bnd, noX, hl] using he
                      · exact (show False by simpa [bnd, noX, hl, Pst] using hc).elim
            · have ej : j = ds1.length := by omega
              subst ej
              rw [List.drop_length] at h7
              refine .inl ⟨I1.stop H7 (ex7.trans m7.s.ex), ?_⟩
              obtain ⟨fp8, s8, t8⟩ := StaW.wipe (vs := vs) m7.s
              rw [wipe_sub hv, ew] at s8
              exact ⟨F7, _, fp8, acc7, m7.go t8 s8, hz7, Pst.tr h7 t8.cons⟩
  · have e : i = ds.length := by omega
    subst e
    rw [List.drop_length] at h
    have mu : Mk K w F1 F H L σ ρ fp acc := ⟨StaW.unwipe m.s, m.ex, m.nf, m.nF, m.at_⟩
    exact .inl ⟨I.stop H (m.ex.trans m.s.ex), h F H (L :: fp) .refl (.ref L) (mu.done hz)⟩
theorem lc2I_quiet {k : En → List D → R D} (hk : ∀ ρ acc, quiet (k ρ acc)) : ∀ (ds : List D) (ρ : En) (acc : List D), quiet (lc2I g1 t1 e vs1 k ds ρ acc)
  | [], ρ, acc => hk ρ acc
  | d :: ds, ρ, acc => by
    unfold lc2I
    cases g1 d ρ with
    | none => trivial
    | some ρ1 =>
      dsimp only
      cases h : t1 ρ1 with
      | bad => trivial
      | exc c x ρ => trivial
      | ok b ρ2 =>
        cases b with
        | false => simpa [noX, bnd] using lc2I_quiet hk ds _ acc
        | true =>
          cases h2 : e ρ2 with
          | bad => simp [noX, bnd, h2, quiet]
          | exc c x ρ => simp [noX, bnd, h2, quiet]
          | ok x ρ3 =>
            simp only [noX, bnd, h2, if_true]
            split
            · exact lc2I_quiet hk ds _ _
            · trivial
theorem lc2L_quiet : ∀ (ds : List D) (ρ : En) (acc : List D), quiet (lc2L g t src1 g1 t1 e vs vs1 ds ρ acc)
  | [], ρ, acc => trivial
  | d :: ds, ρ, acc => by
    unfold lc2L
    cases g d ρ with
    | none => trivial
    | some ρ1 =>
      dsimp only
      cases h : t ρ1 with
      | bad => trivial
      | exc c x ρ => trivial
      | ok b ρ2 =>
        cases b with
        | false => simpa [noX, bnd] using lc2L_quiet ds _ acc
        | true =>
          cases h2 : src1 ρ2 with
          | bad => simp [noX, bnd, h2, quiet]
          | exc c x ρ => simp [noX, bnd, h2, quiet]
          | ok x ρ3 =>
            simp only [noX, bnd, h2, if_true]
            exact lc2I_quiet (fun ρ acc => lc2L_quiet ds _ acc) _ _ _
end
section
variable {X : Cx} {w : Wd} {tg iter tg1 iter1 elt : Expr} {ifs ifs1 : List Expr} {scope : Scope} {is is1 vs1 : List Nat} {g g1 : D → En → Option En} {t t1 : En → R Bool} {e : En → R D} {src : List Key → List D → List D} {srcL src1 : En → R (List D)} {pos : Pos}
def sLc2 (src : En → R (List D)) (g : D → En → Option En) (t : En → R Bool) (src1 : En → R (List D)) (g1 : D → En → Option En) (t1 : En → R Bool) (e : En → R D) (vs vs1 : List Nat) : En → R D := fun ρ => bnd (src ρ) fun ds ρ1 => lc2L g t src1 g1 t1 e vs vs1 ds (wipeE vs ρ1) []
def sLc2D (i : Nat) (src : List Key → List D → List D) (g : D → En → Option En) (t : En → R Bool) (src1 : En → R (List D)) (g1 : D → En → Option En) (t1 : En → R Bool) (e : En → R D) (vs vs1 : List Nat) : En → R D := sDct i fun ks ds ρ => lc2L g t src1 g1 t1 e vs vs1 (src ks ds) (wipeE vs ρ) []
theorem d_lc2 (own : List (Str × Nat)) (hc : X.calm = true) (hN : X.N.Nodup) (hi : PI X tg iter (cI X.K w srcL)) (ok : BlkOk X.N X.env.scope scope own) (his : ∀ i ∈ is, i ∈ own.map (·.2)) (his1 : ∀ i ∈ is1, i ∈ vs1) (hv : ∀ i ∈ vs1, i ∈ own.map (·.2))
    (hg : ∀ (s : Shared) (H : Hp) (C : Addr) (cl : List (Str × Addr)) (fp : List Addr), PG (X.blk s H scope (compEnvC scope cl C X.env) fp) tg (cG X.K w.in1 is g)) (ht : ∀ (s : Shared) (H : Hp) (C : Addr) (cl : List (Str × Addr)) (fp : List Addr), PTs (X.blk s H scope (compEnvC scope cl C X.env) fp) ifs (cT X.K w.in1 t))
    (hi1 : ∀ (s : Shared) (H : Hp) (C : Addr) (cl : List (Str × Addr)) (fp : List Addr), PI (X.blk s H scope (compEnvC scope cl C X.env) fp) tg1 iter1 (cI X.K w.in1 src1))
    (hg1 : ∀ (s : Shared) (H : Hp) (C : Addr) (cl : List (Str × Addr)) (fp : List Addr), PG (X.blk s H scope (compEnvC scope cl C X.env) fp) tg1 (cG X.K w.in1 is1 g1)) (ht1 : ∀ (s : Shared) (H : Hp) (C : Addr) (cl : List (Str × Addr)) (fp : List Addr), PTs (X.blk s H scope (compEnvC scope cl C X.env) fp) ifs1 (cT X.K w.in1 t1))
    (he : ∀ (s : Shared) (H : Hp) (C : Addr) (cl : List (Str × Addr)) (fp : List Addr), PE (X.blk s H scope (compEnvC scope cl C X.env) fp) elt (cF X.K w.in1 e)) (hs : ∀ x, foldedSetIterable iter X.env x = pure x := by intro _; rfl) (hs1 : ∀ env x, foldedSetIterable iter1 env x = pure x := by intro _ _; rfl) :
    PE X (.ListComp elt [⟨tg, iter, ifs, 0⟩, ⟨tg1, iter1, ifs1, 0⟩] scope pos) (cO X.K w (sLc2 srcL g t src1 g1 t1 e (own.map (·.2)) vs1)) :=
  peI (pe_lc2 hc hN hi ok hv hg ht hi1 hg1 ht1 he hs hs1) fun σ H Q h => by
    obtain ⟨F, ρ, fp, s, h⟩ := h
    exact ⟨F, ρ, fp, s, h.bnd fun ds ρ1 F1 H1 fp1 t1 h1 => fun J s1 I => lc2_body his his1 hv s1 I h1⟩
theorem d_lc2D (i : Nat) (own : List (Str × Nat)) (hc : X.calm = true) (hN : X.N.Nodup) (hi : WkD X tg iter i src) (ok : BlkOk X.N X.env.scope scope own) (his : ∀ i ∈ is, i ∈ own.map (·.2)) (his1 : ∀ i ∈ is1, i ∈ vs1) (hv : ∀ i ∈ vs1, i ∈ own.map (·.2))
    (hg : ∀ (s : Shared) (H : Hp) (C : Addr) (cl : List (Str × Addr)) (fp : List Addr), PG (X.blk s H scope (compEnvC scope cl C X.env) fp) tg (cG X.K w.in1 is g)) (ht : ∀ (s : Shared) (H : Hp) (C : Addr) (cl : List (Str × Addr)) (fp : List Addr), PTs (X.blk s H scope (compEnvC scope cl C X.env) fp) ifs (cT X.K w.in1 t))
    (hi1 : ∀ (s : Shared) (H : Hp) (C : Addr) (cl : List (Str × Addr)) (fp : List Addr), PI (X.blk s H scope (compEnvC scope cl C X.env) fp) tg1 iter1 (cI X.K w.in1 src1))
    (hg1 : ∀ (s : Shared) (H : Hp) (C : Addr) (cl : List (Str × Addr)) (fp : List Addr), PG (X.blk s H scope (compEnvC scope cl C X.env) fp) tg1 (cG X.K w.in1 is1 g1)) (ht1 : ∀ (s : Shared) (H : Hp) (C : Addr) (cl : List (Str × Addr)) (fp : List Addr), PTs (X.blk s H scope (compEnvC scope cl C X.env) fp) ifs1 (cT X.K w.in1 t1))
    (he : ∀ (s : Shared) (H : Hp) (C : Addr) (cl : List (Str × Addr)) (fp : List Addr), PE (X.blk s H scope (compEnvC scope cl C X.env) fp) elt (cF X.K w.in1 e)) (hs : ∀ x, foldedSetIterable iter X.env x = pure x := by intro _; rfl) (hs1 : ∀ env x, foldedSetIterable iter1 env x = pure x := by intro _ _; rfl) :
    PE X (.ListComp elt [⟨tg, iter, ifs, 0⟩, ⟨tg1, iter1, ifs1, 0⟩] scope pos) (cO X.K w (sLc2D i src g t src1 g1 t1 e (own.map (·.2)) vs1)) := by
  obtain ⟨wi, pw, run⟩ := hi
  have P := pe_lc2 (pos := pos) hc hN pw ok hv hg ht hi1 hg1 ht1 he hs hs1
  refine peI (pe_or2 (pe_lock P) P) fun σ H Q h => ?_
  obtain ⟨F, ρ, fp, s, h⟩ := h
  refine dct_lock s h (fun ks ds ρ => lc2L_quiet _ _ _) fun F H ρ fp a o ks vs ds Q s hl hlen hk hz h => ?_
  exact run σ F H a o ks vs ds _ hl hlen hk s.ex hz fun J I => lc2_body his his1 hv s I h
end
end Y

set_option Elab.async false
set_option linter.all false
set_option maxRecDepth 100000
set_option maxHeartbeats 2000000
/-! Parallel stores, slices of a name, dicts of pairs, dict comprehensions. -/
namespace Y
open PySem L2
/-! ### a, b = x, y, some of them ours -/
def nS (K : PySem.W.Frag) (w : Wd) (σ : St) (Q : List V → Hp → Prop) : List S → En → Hp → Hp → List Addr → Prop := fun ss ρ F H fp => ∀ vs, StaW K w F H (vs.map some ++ σ) (ss.map some ++ ρ) fp → vs.length = ss.length → Q vs H
def cS2 (K : PySem.W.Frag) (w : Wd) (f : En → R (List S)) : TA := fun σ H Q => ∃ F ρ fp, StaW K w F H σ ρ fp ∧ Pst K w F H fp σ (f ρ) (nS K w σ Q)
def pNil : En → R (List S) := fun ρ => .ok [] ρ
def pF (a : En → R D) (b : En → R (List S)) : En → R (List S) := fun ρ => bnd (a ρ) fun d ρ1 => bnd (b ρ1) fun ds ρ2 => .ok (.f d :: ds) ρ2
def pO (a : En → R D) (b : En → R (List S)) : En → R (List S) := fun ρ => bnd (a ρ) fun d ρ1 => bnd (b ρ1) fun ds ρ2 => .ok (.o d :: ds) ρ2
section
variable {X : Cx} {w : Wd} {e : Expr} {es : List Expr} {fa : En → R D} {fs : En → R (List S)} {pos : Pos}
theorem z_nil : PA X [] (cS2 X.K w pNil) := paI pa_nil fun σ H Q h => by
  obtain ⟨F, ρ, fp, s, h⟩ := h
  exact h F H fp .refl [] s rfl
theorem z_F (ha : PE X e (cF X.K w fa)) (hr : PA X es (cS2 X.K w fs)) (hs : starEach (e :: es) X.env = (false, eval e X.env) :: starEach es X.env := by rfl) : PA X (e :: es) (cS2 X.K w (pF fa fs)) :=
  paI (pa_cons ha hr hs) fun σ H Q h => by
    obtain ⟨F, ρ, fp, s, h⟩ := h
    refine ⟨F, ρ, fp, s, h.bnd fun d ρ1 F1 H1 fp1 t1 h1 => fun v s1 z => ⟨F1, ρ1, fp1, s1, h1.bnd fun ss ρ2 F2 H2 fp2 t2 h2 => fun vs s2 hl => ?_⟩⟩
    exact h2 F2 H2 fp2 .refl (v :: vs) ⟨s2.ex, .fr (z.mono t2.ex) s2.sl, s2.nd, s2.own, s2.lock⟩ (by simp [hl])
theorem z_O (ha : PE X e (cO X.K w fa)) (hr : PA X es (cS2 X.K w fs)) (hs : starEach (e :: es) X.env = (false, eval e X.env) :: starEach es X.env := by rfl) : PA X (e :: es) (cS2 X.K w (pO fa fs)) :=
  paI (pa_cons ha hr hs) fun σ H Q h => by
    obtain ⟨F, ρ, fp, s, h⟩ := h
    refine ⟨F, ρ, fp, s, h.bnd fun d ρ1 F1 H1 fp1 t1 h1 => fun v s1 => ?_⟩
    cases hsl : s1.sl with
    | @ow a k ws ds σ' ρ' fp0 hw hz sl =>
      have nd := List.nodup_cons.mp s1.nd
      have s0 : StaW X.K w F1 H1 σ ρ1 fp0 := ⟨s1.ex, sl, nd.2, fun b hb => s1.own b (List.mem_cons_of_mem _ hb), s1.lock⟩
      have t0 : Tr F1 H1 (a :: fp0) F1 H1 fp0 := Tr.refl.sub fun b hb => List.mem_cons_of_mem _ hb
      refine ⟨F1, ρ1, fp0, s0, ?_⟩
      cases q : fs ρ1 with
      | bad => rw [q] at h1; exact h1.elim
      | exc c x ρ2 => rw [q] at h1; exact Pst.tr (r := .exc c x ρ2) h1 t0
      | ok ss ρ2 =>
        rw [q] at h1
        intro F2 H2 fp2 t2 vs s2 hl
        obtain ⟨o, ha⟩ := hw.any
        have na : a ∉ fp2 := fun m => by
          rcases t2.new a (.inl m) with z | z
          · exact nd.1 z
          · rw [ha] at z; cases z
        have nF : F2 a = none := by
          cases r : F2 a with
          | none => rfl
          | some o' =>
            rcases t2.new a (.inr ⟨s1.own a List.mem_cons_self, by rw [r]; exact fun z => nomatch z⟩) with z | z
            · exact absurd z nd.1
            · rw [ha] at z; cases z
        exact h1 F2 H2 (a :: fp2) t2.cons (.ref a :: vs) ⟨s2.ex, .ow (hw.keep fun o e => t2.keep a o e nd.1) (hz.mono t2.ex) s2.sl, List.nodup_cons.mpr ⟨na, s2.nd⟩, fun b hb => (List.mem_cons.mp hb).elim (fun e => e ▸ nF) (s2.own b), s2.lock⟩ (by simp [hl])
/-- the topmost value is stored -/
theorem Sta.storeS {K : PySem.W.Frag} {F H : Hp} {σ : St} {ρ : En} {fp : List Addr} {v : V} {x : S} (s : StaW K w F H (some v :: σ) (some x :: ρ) fp) (nb : ∀ d, x ≠ .b d) (i : Nat) : ∃ fp', StaW K w F H (σ.set i (some v)) (ρ.set i (some x)) fp' ∧ Tr F H fp F H fp' := by
  cases x with
  | f d =>
    cases hs : s.sl with
    | fr z sl => exact Sta.store ⟨s.ex, sl, s.nd, s.own, s.lock⟩ z i
  | o d => exact s.storeO i
  | b d => exact absurd rfl (nb d)
def noB : S → Bool | .b _ => false | _ => true
theorem noB_ne {x : S} (h : noB x = true) : ∀ d, x ≠ .b d := by
  intro d e
  rw [e] at h
  cases h
def sPar2 (i j : Nat) (f : En → R (List S)) : En → R Fl := fun ρ => bnd (f ρ) fun ss ρ1 => match ss with
  | [x, y] => if noB x = true ∧ noB y = true then .ok .nx ((ρ1.set i (some x)).set j (some y)) else .bad
  | _ => .bad
def sPar3 (i j l : Nat) (f : En → R (List S)) : En → R Fl := fun ρ => bnd (f ρ) fun ss ρ1 => match ss with
  | [x, y, z] => if noB x = true ∧ noB y = true ∧ noB z = true then .ok .nx (((ρ1.set i (some x)).set j (some y)).set l (some z)) else .bad
  | _ => .bad
theorem s_par2 (i j : Nat) {x y : Str} {a b : Expr} {px py pt : Pos} {kt k2 pt2} (hc : X.calm = true) (hN : X.N.Nodup) (ha : PA X [a, b] (cS2 X.K w fs)) (hi : X.N[i]? = some x := by rfl) (hj : X.N[j]? = some y := by rfl) (hij : i ≠ j := by decide)
    (hx : X.env.scope.names.lookup x = some .local := by rfl) (hy : X.env.scope.names.lookup y = some .local := by rfl)
    (hw : swappedStores [.Tuple [.Name x px, .Name y py] kt pt] (.Tuple [a, b] k2 pt2) X.env = pure (some [x, y]) := by rfl)
    (hs : swapsWithSole [.Tuple [.Name x px, .Name y py] kt pt] (.Tuple [a, b] k2 pt2) pos.line X.env = pure false := by rfl) :
    PS X (.Assign [.Tuple [.Name x px, .Name y py] kt pt] (.Tuple [a, b] k2 pt2) pos) (cS X.K w (sPar2 i j fs)) := psI (ps_par hc hN hi hj hij hx hy ha hw hs) fun D σ H h => by
  obtain ⟨F, ρ, fp, s, h⟩ := h
  refine ⟨F, ρ, fp, s, PstS.bnd (e := fs ρ) h fun ss ρ1 F1 H1 fp1 t1 h1 => fun vs s1 hl => ?_⟩
  match ss, vs, hl with
  | [x, y], [v, u], _ =>
    dsimp only at h1
    split at h1
    · rename_i c
      obtain ⟨fp2, s2, t2⟩ := Sta.storeS s1 (noB_ne c.1) (i + 1)
      obtain ⟨fp3, s3, t3⟩ := Sta.storeS s2 (noB_ne c.2) j
      exact ⟨v, u, rfl, h1 _ F1 H1 fp3 (t2.trans t3) s3⟩
    · exact h1.elim
  | [], _, _ => exact h1.elim
  | [_], _, _ => exact h1.elim
  | _ :: _ :: _ :: _, _, _ => exact h1.elim
theorem s_par3 (i j l : Nat) {x y z : Str} {a b c : Expr} {px py pz pt : Pos} {kt k2 pt2} (hc : X.calm = true) (hN : X.N.Nodup) (ha : PA X [a, b, c] (cS2 X.K w fs)) (hi : X.N[i]? = some x := by rfl) (hj : X.N[j]? = some y := by rfl) (hl : X.N[l]? = some z := by rfl) (hij : i ≠ j := by decide) (hil : i ≠ l := by decide) (hjl : j ≠ l := by decide)
    (hx : X.env.scope.names.lookup x = some .local := by rfl) (hy : X.env.scope.names.lookup y = some .local := by rfl) (hz : X.env.scope.names.lookup z = some .local := by rfl)
    (hw : swappedStores [.Tuple [.Name x px, .Name y py, .Name z pz] kt pt] (.Tuple [a, b, c] k2 pt2) X.env = pure (some [x, y, z]) := by rfl)
    (hs : swapsWithSole [.Tuple [.Name x px, .Name y py, .Name z pz] kt pt] (.Tuple [a, b, c] k2 pt2) pos.line X.env = pure false := by rfl) :
    PS X (.Assign [.Tuple [.Name x px, .Name y py, .Name z pz] kt pt] (.Tuple [a, b, c] k2 pt2) pos) (cS X.K w (sPar3 i j l fs)) := psI (ps_par3 hc hN hi hj hl hij hil hjl hx hy hz ha hw hs) fun D σ H h => by
  obtain ⟨F, ρ, fp, s, h⟩ := h
  refine ⟨F, ρ, fp, s, PstS.bnd (e := fs ρ) h fun ss ρ1 F1 H1 fp1 t1 h1 => fun vs s1 hl => ?_⟩
  match ss, vs, hl with
  | [x, y, z], [v, u, r], _ =>
    dsimp only at h1
    split at h1
    · rename_i c
      obtain ⟨fp2, s2, t2⟩ := Sta.storeS s1 (noB_ne c.1) (i + 1 + 1)
      obtain ⟨fp3, s3, t3⟩ := Sta.storeS s2 (noB_ne c.2.1) (j + 1)
      obtain ⟨fp4, s4, t4⟩ := Sta.storeS s3 (noB_ne c.2.2) l
      exact ⟨v, u, r, rfl, h1 _ F1 H1 fp4 (t2.trans (t3.trans t4)) s4⟩
    · exact h1.elim
  | [], _, _ => exact h1.elim
  | [_], _, _ => exact h1.elim
  | [_, _], _, _ => exact h1.elim
  | _ :: _ :: _ :: _ :: _, _, _ => exact h1.elim
/-! ### a slice of a name that changes -/
def sSlcV (i : Nat) (fl fu : En → R (Option Int)) : En → R D := fun ρ => bnd (sBor i ρ) fun _ _ => bnd (fl ρ) fun l ρ1 => bnd (fu ρ1) fun u ρ2 => bnd (sBor i ρ2) fun x ρ3 => lift (dSlc x l u) ρ3
theorem d_slcV (i : Nat) {x : Str} {p p2 : Pos} {lo hi : Option Expr} {fl fu : En → R (Option Int)} (hl : PO X lo (cP X.K w fl)) (hh : PO X hi (cP X.K w fu)) (hN : X.N[i]? = some x := by rfl) (hv : Vis X.env.scope x := by first | exact Or.inl rfl | exact Or.inr (Or.inl rfl) | exact Or.inr (Or.inr rfl)) (hd : (x == ("__debug__" : Str)) = false := by decide) (hcd : (x == ("__classdict__" : Str)) = false := by decide) :
    PE X (.Subscript (.Name x p) (.Slice lo hi none p2) pos) (cF X.K w (sSlcV i fl fu)) :=
  peI (pe_slice sl_any (pe_var hN hv hd hcd) hl hh) fun σ H Q h => by
    obtain ⟨F, ρ, fp, s, h⟩ := h
    unfold sSlcV at h
    obtain ⟨d0, v, _, ev, _, h⟩ := sBor_ok s h
    refine ⟨v, ev, F, ρ, fp, s, h.bnd fun l ρ2 F2 H2 fp2 t2 h2 => fun s2 => ⟨F2, ρ2, fp2, s2, h2.bnd fun u ρ3 F3 H3 fp3 t3 h3 => fun s3 => ?_⟩⟩
    obtain ⟨d, v', _, e1, z, h4⟩ := sBor_ok s3 h3
    rw [ev] at e1
    cases e1
    obtain ⟨r, e, n⟩ := h4.lift
    exact rslc s3.ex z e (fin_new s3 n).1 (fin_new s3 n).2
end
/-! ### dict(xs) of pairs; dict(d) -/
def mergeD : List Key → List D → List Key → List D → List Key × List D
  | ks, ds, q :: qs, d :: es => mergeD (putKs ks q) (putDs ks ds q d) qs es
  | ks, ds, _, _ => (ks, ds)
def pairsD : List D → Option (List Key × List D)
  | [] => some ([], [])
  | .nd .tup [k, d] :: ds => match keyD k, pairsD ds with
    | some q, some (qs, es) => some (q :: qs, d :: es)
    | _, _ => none
  | _ => none
def dDict : D → Option D
  | .nd .lst ds => (pairsD ds).map fun p => .nd (.dK (mergeD [] [] p.1 p.2).1) (mergeD [] [] p.1 p.2).2
  | .nd (.dK ks) ds => some (.nd (.dK ks) ds)
  | _ => none
def rDict (K : PySem.W.Frag) : List V → Hp → VK → Prop := fun xs H Q => (∃ (a : Addr) (ps : List Addr) (kvs : List (Key × V)), xs = [.ref a] ∧ SqL K H a (ps.map V.ref) ∧ Paired (fun p kv => SqT K H p [kV kv.1, kv.2]) ps kvs ∧ ∀ p, H p = none → Q (.ref p) (upd H p (.dK (mergeK [] kvs)))) ∨
  ∃ (a : Addr) (kvs : List (Key × V)), xs = [.ref a] ∧ Rd H a (.dK kvs) ∧ ∀ p, H p = none → Q (.ref p) (upd H p (.dK kvs))
theorem cr_dict {X : Cx} (hc : X.calm = true) : CallR X (.type "dict") (rDict X.K) := (call_dictP hc).or call_dictD
theorem keysL_put {ks : List Key} {k : Key} (h : keysL ks = true) (hk : keyL k = true) : keysL (putKs ks k) = true := by
  unfold putKs
  split
  · exact h
  · unfold keysL at h ⊢; rw [List.all_append, h]; simp [hk]
section
variable {K : PySem.W.Frag} {F H : Hp}
theorem merge_rel : ∀ {qs : List Key} {us : List V} {es : List D} {ks : List Key} {vs : List V} {ds : List D}, Fzs K F us es → qs.length = us.length → keysL qs = true → ks.length = vs.length → keysL ks = true → Fzs K F vs ds →
    ∃ vs', mergeK (ks.zip vs) (qs.zip us) = (mergeD ks ds qs es).1.zip vs' ∧ (mergeD ks ds qs es).1.length = vs'.length ∧ keysL (mergeD ks ds qs es).1 = true ∧ Fzs K F vs' (mergeD ks ds qs es).2 ∧ vs'.length ≤ vs.length + us.length
  | [], [], _, ks, vs, ds, .nil, _, _, hl, hk, hz => ⟨vs, by simp [mergeK, mergeD], hl, hk, hz, by simp⟩
  | q :: qs, u :: us, _, ks, vs, ds, .cons (d := d) (ds := es) z zs, e, hq, hl, hk, hz => by
    have hq' : keyL q = true ∧ keysL qs = true := by simpa [keysL] using hq
    obtain ⟨vs', h1, h2, h3, h4, h5⟩ := merge_rel (ks := putKs ks q) (vs := putVs ks vs q u) zs (by simpa using e) hq'.2 (putKs_len hl) (keysL_put hk hq'.1) (fzs_putVs z hz (k := q) (ks := ks))
    refine ⟨vs', ?_, h2, h3, h4, ?_⟩
    · show mergeK (putK (ks.zip vs) q u) (qs.zip us) = _
      rw [putK_zip hl]
      exact h1
    · have := putVs_le (ks := ks) (vs := vs) (k := q) (v := u)
      simp only [List.length_cons]
      omega
  | [], _ :: _, _, _, _, _, _, e, _, _, _, _ => by simp at e
  | _ :: _, [], _, _, _, _, _, e, _, _, _, _ => by simp at e
theorem pairs_rel : ∀ {vs : List V} {ds : List D} {qs : List Key} {es : List D}, Fzs K F vs ds → pairsD ds = some (qs, es) → ∃ ps us, vs = ps.map V.ref ∧ qs.length = us.length ∧ keysL qs = true ∧ Fzs K F us es ∧ Paired (fun p (kv : Key × V) => SqT K F p [kV kv.1, kv.2]) ps (qs.zip us)
  | _, _, qs, es, .nil, e => by
    simp [pairsD] at e
    obtain ⟨rfl, rfl⟩ := e
    exact ⟨[], [], rfl, rfl, rfl, .nil, .nil⟩
  | _, _, qs, es, .cons (d := d) (ds := ds) z zs, e => by
    unfold pairsD at e
    split at e
    · rename_i heq; cases heq
    · rename_i k x rest heq
      cases heq
      split at e
      · rename_i q qs' es' e1 e2
        cases e
        obtain ⟨ps, us, rfl, h2, h3, h4, h5⟩ := pairs_rel zs e2
        obtain ⟨a, ws, rfl, hi, hs⟩ := z.node
        cases hs with
        | cons z1 hs => cases hs with
          | cons z2 hs =>
            cases hs
            rename_i v1 v2
            refine ⟨a :: ps, v2 :: us, rfl, by simp [h2], by simpa [keysL] using ⟨keyL_of z1 e1, by simpa [keysL] using h3⟩, .cons z2 h4, .cons ?_ h5⟩
            rw [keyD_rel z1 e1] at hi
            exact SqT.of hi.1
      · cases e
    · cases e
theorem c1_dict : C1N K (rDict K) dDict := by
  intro F H x dx d Q ex z e new
  unfold dDict at e
  split at e
  · obtain ⟨p, e1, rfl⟩ := Option.map_eq_some_iff.mp e
    obtain ⟨a, vs, rfl, hi, hs⟩ := z.node ex
    obtain ⟨ps, us, rfl, h2, h3, h4, h5⟩ := pairs_rel (qs := p.1) (es := p.2) hs e1
    obtain ⟨vs', q1, q2, q3, q4, q5⟩ := merge_rel (ks := []) (vs := []) (ds := []) h4 h2 h3 rfl rfl .nil
    refine .inl ⟨a, ps, _, rfl, SqL.of hi.1, h5.mono fun p kv h => sqT_mono ex h, fun l hl => ?_⟩
    have e2 : mergeK [] (p.1.zip us) = (mergeD [] [] p.1 p.2).1.zip vs' := q1
    have e3 := h5.length
    have e4 := hi.2
    rw [List.length_zip] at e3
    rw [List.length_map] at e4
    rw [e2]
    exact new l (.dK _) vs' _ _ rfl rfl hl (if_pos ⟨q2, by rw [List.length_nil] at q5; omega, q3⟩) q4
  · cases e
    obtain ⟨a, vs, rfl, hi, hs⟩ := z.node ex
    exact .inr ⟨a, _, rfl, hi.2.1, fun p hp => new p _ vs _ _ rfl rfl hp (if_pos ⟨hi.1, hi.2.2⟩) hs⟩
  · cases e
end
end Y

set_option Elab.async false
set_option linter.all false
set_option maxRecDepth 100000
set_option maxHeartbeats 2000000
/-! Dict comprehensions. -/
namespace Y
open PySem L2
def dcL (g : D → En → Option En) (t : En → R Bool) (ek ev : En → R D) (vs : List Nat) : List D → En → List Key → List D → R D
  | [], ρ, ks, es => .ok (.nd (.dK ks) es) ρ
  | d :: ds, ρ, ks, es => match g d ρ with
    | none => .bad
    | some ρ1 => bnd (noX (t ρ1)) fun b ρ2 => if b = true then bnd (noX (ek ρ2)) fun k ρ3 => bnd (noX (ev ρ3)) fun x ρ4 => match keyD k with
      | some q => if ks.length < sizeLine then dcL g t ek ev vs ds (wipeE vs ρ4) (putKs ks q) (putDs ks es q x) else .bad
      | none => .bad else dcL g t ek ev vs ds (wipeE vs ρ2) ks es
structure MkD (K : PySem.W.Frag) (w : Wd) (F1 F H : Hp) (L : Addr) (σ : St) (ρ : En) (fp : List Addr) (ks : List Key) (es : List D) : Prop where
  s : StaW K w F H σ ρ fp
  ex : Same F1 F
  nf : L ∉ fp
  nF : F L = none
  kl : keysL ks = true
  at_ : ∃ vs, H L = some (.dK (ks.zip vs)) ∧ ks.length = vs.length ∧ Fzs K F vs es
section
variable {K : PySem.W.Frag} {w : Wd} {F1 F F' H H' : Hp} {fp fp' : List Addr} {σ σ' : St} {ρ ρ' : En} {L : Addr} {ks : List Key} {es : List D} {x : V} {d : D}
theorem MkD.go (m : MkD K w F1 F H L σ ρ fp ks es) (t : Tr F H fp F' H' fp') (s : StaW K w F' H' σ' ρ' fp') : MkD K w F1 F' H' L σ' ρ' fp' ks es := by
  obtain ⟨vs, h1, h0, h2⟩ := m.at_
  refine ⟨s, m.ex.trans t.ex, fun h => ?_, ?_, m.kl, vs, t.keep L _ h1 m.nf, h0, h2.mono t.ex⟩
  · rcases t.new L (.inl h) with q | q
    · exact m.nf q
    · rw [h1] at q; cases q
  · cases q : F' L with
    | none => rfl
    | some o =>
      rcases t.new L (.inr ⟨m.nF, by rw [q]; exact fun z => nomatch z⟩) with r | r
      · exact absurd r m.nf
      · rw [h1] at r; cases r
theorem MkD.app {q : Key} (m : MkD K w F1 F H L σ ρ fp ks es) (z : Fz K F x d) (hq : keyL q = true) : ∃ kvs, H L = some (.dK kvs) ∧ kvs.length = ks.length ∧ MkD K w F1 F (upd H L (.dK (putK kvs q x))) L σ ρ fp (putKs ks q) (putDs ks es q d) ∧ Tr F H (L :: fp) F (upd H L (.dK (putK kvs q x))) (L :: fp) := by
  obtain ⟨vs, h1, h0, h2⟩ := m.at_
  refine ⟨_, h1, by rw [List.length_zip]; omega, ⟨⟨same_updR m.s.ex m.nF, m.s.sl.frame (Same.refl _) fun a ha o h => ?_, m.s.nd, m.s.own, m.s.lock⟩, m.ex, m.nf, m.nF, keysL_put m.kl hq, putVs ks vs q x, ?_, putKs_len h0, fzs_putVs z h2⟩, ⟨Same.refl _, fun b o h n => ?_, fun b h => h.elim .inl fun ⟨q1, q2⟩ => absurd q1 q2⟩⟩
  · rw [upd_ne (fun (q : a = L) => m.nf (q ▸ ha))]; exact h
  · rw [upd_same, putK_zip h0]
  · rw [upd_ne (fun (q : b = L) => n (q ▸ List.mem_cons_self))]; exact h
theorem MkD.start (s : StaW K w F H σ ρ fp) (hL : H L = none) : MkD K w F F (upd H L (.dK [])) L σ ρ fp [] [] ∧ Tr F H fp F (upd H L (.dK [])) (L :: fp) := by
  obtain ⟨n1, n2⟩ := s.fresh hL
  obtain ⟨s1, t1⟩ := s.newO (k := .dK []) (vs := []) (ds := []) hL rfl rfl .nil
  refine ⟨⟨⟨same_updR s.ex n2, s.sl.frame (Same.refl _) fun a ha o h => ?_, s.nd, s.own, s.lock⟩, Same.refl _, n1, n2, rfl, [], upd_same, rfl, .nil⟩, t1⟩
  rw [upd_ne (ne_of_none h hL)]; exact h
theorem MkD.done (m : MkD K w F1 F H L σ ρ fp ks es) (hl : ks.length ≤ sizeLine) : StaW K w F H (some (.ref L) :: σ) (some (.o (.nd (.dK ks) es)) :: ρ) (L :: fp) := by
  obtain ⟨vs, h1, h0, h2⟩ := m.at_
  exact ⟨m.s.ex, .ow (k := .dK ks) ⟨h0, h1, by omega, m.kl⟩ h2 m.s.sl, List.nodup_cons.mpr ⟨m.nf, m.s.nd⟩, fun a ha => (List.mem_cons.mp ha).elim (fun e => e ▸ m.nF) (m.s.own a), m.s.lock⟩
end
section
variable {K : PySem.W.Frag} {w : Wd} {src : En → R (List D)} {g : D → En → Option En} {t : En → R Bool} {ek ev : En → R D} {vs is : List Nat} {σ : St} {H : Hp} {Q : VK}
theorem putKs_le {ks : List Key} {q : Key} (h : ks.length < sizeLine) : (putKs ks q).length ≤ sizeLine := by
  unfold putKs
  split
  · omega
  · rw [List.length_append]; exact h
theorem dc_body {ds : List D} {J : It} {F1 H1 : Hp} {ρ1 : En} {fp1 : List Addr} (his : ∀ i ∈ is, i ∈ vs) (s1 : StaW K w F1 H1 σ ρ1 fp1) (I : Itz K F1 J ds) (h1 : Pst K w F1 H1 fp1 σ (dcL g t ek ev vs ds (wipeE vs ρ1) [] []) (nO K w σ Q)) : tDc (fun _ H R => R J H) (cG K w.in1 is g) (cT K w.in1 t) (cF K w.in1 ek) (cF K w.in1 ev) vs σ H1 Q := fun L hL => by
  obtain ⟨fpw, sw, tw⟩ := StaW.wipe (vs := vs) s1
  obtain ⟨m0, t0⟩ := MkD.start sw hL
  refine ⟨fun i k H => k = ds.length - i ∧ i ≤ ds.length ∧ ∃ F ρ fp ks es, MkD K w F1 F H L (wipe σ vs) ρ fp ks es ∧ ks.length ≤ sizeLine ∧ Pst K w F H (L :: fp) σ (dcL g t ek ev vs (ds.drop i) ρ ks es) (nO K w σ Q), ⟨ds.length, by simp, Nat.zero_le _, F1, _, fpw, [], [], m0, Nat.zero_le _, Pst.tr h1 (tw.trans t0)⟩, ?_⟩
  rintro i k H ⟨rfl, hi, F, ρ, fp, ks, es, m, hz, h⟩
  by_cases hlt : i < ds.length
  · refine .inr ⟨I.go i H (m.ex.trans m.s.ex) hlt, fun H => ∃ F ρ fp ks es, MkD K w F1 F H L (wipe σ vs) ρ fp ks es ∧ ks.length ≤ sizeLine ∧ Pst K w F H (L :: fp) σ (dcL g t ek ev vs (ds.drop (i + 1)) ρ ks es) (nO K w σ Q), fun H' q => ⟨ds.length - (i + 1), by omega, rfl, hlt, q⟩, fun x H' y => ?_⟩
    obtain ⟨d, F2, ed, s2, t2, z⟩ := given I m.s m.ex hlt y
    have m2 := m.go t2 s2
    have edr : ds.drop i = d :: ds.drop (i + 1) := by
      obtain ⟨h1, h2⟩ := List.getElem?_eq_some_iff.mp ed
      rw [← h2]
      exact List.drop_eq_getElem_cons h1
    rw [edr] at h
    unfold dcL at h
    cases q : g d ρ with
    | none => simp only [q] at h; exact h.elim
    | some ρ2 =>
      simp only [q] at h
      refine ⟨F2, ρ, fp, d, ρ2, s2, z, q, fun σ3 fp3 s3 t3 o3 => ?_⟩
      have ew : wipe σ3 vs = wipe σ vs := (o3 vs his).trans (wipe_sub fun _ h => h)
      have h3 := Pst.tr h (t2.trans t3).cons
      have m3 := m2.go t3 s3
      refine ⟨ew, F2, ρ2, fp3, s3, ?_⟩
      cases q1 : t ρ2 with
      | bad => rw [q1] at h3; exact h3.elim
      | exc c x ρ => rw [q1] at h3; exact h3.elim
      | ok b ρ4 =>
        rw [q1] at h3
        intro F4 H4 fp4 t4 s4
        have m4 := m3.go t4 s4
        have h4 := Pst.tr h3 t4.cons
        cases b with
        | false =>
          refine iteF ?_
          obtain ⟨fp5, s5, t5⟩ := StaW.wipe (vs := vs) s4
          rw [ew] at s5
          exact ⟨F4, _, fp5, ks, es, m4.go t5 s5, hz, by simpa [noX_ok, bnd_ok] using Pst.tr h4 t5.cons⟩
        | true =>
          refine iteT ⟨F4, ρ4, fp4, s4, ?_⟩
          have h4' : Pst K w F4 H4 (L :: fp4) σ (bnd (noX (ek ρ4)) fun k ρ3 => bnd (noX (ev ρ3)) fun x ρ4 => match keyD k with
            | some q => if ks.length < sizeLine then dcL g t ek ev vs (ds.drop (i + 1)) (wipeE vs ρ4) (putKs ks q) (putDs ks es q x) else .bad
            | none => .bad) (nO K w σ Q) := by simpa [noX_ok, bnd_ok] using h4
          cases q2 : ek ρ4 with
          | bad => rw [q2] at h4'; exact h4'.elim
          | exc c x ρ => rw [q2] at h4'; exact h4'.elim
          | ok dk ρ5 =>
            rw [q2] at h4'
            intro F5 H5 fp5 t5 vk s5 zk
            have m5 := m4.go t5 s5
            have h5 := Pst.tr h4' t5.cons
            refine ⟨F5, ρ5, fp5, s5, ?_⟩
            have h5' : Pst K w F5 H5 (L :: fp5) σ (bnd (noX (ev ρ5)) fun x ρ4 => match keyD dk with
              | some q => if ks.length < sizeLine then dcL g t ek ev vs (ds.drop (i + 1)) (wipeE vs ρ4) (putKs ks q) (putDs ks es q x) else .bad
              | none => .bad) (nO K w σ Q) := by simpa [noX_ok, bnd_ok] using h5
            cases q3 : ev ρ5 with
            | bad => rw [q3] at h5'; exact h5'.elim
            | exc c x ρ => rw [q3] at h5'; exact h5'.elim
            | ok dx ρ6 =>
              rw [q3] at h5'
              intro F6 H6 fp6 t6 vx s6 zx
              have m6 := m5.go t6 s6
              have h6 := Pst.tr h5' t6.cons
              obtain ⟨fp7, s7, t7⟩ := StaW.wipe (vs := vs) s6
              rw [ew] at s7
              have m7 := m6.go t7 s7
              have h7 := Pst.tr h6 t7.cons
              cases q4 : keyD dk with
              | none => exact (show False by simpa [bnd, noX, q4, Pst] using h7).elim
              | some q =>
                by_cases hl : ks.length < sizeLine
                · obtain ⟨kvs, e1, e2, m8, t8⟩ := m7.app (q := q) zx (keyL_of zk q4)
                  refine ⟨kvs, q, keyD_rel zk q4, e1, by rw [e2]; exact hl, F6, _, fp7, _, _, m8, putKs_le hl, ?_⟩
                  have h8 := Pst.tr h7 t8
                  simpa [bnd, noX, q4, hl] using h8
                · exact (show False by simpa [bnd, noX, q4, hl, Pst] using h7).elim
  · have e : i = ds.length := by omega
    subst e
    rw [List.drop_length] at h
    have mu : MkD K w F1 F H L σ ρ fp ks es := ⟨StaW.unwipe m.s, m.ex, m.nf, m.nF, m.kl, m.at_⟩
    exact .inl ⟨I.stop H (m.ex.trans m.s.ex), h F H (L :: fp) .refl (.ref L) (mu.done hz)⟩
theorem dcL_quiet : ∀ (ds : List D) (ρ : En) (ks : List Key) (es : List D), quiet (dcL g t ek ev vs ds ρ ks es)
  | [], ρ, ks, es => trivial
  | d :: ds, ρ, ks, es => by
    unfold dcL
    cases g d ρ with
    | none => trivial
    | some ρ1 =>
      dsimp only
      cases h : t ρ1 with
      | bad => trivial
      | exc c x ρ => trivial
      | ok b ρ2 =>
        cases b with
        | false => simpa [noX, bnd] using dcL_quiet ds _ ks es
        | true =>
          cases h2 : ek ρ2 with
          | bad => simp [noX, bnd, h2, quiet]
          | exc c x ρ => simp [noX, bnd, h2, quiet]
          | ok k ρ3 =>
            cases h3 : ev ρ3 with
            | bad => simp [noX, bnd, h2, h3, quiet]
            | exc c x ρ => simp [noX, bnd, h2, h3, quiet]
            | ok x ρ4 =>
              simp only [noX, bnd, h2, h3, if_true]
              split
              · split
                · exact dcL_quiet ds _ _ _
                · trivial
              · trivial
end
section
variable {X : Cx} {w : Wd} {tg iter kx vx : Expr} {ifs : List Expr} {scope : Scope} {is : List Nat} {g : D → En → Option En} {t : En → R Bool} {ek ev : En → R D} {src : List Key → List D → List D} {srcL : En → R (List D)} {pos : Pos}
def sDc (src : En → R (List D)) (g : D → En → Option En) (t : En → R Bool) (ek ev : En → R D) (vs : List Nat) : En → R D := fun ρ => bnd (src ρ) fun ds ρ1 => dcL g t ek ev vs ds (wipeE vs ρ1) [] []
def sDcD (i : Nat) (src : List Key → List D → List D) (g : D → En → Option En) (t : En → R Bool) (ek ev : En → R D) (vs : List Nat) : En → R D := sDct i fun ks ds ρ => dcL g t ek ev vs (src ks ds) (wipeE vs ρ) [] []
theorem d_dc (own : List (Str × Nat)) (hc : X.calm = true) (hN : X.N.Nodup) (hi : PI X tg iter (cI X.K w srcL)) (ok : BlkOk X.N X.env.scope scope own) (his : ∀ i ∈ is, i ∈ own.map (·.2))
    (hg : ∀ (s : Shared) (H : Hp) (C : Addr) (cl : List (Str × Addr)) (fp : List Addr), PG (X.blk s H scope (compEnvC scope cl C X.env) fp) tg (cG X.K w.in1 is g)) (ht : ∀ (s : Shared) (H : Hp) (C : Addr) (cl : List (Str × Addr)) (fp : List Addr), PTs (X.blk s H scope (compEnvC scope cl C X.env) fp) ifs (cT X.K w.in1 t))
    (hk : ∀ (s : Shared) (H : Hp) (C : Addr) (cl : List (Str × Addr)) (fp : List Addr), PE (X.blk s H scope (compEnvC scope cl C X.env) fp) kx (cF X.K w.in1 ek))
    (he : ∀ (s : Shared) (H : Hp) (C : Addr) (cl : List (Str × Addr)) (fp : List Addr), PE (X.blk s H scope (compEnvC scope cl C X.env) fp) vx (cF X.K w.in1 ev)) (hs : ∀ x, foldedSetIterable iter X.env x = pure x := by intro _; rfl) :
    PE X (.DictComp kx vx [⟨tg, iter, ifs, 0⟩] scope pos) (cO X.K w (sDc srcL g t ek ev (own.map (·.2)))) :=
  peI (pe_dc hc hN hi ok hg ht hk he hs) fun σ H Q h => by
    obtain ⟨F, ρ, fp, s, h⟩ := h
    exact ⟨F, ρ, fp, s, h.bnd fun ds ρ1 F1 H1 fp1 t1 h1 => fun J s1 I => dc_body his s1 I h1⟩
theorem d_dcD (i : Nat) (own : List (Str × Nat)) (hc : X.calm = true) (hN : X.N.Nodup) (hi : WkD X tg iter i src) (ok : BlkOk X.N X.env.scope scope own) (his : ∀ i ∈ is, i ∈ own.map (·.2))
    (hg : ∀ (s : Shared) (H : Hp) (C : Addr) (cl : List (Str × Addr)) (fp : List Addr), PG (X.blk s H scope (compEnvC scope cl C X.env) fp) tg (cG X.K w.in1 is g)) (ht : ∀ (s : Shared) (H : Hp) (C : Addr) (cl : List (Str × Addr)) (fp : List Addr), PTs (X.blk s H scope (compEnvC scope cl C X.env) fp) ifs (cT X.K w.in1 t))
    (hk : ∀ (s : Shared) (H : Hp) (C : Addr) (cl : List (Str × Addr)) (fp : List Addr), PE (X.blk s H scope (compEnvC scope cl C X.env) fp) kx (cF X.K w.in1 ek))
    (he : ∀ (s : Shared) (H : Hp) (C : Addr) (cl : List (Str × Addr)) (fp : List Addr), PE (X.blk s H scope (compEnvC scope cl C X.env) fp) vx (cF X.K w.in1 ev)) (hs : ∀ x, foldedSetIterable iter X.env x = pure x := by intro _; rfl) :
    PE X (.DictComp kx vx [⟨tg, iter, ifs, 0⟩] scope pos) (cO X.K w (sDcD i src g t ek ev (own.map (·.2)))) := by
  obtain ⟨wi, pw, run⟩ := hi
  have P := pe_dc (pos := pos) hc hN pw ok hg ht hk he hs
  refine peI (pe_or2 (pe_lock P) P) fun σ H Q h => ?_
  obtain ⟨F, ρ, fp, s, h⟩ := h
  refine dct_lock s h (fun ks ds ρ => dcL_quiet _ _ _ _) fun F H ρ fp a o ks vs ds Q s hl hlen hk hz h => ?_
  exact run σ F H a o ks vs ds _ hl hlen hk s.ex hz fun J I => dc_body his s I h
end
end Y

set_option Elab.async false
set_option linter.all false
set_option maxRecDepth 100000
set_option maxHeartbeats 2000000
/-! A name that changes, read on the left of ==, !=, by isinstance; room; what calls itself. -/
namespace Y
open PySem PySem.Spec L2
theorem r64 {k : Nat} {A : Around} (r : Room k A) : A.units + 64 < cLine := by have := r.un; omega
theorem r65 {k : Nat} {A : Around} (r : Room k A) : A.units + 65 < cLine := by have := r.un; omega
theorem r69 {k : Nat} {A : Around} (r : Room k A) : A.units + 69 < cLine := by have := r.un; omega
theorem r1 {k : Nat} {A : Around} (r : Room k A) : A.units + 1 < cLine := by have := r.un; omega
def RTB (K : PySem.W.Frag) (r : R2) (g : D → D → Option Bool) : Prop := ∀ F H x y dx dy b Q, Same F H → Bz K F H x dx → Bz K F H y dy → g dx dy = some b → Q (.bl b) H → r x y H Q
section
variable {K : PySem.W.Frag}
theorem rtb_eq : RTB K (rEqD K) dEq := by
  intro F H x y dx dy b Q ex zx zy e q
  unfold dEq at e
  split at e
  · rename_i c
    cases e
    exact ⟨_, _, zx.dp ex (okD_of c.1), zy.dp ex (okD_of c.2), shaped_ok c.1, shaped_ok c.2, q⟩
  · cases e
theorem rtb_ne : RTB K (rNeD K) dNe := by
  intro F H x y dx dy b Q ex zx zy e q
  unfold dNe at e
  split at e
  · rename_i c
    cases e
    exact ⟨_, _, zx.dp ex (okD_of c.1), zy.dp ex (okD_of c.2), shaped_ok c.1, shaped_ok c.2, q⟩
  · cases e
end
section
variable {X : Cx} {w : Wd} {b : Expr} {fb : En → R D} {pos p : Pos} {x : Str} {r : R2} {g : D → D → Option Bool} {op : CmpOp}
/-- x op e, x a name that changes -/
def sCmpV {α : Type} (i : Nat) (g : D → D → Option α) (fb : En → R D) : En → R α := fun ρ => bnd (sBor i ρ) fun _ _ => bnd (fb ρ) fun y ρ1 => bnd (sBor i ρ1) fun x ρ2 => lift (g x y) ρ2
theorem twoV {K : PySem.W.Frag} {r : R2} {α : Type} {g : D → D → Option α} {σ : St} {H : Hp} {Q : VK} {N : α → En → Hp → Hp → List Addr → Prop} (i : Nat) (h : ∃ F ρ fp, StaW K w F H σ ρ fp ∧ Pst K w F H fp σ (sCmpV i g fb ρ) N)
    (k : ∀ F H x y dx dy d ρ fp, StaW K w F H σ ρ fp → Bz K F H x dx → Fz K F y dy → g dx dy = some d → (∀ F' H' fp', Tr F H fp F' H' fp' → N d ρ F' H' fp') → r x y H Q) : tOp r (tVar i) (cF K w fb) σ H Q := by
  obtain ⟨F, ρ, fp, s, h⟩ := h
  unfold sCmpV at h
  obtain ⟨d0, v, _, ev, _, h⟩ := sBor_ok s h
  refine ⟨v, ev, F, ρ, fp, s, h.bnd fun dy ρ1 F1 H1 fp1 t1 h1 => fun y s1 zy => ?_⟩
  obtain ⟨d, v', _, e1, z, h2⟩ := sBor_ok s1 h1
  rw [ev] at e1
  cases e1
  obtain ⟨d', e, n⟩ := h2.lift
  exact k F1 H1 v y d dy d' ρ1 fp1 s1 z zy e n
theorem d_cmpV (i : Nat) (ho : OpR X (compareOp op) r) (hr : RTB X.K r g) (hb : PE X b (cF X.K w fb)) (hm : behindInMarks op b = false) (hN : X.N[i]? = some x := by rfl) (hv : Vis X.env.scope x := by first | exact Or.inl rfl | exact Or.inr (Or.inl rfl) | exact Or.inr (Or.inr rfl)) (hd : (x == ("__debug__" : Str)) = false := by decide) (hcd : (x == ("__classdict__" : Str)) = false := by decide) :
    PE X (.Compare (.Name x p) [op] [b] pos) (cF X.K w (sCmpV i (fun x y => (g x y).map D.bl) fb)) :=
  peI (pe_cmpR ho (pe_var hN hv hd hcd) hb hm) fun σ H Q h => twoV (N := nF X.K w σ Q) i h fun F H x y dx dy d ρ fp s zx zy e n => by
    obtain ⟨b, e1, rfl⟩ := Option.map_eq_some_iff.mp e
    exact hr F H x y dx dy b Q s.ex zx (.fz zy) e1 (n F H fp .refl _ s (.bl b))
theorem t_cmpV (i : Nat) (ho : OpR X (compareOp op) r) (hr : RTB X.K r g) (hb : PE X b (cF X.K w fb)) (hm : behindInMarks op b = false) (hN : X.N[i]? = some x := by rfl) (hv : Vis X.env.scope x := by first | exact Or.inl rfl | exact Or.inr (Or.inl rfl) | exact Or.inr (Or.inr rfl)) (hd : (x == ("__debug__" : Str)) = false := by decide) (hcd : (x == ("__classdict__" : Str)) = false := by decide) :
    PT X (.Compare (.Name x p) [op] [b] pos) (cT X.K w (sCmpV i g fb)) :=
  ptI (pt_cmpR ho (pe_var hN hv hd hcd) hb hm) fun σ H Q h => twoV (N := nT X.K w σ Q) i h fun F H x y dx dy b ρ fp s zx zy e n => hr F H x y dx dy b _ s.ex zx (.fz zy) e ⟨b, rfl, n F H fp .refl s⟩
/-- isinstance(x, T), x a name that changes -/
def sIsiV (i : Nat) (T : String) : En → R D := fun ρ => bnd (sBor i ρ) fun d ρ1 => lift ((isTy d (.ty T)).map D.bl) ρ1
theorem d_isiV (i : Nat) {y z : Str} {T : String} {p1 p2 p3 : Pos} (hg : Gl X y) (hm : X.mg y = none) (hg2 : Gl X z) (hm2 : X.mg z = none) (hv2 : bootBuiltins z = some (.type T)) (hbv : bootBuiltins y = some (.builtin "isinstance")) (hN : X.N[i]? = some x := by rfl) (hv : Vis X.env.scope x := by first | exact Or.inl rfl | exact Or.inr (Or.inl rfl) | exact Or.inr (Or.inr rfl)) (hd : (x == ("__debug__" : Str)) = false := by decide) (hcd : (x == ("__classdict__" : Str)) = false := by decide)
    (hn : y ≠ "__name__" := by decide) (hn2 : z ≠ "__name__" := by decide) (hd1 : (y == ("__debug__" : Str)) = false := by decide) (hd2 : (z == ("__debug__" : Str)) = false := by decide)
    (hs : starEach [.Name x p1, .Name z p2] X.env = (false, eval (.Name x p1) X.env) :: starEach [.Name z p2] X.env := by rfl) (hs2 : starEach [.Name z p2] X.env = (false, eval (.Name z p2) X.env) :: starEach [] X.env := by rfl) (hpl : (backTo pos (starEach [.Name z p2] X.env)).any (·.1) = false := by rfl) :
    PE X (.Call (.Name y p3) [.Name x p1, .Name z p2] [] pos) (cF X.K w (sIsiV i T)) :=
  peI (pe_callB cr_isi hg hm hbv (pa_cons (pe_var hN hv hd hcd) (pa_cons (pe_bltn (v := .ty T) hg2 hm2 hv2 rfl hn2 hd2) pa_nil hs2) hs) hn hd1 hs hpl) fun σ H Q h => by
    obtain ⟨F, ρ, fp, s, h⟩ := h
    unfold sIsiV at h
    obtain ⟨d, v, _, ev, z, h⟩ := sBor_ok s h
    obtain ⟨r, e, n⟩ := h.lift
    obtain ⟨b, e1, rfl⟩ := Option.map_eq_some_iff.mp e
    unfold isTy at e1
    split at e1
    · rename_i t T' ht hT
      cases hT
      exact ⟨v, ev, .inl ⟨_, _, _, _, b, rfl, .ty T, z.tyx s.ex ht, kit_ty (isA_kit ht e1), n F H fp .refl _ s (.bl _)⟩⟩
    · cases e1
end
/-- +, of lists too -/
def dPlus : D → D → Option D
  | .nd .lst a, .nd .lst b => dCat (.nd .lst a) (.nd .lst b)
  | a, b => dAdd a b
def rPlusA (K : PySem.W.Frag) : R2 := fun x y H Q => rPlus K x y H Q ∨ rCat x y H Q
theorem op_plusA {X : Cx} : OpR X (binaryOp .Add) (rPlusA X.K) := op_plus.or op_cat
theorem rb_plusA {K : PySem.W.Frag} : RB K (rPlusA K) dPlus := by
  intro F H x y dx dy d Q ex zx zy e old new
  unfold dPlus at e
  split at e
  · exact .inr (rn_cat F H x y _ _ d Q ex zx zy e fun p k vs ds ho h1 _ h2 h3 h4 => new p k vs ds ho h1 h2 h3 h4)
  · exact .inl (rb_plus F H x y _ _ d Q ex zx zy e old new)
/-- a def of which nothing is asked -/
theorem mkDef0 {P : Program} {w : World} {K : PySem.W.Frag} {mg : Str → Option Value} {base : Heap} {x : Str} {st : Stmt} {f : Addr} {fd : FuncData} {N ps : List Str} {k np n : Nat} {cls : Str → Value} {io lk0 : Bool} {fs : List D → FO} (F : Fun K x x st f fd) (hm : mg x = some (.ref f)) (b : Binds K fd ps []) (S : FnScope N ps (defScope st)) (hf : ∀ ds, fs ds = .bad) (hp : ps.length = np := by rfl) : Def P w K mg base CX0 (k + 1) x cls io lk0 np fs := by
  refine ⟨⟨f, fd, ps, F.ok S (fun vs H Q E h => h.1.trans hp.symm) (fun cdv A outer s H vs Q E hr h => ?_), hm, F.kp, b⟩, fun ds _ => hf ds⟩
  obtain ⟨hl, G, fp, ds, lk, β, hlk, hio, st', h⟩ := h
  rw [hf] at h
  exact h.elim
end Y

set_option Elab.async false
set_option linter.all false
set_option maxRecDepth 100000
set_option maxHeartbeats 2000000
/-! The law's own head. -/
namespace Y
open PySem PySem.Spec PyProof.Rows L2
section
variable {P : Program} {w : World} {K : PySem.W.Frag} {mg : Str → Option Value} {base : Heap}
theorem mkFn {x : Str} {st : Stmt} {f : Addr} {fd : FuncData} {N ps : List Str} {k np n : Nat} {cls : Str → Value} {io lk0 : Bool} {m : En → R Fl} (F : Fun K x x st f fd) (S : FnScope N ps (defScope st)) (hn : N.length = n := by rfl) (hp : ps.length = np := by rfl)
    (body : ∀ (cdv : Value) (A : Around) (outer : List Env) (s : Shared) (H : Hp) (E : XK) (W : Wd), Room k (A.deeper (envOfC x (defScope st) s.heap.objs.size f cdv)) → (W.lk = true → lk0 = true) → W.cls = cls → PSs (cxOf CX0 P w K mg base N x (defScope st) f cdv A outer s H E).nox (defBody st) (cS K W m)) : FnOk P w K mg base CX0 (k + 1) f fd ps (spF K cls io lk0 np (runF io np n m)) := by
  refine F.ok S (fun vs H Q E h => h.1.trans hp.symm) (fun cdv A outer s H vs Q E hr h => ?_)
  obtain ⟨hl, G, fp, ds, lk, β, hlk, hio, st', h⟩ := h
  refine ⟨_, body cdv A outer s H E ⟨β, lk, cls, fun c dd _ H => E c dd H⟩ hr hlk rfl, ?_⟩
  subst hn
  exact body_ok (w := ⟨β, lk, cls, fun c dd _ H => E c dd H⟩) rfl st' hl h
end
theorem fz_ints {K : PySem.W.Frag} {F : Hp} : ∀ ns : List Int, Fzs K F (ns.map V.int) (ns.map D.int)
  | [] => .nil
  | n :: ns => .cons (.int n) (fz_ints ns)
def noCls : Str → Value := fun _ => .none
theorem end_law {K : PySem.W.Frag} {fs : List D → FO} {H : Hp} {a : Addr} {ns : List Int} (hl : ns.length ≤ 63) (hS : SqL K H a (ns.map V.int)) (h : fs [.nd .scr (ns.map D.int)] = .val false (.bl true) none) : spF K noCls false true 1 fs [.ref a] H (fun v _ => v = .bl true) (fun _ _ _ => False) := by
  have z : Fz K H (.ref a) (.nd .scr (ns.map D.int)) := .nd ⟨hS, by rw [List.length_map]; exact Nat.le_trans hl (by decide)⟩ (fz_ints ns)
  refine ⟨rfl, H, [], [.nd .scr (ns.map D.int)], true, .non, fun _ => rfl, (fun q => nomatch q), ⟨Same.refl _, .fr z .nil, List.nodup_nil, fun a ha => (by cases ha), fun _ => trivial⟩, ?_⟩
  rw [h]
  intro v F' H' fp' t s
  cases hs : s.sl with
  | fr z tl => exact z.bl_inv
theorem walk {fs : List D → FO} {k : Nat} {l : PySem.W.OpenLaw} {q : Program} {loose : List Str} {XP : (Str → Option Value) → Heap → Prop} {YP : World → Heap → Prop} {d : DefRec} {K : Params → PySem.W.Frag} (hk : Room k callerA) (hn : l.most = some 63) (hdf : d.params.defaults = [])
    (hfs : ∀ ns : List Int, ns.length ≤ 63 → fs [.nd .scr (ns.map D.int)] = .val false (.bl true) none)
    (hY : ∀ (w : World) (h : Heap), YP w h → (K w.params).In h)
    (F : ∀ (w : World) (mg : Str → Option Value) (fa : Addr) (h : Heap), (K w.params).In h → h.Ns mainGlobals mg → mg d.name = some (.ref fa) →
      ∃ fd : FuncData, (∀ (s : Shared) (u : Value), BindsTo s fd ⟨[u], []⟩ [("script", u)]) ∧ ∀ base : Heap, (K w.params).In base → base.Ns mainGlobals mg → FnOk l.prog w (K w.params) mg base CX0 k fa fd ["script"] (spF (K w.params) noCls false true 1 fs)) :
    PySem.W.WalkO q loose XP YP l.row.toRowW d [] (fun f vs => PySem.call f vs) :=
  L2.walk_ofK (n := 63) (k := k) (x := "script") (CX := CX0) (sp := fun K => spF K noCls false true 1 fs) hn (by decide) hdf hk hY F (fun K H a ns hl _ hS => end_law hl hS (hfs ns hl)) fun _ _ _ _ z => z
end Y

set_option maxHeartbeats 4000000
namespace Y
open PySem PySem.Spec PyProof.Rows L2
def m_is_from : En → R Fl := (sRet (sAndV (sN dIsi (sCons (sVar 0) (sCons (sC (.ty "int")) sNil))) (sAndV (sNotV (sN dIsi (sCons (sVar 0) (sCons (sC (.ty "bool")) sNil)))) (sChain dLe dLe D.bl (sVar 1) (sVar 0) (sVar 2)))))
def fs_is_from : List D → FO := runF false 3 3 m_is_from
def m_is_name : En → R Fl := (sSeq (sIfS (sOrT (sNotT (sTru (sN dIsi (sCons (sVar 0) (sCons (sC (.ty "str")) sNil))))) (sNotT (sChain dLe dLe id (sC (.int 1)) (s1 dLen' (sBor 0)) (sC (.int 8)))))
  (sRet (sC (.bl false)))
  sNx)
  (sRet (s1 dAll (sLc (sIt (sVar 0)) (hName 1) sYes (sCmp dIn (sVar 1) (sC (.str "abcdefghijklmnopqrstuvwxyz"))) [1]))))
def fs_is_name : List D → FO := runF false 1 2 m_is_name
def m_rises : En → R Fl := (sRet (s1 dAll (sLc (sRg zp2 (sCons (sVar 0) (sCons (sSlc (sVar 0) (sPt (sC (.int 1))) sNoPt) sNil))) (hTup 2 (hCons (hName 1) (hCons (hName 2) hNil))) sYes (sCmp dLt (sVar 1) (sBor 2)) [1, 2])))
def fs_rises : List D → FO := runF false 1 3 m_rises
def m_are_rows : En → R Fl := (sSeq (sIfS (sOrT (sNotT (sTru (sN dIsi (sCons (sVar 0) (sCons (sC (.ty "tuple")) sNil))))) (sBin dGt (s1 dLen' (sBor 0)) (sBor 1)))
  (sRet (sC (.bl false)))
  sNx)
  (sRet (s1 dAll (sLc (sIt (sVar 0)) (hName 3) sYes (sAndV (sN dIsi (sCons (sVar 3) (sCons (sC (.ty "tuple")) sNil))) (sCmp dEq (s1 dLen' (sBor 3)) (sBor 2))) [3]))))
def fs_are_rows : List D → FO := runF false 3 4 m_are_rows
def m_is_course : En → R Fl := (sSeq (sIfS (sOrT (sNotT (sTru (sCall fs_is_name (sCons (sBin dIx (sVar 0) (sC (.int 0))) sNil)))) (sOrT (sNotT (sTru (sCall fs_is_from (sCons (sBin dIx (sVar 0) (sC (.int 1))) (sCons (sC (.int 1)) (sCons (sC (.int 9)) sNil)))))) (sNotT (sTru (sN dIsi (sCons (sBin dIx (sVar 0) (sC (.int 2))) (sCons (sC (.ty "tuple")) sNil)))))))
  (sRet (sC (.bl false)))
  sNx)
  (sRet (sAndV (s1 dAll (sLc (sIt (sBin dIx (sVar 0) (sC (.int 2)))) (hName 1) sYes (sCall fs_is_name (sCons (sVar 1) sNil)) [1])) (sCall fs_rises (sCons (sBin dIx (sVar 0) (sC (.int 2))) sNil)))))
def fs_is_course : List D → FO := runF false 1 2 m_is_course
def m_needs_of : En → R Fl := (sRetO (sDc (sIt (sVar 0)) (hTup 3 (hCons (hName 1) (hCons (hName 2) (hCons (hName 3) hNil)))) sYes (sVar 1) (sVar 3) [1, 2, 3]))
def fs_needs_of : List D → FO := runF false 1 4 m_needs_of
def m_all_ahead : En → R Fl := (sSeq (sPar2 2 3 (pO (sC (.nd (.dK []) [])) (pO (s1 dList (sBin dIx (sVar 0) (sVar 1))) pNil)))
  (sSeq (whL (sTru (sBor 3))
  (sSeq (sSet 4 (sMeth 3 gPop sNil))
  (sIfS (sBin dNotIn (sVar 4) (sBor 2))
  (sSeq (sPut 2 gSetD (sVar 4) (sC (.bl true)))
  (sAugL 3 (s1 dList (sBin dIx (sVar 0) (sVar 4)))))
  sNx)) 1000)
  (sRetO (s1 dSorted (s1 dList (sBor 2))))))
def fs_all_ahead : List D → FO := runF false 2 5 m_all_ahead
def m_are_courses : En → R Fl := (sSeq (sIfS (sOrT (sNotT (sTru (sCall fs_are_rows (sCons (sVar 0) (sCons (sC (.int 10)) (sCons (sC (.int 3)) sNil)))))) (sNotT (sTru (s1 dAll (sLc (sIt (sVar 0)) (hName 3) sYes (sCall fs_is_course (sCons (sVar 3) sNil)) [3])))))
  (sRet (sC (.bl false)))
  sNx)
  (sSeq (sSet 1 (sCall fs_needs_of (sCons (sVar 0) sNil)))
  (sSeq (sIfS (sOrT (sNotT (sTru (sCall fs_rises (sCons (sLc (sIt (sVar 0)) (hName 3) sYes (sBin dIx (sVar 3) (sC (.int 0))) [3]) sNil)))) (sNotT (sTru (s1 dAll (sLc2D 1 vaD (hName 4) sYes (sIt (sVar 4)) (hName 3) sYes (sCmp dIn (sVar 3) (sBor 1)) [4, 3] [3])))))
  (sRet (sC (.bl false)))
  sNx)
  (sRet (s1 dAll (sLcD 1 kyD (hName 2) sYes (sCmp dNotIn (sVar 2) (sCall fs_all_ahead (sCons (sVar 1) (sCons (sVar 2) sNil)))) [2]))))))
def fs_are_courses : List D → FO := runF false 1 5 m_are_courses
def m__law_bag : En → R Fl := (sSeq (sSet 2 (sC (.int 0)))
  (sSeq (sIfS (sBin dLt (sVar 1) (s1 dLen' (sBor 0)))
  (sSet 2 (sBin dMod (sBin dIx (sVar 0) (sVar 1)) (sBin dPow (sC (.int 10)) (sC (.int 60)))))
  sNx)
  (sSeq (sSet 3 (sBin dPlus (sC (.int 1)) (sBin dMod (sBin dPlus (sBin dPlus (sBin dPlus (sBin dMul (sBin dMod (sVar 2) (sC (.int 2147483629))) (sC (.int 16807))) (sBin dMul (sBin dMul (sC (.int 40009)) (sBor 1)) (sBor 1))) (sBin dMul (sC (.int 7919)) (sBor 1))) (sC (.int 1009))) (sC (.int 2147483645)))))
  (sSeq (sIfS (sBin dLt (sVar 2) (sBin dPow (sC (.int 10)) (sC (.int 18))))
  (sRetO (sMk .lst (sCons (sC (.int 0)) (sCons (sVar 3) sNil))))
  sNx)
  (sRetO (sMk .lst (sCons (sVar 2) (sCons (sVar 3) sNil))))))))
def fs__law_bag : List D → FO := runF false 2 4 m__law_bag
def m__law_take : En → R Fl := (sSeq (sIfS (sBin dGt (sIxV 0 (sC (.int 0))) (sC (.int 0)))
  (sSeq (sSet 2 (sBin dMod (sIxV 0 (sC (.int 0))) (sBor 1)))
  (sSeq (sPut 0 gSetL (sC (.int 0)) (sBin dDiv (sIxV 0 (sC (.int 0))) (sBor 1)))
  (sRet (sVar 2))))
  sNx)
  (sSeq (sPut 0 gSetL (sC (.int 1)) (sBin dMod (sBin dMul (sIxV 0 (sC (.int 1))) (sC (.int 48271))) (sC (.int 2147483647))))
  (sRet (sBin dMod (sBin dDiv (sBin dMod (sBin dMul (sBin dDiv (sIxV 0 (sC (.int 1))) (sC (.int 13))) (sBin dPlus (sBin dMod (sIxV 0 (sC (.int 1))) (sC (.int 32749))) (sC (.int 17)))) (sC (.int 2147483629))) (sC (.int 32))) (sBor 1)))))
def fs__law_take : List D → FO := runF true 2 3 m__law_take
def m__law_of : En → R Fl := (sRet (sBin dIx (sVar 1) (sCallI 0 fs__law_take (sCons (s1 dLen' (sBor 1)) sNil))))
def fs__law_of : List D → FO := runF true 2 2 m__law_of
def m__law_same : En → R Fl := (sRet (sAndV (sN dIsi (sCons (sVar 0) (sCons (sC (.ty "bool")) sNil))) (sCmp dEq (sVar 0) (sBor 1))))
def fs__law_same : List D → FO := runF false 2 2 m__law_same
def m__law_from : En → R Fl := (sRet (sAndV (sN dIsi (sCons (sVar 0) (sCons (sC (.ty "int")) sNil))) (sAndV (sNotV (sN dIsi (sCons (sVar 0) (sCons (sC (.ty "bool")) sNil)))) (sChain dLe dLe D.bl (sVar 1) (sVar 0) (sVar 2)))))
def fs__law_from : List D → FO := runF false 3 3 m__law_from
def m__law_is_name : En → R Fl := (sSeq (sIfS (sOrT (sNotT (sTru (sN dIsi (sCons (sVar 0) (sCons (sC (.ty "str")) sNil))))) (sNotT (sChain dLe dLe id (sC (.int 1)) (s1 dLen' (sBor 0)) (sC (.int 8)))))
  (sRet (sC (.bl false)))
  sNx)
  (sRet (sCmp dEq (sLc (sIt (sVar 0)) (hName 1) (sBin dNotIn (sVar 1) (sC (.str "abcdefghijklmnopqrstuvwxyz"))) (sVar 1) [1]) (sMk .lst sNil))))
def fs__law_is_name : List D → FO := runF false 1 2 m__law_is_name
def m__law_rising : En → R Fl := (sRet (sCmp dEq (s1 dList (sBor 0)) (s1 dSortSet (sBor 0))))
def fs__law_rising : List D → FO := runF false 1 1 m__law_rising
def m__law_are_rows : En → R Fl := (sSeq (sIfS (sOrT (sNotT (sTru (sN dIsi (sCons (sVar 0) (sCons (sC (.ty "tuple")) sNil))))) (sBin dGt (s1 dLen' (sBor 0)) (sBor 1)))
  (sRet (sC (.bl false)))
  sNx)
  (sRet (sCmp dEq (sLc (sIt (sVar 0)) (hName 3) (sOrT (sNotT (sTru (sN dIsi (sCons (sVar 3) (sCons (sC (.ty "tuple")) sNil))))) (sBin dNe (s1 dLen' (sBor 3)) (sBor 2))) (sVar 3) [3]) (sMk .lst sNil))))
def fs__law_are_rows : List D → FO := runF false 3 4 m__law_are_rows
def m__law_courses : En → R Fl := (sSeq (sSet 2 (sSlc (sMk .lst (sCons (sC (.str "art")) (sCons (sC (.str "bio")) (sCons (sC (.str "chem")) (sCons (sC (.str "dutch")) (sCons (sC (.str "eng")) (sCons (sC (.str "fin")) (sCons (sC (.str "geo")) (sCons (sC (.str "hist")) (sCons (sC (.str "ital")) (sCons (sC (.str "jazz")) sNil))))))))))) sNoPt (sPt (sCallI 0 fs__law_take (sCons (sBin dPlus (sVar 1) (sC (.int 1))) sNil)))))
  (sSeq (sPar2 5 6 (pO (sMk .lst sNil) (pO (sMk .lst sNil) pNil)))
  (sSeq (sFor (sIt (sVar 2)) (hName 3)
  (sDrop (sMeth 5 gInsert (sCons (sCallI 0 fs__law_take (sCons (sBin dPlus (s1 dLen' (sBor 5)) (sC (.int 1))) sNil)) (sCons (sVar 3) sNil)))))
  (sSeq (sFor (sRg rg1 (sCons (s1 dLen' (sBor 5)) sNil)) (hName 4)
  (sSeq (sSet 7 (sLc (sIt (sSlcV 5 sNoPt (sPt (sVar 4)))) (hName 3) (sBin dEq (sCallI 0 fs__law_take (sCons (sC (.int 4)) sNil)) (sC (.int 0))) (sVar 3) [3]))
  (sDrop (sMeth 6 gAppend (sCons (sMk .tup (sCons (sIxV 5 (sVar 4)) (sCons (sCallI 0 fs__law_of (sCons (sMk .lst (sCons (sC (.int 1)) (sCons (sC (.int 2)) (sCons (sC (.int 3)) (sCons (sC (.int 5)) (sCons (sC (.int 9)) sNil)))))) sNil)) (sCons (s1 dTuple (s1 dSorted (sBor 7))) sNil)))) sNil)))))
  (sRet (s1 dTuple (s1 dSorted (sBor 6))))))))
def fs__law_courses : List D → FO := runF true 2 8 m__law_courses
def m__law_needed : En → R Fl := (sSeq (sSet 2 (s1 dDict (sLc (sIt (sVar 0)) (hName 6) sYes (sMk .tup (sCons (sBin dIx (sVar 6) (sC (.int 0))) (sCons (sBin dIx (sVar 6) (sC (.int 2))) sNil))) [6])))
  (sSeq (sSet 3 (s1 dSorted (sBin dIx (sVar 2) (sVar 1))))
  (sSeq (sFor (sRg rg1 (sCons (sC (.int 10)) sNil)) (hName 4)
  (sSeq (sSet 5 (s1 dList (sBor 3)))
  (sSeq (sFor (sIt (sVar 3)) (hName 6)
  (sSet 5 (sBin dPlus (sVar 5) (s1 dList (sBin dIx (sVar 2) (sVar 6))))))
  (sSet 3 (s1 dSortSet (sBor 5))))))
  (sRet (sVar 3)))))
def fs__law_needed : List D → FO := runF false 2 7 m__law_needed
def m__law_odd : En → R Fl := (sSeq (sSet 1 (sMk .lst (sCons (sC .non) (sCons (sC (.bl true)) (sCons (sC (.bl false)) (sCons (sC (.int 0)) (sCons (sC (.int 1)) (sCons (s1 dNeg (sC (.int 1))) (sCons (sC (.int 5)) (sCons (sC (.int 9)) (sCons (sC (.int 10)) (sCons (sC (.int 41)) (sCons (sC (.int 100)) (sCons (sC (.int 101)) (sCons (sC (.int 400)) (sCons (sC (.int 401)) (sCons (sC (.int 1899)) (sCons (sC (.int 2101)) (sCons (sC (.str "")) (sCons (sC (.str "a")) (sCons (sC (.str "A")) (sCons (sC (.str "abcdefghi")) sNil))))))))))))))))))))))
  (sRet (sCallI 0 fs__law_of (sCons (sBin dPlus (sVar 1) (sMk .lst (sCons (sC (.str "a b")) (sCons (sMk .tup sNil) (sCons (sMk .lst sNil) (sCons (sMk .tup (sCons (sC (.int 1)) sNil)) (sCons (sMk .tup (sCons (sC (.str "a")) sNil)) (sCons (sMk .tup (sCons (sC (.str "a")) (sCons (sC (.int 1)) sNil))) (sCons (sMk .lst (sCons (sMk .lst sNil) sNil)) (sCons (sMk .tup (sCons (sMk .tup sNil) (sCons (sMk .tup sNil) sNil))) sNil)))))))))) sNil))))
def fs__law_odd : List D → FO := runF true 1 2 m__law_odd
def m__law_spoilt (fsr : List D → FO) : En → R Fl := (sSeq (sIfS (sOrT (sNotT (sTru (sN dIsi (sCons (sVar 1) (sCons (sMk .tup (sCons (sC (.ty "tuple")) (sCons (sC (.ty "list")) sNil))) sNil))))) (sOrT (sBin dEq (s1 dLen' (sBor 1)) (sC (.int 0))) (sOrT (sBin dEq (sVar 2) (sC (.int 0))) (sBin dEq (sCallI 0 fs__law_take (sCons (sC (.int 6)) sNil)) (sC (.int 0))))))
  (sRet (sCallI 0 fs__law_odd sNil))
  sNx)
  (sSeq (sSetO 3 (s1 dList (sBor 1)))
  (sSeq (sSet 4 (sCallI 0 fs__law_take (sCons (s1 dLen' (sBor 3)) sNil)))
  (sSeq (sSet 5 (sCallI 0 fs__law_take (sCons (sC (.int 8)) sNil)))
  (sSeq (sIfS (sBin dEq (sVar 5) (sC (.int 0)))
  (sSetO 3 (sBin dCat (sSlcV 3 sNoPt (sPt (sVar 4))) (sSlcV 3 (sPt (sBin dPlus (sVar 4) (sC (.int 1)))) sNoPt)))
  (sIfS (sBin dEq (sVar 5) (sC (.int 1)))
  (sSetO 3 (sBin dCat (sSlcV 3 sNoPt (sPt (sBin dPlus (sVar 4) (sC (.int 1))))) (sSlcV 3 (sPt (sVar 4)) sNoPt)))
  (sIfS (sBin dEq (sVar 5) (sC (.int 2)))
  (sRet (sIf (sTru (sN dIsi (sCons (sVar 1) (sCons (sC (.ty "tuple")) sNil)))) (s1 dList (sBor 3)) (s1 dTuple (sBor 3))))
  (sIfS (sBin dEq (sVar 5) (sC (.int 3)))
  (sSetO 3 (sBin dCat (sBin dPlus (sSlcV 3 sNoPt (sPt (sVar 4))) (s1 dRev (sSlcV 3 (sPt (sVar 4)) (sPt (sBin dPlus (sVar 4) (sC (.int 2))))))) (sSlcV 3 (sPt (sBin dPlus (sVar 4) (sC (.int 2)))) sNoPt)))
  (sPut 3 gSetL (sVar 4) (sCallI 0 fsr (sCons (sIxV 3 (sVar 4)) (sCons (sBin dSub (sVar 2) (sC (.int 1))) sNil))))))))
  (sRet (sIf (sTru (sN dIsi (sCons (sVar 1) (sCons (sC (.ty "tuple")) sNil)))) (s1 dTuple (sBor 3)) (sFrz 3))))))))
def fs__law_spoilt : Nat → List D → FO
  | 0 => fun _ => .bad
  | n + 1 => runF true 3 6 (m__law_spoilt (fs__law_spoilt n))
def m__law_strange : En → R Fl := (sSeq (sSet 2 (sMk .lst sNil))
  (sSeq (sFor (sIt (sVar 0)) (hName 3)
  (sSet 2 (sBin dPlus (sVar 2) (sLc (sIt (sBin dIx (sVar 3) (sC (.int 2)))) (hName 4) (sBin dNotIn (sVar 4) (sBor 1)) (sVar 4) [4]))))
  (sRet (sVar 2))))
def fs__law_strange : List D → FO := runF false 2 5 m__law_strange
def m__law_are_courses : En → R Fl := (sSeq (sIfS (sNotT (sTru (sCall fs__law_are_rows (sCons (sVar 0) (sCons (sC (.int 10)) (sCons (sC (.int 3)) sNil))))))
  (sRet (sC (.bl false)))
  sNx)
  (sSeq (sFor (sIt (sVar 0)) (hTup 3 (hCons (hName 2) (hCons (hName 3) (hCons (hName 4) hNil))))
  (sSeq (sIfS (sOrT (sNotT (sTru (sCall fs__law_is_name (sCons (sVar 2) sNil)))) (sOrT (sNotT (sTru (sCall fs__law_from (sCons (sVar 3) (sCons (sC (.int 1)) (sCons (sC (.int 9)) sNil)))))) (sNotT (sTru (sN dIsi (sCons (sVar 4) (sCons (sC (.ty "tuple")) sNil)))))))
  (sRet (sC (.bl false)))
  sNx)
  (sIfS (sOrT (sBin dNe (sLc (sIt (sVar 4)) (hName 5) (sNotT (sTru (sCall fs__law_is_name (sCons (sVar 5) sNil)))) (sVar 5) [5]) (sMk .lst sNil)) (sNotT (sTru (sCall fs__law_rising (sCons (sVar 4) sNil)))))
  (sRet (sC (.bl false)))
  sNx)))
  (sSeq (sSet 1 (sLc (sIt (sVar 0)) (hName 5) sYes (sBin dIx (sVar 5) (sC (.int 0))) [5]))
  (sSeq (sIfS (sOrT (sNotT (sTru (sCall fs__law_rising (sCons (sVar 1) sNil)))) (sBin dNe (sCall fs__law_strange (sCons (sVar 0) (sCons (sVar 1) sNil))) (sMk .lst sNil)))
  (sRet (sC (.bl false)))
  sNx)
  (sRet (sCmp dEq (sLc (sIt (sVar 1)) (hName 2) (sBin dIn (sVar 2) (sCall fs__law_needed (sCons (sVar 0) (sCons (sVar 2) sNil)))) (sVar 2) [2]) (sMk .lst sNil)))))))
def fs__law_are_courses : List D → FO := runF false 1 6 m__law_are_courses
def m_law : En → R Fl := (sSeq (sSet 1 (s1 dTuple (sLc (sRg rg1 (sCons (sC (.int 11)) sNil)) (hName 10) sYes (sMk .tup (sCons (sBin dIx (sC (.str "abcdefghijk")) (sVar 10)) (sCons (sC (.int 1)) (sCons (sMk .tup sNil) sNil)))) [10])))
  (sSeq (sIfS (sOrT (sBin dIsNot (sCall fs_are_courses (sCons (sVar 1) sNil)) (sC (.bl false))) (sOrT (sBin dIsNot (sCall fs_are_courses (sCons (sSlc (sVar 1) sNoPt (sPt (sC (.int 10)))) sNil)) (sC (.bl true))) (sBin dIsNot (sCall fs_are_courses (sCons (sMk .tup sNil) sNil)) (sC (.bl true)))))
  (sRet (sC (.bl false)))
  sNx)
  (sSeq (sFor (sRg rg1 (sCons (sBin dPlus (sN dMin2 (sCons (s1 dLen' (sBor 0)) (sCons (sC (.int 12)) sNil))) (sC (.int 2))) sNil)) (hName 2)
  (sSeq (sSetO 3 (sCallO fs__law_bag (sCons (sVar 0) (sCons (sVar 2) sNil))))
  (sSeq (sSet 4 (sCallI 3 fs__law_courses (sCons (sC (.int 8)) sNil)))
  (sSeq (sIfS (sBin dNe (sVar 4) (sMk .tup sNil))
  (sSeq (sPar2 9 10 (pF (sBin dIx (sCallI 3 fs__law_of (sCons (sVar 4) sNil)) (sC (.int 0))) (pF (sCallI 3 fs__law_take (sCons (s1 dLen' (sBor 4)) sNil)) pNil)))
  (sSeq (sSet 7 (sBin dPlus (sSlc (sBin dIx (sVar 4) (sVar 10)) sNoPt (sPt (sC (.int 2)))) (sMk .tup (sCons (s1 dTuple (s1 dSortSet (sBin dPlus (sBin dIx (sBin dIx (sVar 4) (sVar 10)) (sC (.int 2))) (sMk .tup (sCons (sVar 9) sNil))))) sNil))))
  (sSeq (sSet 8 (sBin dPlus (sBin dPlus (sSlc (sVar 4) sNoPt (sPt (sVar 10))) (sMk .tup (sCons (sVar 7) sNil))) (sSlc (sVar 4) (sPt (sBin dPlus (sVar 10) (sC (.int 1)))) sNoPt)))
  (sIfS (sNotT (sTru (sCall fs__law_same (sCons (sCall fs_are_courses (sCons (sVar 8) sNil)) (sCons (sCall fs__law_are_courses (sCons (sVar 8) sNil)) sNil)))))
  (sRet (sC (.bl false)))
  sNx))))
  sNx)
  (sSeq (sSet 5 (sVar 4))
  (sFor (sRg rg1 (sCons (sC (.int 5)) sNil)) (hName 6)
  (sSeq (sIfS (sNotT (sTru (sCall fs__law_same (sCons (sCall fs_are_courses (sCons (sVar 5) sNil)) (sCons (sCall fs__law_are_courses (sCons (sVar 5) sNil)) sNil)))))
  (sRet (sC (.bl false)))
  sNx)
  (sSet 5 (sCallI 3 (fs__law_spoilt 6) (sCons (sVar 5) (sCons (sC (.int 4)) sNil)))))))))))
  (sRet (sC (.bl true))))))
def fs_law : List D → FO := runF false 1 11 m_law
def top (i : Nat) : Stmt := PySem.Challenge.pw_schoolbook_k01_what_are_courses.main.body.getD i (.Pass ⟨0, 0, 0, 0⟩)
structure TX (mg : Str → Option Value) : Prop where
  n_all : mg "all" = none
  n_bool : mg "bool" = none
  n_dict : mg "dict" = none
  n_int : mg "int" = none
  n_isinstance : mg "isinstance" = none
  n_len : mg "len" = none
  n_list : mg "list" = none
  n_min : mg "min" = none
  n_range : mg "range" = none
  n_set : mg "set" = none
  n_sorted : mg "sorted" = none
  n_str : mg "str" = none
  n_tuple : mg "tuple" = none
  n_zip : mg "zip" = none
  c_MOST_COURSES : ∃ t, mg "MOST_COURSES" = some (.int 10 t)
theorem boot_all' : bootBuiltins "all" = some (.builtin "all") := by decide +kernel
theorem boot_bool' : bootBuiltins "bool" = some (.type "bool") := by decide +kernel
theorem boot_dict' : bootBuiltins "dict" = some (.type "dict") := by decide +kernel
theorem boot_int' : bootBuiltins "int" = some (.type "int") := by decide +kernel
theorem boot_isinstance' : bootBuiltins "isinstance" = some (.builtin "isinstance") := by decide +kernel
theorem boot_len' : bootBuiltins "len" = some (.builtin "len") := by decide +kernel
theorem boot_list' : bootBuiltins "list" = some (.type "list") := by decide +kernel
theorem boot_min' : bootBuiltins "min" = some (.builtin "min") := by decide +kernel
theorem boot_range' : bootBuiltins "range" = some (.type "range") := by decide +kernel
theorem boot_set' : bootBuiltins "set" = some (.type "set") := by decide +kernel
theorem boot_sorted' : bootBuiltins "sorted" = some (.builtin "sorted") := by decide +kernel
theorem boot_str' : bootBuiltins "str" = some (.type "str") := by decide +kernel
theorem boot_tuple' : bootBuiltins "tuple" = some (.type "tuple") := by decide +kernel
theorem boot_zip' : bootBuiltins "zip" = some (.type "zip") := by decide +kernel
abbrev st_is_from : Stmt := top 1
theorem sc_is_from : FnScope ["thing", "low", "high"] ["thing", "low", "high"] (defScope st_is_from) := ⟨rfl, rfl, rfl, by decide +kernel, rfl, by decide +kernel, by decide +kernel⟩
theorem D_is_from {P : Program} {w : World} {K : PySem.W.Frag} {mg : Str → Option Value} {base : Heap} {cls : Str → Value} (T : TX mg) {f : Addr} {fd : FuncData} (F : Fun K "is_from" "is_from" st_is_from f fd) (hm : mg "is_from" = some (.ref f)) (bd : Binds K fd ["thing", "low", "high"] [])  : Def P w K mg base CX0 1 "is_from" cls false true 3 fs_is_from := by
  exact mkDef (k := 0) F hm bd sc_is_from rfl rfl (fun cdv A outer s H E W hr _ hcls => by
    subst hcls
    have sc := sc_is_from
    exact (ss_one (s_ret (d_and (d_bN cr_isi cn_isi rfl T.n_isinstance boot_isinstance' (a_cons (d_var 0) (a_cons (d_ty rfl T.n_int boot_int') a_nil))) (d_and (d_not (dB (d_bN cr_isi cn_isi rfl T.n_isinstance boot_isinstance' (a_cons (d_var 0) (a_cons (d_ty rfl T.n_bool boot_bool') a_nil))))) (d_one (d_chain op_le op_le rt_le rt_le (d_var 1) (d_var 0) (d_var 2))))))))
abbrev st_is_name : Stmt := top 2
theorem sc_is_name : FnScope ["thing", "sign"] ["thing"] (defScope st_is_name) := ⟨rfl, rfl, rfl, by decide +kernel, rfl, by decide +kernel, by decide +kernel⟩
theorem D_is_name {P : Program} {w : World} {K : PySem.W.Frag} {mg : Str → Option Value} {base : Heap} {cls : Str → Value} (T : TX mg) {f : Addr} {fd : FuncData} (F : Fun K "is_name" "is_name" st_is_name f fd) (hm : mg "is_name" = some (.ref f)) (bd : Binds K fd ["thing"] [])  : Def P w K mg base CX0 1 "is_name" cls false true 1 fs_is_name := by
  exact mkDef (k := 0) F hm bd sc_is_name rfl rfl (fun cdv A outer s H E W hr _ hcls => by
    subst hcls
    have sc := sc_is_name
    exact (ss_cons (s_if (PW.pt (w_or (t_not (t_tru (dB (d_bN cr_isi cn_isi rfl T.n_isinstance boot_isinstance' (a_cons (d_var 0) (a_cons (d_ty rfl T.n_str boot_str') a_nil)))))) (w_or1 (t_not (t_chain op_le op_le rt_le rt_le d_int (d_b1 cr_len c1_len rfl T.n_len boot_len' (d_bor 0)) d_int)))))
    (ss_one (s_ret d_bl))
    ss_nil)
    (ss_one (s_ret (d_b1 (cr_all rfl) c1_all rfl T.n_all boot_all' (dB (dF (d_lc [("sign", 1)] rfl sc.nd (i_seq (d_var 0)) (blkOk_by (N := ["thing", "sign"]) (sc := defScope st_is_name) (by decide +kernel)) (by decide) (fun _ _ _ _ _ => (g_name 1 sc.nd)) (fun _ _ _ _ _ => ts_nil) (fun _ _ _ _ _ => (d_cmp (op_in' (r65 hr)) rt_in (d_var 1) (dB d_str) rfl))))))))))
abbrev st_rises : Stmt := top 3
theorem sc_rises : FnScope ["some", "one", "other"] ["some"] (defScope st_rises) := ⟨rfl, rfl, rfl, by decide +kernel, rfl, by decide +kernel, by decide +kernel⟩
theorem D_rises {P : Program} {w : World} {K : PySem.W.Frag} {mg : Str → Option Value} {base : Heap} {cls : Str → Value} (T : TX mg) {f : Addr} {fd : FuncData} (F : Fun K "rises" "rises" st_rises f fd) (hm : mg "rises" = some (.ref f)) (bd : Binds K fd ["some"] [])  : Def P w K mg base CX0 1 "rises" cls false true 1 fs_rises := by
  exact mkDef (k := 0) F hm bd sc_rises rfl rfl (fun cdv A outer s H E W hr _ hcls => by
    subst hcls
    have sc := sc_rises
    exact (ss_one (s_ret (d_b1 (cr_all rfl) c1_all rfl T.n_all boot_all' (dB (dF (d_lc [("one", 1), ("other", 2)] rfl sc.nd (i_zip rfl T.n_zip (a_cons (d_var 0) (a_cons (d_slc (d_var 0) (p_some d_int) p_none) a_nil))) (blkOk_by (N := ["some", "one", "other"]) (sc := defScope st_rises) (by decide +kernel)) (by decide) (fun _ _ _ _ _ => (g_tup rfl (gs_cons (g_name 1 sc.nd) (gs_cons (g_name 2 sc.nd) gs_nil)))) (fun _ _ _ _ _ => ts_nil) (fun _ _ _ _ _ => (d_cmp (op_lt' (r64 hr)) rt_lt (d_var 1) (d_bor 2) rfl)))))))))
abbrev st_are_rows : Stmt := top 4
theorem sc_are_rows : FnScope ["thing", "most", "many", "row"] ["thing", "most", "many"] (defScope st_are_rows) := ⟨rfl, rfl, rfl, by decide +kernel, rfl, by decide +kernel, by decide +kernel⟩
theorem D_are_rows {P : Program} {w : World} {K : PySem.W.Frag} {mg : Str → Option Value} {base : Heap} {cls : Str → Value} (T : TX mg) {f : Addr} {fd : FuncData} (F : Fun K "are_rows" "are_rows" st_are_rows f fd) (hm : mg "are_rows" = some (.ref f)) (bd : Binds K fd ["thing", "most", "many"] [])  : Def P w K mg base CX0 1 "are_rows" cls false true 3 fs_are_rows := by
  exact mkDef (k := 0) F hm bd sc_are_rows rfl rfl (fun cdv A outer s H E W hr _ hcls => by
    subst hcls
    have sc := sc_are_rows
    exact (ss_cons (s_if (PW.pt (w_or (t_not (t_tru (dB (d_bN cr_isi cn_isi rfl T.n_isinstance boot_isinstance' (a_cons (d_var 0) (a_cons (d_ty rfl T.n_tuple boot_tuple') a_nil)))))) (w_or1 (t_cmp op_gt rt_gt (d_b1 cr_len c1_len rfl T.n_len boot_len' (d_bor 0)) (d_bor 1) rfl))))
    (ss_one (s_ret d_bl))
    ss_nil)
    (ss_one (s_ret (d_b1 (cr_all rfl) c1_all rfl T.n_all boot_all' (dB (dF (d_lc [("row", 3)] rfl sc.nd (i_seq (d_var 0)) (blkOk_by (N := ["thing", "most", "many", "row"]) (sc := defScope st_are_rows) (by decide +kernel)) (by decide) (fun _ _ _ _ _ => (g_name 3 sc.nd)) (fun _ _ _ _ _ => ts_nil) (fun _ _ _ _ _ => (d_and (d_bN cr_isi cn_isi rfl T.n_isinstance boot_isinstance' (a_cons (d_var 3) (a_cons (d_ty rfl T.n_tuple boot_tuple') a_nil))) (d_one (d_cmp (op_eqD (r64 hr)) rt_eq (d_b1 cr_len c1_len rfl T.n_len boot_len' (d_bor 3)) (d_bor 2) rfl))))))))))))
abbrev st_is_course : Stmt := top 7
theorem sc_is_course : FnScope ["thing", "need"] ["thing"] (defScope st_is_course) := ⟨rfl, rfl, rfl, by decide +kernel, rfl, by decide +kernel, by decide +kernel⟩
theorem D_is_course {P : Program} {w : World} {K : PySem.W.Frag} {mg : Str → Option Value} {base : Heap} {cls : Str → Value} (T : TX mg) {f : Addr} {fd : FuncData} (F : Fun K "is_course" "is_course" st_is_course f fd) (hm : mg "is_course" = some (.ref f)) (bd : Binds K fd ["thing"] []) (G_rises : Def P w K mg base CX0 1 "rises" cls false true 1 fs_rises) (G_is_name : Def P w K mg base CX0 1 "is_name" cls false true 1 fs_is_name) (G_is_from : Def P w K mg base CX0 1 "is_from" cls false true 3 fs_is_from) : Def P w K mg base CX0 2 "is_course" cls false true 1 fs_is_course := by
  exact mkDef (k := 1) F hm bd sc_is_course rfl rfl (fun cdv A outer s H E W hr _ hcls => by
    subst hcls
    have sc := sc_is_course
    exact (ss_cons (s_if (PW.pt (w_or (t_not (t_tru (dB (d_call (Def.mono G_is_name (by decide)) (fun _ => rfl) hr rfl (a_cons (d_sub (r1 hr) (d_var 0) d_int) a_nil))))) (w_or (t_not (t_tru (dB (d_call (Def.mono G_is_from (by decide)) (fun _ => rfl) hr rfl (a_cons (d_sub (r1 hr) (d_var 0) d_int) (a_cons d_int (a_cons d_int a_nil))))))) (w_or1 (t_not (t_tru (dB (d_bN cr_isi cn_isi rfl T.n_isinstance boot_isinstance' (a_cons (d_sub (r1 hr) (d_var 0) d_int) (a_cons (d_ty rfl T.n_tuple boot_tuple') a_nil))))))))))
    (ss_one (s_ret d_bl))
    ss_nil)
    (ss_one (s_ret (d_and (d_b1 (cr_all rfl) c1_all rfl T.n_all boot_all' (dB (dF (d_lc [("need", 1)] rfl sc.nd (i_seq (d_sub (r1 hr) (d_var 0) d_int)) (blkOk_by (N := ["thing", "need"]) (sc := defScope st_is_course) (by decide +kernel)) (by decide) (fun _ _ _ _ _ => (g_name 1 sc.nd)) (fun _ _ _ _ _ => ts_nil) (fun _ _ _ _ _ => (d_call (Def.mono G_is_name (by decide)) (fun _ => rfl) hr rfl (a_cons (d_var 1) a_nil))))))) (d_one (d_call (Def.mono G_rises (by decide)) (fun _ => rfl) hr rfl (a_cons (d_sub (r1 hr) (d_var 0) d_int) a_nil))))))))
abbrev st_needs_of : Stmt := top 8
theorem sc_needs_of : FnScope ["courses", "name", "weight", "needs"] ["courses"] (defScope st_needs_of) := ⟨rfl, rfl, rfl, by decide +kernel, rfl, by decide +kernel, by decide +kernel⟩
theorem D_needs_of {P : Program} {w : World} {K : PySem.W.Frag} {mg : Str → Option Value} {base : Heap} {cls : Str → Value} (T : TX mg) {f : Addr} {fd : FuncData} (F : Fun K "needs_of" "needs_of" st_needs_of f fd) (hm : mg "needs_of" = some (.ref f)) (bd : Binds K fd ["courses"] [])  : Def P w K mg base CX0 1 "needs_of" cls false true 1 fs_needs_of := by
  exact mkDef (k := 0) F hm bd sc_needs_of rfl rfl (fun cdv A outer s H E W hr _ hcls => by
    subst hcls
    have sc := sc_needs_of
    exact (ss_one (s_retO (d_dc [("name", 1), ("weight", 2), ("needs", 3)] rfl sc.nd (i_seq (d_var 0)) (blkOk_by (N := ["courses", "name", "weight", "needs"]) (sc := defScope st_needs_of) (by decide +kernel)) (by decide) (fun _ _ _ _ _ => (g_tup rfl (gs_cons (g_name 1 sc.nd) (gs_cons (g_name 2 sc.nd) (gs_cons (g_name 3 sc.nd) gs_nil))))) (fun _ _ _ _ _ => ts_nil) (fun _ _ _ _ _ => (d_var 1)) (fun _ _ _ _ _ => (d_var 3))))))
abbrev st_all_ahead : Stmt := top 9
theorem sc_all_ahead : FnScope ["needs", "name", "found", "left", "one"] ["needs", "name"] (defScope st_all_ahead) := ⟨rfl, rfl, rfl, by decide +kernel, rfl, by decide +kernel, by decide +kernel⟩
theorem D_all_ahead {P : Program} {w : World} {K : PySem.W.Frag} {mg : Str → Option Value} {base : Heap} {cls : Str → Value} (T : TX mg) {f : Addr} {fd : FuncData} (F : Fun K "all_ahead" "all_ahead" st_all_ahead f fd) (hm : mg "all_ahead" = some (.ref f)) (bd : Binds K fd ["needs", "name"] [])  : Def P w K mg base CX0 1 "all_ahead" cls false true 2 fs_all_ahead := by
  exact mkDef (k := 0) F hm bd sc_all_ahead rfl rfl (fun cdv A outer s H E W hr _ hcls => by
    subst hcls
    have sc := sc_all_ahead
    exact (ss_cons (s_par2 2 3 rfl sc.nd (z_O d_dict0 (z_O (d_t1O (cr_list rfl) c1_list rfl T.n_list boot_list' (dB (d_sub (r1 hr) (d_var 0) (d_var 1)))) z_nil)))
    (ss_cons (s_while 1000 PassesOwn.never (t_tru (d_bor 3))
    (ss_cons (s_set 4 (d_meth0 3 PySem.F.slot_list_pop PySem.F.type_list_pop mt_pop mo_pop) sc.nd)
    (ss_one (s_if (t_cmp (op_notin' (r65 hr)) rt_notin (d_var 4) (d_bor 2) rfl)
    (ss_cons (s_setD 2 (r1 hr) d_bl (d_var 4))
    (ss_one (s_augL 3 (dF (d_t1O (cr_list rfl) c1_list rfl T.n_list boot_list' (dB (d_sub (r1 hr) (d_var 0) (d_var 4))))) sc.nd)))
    ss_nil))))
    (ss_one (s_retO (d_b1O (cr_sorted rfl (r69 hr)) c1_sorted rfl T.n_sorted boot_sorted' (dB (dF (d_t1O (cr_list rfl) c1_list rfl T.n_list boot_list' (d_bor 2))))))))))
abbrev st_are_courses : Stmt := top 10
theorem sc_are_courses : FnScope ["thing", "needs", "name", "one", "some"] ["thing"] (defScope st_are_courses) := ⟨rfl, rfl, rfl, by decide +kernel, rfl, by decide +kernel, by decide +kernel⟩
theorem D_are_courses {P : Program} {w : World} {K : PySem.W.Frag} {mg : Str → Option Value} {base : Heap} {cls : Str → Value} (T : TX mg) {f : Addr} {fd : FuncData} (F : Fun K "are_courses" "are_courses" st_are_courses f fd) (hm : mg "are_courses" = some (.ref f)) (bd : Binds K fd ["thing"] []) (G_needs_of : Def P w K mg base CX0 1 "needs_of" cls false true 1 fs_needs_of) (G_are_rows : Def P w K mg base CX0 1 "are_rows" cls false true 3 fs_are_rows) (G_rises : Def P w K mg base CX0 1 "rises" cls false true 1 fs_rises) (G_all_ahead : Def P w K mg base CX0 1 "all_ahead" cls false true 2 fs_all_ahead) (G_is_course : Def P w K mg base CX0 2 "is_course" cls false true 1 fs_is_course) : Def P w K mg base CX0 3 "are_courses" cls false true 1 fs_are_courses := by
  exact mkDef (k := 2) F hm bd sc_are_courses rfl rfl (fun cdv A outer s H E W hr _ hcls => by
    subst hcls
    have sc := sc_are_courses
    exact (ss_cons (s_if (PW.pt (w_or (t_not (t_tru (dB (d_call (Def.mono G_are_rows (by decide)) (fun _ => rfl) hr rfl (a_cons (d_var 0) (a_cons (d_glob (v := .int 10) rfl T.c_MOST_COURSES.choose_spec (⟨_, rfl⟩) (fun _ => .int 10)) (a_cons d_int a_nil))))))) (w_or1 (t_not (t_tru (dB (d_b1 (cr_all rfl) c1_all rfl T.n_all boot_all' (dB (dF (d_lc [("one", 3)] rfl sc.nd (i_seq (d_var 0)) (blkOk_by (N := ["thing", "needs", "name", "one", "some"]) (sc := defScope st_are_courses) (by decide +kernel)) (by decide) (fun _ _ _ _ _ => (g_name 3 sc.nd)) (fun _ _ _ _ _ => ts_nil) (fun _ _ _ _ _ => (d_call (Def.mono G_is_course (by decide)) (fun _ => rfl) hr rfl (a_cons (d_var 3) a_nil)))))))))))))
    (ss_one (s_ret d_bl))
    ss_nil)
    (ss_cons (s_set 1 (d_call (Def.mono G_needs_of (by decide)) (fun _ => rfl) hr rfl (a_cons (d_var 0) a_nil)) sc.nd)
    (ss_cons (s_if (PW.pt (w_or (t_not (t_tru (dB (d_call (Def.mono G_rises (by decide)) (fun _ => rfl) hr rfl (a_cons (dF (d_lc [("one", 3)] rfl sc.nd (i_seq (d_var 0)) (blkOk_by (N := ["thing", "needs", "name", "one", "some"]) (sc := defScope st_are_courses) (by decide +kernel)) (by decide) (fun _ _ _ _ _ => (g_name 3 sc.nd)) (fun _ _ _ _ _ => ts_nil) (fun _ _ _ _ _ => (d_sub (r1 hr) (d_var 3) d_int)))) a_nil))))) (w_or1 (t_not (t_tru (dB (d_b1 (cr_all rfl) c1_all rfl T.n_all boot_all' (dB (dF (d_lc2D (vs1 := [3]) 1 [("some", 4), ("one", 3)] rfl sc.nd (k_vals 1) (blkOk_by (N := ["thing", "needs", "name", "one", "some"]) (sc := defScope st_are_courses) (by decide +kernel)) (by decide) (by decide) (by decide) (fun _ _ _ _ _ => (g_name 4 sc.nd)) (fun _ _ _ _ _ => ts_nil) (fun _ _ _ _ _ => (i_seq (d_var 4))) (fun _ _ _ _ _ => (g_name 3 sc.nd)) (fun _ _ _ _ _ => ts_nil) (fun _ _ _ _ _ => (d_cmp (op_in' (r65 hr)) rt_in (d_var 3) (d_bor 1) rfl))))))))))))
    (ss_one (s_ret d_bl))
    ss_nil)
    (ss_one (s_ret (d_b1 (cr_all rfl) c1_all rfl T.n_all boot_all' (dB (dF (d_lcD 1 [("name", 2)] rfl sc.nd (k_keys 1) (blkOk_by (N := ["thing", "needs", "name", "one", "some"]) (sc := defScope st_are_courses) (by decide +kernel)) (by decide) (fun _ _ _ _ _ => (g_name 2 sc.nd)) (fun _ _ _ _ _ => ts_nil) (fun _ _ _ _ _ => (d_cmp (op_notin' (r65 hr)) rt_notin (d_var 2) (dB (d_call (Def.mono G_all_ahead (by decide)) (fun _ => rfl) hr rfl (a_cons (d_var 1) (a_cons (d_var 2) a_nil)))) rfl))))))))))))
abbrev st__law_bag : Stmt := top 12
theorem sc__law_bag : FnScope ["script", "k", "cell", "seed"] ["script", "k"] (defScope st__law_bag) := ⟨rfl, rfl, rfl, by decide +kernel, rfl, by decide +kernel, by decide +kernel⟩
theorem D__law_bag {P : Program} {w : World} {K : PySem.W.Frag} {mg : Str → Option Value} {base : Heap} {cls : Str → Value} (T : TX mg) {f : Addr} {fd : FuncData} (F : Fun K "_law_bag" "_law_bag" st__law_bag f fd) (hm : mg "_law_bag" = some (.ref f)) (bd : Binds K fd ["script", "k"] [])  : Def P w K mg base CX0 1 "_law_bag" cls false true 2 fs__law_bag := by
  exact mkDef (k := 0) F hm bd sc__law_bag rfl rfl (fun cdv A outer s H E W hr _ hcls => by
    subst hcls
    have sc := sc__law_bag
    exact (ss_cons (s_set 2 d_int sc.nd)
    (ss_cons (s_if (t_cmp (op_lt' (r64 hr)) rt_lt (d_var 1) (dB (d_b1 cr_len c1_len rfl T.n_len boot_len' (d_bor 0))) rfl)
    (ss_one (s_set 2 (d_bin op_mod rb_mod (d_sub (r1 hr) (d_var 0) (d_var 1)) (dB (d_bin op_pow rb_pow d_int (dB d_int)))) sc.nd))
    ss_nil)
    (ss_cons (s_set 3 (d_bin op_plusA rb_plusA d_int (dB (d_bin op_mod rb_mod (d_bin op_plusA rb_plusA (d_bin op_plusA rb_plusA (d_bin op_plusA rb_plusA (d_bin op_mul rb_mul (d_bin op_mod rb_mod (d_var 2) (dB d_int)) (dB d_int)) (dB (d_bin op_mul rb_mul (d_bin op_mul rb_mul d_int (d_bor 1)) (d_bor 1)))) (dB (d_bin op_mul rb_mul d_int (d_bor 1)))) (dB d_int)) (dB d_int)))) sc.nd)
    (ss_cons (s_if (t_cmp (op_lt' (r64 hr)) rt_lt (d_var 2) (dB (d_bin op_pow rb_pow d_int (dB d_int))) rfl)
    (ss_one (s_retO (d_lst (a_cons d_int (a_cons (d_var 3) a_nil)))))
    ss_nil)
    (ss_one (s_retO (d_lst (a_cons (d_var 2) (a_cons (d_var 3) a_nil))))))))))
abbrev st__law_take : Stmt := top 13
theorem sc__law_take : FnScope ["bag", "count", "found"] ["bag", "count"] (defScope st__law_take) := ⟨rfl, rfl, rfl, by decide +kernel, rfl, by decide +kernel, by decide +kernel⟩
theorem D__law_take {P : Program} {w : World} {K : PySem.W.Frag} {mg : Str → Option Value} {base : Heap} {cls : Str → Value} (T : TX mg) {f : Addr} {fd : FuncData} (F : Fun K "_law_take" "_law_take" st__law_take f fd) (hm : mg "_law_take" = some (.ref f)) (bd : Binds K fd ["bag", "count"] [])  : Def P w K mg base CX0 1 "_law_take" cls true true 2 fs__law_take := by
  exact mkDef (k := 0) F hm bd sc__law_take rfl rfl (fun cdv A outer s H E W hr _ hcls => by
    subst hcls
    have sc := sc__law_take
    exact (ss_cons (s_if (t_cmp op_gt rt_gt (d_subV 0 (r1 hr) d_int) (dB d_int) rfl)
    (ss_cons (s_set 2 (d_bin op_mod rb_mod (d_subV 0 (r1 hr) d_int) (d_bor 1)) sc.nd)
    (ss_cons (s_setL 0 (d_bin op_fdiv rb_div (d_subV 0 (r1 hr) d_int) (d_bor 1)) d_int)
    (ss_one (s_ret (d_var 2)))))
    ss_nil)
    (ss_cons (s_setL 0 (d_bin op_mod rb_mod (d_bin op_mul rb_mul (d_subV 0 (r1 hr) d_int) (dB d_int)) (dB d_int)) d_int)
    (ss_one (s_ret (d_bin op_mod rb_mod (d_bin op_fdiv rb_div (d_bin op_mod rb_mod (d_bin op_mul rb_mul (d_bin op_fdiv rb_div (d_subV 0 (r1 hr) d_int) (dB d_int)) (dB (d_bin op_plusA rb_plusA (d_bin op_mod rb_mod (d_subV 0 (r1 hr) d_int) (dB d_int)) (dB d_int)))) (dB d_int)) (dB d_int)) (d_bor 1)))))))
abbrev st__law_of : Stmt := top 14
theorem sc__law_of : FnScope ["bag", "some"] ["bag", "some"] (defScope st__law_of) := ⟨rfl, rfl, rfl, by decide +kernel, rfl, by decide +kernel, by decide +kernel⟩
theorem D__law_of {P : Program} {w : World} {K : PySem.W.Frag} {mg : Str → Option Value} {base : Heap} {cls : Str → Value} (T : TX mg) {f : Addr} {fd : FuncData} (F : Fun K "_law_of" "_law_of" st__law_of f fd) (hm : mg "_law_of" = some (.ref f)) (bd : Binds K fd ["bag", "some"] []) (G__law_take : Def P w K mg base CX0 1 "_law_take" cls true true 2 fs__law_take) : Def P w K mg base CX0 2 "_law_of" cls true true 2 fs__law_of := by
  exact mkDef (k := 1) F hm bd sc__law_of rfl rfl (fun cdv A outer s H E W hr _ hcls => by
    subst hcls
    have sc := sc__law_of
    exact (ss_one (s_ret (d_sub (r1 hr) (d_var 1) (d_callI 0 (Def.mono G__law_take (by decide)) (fun _ => rfl) hr rfl (a_cons (d_b1 cr_len c1_len rfl T.n_len boot_len' (d_bor 1)) a_nil))))))
abbrev st__law_same : Stmt := top 15
theorem sc__law_same : FnScope ["one", "other"] ["one", "other"] (defScope st__law_same) := ⟨rfl, rfl, rfl, by decide +kernel, rfl, by decide +kernel, by decide +kernel⟩
theorem D__law_same {P : Program} {w : World} {K : PySem.W.Frag} {mg : Str → Option Value} {base : Heap} {cls : Str → Value} (T : TX mg) {f : Addr} {fd : FuncData} (F : Fun K "_law_same" "_law_same" st__law_same f fd) (hm : mg "_law_same" = some (.ref f)) (bd : Binds K fd ["one", "other"] [])  : Def P w K mg base CX0 1 "_law_same" cls false true 2 fs__law_same := by
  exact mkDef (k := 0) F hm bd sc__law_same rfl rfl (fun cdv A outer s H E W hr _ hcls => by
    subst hcls
    have sc := sc__law_same
    exact (ss_one (s_ret (d_and (d_bN cr_isi cn_isi rfl T.n_isinstance boot_isinstance' (a_cons (d_var 0) (a_cons (d_ty rfl T.n_bool boot_bool') a_nil))) (d_one (d_cmp (op_eqD (r64 hr)) rt_eq (d_var 0) (d_bor 1) rfl))))))
abbrev st__law_from : Stmt := top 16
theorem sc__law_from : FnScope ["thing", "low", "high"] ["thing", "low", "high"] (defScope st__law_from) := ⟨rfl, rfl, rfl, by decide +kernel, rfl, by decide +kernel, by decide +kernel⟩
theorem D__law_from {P : Program} {w : World} {K : PySem.W.Frag} {mg : Str → Option Value} {base : Heap} {cls : Str → Value} (T : TX mg) {f : Addr} {fd : FuncData} (F : Fun K "_law_from" "_law_from" st__law_from f fd) (hm : mg "_law_from" = some (.ref f)) (bd : Binds K fd ["thing", "low", "high"] [])  : Def P w K mg base CX0 1 "_law_from" cls false true 3 fs__law_from := by
  exact mkDef (k := 0) F hm bd sc__law_from rfl rfl (fun cdv A outer s H E W hr _ hcls => by
    subst hcls
    have sc := sc__law_from
    exact (ss_one (s_ret (d_and (d_bN cr_isi cn_isi rfl T.n_isinstance boot_isinstance' (a_cons (d_var 0) (a_cons (d_ty rfl T.n_int boot_int') a_nil))) (d_and (d_not (dB (d_bN cr_isi cn_isi rfl T.n_isinstance boot_isinstance' (a_cons (d_var 0) (a_cons (d_ty rfl T.n_bool boot_bool') a_nil))))) (d_one (d_chain op_le op_le rt_le rt_le (d_var 1) (d_var 0) (d_var 2))))))))
abbrev st__law_is_name : Stmt := top 17
theorem sc__law_is_name : FnScope ["thing", "sign"] ["thing"] (defScope st__law_is_name) := ⟨rfl, rfl, rfl, by decide +kernel, rfl, by decide +kernel, by decide +kernel⟩
theorem D__law_is_name {P : Program} {w : World} {K : PySem.W.Frag} {mg : Str → Option Value} {base : Heap} {cls : Str → Value} (T : TX mg) {f : Addr} {fd : FuncData} (F : Fun K "_law_is_name" "_law_is_name" st__law_is_name f fd) (hm : mg "_law_is_name" = some (.ref f)) (bd : Binds K fd ["thing"] [])  : Def P w K mg base CX0 1 "_law_is_name" cls false true 1 fs__law_is_name := by
  exact mkDef (k := 0) F hm bd sc__law_is_name rfl rfl (fun cdv A outer s H E W hr _ hcls => by
    subst hcls
    have sc := sc__law_is_name
    exact (ss_cons (s_if (PW.pt (w_or (t_not (t_tru (dB (d_bN cr_isi cn_isi rfl T.n_isinstance boot_isinstance' (a_cons (d_var 0) (a_cons (d_ty rfl T.n_str boot_str') a_nil)))))) (w_or1 (t_not (t_chain op_le op_le rt_le rt_le d_int (d_b1 cr_len c1_len rfl T.n_len boot_len' (d_bor 0)) d_int)))))
    (ss_one (s_ret d_bl))
    ss_nil)
    (ss_one (s_ret (d_cmp (op_eqD (r64 hr)) rt_eq (dF (d_lc [("sign", 1)] rfl sc.nd (i_seq (d_var 0)) (blkOk_by (N := ["thing", "sign"]) (sc := defScope st__law_is_name) (by decide +kernel)) (by decide) (fun _ _ _ _ _ => (g_name 1 sc.nd)) (fun _ _ _ _ _ => (ts_one (t_cmp (op_notin' (r65 hr)) rt_notin (d_var 1) (dB d_str) rfl))) (fun _ _ _ _ _ => (d_var 1)))) (dB (dF (d_lst a_nil))) rfl)))))
abbrev st__law_rising : Stmt := top 18
theorem sc__law_rising : FnScope ["some"] ["some"] (defScope st__law_rising) := ⟨rfl, rfl, rfl, by decide +kernel, rfl, by decide +kernel, by decide +kernel⟩
theorem D__law_rising {P : Program} {w : World} {K : PySem.W.Frag} {mg : Str → Option Value} {base : Heap} {cls : Str → Value} (T : TX mg) {f : Addr} {fd : FuncData} (F : Fun K "_law_rising" "_law_rising" st__law_rising f fd) (hm : mg "_law_rising" = some (.ref f)) (bd : Binds K fd ["some"] [])  : Def P w K mg base CX0 1 "_law_rising" cls false true 1 fs__law_rising := by
  exact mkDef (k := 0) F hm bd sc__law_rising rfl rfl (fun cdv A outer s H E W hr _ hcls => by
    subst hcls
    have sc := sc__law_rising
    exact (ss_one (s_ret (d_cmp (op_eqD (r64 hr)) rt_eq (dF (d_t1O (cr_list rfl) c1_list rfl T.n_list boot_list' (d_bor 0))) (dB (dF (d_sortedSet rfl (r69 hr) rfl T.n_sorted boot_sorted' rfl T.n_set boot_set' (d_bor 0)))) rfl))))
abbrev st__law_are_rows : Stmt := top 19
theorem sc__law_are_rows : FnScope ["thing", "most", "many", "row"] ["thing", "most", "many"] (defScope st__law_are_rows) := ⟨rfl, rfl, rfl, by decide +kernel, rfl, by decide +kernel, by decide +kernel⟩
theorem D__law_are_rows {P : Program} {w : World} {K : PySem.W.Frag} {mg : Str → Option Value} {base : Heap} {cls : Str → Value} (T : TX mg) {f : Addr} {fd : FuncData} (F : Fun K "_law_are_rows" "_law_are_rows" st__law_are_rows f fd) (hm : mg "_law_are_rows" = some (.ref f)) (bd : Binds K fd ["thing", "most", "many"] [])  : Def P w K mg base CX0 1 "_law_are_rows" cls false true 3 fs__law_are_rows := by
  exact mkDef (k := 0) F hm bd sc__law_are_rows rfl rfl (fun cdv A outer s H E W hr _ hcls => by
    subst hcls
    have sc := sc__law_are_rows
    exact (ss_cons (s_if (PW.pt (w_or (t_not (t_tru (dB (d_bN cr_isi cn_isi rfl T.n_isinstance boot_isinstance' (a_cons (d_var 0) (a_cons (d_ty rfl T.n_tuple boot_tuple') a_nil)))))) (w_or1 (t_cmp op_gt rt_gt (d_b1 cr_len c1_len rfl T.n_len boot_len' (d_bor 0)) (d_bor 1) rfl))))
    (ss_one (s_ret d_bl))
    ss_nil)
    (ss_one (s_ret (d_cmp (op_eqD (r64 hr)) rt_eq (dF (d_lc [("row", 3)] rfl sc.nd (i_seq (d_var 0)) (blkOk_by (N := ["thing", "most", "many", "row"]) (sc := defScope st__law_are_rows) (by decide +kernel)) (by decide) (fun _ _ _ _ _ => (g_name 3 sc.nd)) (fun _ _ _ _ _ => (ts_one (PW.pt (w_or (t_not (t_tru (dB (d_bN cr_isi cn_isi rfl T.n_isinstance boot_isinstance' (a_cons (d_var 3) (a_cons (d_ty rfl T.n_tuple boot_tuple') a_nil)))))) (w_or1 (t_cmp (op_neD (r64 hr)) rt_ne (d_b1 cr_len c1_len rfl T.n_len boot_len' (d_bor 3)) (d_bor 2) rfl)))))) (fun _ _ _ _ _ => (d_var 3)))) (dB (dF (d_lst a_nil))) rfl)))))
abbrev st__law_courses : Stmt := top 20
theorem sc__law_courses : FnScope ["bag", "most", "names", "name", "at", "order", "found", "needs"] ["bag", "most"] (defScope st__law_courses) := ⟨rfl, rfl, rfl, by decide +kernel, rfl, by decide +kernel, by decide +kernel⟩
theorem D__law_courses {P : Program} {w : World} {K : PySem.W.Frag} {mg : Str → Option Value} {base : Heap} {cls : Str → Value} (T : TX mg) {f : Addr} {fd : FuncData} (F : Fun K "_law_courses" "_law_courses" st__law_courses f fd) (hm : mg "_law_courses" = some (.ref f)) (bd : Binds K fd ["bag", "most"] []) (G__law_take : Def P w K mg base CX0 1 "_law_take" cls true true 2 fs__law_take) (G__law_of : Def P w K mg base CX0 2 "_law_of" cls true true 2 fs__law_of) : Def P w K mg base CX0 3 "_law_courses" cls true true 2 fs__law_courses := by
  exact mkDef (k := 2) F hm bd sc__law_courses rfl rfl (fun cdv A outer s H E W hr _ hcls => by
    subst hcls
    have sc := sc__law_courses
    exact (ss_cons (s_set 2 (d_slc (dF (d_lst (a_cons d_str (a_cons d_str (a_cons d_str (a_cons d_str (a_cons d_str (a_cons d_str (a_cons d_str (a_cons d_str (a_cons d_str (a_cons d_str a_nil)))))))))))) p_none (p_some (d_callI 0 (Def.mono G__law_take (by decide)) (fun _ => rfl) hr rfl (a_cons (d_bin op_plusA rb_plusA (d_var 1) (dB d_int)) a_nil)))) sc.nd)
    (ss_cons (s_par2 5 6 rfl sc.nd (z_O (d_lst a_nil) (z_O (d_lst a_nil) z_nil)))
    (ss_cons (s_for PassesOwn.never rfl (i_seq (d_var 2)) (g_name 3 sc.nd)
    (ss_one (s_expr (d_meth 5 PySem.F.slot_list_insert PySem.F.type_list_insert mt_insert mo_insert (a_cons (d_callI 0 (Def.mono G__law_take (by decide)) (fun _ => rfl) hr rfl (a_cons (d_bin op_plusA rb_plusA (d_b1 cr_len c1_len rfl T.n_len boot_len' (d_bor 5)) (dB d_int)) a_nil)) (a_cons (d_var 3) a_nil))))))
    (ss_cons (s_for PassesOwn.never rfl (i_range1 rfl T.n_range (a_cons (d_b1 cr_len c1_len rfl T.n_len boot_len' (d_bor 5)) a_nil)) (g_name 4 sc.nd)
    (ss_cons (s_setLcF 7 [("name", 3)] rfl sc.nd (i_seq (d_slcV 5 p_none (p_some (d_var 4)))) (blkOk_by (N := ["bag", "most", "names", "name", "at", "order", "found", "needs"]) (sc := defScope st__law_courses) (by decide +kernel)) (by decide) (fun _ _ _ _ _ => (g_name 3 sc.nd)) (fun _ _ _ _ _ => (ts_one (t_cmp (op_eqD (r64 hr)) rt_eq (d_callI 0 (Def.mono G__law_take (by decide)) (fun _ => rfl) hr rfl (a_cons d_int a_nil)) (dB d_int) rfl))) (fun _ _ _ _ _ => (d_var 3)) (sw_true rfl rfl rfl (by decide +kernel)))
    (ss_one (s_expr (d_meth 6 PySem.slot_list_append PySem.type_list_append mt_append mo_append (a_cons (d_tup (a_cons (d_subV 5 (r1 hr) (d_var 4)) (a_cons (d_callI 0 (Def.mono G__law_of (by decide)) (fun _ => rfl) hr rfl (a_cons (dF (d_lst (a_cons d_int (a_cons d_int (a_cons d_int (a_cons d_int (a_cons d_int a_nil))))))) a_nil)) (a_cons (d_t1 call_tuple_of c1_tuple rfl T.n_tuple boot_tuple' (dB (dF (d_b1O (cr_sorted rfl (r69 hr)) c1_sorted rfl T.n_sorted boot_sorted' (d_bor 7))))) a_nil)))) a_nil))))))
    (ss_one (s_ret (d_t1 call_tuple_of c1_tuple rfl T.n_tuple boot_tuple' (dB (dF (d_b1O (cr_sorted rfl (r69 hr)) c1_sorted rfl T.n_sorted boot_sorted' (d_bor 6))))))))))))
abbrev st__law_needed : Stmt := top 21
theorem sc__law_needed : FnScope ["courses", "name", "needs", "found", "turn", "more", "one"] ["courses", "name"] (defScope st__law_needed) := ⟨rfl, rfl, rfl, by decide +kernel, rfl, by decide +kernel, by decide +kernel⟩
theorem D__law_needed {P : Program} {w : World} {K : PySem.W.Frag} {mg : Str → Option Value} {base : Heap} {cls : Str → Value} (T : TX mg) {f : Addr} {fd : FuncData} (F : Fun K "_law_needed" "_law_needed" st__law_needed f fd) (hm : mg "_law_needed" = some (.ref f)) (bd : Binds K fd ["courses", "name"] [])  : Def P w K mg base CX0 1 "_law_needed" cls false true 2 fs__law_needed := by
  exact mkDef (k := 0) F hm bd sc__law_needed rfl rfl (fun cdv A outer s H E W hr _ hcls => by
    subst hcls
    have sc := sc__law_needed
    exact (ss_cons (s_set 2 (dF (d_t1O (cr_dict rfl) c1_dict rfl T.n_dict boot_dict' (dB (dF (d_lc [("one", 6)] rfl sc.nd (i_seq (d_var 0)) (blkOk_by (N := ["courses", "name", "needs", "found", "turn", "more", "one"]) (sc := defScope st__law_needed) (by decide +kernel)) (by decide) (fun _ _ _ _ _ => (g_name 6 sc.nd)) (fun _ _ _ _ _ => ts_nil) (fun _ _ _ _ _ => (d_tup (a_cons (d_sub (r1 hr) (d_var 6) d_int) (a_cons (d_sub (r1 hr) (d_var 6) d_int) a_nil))))))))) sc.nd)
    (ss_cons (s_set 3 (dF (d_b1O (cr_sorted rfl (r69 hr)) c1_sorted rfl T.n_sorted boot_sorted' (dB (d_sub (r1 hr) (d_var 2) (d_var 1))))) sc.nd)
    (ss_cons (s_for PassesOwn.never rfl (i_range1 rfl T.n_range (a_cons d_int a_nil)) (g_name 4 sc.nd)
    (ss_cons (s_set 5 (dF (d_t1O (cr_list rfl) c1_list rfl T.n_list boot_list' (d_bor 3))) sc.nd)
    (ss_cons (s_for PassesOwn.never rfl (i_seq (d_var 3)) (g_name 6 sc.nd)
    (ss_one (s_set 5 (d_bin op_plusA rb_plusA (d_var 5) (dB (dF (d_t1O (cr_list rfl) c1_list rfl T.n_list boot_list' (dB (d_sub (r1 hr) (d_var 2) (d_var 6))))))) sc.nd)))
    (ss_one (s_set 3 (dF (d_sortedSet rfl (r69 hr) rfl T.n_sorted boot_sorted' rfl T.n_set boot_set' (d_bor 5))) sc.nd)))))
    (ss_one (s_ret (d_var 3)))))))
abbrev st__law_odd : Stmt := top 22
theorem sc__law_odd : FnScope ["bag", "some"] ["bag"] (defScope st__law_odd) := ⟨rfl, rfl, rfl, by decide +kernel, rfl, by decide +kernel, by decide +kernel⟩
theorem D__law_odd {P : Program} {w : World} {K : PySem.W.Frag} {mg : Str → Option Value} {base : Heap} {cls : Str → Value} (T : TX mg) {f : Addr} {fd : FuncData} (F : Fun K "_law_odd" "_law_odd" st__law_odd f fd) (hm : mg "_law_odd" = some (.ref f)) (bd : Binds K fd ["bag"] []) (G__law_of : Def P w K mg base CX0 2 "_law_of" cls true true 2 fs__law_of) : Def P w K mg base CX0 3 "_law_odd" cls true true 1 fs__law_odd := by
  exact mkDef (k := 2) F hm bd sc__law_odd rfl rfl (fun cdv A outer s H E W hr _ hcls => by
    subst hcls
    have sc := sc__law_odd
    exact (ss_cons (s_set 1 (dF (d_lst (a_cons d_non (a_cons d_bl (a_cons d_bl (a_cons d_int (a_cons d_int (a_cons (d_neg d_int) (a_cons d_int (a_cons d_int (a_cons d_int (a_cons d_int (a_cons d_int (a_cons d_int (a_cons d_int (a_cons d_int (a_cons d_int (a_cons d_int (a_cons d_str (a_cons d_str (a_cons d_str (a_cons d_str a_nil)))))))))))))))))))))) sc.nd)
    (ss_one (s_ret (d_callI 0 (Def.mono G__law_of (by decide)) (fun _ => rfl) hr rfl (a_cons (d_bin op_plusA rb_plusA (d_var 1) (dB (dF (d_lst (a_cons d_str (a_cons (d_tup a_nil) (a_cons (dF (d_lst a_nil)) (a_cons (d_tup (a_cons d_int a_nil)) (a_cons (d_tup (a_cons d_str a_nil)) (a_cons (d_tup (a_cons d_str (a_cons d_int a_nil))) (a_cons (dF (d_lst (a_cons (dF (d_lst a_nil)) a_nil))) (a_cons (d_tup (a_cons (d_tup a_nil) (a_cons (d_tup a_nil) a_nil))) a_nil)))))))))))) a_nil))))))
abbrev st__law_spoilt : Stmt := top 23
theorem sc__law_spoilt : FnScope ["bag", "thing", "deep", "rows", "at", "way"] ["bag", "thing", "deep"] (defScope st__law_spoilt) := ⟨rfl, rfl, rfl, by decide +kernel, rfl, by decide +kernel, by decide +kernel⟩
theorem D__law_spoilt {P : Program} {w : World} {K : PySem.W.Frag} {mg : Str → Option Value} {base : Heap} {cls : Str → Value} (T : TX mg) {f : Addr} {fd : FuncData} (F : Fun K "_law_spoilt" "_law_spoilt" st__law_spoilt f fd) (hm : mg "_law_spoilt" = some (.ref f)) (bd : Binds K fd ["bag", "thing", "deep"] []) (G__law_take : Def P w K mg base CX0 1 "_law_take" cls true true 2 fs__law_take) (G__law_odd : Def P w K mg base CX0 3 "_law_odd" cls true true 1 fs__law_odd) : ∀ n : Nat, Def P w K mg base CX0 (4 + n) "_law_spoilt" cls true true 3 (fs__law_spoilt n)
  | 0 => mkDef0 (n := 0) F hm bd sc__law_spoilt fun _ => rfl
  | n + 1 => by
    have G__law_spoilt := D__law_spoilt T F hm bd G__law_take G__law_odd n
    exact mkDef (k := 4 + n) F hm bd sc__law_spoilt rfl rfl (fun cdv A outer s H E W hr _ hcls => by
      subst hcls
      have sc := sc__law_spoilt
      exact (ss_cons (s_if (PW.pt (w_or (t_not (t_tru (dB (d_bN cr_isi cn_isi rfl T.n_isinstance boot_isinstance' (a_cons (d_var 1) (a_cons (d_tup (a_cons (d_ty rfl T.n_tuple boot_tuple') (a_cons (d_ty rfl T.n_list boot_list') a_nil))) a_nil)))))) (w_or (t_cmp (op_eqD (r64 hr)) rt_eq (d_b1 cr_len c1_len rfl T.n_len boot_len' (d_bor 1)) (dB d_int) rfl) (w_or (t_cmp (op_eqD (r64 hr)) rt_eq (d_var 2) (dB d_int) rfl) (w_or1 (t_cmp (op_eqD (r64 hr)) rt_eq (d_callI 0 (Def.mono G__law_take (by omega)) (fun _ => rfl) hr rfl (a_cons d_int a_nil)) (dB d_int) rfl))))))
      (ss_one (s_ret (d_callI 0 (Def.mono G__law_odd (by omega)) (fun _ => rfl) hr rfl a_nil)))
      ss_nil)
      (ss_cons (s_setO 3 (d_t1O (cr_list rfl) c1_list rfl T.n_list boot_list' (d_bor 1)) sc.nd)
      (ss_cons (s_set 4 (d_callI 0 (Def.mono G__law_take (by omega)) (fun _ => rfl) hr rfl (a_cons (d_b1 cr_len c1_len rfl T.n_len boot_len' (d_bor 3)) a_nil)) sc.nd)
      (ss_cons (s_set 5 (d_callI 0 (Def.mono G__law_take (by omega)) (fun _ => rfl) hr rfl (a_cons d_int a_nil)) sc.nd)
      (ss_cons (s_if (t_cmp (op_eqD (r64 hr)) rt_eq (d_var 5) (dB d_int) rfl)
      (ss_one (s_setO 3 (d_binO op_cat rn_cat (d_slcV 3 p_none (p_some (d_var 4))) (dB (d_slcV 3 (p_some (d_bin op_plusA rb_plusA (d_var 4) (dB d_int))) p_none))) sc.nd))
      (ss_one (s_if (t_cmp (op_eqD (r64 hr)) rt_eq (d_var 5) (dB d_int) rfl)
      (ss_one (s_setO 3 (d_binO op_cat rn_cat (d_slcV 3 p_none (p_some (d_bin op_plusA rb_plusA (d_var 4) (dB d_int)))) (dB (d_slcV 3 (p_some (d_var 4)) p_none))) sc.nd))
      (ss_one (s_if (t_cmp (op_eqD (r64 hr)) rt_eq (d_var 5) (dB d_int) rfl)
      (ss_one (s_ret (d_if (t_tru (dB (d_bN cr_isi cn_isi rfl T.n_isinstance boot_isinstance' (a_cons (d_var 1) (a_cons (d_ty rfl T.n_tuple boot_tuple') a_nil))))) (dF (d_t1O (cr_list rfl) c1_list rfl T.n_list boot_list' (d_bor 3))) (d_t1 call_tuple_of c1_tuple rfl T.n_tuple boot_tuple' (d_bor 3)))))
      (ss_one (s_if (t_cmp (op_eqD (r64 hr)) rt_eq (d_var 5) (dB d_int) rfl)
      (ss_one (s_setO 3 (d_binO op_cat rn_cat (d_bin op_plusA rb_plusA (d_slcV 3 p_none (p_some (d_var 4))) (dB (d_rev (d_slcV 3 (p_some (d_var 4)) (p_some (d_bin op_plusA rb_plusA (d_var 4) (dB d_int))))))) (dB (d_slcV 3 (p_some (d_bin op_plusA rb_plusA (d_var 4) (dB d_int))) p_none))) sc.nd))
      (ss_one (s_setL 3 (d_callI 0 (Def.mono G__law_spoilt (by omega)) (fun _ => rfl) hr rfl (a_cons (d_subV 3 (r1 hr) (d_var 4)) (a_cons (d_bin op_sub rb_sub (d_var 2) (dB d_int)) a_nil))) (d_var 4))))))))))
      (ss_one (s_ret (d_if (t_tru (dB (d_bN cr_isi cn_isi rfl T.n_isinstance boot_isinstance' (a_cons (d_var 1) (a_cons (d_ty rfl T.n_tuple boot_tuple') a_nil))))) (d_t1 call_tuple_of c1_tuple rfl T.n_tuple boot_tuple' (d_bor 3)) (d_frz 3))))))))))
abbrev st__law_strange : Stmt := top 24
theorem sc__law_strange : FnScope ["thing", "names", "found", "row", "one"] ["thing", "names"] (defScope st__law_strange) := ⟨rfl, rfl, rfl, by decide +kernel, rfl, by decide +kernel, by decide +kernel⟩
theorem D__law_strange {P : Program} {w : World} {K : PySem.W.Frag} {mg : Str → Option Value} {base : Heap} {cls : Str → Value} (T : TX mg) {f : Addr} {fd : FuncData} (F : Fun K "_law_strange" "_law_strange" st__law_strange f fd) (hm : mg "_law_strange" = some (.ref f)) (bd : Binds K fd ["thing", "names"] [])  : Def P w K mg base CX0 1 "_law_strange" cls false true 2 fs__law_strange := by
  exact mkDef (k := 0) F hm bd sc__law_strange rfl rfl (fun cdv A outer s H E W hr _ hcls => by
    subst hcls
    have sc := sc__law_strange
    exact (ss_cons (s_set 2 (dF (d_lst a_nil)) sc.nd)
    (ss_cons (s_for PassesOwn.never rfl (i_seq (d_var 0)) (g_name 3 sc.nd)
    (ss_one (s_set 2 (d_bin op_plusA rb_plusA (d_var 2) (dB (dF (d_lc [("one", 4)] rfl sc.nd (i_seq (d_sub (r1 hr) (d_var 3) d_int)) (blkOk_by (N := ["thing", "names", "found", "row", "one"]) (sc := defScope st__law_strange) (by decide +kernel)) (by decide) (fun _ _ _ _ _ => (g_name 4 sc.nd)) (fun _ _ _ _ _ => (ts_one (t_cmp (op_notin' (r65 hr)) rt_notin (d_var 4) (d_bor 1) rfl))) (fun _ _ _ _ _ => (d_var 4)))))) sc.nd)))
    (ss_one (s_ret (d_var 2))))))
abbrev st__law_are_courses : Stmt := top 25
theorem sc__law_are_courses : FnScope ["thing", "names", "name", "weight", "needs", "one"] ["thing"] (defScope st__law_are_courses) := ⟨rfl, rfl, rfl, by decide +kernel, rfl, by decide +kernel, by decide +kernel⟩
theorem D__law_are_courses {P : Program} {w : World} {K : PySem.W.Frag} {mg : Str → Option Value} {base : Heap} {cls : Str → Value} (T : TX mg) {f : Addr} {fd : FuncData} (F : Fun K "_law_are_courses" "_law_are_courses" st__law_are_courses f fd) (hm : mg "_law_are_courses" = some (.ref f)) (bd : Binds K fd ["thing"] []) (G__law_are_rows : Def P w K mg base CX0 1 "_law_are_rows" cls false true 3 fs__law_are_rows) (G__law_rising : Def P w K mg base CX0 1 "_law_rising" cls false true 1 fs__law_rising) (G__law_strange : Def P w K mg base CX0 1 "_law_strange" cls false true 2 fs__law_strange) (G__law_is_name : Def P w K mg base CX0 1 "_law_is_name" cls false true 1 fs__law_is_name) (G__law_from : Def P w K mg base CX0 1 "_law_from" cls false true 3 fs__law_from) (G__law_needed : Def P w K mg base CX0 1 "_law_needed" cls false true 2 fs__law_needed) : Def P w K mg base CX0 2 "_law_are_courses" cls false true 1 fs__law_are_courses := by
  exact mkDef (k := 1) F hm bd sc__law_are_courses rfl rfl (fun cdv A outer s H E W hr _ hcls => by
    subst hcls
    have sc := sc__law_are_courses
    exact (ss_cons (s_if (t_not (t_tru (dB (d_call (Def.mono G__law_are_rows (by decide)) (fun _ => rfl) hr rfl (a_cons (d_var 0) (a_cons d_int (a_cons d_int a_nil)))))))
    (ss_one (s_ret d_bl))
    ss_nil)
    (ss_cons (s_for PassesOwn.never rfl (i_seq (d_var 0)) (g_tup rfl (gs_cons (g_name 2 sc.nd) (gs_cons (g_name 3 sc.nd) (gs_cons (g_name 4 sc.nd) gs_nil))))
    (ss_cons (s_if (PW.pt (w_or (t_not (t_tru (dB (d_call (Def.mono G__law_is_name (by decide)) (fun _ => rfl) hr rfl (a_cons (d_var 2) a_nil))))) (w_or (t_not (t_tru (dB (d_call (Def.mono G__law_from (by decide)) (fun _ => rfl) hr rfl (a_cons (d_var 3) (a_cons d_int (a_cons d_int a_nil))))))) (w_or1 (t_not (t_tru (dB (d_bN cr_isi cn_isi rfl T.n_isinstance boot_isinstance' (a_cons (d_var 4) (a_cons (d_ty rfl T.n_tuple boot_tuple') a_nil))))))))))
    (ss_one (s_ret d_bl))
    ss_nil)
    (ss_one (s_if (PW.pt (w_or (t_cmp (op_neD (r64 hr)) rt_ne (dF (d_lc [("one", 5)] rfl sc.nd (i_seq (d_var 4)) (blkOk_by (N := ["thing", "names", "name", "weight", "needs", "one"]) (sc := defScope st__law_are_courses) (by decide +kernel)) (by decide) (fun _ _ _ _ _ => (g_name 5 sc.nd)) (fun _ _ _ _ _ => (ts_one (t_not (t_tru (dB (d_call (Def.mono G__law_is_name (by decide)) (fun _ => rfl) hr rfl (a_cons (d_var 5) a_nil))))))) (fun _ _ _ _ _ => (d_var 5)))) (dB (dF (d_lst a_nil))) rfl) (w_or1 (t_not (t_tru (dB (d_call (Def.mono G__law_rising (by decide)) (fun _ => rfl) hr rfl (a_cons (d_var 4) a_nil))))))))
    (ss_one (s_ret d_bl))
    ss_nil))))
    (ss_cons (s_setLcF 1 [("one", 5)] rfl sc.nd (i_seq (d_var 0)) (blkOk_by (N := ["thing", "names", "name", "weight", "needs", "one"]) (sc := defScope st__law_are_courses) (by decide +kernel)) (by decide) (fun _ _ _ _ _ => (g_name 5 sc.nd)) (fun _ _ _ _ _ => ts_nil) (fun _ _ _ _ _ => (d_sub (r1 hr) (d_var 5) d_int)) (sw_true rfl rfl rfl (by decide +kernel)))
    (ss_cons (s_if (PW.pt (w_or (t_not (t_tru (dB (d_call (Def.mono G__law_rising (by decide)) (fun _ => rfl) hr rfl (a_cons (d_var 1) a_nil))))) (w_or1 (t_cmp (op_neD (r64 hr)) rt_ne (d_call (Def.mono G__law_strange (by decide)) (fun _ => rfl) hr rfl (a_cons (d_var 0) (a_cons (d_var 1) a_nil))) (dB (dF (d_lst a_nil))) rfl))))
    (ss_one (s_ret d_bl))
    ss_nil)
    (ss_one (s_ret (d_cmp (op_eqD (r64 hr)) rt_eq (dF (d_lc [("name", 2)] rfl sc.nd (i_seq (d_var 1)) (blkOk_by (N := ["thing", "names", "name", "weight", "needs", "one"]) (sc := defScope st__law_are_courses) (by decide +kernel)) (by decide) (fun _ _ _ _ _ => (g_name 2 sc.nd)) (fun _ _ _ _ _ => (ts_one (t_cmp (op_in' (r65 hr)) rt_in (d_var 2) (dB (d_call (Def.mono G__law_needed (by decide)) (fun _ => rfl) hr rfl (a_cons (d_var 0) (a_cons (d_var 2) a_nil)))) rfl))) (fun _ _ _ _ _ => (d_var 2)))) (dB (dF (d_lst a_nil))) rfl))))))))
abbrev st_law : Stmt := top 26
theorem sc_law : FnScope ["script", "many", "k", "bag", "courses", "thing", "turn", "more", "ringed", "name", "at"] ["script"] (defScope st_law) := ⟨rfl, rfl, rfl, by decide +kernel, rfl, by decide +kernel, by decide +kernel⟩
theorem D_law {P : Program} {w : World} {K : PySem.W.Frag} {mg : Str → Option Value} {base : Heap} {cls : Str → Value} (T : TX mg) {f : Addr} {fd : FuncData} (F : Fun K "law" "law" st_law f fd) (G__law_bag : Def P w K mg base CX0 1 "_law_bag" cls false true 2 fs__law_bag) (G__law_courses : Def P w K mg base CX0 3 "_law_courses" cls true true 2 fs__law_courses) (G_are_courses : Def P w K mg base CX0 3 "are_courses" cls false true 1 fs_are_courses) (G__law_spoilt : Def P w K mg base CX0 10 "_law_spoilt" cls true true 3 (fs__law_spoilt 6)) (G__law_take : Def P w K mg base CX0 1 "_law_take" cls true true 2 fs__law_take) (G__law_same : Def P w K mg base CX0 1 "_law_same" cls false true 2 fs__law_same) (G__law_of : Def P w K mg base CX0 2 "_law_of" cls true true 2 fs__law_of) (G__law_are_courses : Def P w K mg base CX0 2 "_law_are_courses" cls false true 1 fs__law_are_courses) : FnOk P w K mg base CX0 11 f fd ["script"] (spF K cls false true 1 fs_law) := by
  exact mkFn (k := 10) F sc_law rfl rfl (fun cdv A outer s H E W hr _ hcls => by
    subst hcls
    have sc := sc_law
    exact (ss_cons (s_set 1 (d_t1 call_tuple_of c1_tuple rfl T.n_tuple boot_tuple' (dB (dF (d_lc [("at", 10)] rfl sc.nd (i_range1 rfl T.n_range (a_cons d_int a_nil)) (blkOk_by (N := ["script", "many", "k", "bag", "courses", "thing", "turn", "more", "ringed", "name", "at"]) (sc := defScope st_law) (by decide +kernel)) (by decide) (fun _ _ _ _ _ => (g_name 10 sc.nd)) (fun _ _ _ _ _ => ts_nil) (fun _ _ _ _ _ => (d_tup (a_cons (d_sub (r1 hr) d_str (d_var 10)) (a_cons d_int (a_cons (d_tup a_nil) a_nil))))))))) sc.nd)
    (ss_cons (s_if (PW.pt (w_or (t_cmp op_isnot rt_isnot (d_call (Def.mono G_are_courses (by decide)) (fun _ => rfl) hr rfl (a_cons (d_var 1) a_nil)) (dB d_bl) rfl) (w_or (t_cmp op_isnot rt_isnot (d_call (Def.mono G_are_courses (by decide)) (fun _ => rfl) hr rfl (a_cons (d_slc (d_var 1) p_none (p_some d_int)) a_nil)) (dB d_bl) rfl) (w_or1 (t_cmp op_isnot rt_isnot (d_call (Def.mono G_are_courses (by decide)) (fun _ => rfl) hr rfl (a_cons (d_tup a_nil) a_nil)) (dB d_bl) rfl)))))
    (ss_one (s_ret d_bl))
    ss_nil)
    (ss_cons (s_for PassesOwn.never rfl (i_range1 rfl T.n_range (a_cons (d_bin op_plusA rb_plusA (d_bN (call_min2 rfl) cn_min2 rfl T.n_min boot_min' (a_cons (d_b1 cr_len c1_len rfl T.n_len boot_len' (d_bor 0)) (a_cons d_int a_nil))) (dB d_int)) a_nil)) (g_name 2 sc.nd)
    (ss_cons (s_setO 3 (d_callO (Def.mono G__law_bag (by decide)) (fun _ => rfl) hr rfl (a_cons (d_var 0) (a_cons (d_var 2) a_nil))) sc.nd)
    (ss_cons (s_set 4 (d_callI 3 (Def.mono G__law_courses (by decide)) (fun _ => rfl) hr rfl (a_cons d_int a_nil)) sc.nd)
    (ss_cons (s_if (t_cmp (op_neD (r64 hr)) rt_ne (d_var 4) (dB (d_tup a_nil)) rfl)
    (ss_cons (s_par2 9 10 rfl sc.nd (z_F (d_sub (r1 hr) (d_callI 3 (Def.mono G__law_of (by decide)) (fun _ => rfl) hr rfl (a_cons (d_var 4) a_nil)) d_int) (z_F (d_callI 3 (Def.mono G__law_take (by decide)) (fun _ => rfl) hr rfl (a_cons (d_b1 cr_len c1_len rfl T.n_len boot_len' (d_bor 4)) a_nil)) z_nil)))
    (ss_cons (s_set 7 (d_bin op_plusA rb_plusA (d_slc (d_sub (r1 hr) (d_var 4) (d_var 10)) p_none (p_some d_int)) (dB (d_tup (a_cons (d_t1 call_tuple_of c1_tuple rfl T.n_tuple boot_tuple' (dB (dF (d_sortedSet rfl (r69 hr) rfl T.n_sorted boot_sorted' rfl T.n_set boot_set' (dB (d_bin op_plusA rb_plusA (d_sub (r1 hr) (d_sub (r1 hr) (d_var 4) (d_var 10)) d_int) (dB (d_tup (a_cons (d_var 9) a_nil))))))))) a_nil)))) sc.nd)
    (ss_cons (s_set 8 (d_bin op_plusA rb_plusA (d_bin op_plusA rb_plusA (d_slc (d_var 4) p_none (p_some (d_var 10))) (dB (d_tup (a_cons (d_var 7) a_nil)))) (dB (d_slc (d_var 4) (p_some (d_bin op_plusA rb_plusA (d_var 10) (dB d_int))) p_none))) sc.nd)
    (ss_one (s_if (t_not (t_tru (dB (d_call (Def.mono G__law_same (by decide)) (fun _ => rfl) hr rfl (a_cons (d_call (Def.mono G_are_courses (by decide)) (fun _ => rfl) hr rfl (a_cons (d_var 8) a_nil)) (a_cons (d_call (Def.mono G__law_are_courses (by decide)) (fun _ => rfl) hr rfl (a_cons (d_var 8) a_nil)) a_nil))))))
    (ss_one (s_ret d_bl))
    ss_nil)))))
    ss_nil)
    (ss_cons (s_set 5 (d_var 4) sc.nd)
    (ss_one (s_for PassesOwn.never rfl (i_range1 rfl T.n_range (a_cons d_int a_nil)) (g_name 6 sc.nd)
    (ss_cons (s_if (t_not (t_tru (dB (d_call (Def.mono G__law_same (by decide)) (fun _ => rfl) hr rfl (a_cons (d_call (Def.mono G_are_courses (by decide)) (fun _ => rfl) hr rfl (a_cons (d_var 5) a_nil)) (a_cons (d_call (Def.mono G__law_are_courses (by decide)) (fun _ => rfl) hr rfl (a_cons (d_var 5) a_nil)) a_nil))))))
    (ss_one (s_ret d_bl))
    ss_nil)
    (ss_one (s_set 5 (d_callI 3 (Def.mono G__law_spoilt (by decide)) (fun _ => rfl) hr rfl (a_cons (d_var 5) (a_cons d_int a_nil))) sc.nd))))))))))
    (ss_one (s_ret d_bl))))))
theorem all_mk {l : PySem.W.OpenLaw} {w : World} {K : PySem.W.Frag} {h : Heap} {mg : Str → Option Value} {fa : Addr} (X : K.In h) (G : h.Ns mainGlobals mg) (hfa : mg "law" = some (.ref fa))
    {f0 f1 f2 f3 f4 f5 f6 f7 f8 f9 f10 f11 f12 f13 f14 f15 f16 f17 f18 f19 f20 f21 f22 : Addr} {od0 an0 od1 an1 od2 an2 od3 an3 od4 an4 od5 an5 od6 an6 od7 an7 od8 an8 od9 an9 od10 an10 od11 an11 od12 an12 od13 an13 od14 an14 od15 an15 od16 an16 od17 an17 od18 an18 od19 an19 od20 an20 od21 an21 od22 an22 : Option Addr} {sl0 sl1 sl2 sl3 sl4 sl5 sl6 sl7 sl8 sl9 sl10 sl11 sl12 sl13 sl14 sl15 sl16 sl17 sl18 sl19 sl20 sl21 sl22 : Array (Option Value)} {oc0 kV0 dc0 pm0 cd0 ct0 oc1 kV1 dc1 pm1 cd1 ct1 oc2 kV2 dc2 pm2 cd2 ct2 oc3 kV3 dc3 pm3 cd3 ct3 oc4 kV4 dc4 pm4 cd4 ct4 oc5 kV5 dc5 pm5 cd5 ct5 oc6 kV6 dc6 pm6 cd6 ct6 oc7 kV7 dc7 pm7 cd7 ct7 oc8 kV8 dc8 pm8 cd8 ct8 oc9 kV9 dc9 pm9 cd9 ct9 oc10 kV10 dc10 pm10 cd10 ct10 oc11 kV11 dc11 pm11 cd11 ct11 oc12 kV12 dc12 pm12 cd12 ct12 oc13 kV13 dc13 pm13 cd13 ct13 oc14 kV14 dc14 pm14 cd14 ct14 oc15 kV15 dc15 pm15 cd15 ct15 oc16 kV16 dc16 pm16 cd16 ct16 oc17 kV17 dc17 pm17 cd17 ct17 oc18 kV18 dc18 pm18 cd18 ct18 oc19 kV19 dc19 pm19 cd19 ct19 oc20 kV20 dc20 pm20 cd20 ct20 oc21 kV21 dc21 pm21 cd21 ct21 oc22 kV22 dc22 pm22 cd22 ct22 : Value}
    (a0 : PySem.W.nsIn K mainGlobals "is_from" = some (some (.ref f0))) (l0 : K.lookup f0 = some ⟨oc0, od0, .func (PySem.W.fnOf "is_from" "is_from" (defArgs st_is_from) (defBody st_is_from) (defScope st_is_from) .none kV0 dc0 pm0 an0 cd0 ct0), sl0⟩) (c0 : PySem.W.codeIn K cd0 "is_from" = true) (k0 : PySem.W.keepIn K (.ref f0) = true)
    (a1 : PySem.W.nsIn K mainGlobals "is_name" = some (some (.ref f1))) (l1 : K.lookup f1 = some ⟨oc1, od1, .func (PySem.W.fnOf "is_name" "is_name" (defArgs st_is_name) (defBody st_is_name) (defScope st_is_name) .none kV1 dc1 pm1 an1 cd1 ct1), sl1⟩) (c1 : PySem.W.codeIn K cd1 "is_name" = true) (k1 : PySem.W.keepIn K (.ref f1) = true)
    (a2 : PySem.W.nsIn K mainGlobals "rises" = some (some (.ref f2))) (l2 : K.lookup f2 = some ⟨oc2, od2, .func (PySem.W.fnOf "rises" "rises" (defArgs st_rises) (defBody st_rises) (defScope st_rises) .none kV2 dc2 pm2 an2 cd2 ct2), sl2⟩) (c2 : PySem.W.codeIn K cd2 "rises" = true) (k2 : PySem.W.keepIn K (.ref f2) = true)
    (a3 : PySem.W.nsIn K mainGlobals "are_rows" = some (some (.ref f3))) (l3 : K.lookup f3 = some ⟨oc3, od3, .func (PySem.W.fnOf "are_rows" "are_rows" (defArgs st_are_rows) (defBody st_are_rows) (defScope st_are_rows) .none kV3 dc3 pm3 an3 cd3 ct3), sl3⟩) (c3 : PySem.W.codeIn K cd3 "are_rows" = true) (k3 : PySem.W.keepIn K (.ref f3) = true)
    (a4 : PySem.W.nsIn K mainGlobals "is_course" = some (some (.ref f4))) (l4 : K.lookup f4 = some ⟨oc4, od4, .func (PySem.W.fnOf "is_course" "is_course" (defArgs st_is_course) (defBody st_is_course) (defScope st_is_course) .none kV4 dc4 pm4 an4 cd4 ct4), sl4⟩) (c4 : PySem.W.codeIn K cd4 "is_course" = true) (k4 : PySem.W.keepIn K (.ref f4) = true)
    (a5 : PySem.W.nsIn K mainGlobals "needs_of" = some (some (.ref f5))) (l5 : K.lookup f5 = some ⟨oc5, od5, .func (PySem.W.fnOf "needs_of" "needs_of" (defArgs st_needs_of) (defBody st_needs_of) (defScope st_needs_of) .none kV5 dc5 pm5 an5 cd5 ct5), sl5⟩) (c5 : PySem.W.codeIn K cd5 "needs_of" = true) (k5 : PySem.W.keepIn K (.ref f5) = true)
    (a6 : PySem.W.nsIn K mainGlobals "all_ahead" = some (some (.ref f6))) (l6 : K.lookup f6 = some ⟨oc6, od6, .func (PySem.W.fnOf "all_ahead" "all_ahead" (defArgs st_all_ahead) (defBody st_all_ahead) (defScope st_all_ahead) .none kV6 dc6 pm6 an6 cd6 ct6), sl6⟩) (c6 : PySem.W.codeIn K cd6 "all_ahead" = true) (k6 : PySem.W.keepIn K (.ref f6) = true)
    (a7 : PySem.W.nsIn K mainGlobals "are_courses" = some (some (.ref f7))) (l7 : K.lookup f7 = some ⟨oc7, od7, .func (PySem.W.fnOf "are_courses" "are_courses" (defArgs st_are_courses) (defBody st_are_courses) (defScope st_are_courses) .none kV7 dc7 pm7 an7 cd7 ct7), sl7⟩) (c7 : PySem.W.codeIn K cd7 "are_courses" = true) (k7 : PySem.W.keepIn K (.ref f7) = true)
    (a8 : PySem.W.nsIn K mainGlobals "_law_bag" = some (some (.ref f8))) (l8 : K.lookup f8 = some ⟨oc8, od8, .func (PySem.W.fnOf "_law_bag" "_law_bag" (defArgs st__law_bag) (defBody st__law_bag) (defScope st__law_bag) .none kV8 dc8 pm8 an8 cd8 ct8), sl8⟩) (c8 : PySem.W.codeIn K cd8 "_law_bag" = true) (k8 : PySem.W.keepIn K (.ref f8) = true)
    (a9 : PySem.W.nsIn K mainGlobals "_law_take" = some (some (.ref f9))) (l9 : K.lookup f9 = some ⟨oc9, od9, .func (PySem.W.fnOf "_law_take" "_law_take" (defArgs st__law_take) (defBody st__law_take) (defScope st__law_take) .none kV9 dc9 pm9 an9 cd9 ct9), sl9⟩) (c9 : PySem.W.codeIn K cd9 "_law_take" = true) (k9 : PySem.W.keepIn K (.ref f9) = true)
    (a10 : PySem.W.nsIn K mainGlobals "_law_of" = some (some (.ref f10))) (l10 : K.lookup f10 = some ⟨oc10, od10, .func (PySem.W.fnOf "_law_of" "_law_of" (defArgs st__law_of) (defBody st__law_of) (defScope st__law_of) .none kV10 dc10 pm10 an10 cd10 ct10), sl10⟩) (c10 : PySem.W.codeIn K cd10 "_law_of" = true) (k10 : PySem.W.keepIn K (.ref f10) = true)
    (a11 : PySem.W.nsIn K mainGlobals "_law_same" = some (some (.ref f11))) (l11 : K.lookup f11 = some ⟨oc11, od11, .func (PySem.W.fnOf "_law_same" "_law_same" (defArgs st__law_same) (defBody st__law_same) (defScope st__law_same) .none kV11 dc11 pm11 an11 cd11 ct11), sl11⟩) (c11 : PySem.W.codeIn K cd11 "_law_same" = true) (k11 : PySem.W.keepIn K (.ref f11) = true)
    (a12 : PySem.W.nsIn K mainGlobals "_law_from" = some (some (.ref f12))) (l12 : K.lookup f12 = some ⟨oc12, od12, .func (PySem.W.fnOf "_law_from" "_law_from" (defArgs st__law_from) (defBody st__law_from) (defScope st__law_from) .none kV12 dc12 pm12 an12 cd12 ct12), sl12⟩) (c12 : PySem.W.codeIn K cd12 "_law_from" = true) (k12 : PySem.W.keepIn K (.ref f12) = true)
    (a13 : PySem.W.nsIn K mainGlobals "_law_is_name" = some (some (.ref f13))) (l13 : K.lookup f13 = some ⟨oc13, od13, .func (PySem.W.fnOf "_law_is_name" "_law_is_name" (defArgs st__law_is_name) (defBody st__law_is_name) (defScope st__law_is_name) .none kV13 dc13 pm13 an13 cd13 ct13), sl13⟩) (c13 : PySem.W.codeIn K cd13 "_law_is_name" = true) (k13 : PySem.W.keepIn K (.ref f13) = true)
    (a14 : PySem.W.nsIn K mainGlobals "_law_rising" = some (some (.ref f14))) (l14 : K.lookup f14 = some ⟨oc14, od14, .func (PySem.W.fnOf "_law_rising" "_law_rising" (defArgs st__law_rising) (defBody st__law_rising) (defScope st__law_rising) .none kV14 dc14 pm14 an14 cd14 ct14), sl14⟩) (c14 : PySem.W.codeIn K cd14 "_law_rising" = true) (k14 : PySem.W.keepIn K (.ref f14) = true)
    (a15 : PySem.W.nsIn K mainGlobals "_law_are_rows" = some (some (.ref f15))) (l15 : K.lookup f15 = some ⟨oc15, od15, .func (PySem.W.fnOf "_law_are_rows" "_law_are_rows" (defArgs st__law_are_rows) (defBody st__law_are_rows) (defScope st__law_are_rows) .none kV15 dc15 pm15 an15 cd15 ct15), sl15⟩) (c15 : PySem.W.codeIn K cd15 "_law_are_rows" = true) (k15 : PySem.W.keepIn K (.ref f15) = true)
    (a16 : PySem.W.nsIn K mainGlobals "_law_courses" = some (some (.ref f16))) (l16 : K.lookup f16 = some ⟨oc16, od16, .func (PySem.W.fnOf "_law_courses" "_law_courses" (defArgs st__law_courses) (defBody st__law_courses) (defScope st__law_courses) .none kV16 dc16 pm16 an16 cd16 ct16), sl16⟩) (c16 : PySem.W.codeIn K cd16 "_law_courses" = true) (k16 : PySem.W.keepIn K (.ref f16) = true)
    (a17 : PySem.W.nsIn K mainGlobals "_law_needed" = some (some (.ref f17))) (l17 : K.lookup f17 = some ⟨oc17, od17, .func (PySem.W.fnOf "_law_needed" "_law_needed" (defArgs st__law_needed) (defBody st__law_needed) (defScope st__law_needed) .none kV17 dc17 pm17 an17 cd17 ct17), sl17⟩) (c17 : PySem.W.codeIn K cd17 "_law_needed" = true) (k17 : PySem.W.keepIn K (.ref f17) = true)
    (a18 : PySem.W.nsIn K mainGlobals "_law_odd" = some (some (.ref f18))) (l18 : K.lookup f18 = some ⟨oc18, od18, .func (PySem.W.fnOf "_law_odd" "_law_odd" (defArgs st__law_odd) (defBody st__law_odd) (defScope st__law_odd) .none kV18 dc18 pm18 an18 cd18 ct18), sl18⟩) (c18 : PySem.W.codeIn K cd18 "_law_odd" = true) (k18 : PySem.W.keepIn K (.ref f18) = true)
    (a19 : PySem.W.nsIn K mainGlobals "_law_spoilt" = some (some (.ref f19))) (l19 : K.lookup f19 = some ⟨oc19, od19, .func (PySem.W.fnOf "_law_spoilt" "_law_spoilt" (defArgs st__law_spoilt) (defBody st__law_spoilt) (defScope st__law_spoilt) .none kV19 dc19 pm19 an19 cd19 ct19), sl19⟩) (c19 : PySem.W.codeIn K cd19 "_law_spoilt" = true) (k19 : PySem.W.keepIn K (.ref f19) = true)
    (a20 : PySem.W.nsIn K mainGlobals "_law_strange" = some (some (.ref f20))) (l20 : K.lookup f20 = some ⟨oc20, od20, .func (PySem.W.fnOf "_law_strange" "_law_strange" (defArgs st__law_strange) (defBody st__law_strange) (defScope st__law_strange) .none kV20 dc20 pm20 an20 cd20 ct20), sl20⟩) (c20 : PySem.W.codeIn K cd20 "_law_strange" = true) (k20 : PySem.W.keepIn K (.ref f20) = true)
    (a21 : PySem.W.nsIn K mainGlobals "_law_are_courses" = some (some (.ref f21))) (l21 : K.lookup f21 = some ⟨oc21, od21, .func (PySem.W.fnOf "_law_are_courses" "_law_are_courses" (defArgs st__law_are_courses) (defBody st__law_are_courses) (defScope st__law_are_courses) .none kV21 dc21 pm21 an21 cd21 ct21), sl21⟩) (c21 : PySem.W.codeIn K cd21 "_law_are_courses" = true) (k21 : PySem.W.keepIn K (.ref f21) = true)
    (a22 : PySem.W.nsIn K mainGlobals "law" = some (some (.ref f22))) (l22 : K.lookup f22 = some ⟨oc22, od22, .func (PySem.W.fnOf "law" "law" (defArgs st_law) (defBody st_law) (defScope st_law) .none kV22 dc22 pm22 an22 cd22 ct22), sl22⟩) (c22 : PySem.W.codeIn K cd22 "law" = true) (k22 : PySem.W.keepIn K (.ref f22) = true)
    {t_MOST_COURSES : Tok} (g_MOST_COURSES : PySem.W.nsIn K mainGlobals "MOST_COURSES" = some (some (.int 10 t_MOST_COURSES)))
    (z_all : PySem.W.nsIn K mainGlobals "all" = some none)
    (z_bool : PySem.W.nsIn K mainGlobals "bool" = some none)
    (z_dict : PySem.W.nsIn K mainGlobals "dict" = some none)
    (z_int : PySem.W.nsIn K mainGlobals "int" = some none)
    (z_isinstance : PySem.W.nsIn K mainGlobals "isinstance" = some none)
    (z_len : PySem.W.nsIn K mainGlobals "len" = some none)
    (z_list : PySem.W.nsIn K mainGlobals "list" = some none)
    (z_min : PySem.W.nsIn K mainGlobals "min" = some none)
    (z_range : PySem.W.nsIn K mainGlobals "range" = some none)
    (z_set : PySem.W.nsIn K mainGlobals "set" = some none)
    (z_sorted : PySem.W.nsIn K mainGlobals "sorted" = some none)
    (z_str : PySem.W.nsIn K mainGlobals "str" = some none)
    (z_tuple : PySem.W.nsIn K mainGlobals "tuple" = some none)
    (z_zip : PySem.W.nsIn K mainGlobals "zip" = some none)
    : ∃ fd : FuncData, (∀ (s : Shared) (v : Value), BindsTo s fd ⟨[v], []⟩ [("script", v)]) ∧ ∀ base : Heap, K.In base → base.Ns mainGlobals mg → FnOk l.prog w K mg base CX0 11 fa fd ["script"] (spF K noCls false true 1 fs_law) := by
  have e := hfa.symm.trans (PySem.W.mg_of X G a22)
  cases e
  have T : TX mg := ⟨PySem.W.mg_none_of X G z_all, PySem.W.mg_none_of X G z_bool, PySem.W.mg_none_of X G z_dict, PySem.W.mg_none_of X G z_int, PySem.W.mg_none_of X G z_isinstance, PySem.W.mg_none_of X G z_len, PySem.W.mg_none_of X G z_list, PySem.W.mg_none_of X G z_min, PySem.W.mg_none_of X G z_range, PySem.W.mg_none_of X G z_set, PySem.W.mg_none_of X G z_sorted, PySem.W.mg_none_of X G z_str, PySem.W.mg_none_of X G z_tuple, PySem.W.mg_none_of X G z_zip, ⟨_, PySem.W.mg_of X G g_MOST_COURSES⟩⟩
  refine ⟨PySem.W.fnOf "law" "law" (defArgs st_law) (defBody st_law) (defScope st_law) .none kV22 dc22 pm22 an22 cd22 ct22, fun s v => .of_eq rfl, fun base _ _ => ?_⟩
  have F8 := fun_mk (st := st__law_bag) l8 c8 k8
  have b8 := F8.binds (ps := ["script", "k"]) fun _ _ _ _ _ _ us hl => match us, hl with | [_, _], _ => rfl
  have G__law_bag := D__law_bag (P := l.prog) (w := w) (base := base) (cls := noCls) T F8 (PySem.W.mg_of X G a8) b8 
  have F9 := fun_mk (st := st__law_take) l9 c9 k9
  have b9 := F9.binds (ps := ["bag", "count"]) fun _ _ _ _ _ _ us hl => match us, hl with | [_, _], _ => rfl
  have G__law_take := D__law_take (P := l.prog) (w := w) (base := base) (cls := noCls) T F9 (PySem.W.mg_of X G a9) b9 
  have F10 := fun_mk (st := st__law_of) l10 c10 k10
  have b10 := F10.binds (ps := ["bag", "some"]) fun _ _ _ _ _ _ us hl => match us, hl with | [_, _], _ => rfl
  have G__law_of := D__law_of (P := l.prog) (w := w) (base := base) (cls := noCls) T F10 (PySem.W.mg_of X G a10) b10 G__law_take
  have F16 := fun_mk (st := st__law_courses) l16 c16 k16
  have b16 := F16.binds (ps := ["bag", "most"]) fun _ _ _ _ _ _ us hl => match us, hl with | [_, _], _ => rfl
  have G__law_courses := D__law_courses (P := l.prog) (w := w) (base := base) (cls := noCls) T F16 (PySem.W.mg_of X G a16) b16 G__law_take G__law_of
  have F5 := fun_mk (st := st_needs_of) l5 c5 k5
  have b5 := F5.binds (ps := ["courses"]) fun _ _ _ _ _ _ us hl => match us, hl with | [_], _ => rfl
  have G_needs_of := D_needs_of (P := l.prog) (w := w) (base := base) (cls := noCls) T F5 (PySem.W.mg_of X G a5) b5 
  have F3 := fun_mk (st := st_are_rows) l3 c3 k3
  have b3 := F3.binds (ps := ["thing", "most", "many"]) fun _ _ _ _ _ _ us hl => match us, hl with | [_, _, _], _ => rfl
  have G_are_rows := D_are_rows (P := l.prog) (w := w) (base := base) (cls := noCls) T F3 (PySem.W.mg_of X G a3) b3 
  have F2 := fun_mk (st := st_rises) l2 c2 k2
  have b2 := F2.binds (ps := ["some"]) fun _ _ _ _ _ _ us hl => match us, hl with | [_], _ => rfl
  have G_rises := D_rises (P := l.prog) (w := w) (base := base) (cls := noCls) T F2 (PySem.W.mg_of X G a2) b2 
  have F6 := fun_mk (st := st_all_ahead) l6 c6 k6
  have b6 := F6.binds (ps := ["needs", "name"]) fun _ _ _ _ _ _ us hl => match us, hl with | [_, _], _ => rfl
  have G_all_ahead := D_all_ahead (P := l.prog) (w := w) (base := base) (cls := noCls) T F6 (PySem.W.mg_of X G a6) b6 
  have F1 := fun_mk (st := st_is_name) l1 c1 k1
  have b1 := F1.binds (ps := ["thing"]) fun _ _ _ _ _ _ us hl => match us, hl with | [_], _ => rfl
  have G_is_name := D_is_name (P := l.prog) (w := w) (base := base) (cls := noCls) T F1 (PySem.W.mg_of X G a1) b1 
  have F0 := fun_mk (st := st_is_from) l0 c0 k0
  have b0 := F0.binds (ps := ["thing", "low", "high"]) fun _ _ _ _ _ _ us hl => match us, hl with | [_, _, _], _ => rfl
  have G_is_from := D_is_from (P := l.prog) (w := w) (base := base) (cls := noCls) T F0 (PySem.W.mg_of X G a0) b0 
  have F4 := fun_mk (st := st_is_course) l4 c4 k4
  have b4 := F4.binds (ps := ["thing"]) fun _ _ _ _ _ _ us hl => match us, hl with | [_], _ => rfl
  have G_is_course := D_is_course (P := l.prog) (w := w) (base := base) (cls := noCls) T F4 (PySem.W.mg_of X G a4) b4 G_rises G_is_name G_is_from
  have F7 := fun_mk (st := st_are_courses) l7 c7 k7
  have b7 := F7.binds (ps := ["thing"]) fun _ _ _ _ _ _ us hl => match us, hl with | [_], _ => rfl
  have G_are_courses := D_are_courses (P := l.prog) (w := w) (base := base) (cls := noCls) T F7 (PySem.W.mg_of X G a7) b7 G_needs_of G_are_rows G_rises G_all_ahead G_is_course
  have F18 := fun_mk (st := st__law_odd) l18 c18 k18
  have b18 := F18.binds (ps := ["bag"]) fun _ _ _ _ _ _ us hl => match us, hl with | [_], _ => rfl
  have G__law_odd := D__law_odd (P := l.prog) (w := w) (base := base) (cls := noCls) T F18 (PySem.W.mg_of X G a18) b18 G__law_of
  have F19 := fun_mk (st := st__law_spoilt) l19 c19 k19
  have b19 := F19.binds (ps := ["bag", "thing", "deep"]) fun _ _ _ _ _ _ us hl => match us, hl with | [_, _, _], _ => rfl
  have G__law_spoilt := D__law_spoilt (P := l.prog) (w := w) (base := base) (cls := noCls) T F19 (PySem.W.mg_of X G a19) b19 G__law_take G__law_odd 6
  have F11 := fun_mk (st := st__law_same) l11 c11 k11
  have b11 := F11.binds (ps := ["one", "other"]) fun _ _ _ _ _ _ us hl => match us, hl with | [_, _], _ => rfl
  have G__law_same := D__law_same (P := l.prog) (w := w) (base := base) (cls := noCls) T F11 (PySem.W.mg_of X G a11) b11 
  have F15 := fun_mk (st := st__law_are_rows) l15 c15 k15
  have b15 := F15.binds (ps := ["thing", "most", "many"]) fun _ _ _ _ _ _ us hl => match us, hl with | [_, _, _], _ => rfl
  have G__law_are_rows := D__law_are_rows (P := l.prog) (w := w) (base := base) (cls := noCls) T F15 (PySem.W.mg_of X G a15) b15 
  have F14 := fun_mk (st := st__law_rising) l14 c14 k14
  have b14 := F14.binds (ps := ["some"]) fun _ _ _ _ _ _ us hl => match us, hl with | [_], _ => rfl
  have G__law_rising := D__law_rising (P := l.prog) (w := w) (base := base) (cls := noCls) T F14 (PySem.W.mg_of X G a14) b14 
  have F20 := fun_mk (st := st__law_strange) l20 c20 k20
  have b20 := F20.binds (ps := ["thing", "names"]) fun _ _ _ _ _ _ us hl => match us, hl with | [_, _], _ => rfl
  have G__law_strange := D__law_strange (P := l.prog) (w := w) (base := base) (cls := noCls) T F20 (PySem.W.mg_of X G a20) b20 
  have F13 := fun_mk (st := st__law_is_name) l13 c13 k13
  have b13 := F13.binds (ps := ["thing"]) fun _ _ _ _ _ _ us hl => match us, hl with | [_], _ => rfl
  have G__law_is_name := D__law_is_name (P := l.prog) (w := w) (base := base) (cls := noCls) T F13 (PySem.W.mg_of X G a13) b13 
  have F12 := fun_mk (st := st__law_from) l12 c12 k12
  have b12 := F12.binds (ps := ["thing", "low", "high"]) fun _ _ _ _ _ _ us hl => match us, hl with | [_, _, _], _ => rfl
  have G__law_from := D__law_from (P := l.prog) (w := w) (base := base) (cls := noCls) T F12 (PySem.W.mg_of X G a12) b12 
  have F17 := fun_mk (st := st__law_needed) l17 c17 k17
  have b17 := F17.binds (ps := ["courses", "name"]) fun _ _ _ _ _ _ us hl => match us, hl with | [_, _], _ => rfl
  have G__law_needed := D__law_needed (P := l.prog) (w := w) (base := base) (cls := noCls) T F17 (PySem.W.mg_of X G a17) b17 
  have F21 := fun_mk (st := st__law_are_courses) l21 c21 k21
  have b21 := F21.binds (ps := ["thing"]) fun _ _ _ _ _ _ us hl => match us, hl with | [_], _ => rfl
  have G__law_are_courses := D__law_are_courses (P := l.prog) (w := w) (base := base) (cls := noCls) T F21 (PySem.W.mg_of X G a21) b21 G__law_are_rows G__law_rising G__law_strange G__law_is_name G__law_from G__law_needed
  have F22 := fun_mk (st := st_law) l22 c22 k22
  exact D_law (P := l.prog) (w := w) (base := base) (cls := noCls) T F22 G__law_bag G__law_courses G_are_courses G__law_spoilt G__law_take G__law_same G__law_of G__law_are_courses
end Y

set_option Elab.async false
set_option linter.all false
set_option maxRecDepth 100000
set_option maxHeartbeats 4000000
namespace Y
open PySem PySem.Spec PyProof.Rows L2
theorem sz0 : (0 ≤ sizeLine) = True := eq_true (by decide)
theorem sz1 : (1 ≤ sizeLine) = True := eq_true (by decide)
theorem sz2 : (2 ≤ sizeLine) = True := eq_true (by decide)
theorem sz3 : (3 ≤ sizeLine) = True := eq_true (by decide)
theorem sz4 : (4 ≤ sizeLine) = True := eq_true (by decide)
theorem sz5 : (5 ≤ sizeLine) = True := eq_true (by decide)
/-! ### the bag of draws -/
def BagOk (b : D) : Prop := ∃ c s : Int, b = .nd .lst [.int c, .int s] ∧ 0 ≤ c ∧ 0 ≤ s ∧ s < 2147483647
theorem take_ok {b : D} (h : BagOk b) {n : Int} (h1 : 0 < n) (h2 : n < 1073741824) : ∃ r b', fs__law_take [b, .int n] = .val false (.int r) (some b') ∧ BagOk b' ∧ 0 ≤ r ∧ r < n := by
  obtain ⟨c, s, rfl, hc, hs, hs2⟩ := h
  by_cases c0 : 0 < c
  · refine ⟨c % n, .nd .lst [.int (c / n), .int s], ?_, ⟨_, _, rfl, ?_, hs, hs2⟩, Int.emod_nonneg _ (by omega), Int.emod_lt_of_pos _ h1⟩
    · simp [fs__law_take, m__law_take, runF, argS, finF, outs, sSeq, sq, bnd, lift, sVar, sBor, sFrz, sMov, sC, sBin, sCmp, sChain, sTru, tru, sAndT, sOrT, sNotT, sAndV, sOrV, sNotV, sIf, sNil, sCons, sMk, s1, sN, sNx, sDrop, sRet, sRetO, sIfS, sSet, sSetO, sAsg, sPut, ownD, chg, ownL, isLst, sMeth, sIxV, bor, sCall, sCallO, sCallI, sCallIO, gSetL, ixN, dIx, atI, dGt, cmpI, dMod, dDiv, dMul, dPlus, dAdd, dSub, dNeg, dLt, dLen', dLen, sSlc, sSlcV, sPt, sNoPt, sIt, itD, sRg, rg1, hName, hTup, hCons, hNil, sFor, List.replicate, sPar2, pO, pF, pNil, noB, sIsiV, isTy, tyN, isA, sCmpV, sz0, sz1, sz2, sz3, sz4, sz5, c0, h1, h2]
    · exact Int.ediv_nonneg hc (by omega)
  · have q0 := Int.emod_nonneg (s * 48271) (b := 2147483647) (by decide)
    have q1 := Int.emod_lt_of_pos (s * 48271) (b := 2147483647) (by decide)
    have p0 := Int.emod_nonneg (s * 48271 % 2147483647) (b := 32749) (by decide)
    have p1 := Int.emod_lt_of_pos (s * 48271 % 2147483647) (b := 32749) (by decide)
    refine ⟨(s * 48271 % 2147483647) / 13 * (s * 48271 % 2147483647 % 32749 + 17) % 2147483629 / 32 % n, .nd .lst [.int c, .int (s * 48271 % 2147483647)], ?_, ⟨_, _, rfl, hc, q0, q1⟩, Int.emod_nonneg _ (by omega), Int.emod_lt_of_pos _ h1⟩
    have e2 : (-18446744073709551616 < s * 48271 % 2147483647 / 13 ∧ s * 48271 % 2147483647 / 13 < 18446744073709551616) := by constructor <;> omega
    simp [fs__law_take, m__law_take, runF, argS, finF, outs, sSeq, sq, bnd, lift, sVar, sBor, sFrz, sMov, sC, sBin, sCmp, sChain, sTru, tru, sAndT, sOrT, sNotT, sAndV, sOrV, sNotV, sIf, sNil, sCons, sMk, s1, sN, sNx, sDrop, sRet, sRetO, sIfS, sSet, sSetO, sAsg, sPut, ownD, chg, ownL, isLst, sMeth, sIxV, bor, sCall, sCallO, sCallI, sCallIO, gSetL, ixN, dIx, atI, dGt, cmpI, dMod, dDiv, dMul, dPlus, dAdd, dSub, dNeg, dLt, dLen', dLen, sSlc, sSlcV, sPt, sNoPt, sIt, itD, sRg, rg1, hName, hTup, hCons, hNil, sFor, List.replicate, sPar2, pO, pF, pNil, noB, sIsiV, isTy, tyN, isA, sCmpV, sz0, sz1, sz2, sz3, sz4, sz5, c0, h1, h2, e2]
def big : Int := 10 ^ 60
theorem pow60 : dPow (.int 10) (.int 60) = some (.int big) := by
  unfold dPow big
  exact if_pos (by decide)
theorem pow18 : dPow (.int 10) (.int 18) = some (.int 1000000000000000000) := by
  unfold dPow
  exact if_pos (by decide)
theorem big_pos : 0 < big := by
  unfold big
  exact Int.pow_pos (by decide)
theorem seq_ok {a b : En → R Fl} {ρ ρ1 : En} (h : a ρ = .ok .nx ρ1) : sSeq a b ρ = b ρ1 := by
  unfold sSeq
  rw [h]
  rfl
def seedOf (c k : Int) : Int := 1 + (c % 2147483629 * 16807 + 40009 * k * k + 7919 * k + 1009) % 2147483645
theorem seed_ok (c k : Int) : 0 ≤ seedOf c k ∧ seedOf c k < 2147483647 := by
  unfold seedOf
  constructor <;> omega
theorem bag_s3 (x : Option S) (y : D) (k c : Int) (e1 : -18446744073709551616 < k ∧ k < 18446744073709551616) : (sSet 3 (sBin dPlus (sC (.int 1)) (sBin dMod (sBin dPlus (sBin dPlus (sBin dPlus (sBin dMul (sBin dMod (sVar 2) (sC (.int 2147483629))) (sC (.int 16807))) (sBin dMul (sBin dMul (sC (.int 40009)) (sBor 1)) (sBor 1))) (sBin dMul (sC (.int 7919)) (sBor 1))) (sC (.int 1009))) (sC (.int 2147483645))))) [x, some (.f (.int k)), some (.f (.int c)), none] = .ok .nx [x, some (.f (.int k)), some (.f (.int c)), some (.f (.int (seedOf c k)))] := by
  simp [seedOf, runF, argS, finF, outs, sSeq, sq, bnd, lift, sVar, sBor, sFrz, sMov, sC, sBin, sCmp, sChain, sTru, tru, sAndT, sOrT, sNotT, sAndV, sOrV, sNotV, sIf, sNil, sCons, sMk, s1, sN, sNx, sDrop, sRet, sRetO, sIfS, sSet, sSetO, sAsg, sPut, ownD, chg, ownL, isLst, sMeth, sIxV, bor, sCall, sCallO, sCallI, sCallIO, gSetL, ixN, dIx, atI, dGt, cmpI, dMod, dDiv, dMul, dPlus, dAdd, dSub, dNeg, dLt, dLen', dLen, sSlc, sSlcV, sPt, sNoPt, sIt, itD, sRg, rg1, hName, hTup, hCons, hNil, sFor, List.replicate, sPar2, pO, pF, pNil, noB, sIsiV, isTy, tyN, isA, sCmpV, sz0, sz1, sz2, sz3, sz4, sz5, e1]
theorem bag_s4 (x y : Option S) (c s : Int) : (sSeq (sIfS (sBin dLt (sVar 2) (sBin dPow (sC (.int 10)) (sC (.int 18))))
  (sRetO (sMk .lst (sCons (sC (.int 0)) (sCons (sVar 3) sNil))))
  sNx)
  (sRetO (sMk .lst (sCons (sVar 2) (sCons (sVar 3) sNil))))) [x, y, some (.f (.int c)), some (.f (.int s))] = .ok (.ro (.nd .lst [.int (if c < 1000000000000000000 then 0 else c), .int s])) [x, y, some (.f (.int c)), some (.f (.int s))] := by
  by_cases h : c < 1000000000000000000
  · simp [runF, argS, finF, outs, sSeq, sq, bnd, lift, sVar, sBor, sFrz, sMov, sC, sBin, sCmp, sChain, sTru, tru, sAndT, sOrT, sNotT, sAndV, sOrV, sNotV, sIf, sNil, sCons, sMk, s1, sN, sNx, sDrop, sRet, sRetO, sIfS, sSet, sSetO, sAsg, sPut, ownD, chg, ownL, isLst, sMeth, sIxV, bor, sCall, sCallO, sCallI, sCallIO, gSetL, ixN, dIx, atI, dGt, cmpI, dMod, dDiv, dMul, dPlus, dAdd, dSub, dNeg, dLt, dLen', dLen, sSlc, sSlcV, sPt, sNoPt, sIt, itD, sRg, rg1, hName, hTup, hCons, hNil, sFor, List.replicate, sPar2, pO, pF, pNil, noB, sIsiV, isTy, tyN, isA, sCmpV, sz0, sz1, sz2, sz3, sz4, sz5, pow18, h]
  · simp [runF, argS, finF, outs, sSeq, sq, bnd, lift, sVar, sBor, sFrz, sMov, sC, sBin, sCmp, sChain, sTru, tru, sAndT, sOrT, sNotT, sAndV, sOrV, sNotV, sIf, sNil, sCons, sMk, s1, sN, sNx, sDrop, sRet, sRetO, sIfS, sSet, sSetO, sAsg, sPut, ownD, chg, ownL, isLst, sMeth, sIxV, bor, sCall, sCallO, sCallI, sCallIO, gSetL, ixN, dIx, atI, dGt, cmpI, dMod, dDiv, dMul, dPlus, dAdd, dSub, dNeg, dLt, dLen', dLen, sSlc, sSlcV, sPt, sNoPt, sIt, itD, sRg, rg1, hName, hTup, hCons, hNil, sFor, List.replicate, sPar2, pO, pF, pNil, noB, sIsiV, isTy, tyN, isA, sCmpV, sz0, sz1, sz2, sz3, sz4, sz5, pow18, h]
theorem bag_ok (ns : List Int) (k : Nat) (hk : k ≤ 1000) : ∃ b, fs__law_bag [.nd .scr (ns.map D.int), .int k] = .val true b none ∧ BagOk b := by
  have e1 : (-18446744073709551616 < (k : Int) ∧ (k : Int) < 18446744073709551616) := by constructor <;> omega
  have bp := big_pos
  have fin : ∀ c : Int, 0 ≤ c → (sIfS (sBin dLt (sVar 1) (s1 dLen' (sBor 0)))
  (sSet 2 (sBin dMod (sBin dIx (sVar 0) (sVar 1)) (sBin dPow (sC (.int 10)) (sC (.int 60)))))
  sNx) [some (.f (.nd .scr (ns.map D.int))), some (.f (.int k)), some (.f (.int 0)), none] = .ok .nx [some (.f (.nd .scr (ns.map D.int))), some (.f (.int k)), some (.f (.int c)), none] → ∃ b, fs__law_bag [.nd .scr (ns.map D.int), .int k] = .val true b none ∧ BagOk b := by
    intro c hc h
    refine ⟨.nd .lst [.int (if c < 1000000000000000000 then 0 else c), .int (seedOf c k)], ?_, _, _, rfl, ?_, seed_ok c k⟩
    · have e : m__law_bag [some (.f (.nd .scr (ns.map D.int))), some (.f (.int k)), none, none] = .ok (.ro (.nd .lst [.int (if c < 1000000000000000000 then 0 else c), .int (seedOf c k)])) [some (.f (.nd .scr (ns.map D.int))), some (.f (.int k)), some (.f (.int c)), some (.f (.int (seedOf c k)))] := by
        unfold m__law_bag
        refine (seq_ok (ρ1 := [some (.f (.nd .scr (ns.map D.int))), some (.f (.int k)), some (.f (.int 0)), none]) rfl).trans ?_
        refine (seq_ok h).trans ?_
        refine (seq_ok (bag_s3 _ .non _ _ e1)).trans ?_
        exact bag_s4 _ _ _ _
      show finF false (m__law_bag _) = _
      rw [show (argS false [.nd .scr (ns.map D.int), .int k] ++ List.replicate (4 - 2) none : En) = [some (.f (.nd .scr (ns.map D.int))), some (.f (.int k)), none, none] from rfl, e]
      rfl
    · split <;> omega
  by_cases h : k < ns.length
  · exact fin (ns[k] % big) (Int.emod_nonneg _ (by omega)) (by simp [runF, argS, finF, outs, sSeq, sq, bnd, lift, sVar, sBor, sFrz, sMov, sC, sBin, sCmp, sChain, sTru, tru, sAndT, sOrT, sNotT, sAndV, sOrV, sNotV, sIf, sNil, sCons, sMk, s1, sN, sNx, sDrop, sRet, sRetO, sIfS, sSet, sSetO, sAsg, sPut, ownD, chg, ownL, isLst, sMeth, sIxV, bor, sCall, sCallO, sCallI, sCallIO, gSetL, ixN, dIx, atI, dGt, cmpI, dMod, dDiv, dMul, dPlus, dAdd, dSub, dNeg, dLt, dLen', dLen, sSlc, sSlcV, sPt, sNoPt, sIt, itD, sRg, rg1, hName, hTup, hCons, hNil, sFor, List.replicate, sPar2, pO, pF, pNil, noB, sIsiV, isTy, tyN, isA, sCmpV, sz0, sz1, sz2, sz3, sz4, sz5, pow60, bp, h])
  · exact fin 0 (Int.le_refl _) (by simp [runF, argS, finF, outs, sSeq, sq, bnd, lift, sVar, sBor, sFrz, sMov, sC, sBin, sCmp, sChain, sTru, tru, sAndT, sOrT, sNotT, sAndV, sOrV, sNotV, sIf, sNil, sCons, sMk, s1, sN, sNx, sDrop, sRet, sRetO, sIfS, sSet, sSetO, sAsg, sPut, ownD, chg, ownL, isLst, sMeth, sIxV, bor, sCall, sCallO, sCallI, sCallIO, gSetL, ixN, dIx, atI, dGt, cmpI, dMod, dDiv, dMul, dPlus, dAdd, dSub, dNeg, dLt, dLen', dLen, sSlc, sSlcV, sPt, sNoPt, sIt, itD, sRg, rg1, hName, hTup, hCons, hNil, sFor, List.replicate, sPar2, pO, pF, pNil, noB, sIsiV, isTy, tyN, isA, sCmpV, sz0, sz1, sz2, sz3, sz4, sz5, h])
end Y

set_option Elab.async false
set_option linter.all false
set_option maxRecDepth 100000
set_option maxHeartbeats 4000000
namespace Y
open PySem PySem.Spec PyProof.Rows L2 PySem.W
/-! ### loops -/
theorem forL_inv {g : D → En → Option En} {b : En → R Fl} (I : Nat → En → Prop) : ∀ (ds : List D) (j : Nat) (ρ : En), I j ρ → (∀ i d ρ, ds[i]? = some d → I (j + i) ρ → ∃ ρ1 ρ2, g d ρ = some ρ1 ∧ b ρ1 = .ok .nx ρ2 ∧ I (j + i + 1) ρ2) → ∃ ρ', forL g b ds ρ = .ok .nx ρ' ∧ I (j + ds.length) ρ'
  | [], j, ρ, h, _ => ⟨ρ, rfl, h⟩
  | d :: ds, j, ρ, h, st => by
    obtain ⟨ρ1, ρ2, e1, e2, h2⟩ := st 0 d ρ rfl h
    obtain ⟨ρ', e3, h3⟩ := forL_inv I ds (j + 1) ρ2 h2 fun i d ρ e q => by
      have := st (i + 1) d ρ (by simpa using e) (by rw [show j + (i + 1) = j + 1 + i by omega]; exact q)
      rw [show j + (i + 1) + 1 = j + 1 + i + 1 by omega] at this
      exact this
    refine ⟨ρ', ?_, by rw [List.length_cons, show j + (ds.length + 1) = j + 1 + ds.length by omega]; exact h3⟩
    unfold forL
    rw [e1]
    dsimp only
    rw [e2]
    exact e3
theorem lcL_inv {g : D → En → Option En} {t : En → R Bool} {e : En → R D} {vs : List Nat} (I : Nat → En → List D → Prop) : ∀ (ds : List D) (j : Nat) (ρ : En) (acc : List D), I j ρ acc → acc.length + ds.length ≤ sizeLine →
    (∀ i d ρ acc, ds[i]? = some d → I (j + i) ρ acc → ∃ ρ1 b ρ2, g d ρ = some ρ1 ∧ t ρ1 = .ok b ρ2 ∧ if b = true then ∃ x ρ3, e ρ2 = .ok x ρ3 ∧ I (j + i + 1) (wipeE vs ρ3) (acc ++ [x]) else I (j + i + 1) (wipeE vs ρ2) acc) →
    ∃ acc' ρ', lcL g t e vs ds ρ acc = .ok (.nd .lst acc') ρ' ∧ I (j + ds.length) ρ' acc'
  | [], j, ρ, acc, h, _, _ => ⟨acc, ρ, rfl, h⟩
  | d :: ds, j, ρ, acc, h, hl, st => by
    have st' : ∀ i d ρ acc, ds[i]? = some d → I (j + 1 + i) ρ acc → ∃ ρ1 b ρ2, g d ρ = some ρ1 ∧ t ρ1 = .ok b ρ2 ∧ if b = true then ∃ x ρ3, e ρ2 = .ok x ρ3 ∧ I (j + 1 + i + 1) (wipeE vs ρ3) (acc ++ [x]) else I (j + 1 + i + 1) (wipeE vs ρ2) acc := fun i d ρ acc e q => by
      have := st (i + 1) d ρ acc (by simpa using e) (by rw [show j + (i + 1) = j + 1 + i by omega]; exact q)
      rw [show j + (i + 1) + 1 = j + 1 + i + 1 by omega] at this
      exact this
    rw [List.length_cons] at hl
    obtain ⟨ρ1, b, ρ2, e1, e2, h2⟩ := st 0 d ρ acc rfl h
    unfold lcL
    simp only [e1, e2, noX, bnd]
    cases b with
    | true =>
      obtain ⟨x, ρ3, e3, h3⟩ := h2
      obtain ⟨acc', ρ', e4, h4⟩ := lcL_inv I ds (j + 1) _ _ h3 (by rw [List.length_append, List.length_singleton]; omega) st'
      simp only [e3, noX, bnd, if_true, if_pos (show acc.length < sizeLine by omega)]
      exact ⟨acc', ρ', e4, by rw [List.length_cons, show j + (ds.length + 1) = j + 1 + ds.length by omega]; exact h4⟩
    | false =>
      obtain ⟨acc', ρ', e4, h4⟩ := lcL_inv I ds (j + 1) _ _ h2 (by omega) st'
      exact ⟨acc', ρ', e4, by rw [List.length_cons, show j + (ds.length + 1) = j + 1 + ds.length by omega]; exact h4⟩
/-! ### names -/
abbrev nD (l : List Str) : List D := l.map D.str
abbrev tD (l : List Str) : D := .nd .tup (nD l)
abbrev lD (l : List Str) : D := .nd .lst (nD l)
def NmsOk (l : List Str) : Prop := ∀ s ∈ l, strG s = true
theorem dok_str {s : Str} (h : strG s = true) : dok (.str s) = true := by simp [dok, okD, h, py, PyData.depth]
theorem likeD_names {l : List Str} (h : NmsOk l) : likeD (nD l) = true := by
  unfold likeD
  simp only [Bool.and_eq_true, Bool.or_eq_true, List.all_eq_true, List.mem_map]
  refine ⟨?_, ?_, .inr ?_⟩
  · rintro a ⟨s, _, rfl⟩ b ⟨s', _, rfl⟩
    simp [py, alike]
  · rintro a ⟨s, hs, rfl⟩
    exact dok_str (h s hs)
  · rintro a ⟨s, _, rfl⟩
    rfl
def srt (l : List Str) : List Str := l.mergeSort fun a b => leD (.str a) (.str b)
theorem srt_map (l : List Str) : (nD l).mergeSort leD = nD (srt l) := (sort_maps (r := fun a b => leD (.str a) (.str b)) (s := leD) D.str fun _ _ _ _ => rfl).symm
theorem srt_perm (l : List Str) : (srt l).Perm l := List.mergeSort_perm _ _
theorem sortD_names {l : List Str} (h : NmsOk l) (hl : l.length ≤ sizeLine) : sortD (nD l) = some (lD (srt l)) := by
  unfold sortD
  rw [if_pos ⟨likeD_names h, by rw [List.length_map]; exact hl⟩, srt_map]
theorem inj_str {a b : Str} (h : D.str a = D.str b) : a = b := by cases h; rfl
theorem map_inj_str : ∀ {l m : List Str}, nD l = nD m → l = m
  | [], [], _ => rfl
  | a :: l, b :: m, h => by
    have h1 : D.str a = D.str b := (List.cons.inj h).1
    have h2 : nD l = nD m := (List.cons.inj h).2
    rw [inj_str h1, map_inj_str h2]
  | [], _ :: _, h => by cases h
  | _ :: _, [], h => by cases h
theorem srt_same {l m : List Str} (p : l.Perm m) : srt l = srt m := by
  apply map_inj_str
  rw [← srt_map, ← srt_map]
  refine sort_same (p.map _) ?_
  intro a ha b hb h1 h2
  obtain ⟨s, _, rfl⟩ := List.mem_map.mp ha
  obtain ⟨s', _, rfl⟩ := List.mem_map.mp hb
  simp only [leD_str, decide_eq_true_eq] at h1 h2
  rw [str_ext (List.le_antisymm h1 h2)]
theorem keysD_names : ∀ l : List Str, keysD (nD l) = some (l.map Sum.inr)
  | [] => rfl
  | s :: l => by
    show (match keyD (D.str s), keysD (nD l) with | some k, some ks => some (k :: ks) | _, _ => none) = _
    rw [keysD_names l]
    rfl
/-- each once -/
def ddS : List Str → List Str
  | [] => []
  | s :: l => if (l.any fun x => decide (x = s)) = true then ddS l else s :: ddS l
theorem ddS_map : ∀ l : List Str, dedupK (l.map Sum.inr) = (ddS l).map Sum.inr
  | [] => rfl
  | s :: l => by
    have e : inKs (l.map (Sum.inr : Str → Key)) (Sum.inr s) = l.any fun x => decide (x = s) := by
      unfold inKs
      rw [List.any_map]
      congr 1
      funext x
      exact key_rr x s
    show (if inKs (l.map Sum.inr) (Sum.inr s) = true then dedupK (l.map Sum.inr) else Sum.inr s :: dedupK (l.map Sum.inr)) = _
    have e3 : ddS (s :: l) = if (l.any fun x => decide (x = s)) = true then ddS l else s :: ddS l := rfl
    rw [e, ddS_map l, e3]
    split <;> rfl
theorem mem_ddS {l : List Str} {s : Str} : s ∈ ddS l ↔ s ∈ l := by
  induction l with
  | nil => exact Iff.rfl
  | cons a l ih =>
    unfold ddS
    split
    · rename_i h
      rw [ih, List.mem_cons]
      refine ⟨.inr, fun z => z.elim (fun e => ?_) id⟩
      obtain ⟨x, h1, h2⟩ := List.any_eq_true.mp h
      rw [e, ← of_decide_eq_true h2]; exact h1
    · rw [List.mem_cons, List.mem_cons, ih]
theorem nodup_ddS : ∀ l : List Str, (ddS l).Nodup
  | [] => List.nodup_nil
  | a :: l => by
    unfold ddS
    split
    · exact nodup_ddS l
    · rename_i h
      refine List.nodup_cons.mpr ⟨fun z => h ?_, nodup_ddS l⟩
      exact List.any_eq_true.mpr ⟨a, mem_ddS.mp z, decide_eq_true rfl⟩
theorem sortSet_names {k : Kd} {l : List Str} (hk : k = .lst ∨ k = .tup) (h : NmsOk l) (hl : l.length + 1 < scanBound) : dSortSet (.nd k (nD l)) = some (lD (srt (ddS l))) := by
  have e1 : (l.map (Sum.inr : Str → Key)).map kD = nD l := by rw [List.map_map]; rfl
  have e2 : ((ddS l).map (Sum.inr : Str → Key)).map kD = nD (ddS l) := by rw [List.map_map]; rfl
  have e : (match keysD (nD l) with
    | some ks => if likeD (ks.map kD) = true ∧ ks.length + 1 < scanBound then some (sortKs ks) else none
    | none => none) = some (lD (srt (ddS l))) := by
    rw [keysD_names]
    dsimp only
    rw [if_pos ⟨by rw [e1]; exact likeD_names h, by rw [List.length_map]; exact hl⟩]
    unfold sortKs
    rw [ddS_map, e2, srt_map]
  rcases hk with rfl | rfl
  · exact e
  · exact e
theorem perm_same {l m : List Str} (h1 : l.Nodup) (h2 : m.Nodup) (h : ∀ s, s ∈ l ↔ s ∈ m) : l.Perm m := (List.perm_ext_iff_of_nodup h1 h2).mpr h
theorem dok_names {l : List Str} (h : NmsOk l) : okDs (nD l) = true ∧ PyData.depthAll (pys (nD l)) = 0 := by
  induction l with
  | nil => exact ⟨rfl, rfl⟩
  | cons a l ih =>
    obtain ⟨h1, h2⟩ := ih fun s m => h s (List.mem_cons_of_mem _ m)
    have ha : okD (.str a) = true := h a List.mem_cons_self
    constructor
    · show (okD (.str a) && okDs (nD l)) = true
      rw [ha, h1]; rfl
    · show max (PyData.depth (py (.str a))) (PyData.depthAll (pys (nD l))) = 0
      rw [h2]
      simp [py, PyData.depth]
theorem dok_lst {l : List Str} (h : NmsOk l) : dok (lD l) = true := by
  obtain ⟨h1, h2⟩ := dok_names h
  have e : okD (lD l) = okDs (nD l) := by simp [okD]
  have e2 : (py (lD l)).depth = 1 := by
    have : py (lD l) = .list (pys (nD l)) := by simp [py]
    rw [this]
    simp only [PyData.depth]
    rw [h2]
  unfold dok
  rw [e, h1, e2]
  rfl
theorem dEq_self {d : D} (h : dok d = true) : dEq d d = some true := by
  unfold dEq
  rw [if_pos ⟨h, h⟩, SeqAt.eqv_refl _ (canLay_ok d (okD_dok h).1)]
theorem dNe_self {d : D} (h : dok d = true) : dNe d d = some false := by
  unfold dNe
  rw [if_pos ⟨h, h⟩, SeqAt.eqv_refl _ (canLay_ok d (okD_dok h).1)]
  rfl
theorem eqv_str {a b : Str} : PyData.eqv (py (.str a)) (py (.str b)) = decide (a = b) := by
  simp only [py, PyData.eqv]
  by_cases h : a = b
  · subst h; simp
  · simp [h]
theorem any_names (l : List Str) (s : Str) : ((nD l).any fun z => PyData.eqv (py z) (py (.str s))) = decide (s ∈ l) := by
  rw [List.any_map]
  have : ∀ x, ((fun z => PyData.eqv (py z) (py (.str s))) ∘ D.str) x = decide (x = s) := fun x => eqv_str
  rw [Bool.eq_iff_iff, List.any_eq_true, decide_eq_true_eq]
  constructor
  · rintro ⟨x, hx, e⟩
    rw [this] at e
    rw [← of_decide_eq_true e]; exact hx
  · intro h
    exact ⟨s, h, by rw [this]; simp⟩
/-- s in names -/
theorem dIn_lst {l : List Str} {s : Str} (h : NmsOk l) (hs : strG s = true) : dIn (.str s) (lD l) = some (decide (s ∈ l)) := by
  have e : dIn (.str s) (lD l) = if dok (.str s) = true ∧ dok (lD l) = true then some ((nD l).any fun z => PyData.eqv (py z) (py (.str s))) else none := rfl
  rw [e, if_pos ⟨dok_str hs, dok_lst h⟩, any_names]
end Y

set_option Elab.async false
set_option linter.all false
set_option maxRecDepth 100000
set_option maxHeartbeats 4000000
namespace Y
open PySem PySem.Spec PyProof.Rows L2 PySem.W
/-! ### courses -/
abbrev Rows := List (Str × Int × List Str)
def rowD (r : Str × Int × List Str) : D := .nd .tup [.str r.1, .int r.2.1, tD r.2.2]
def coursesD (R : Rows) : D := .nd .tup (R.map rowD)
def nms (R : Rows) : List Str := R.map (·.1)
structure RowsOk (R : Rows) : Prop where
  nd : (nms R).Nodup
  len : R.length ≤ 10
  ok : NmsOk (nms R)
  sub : ∀ r ∈ R, ∀ s ∈ r.2.2, s ∈ nms R
  few : ∀ r ∈ R, r.2.2.length ≤ 10
def nb (R : Rows) (s : Str) : List Str := match R.find? (fun r => decide (r.1 = s)) with
  | some r => r.2.2
  | none => []
def dictD (R : Rows) : D := .nd (.dK ((nms R).map Sum.inr)) (R.map fun r => tD r.2.2)
theorem nb_sub {R : Rows} (ok : RowsOk R) {s x : Str} (h : x ∈ nb R s) : x ∈ nms R := by
  unfold nb at h
  split at h
  · rename_i r e
    exact ok.sub r (List.mem_of_find?_eq_some e) x h
  · cases h
theorem nb_few {R : Rows} (ok : RowsOk R) (s : Str) : (nb R s).length ≤ 10 := by
  unfold nb
  split
  · rename_i r e
    exact ok.few r (List.mem_of_find?_eq_some e)
  · exact Nat.zero_le _
theorem nb_ok {R : Rows} (ok : RowsOk R) (s : Str) : NmsOk (nb R s) := fun x h => ok.ok x (nb_sub ok h)
theorem get_needs : ∀ {R : Rows} {s : Str}, s ∈ nms R → getK ((nms R).map (Sum.inr : Str → Key)) (R.map fun r => tD r.2.2) (Sum.inr s) = some (tD (nb R s))
  | r :: R, s, h => by
    by_cases e : r.1 = s
    · have e1 : nb (r :: R) s = r.2.2 := by simp [nb, e]
      rw [e1]
      simp [getK, nms, e]
    · have e1 : nb (r :: R) s = nb R s := by simp [nb, e]
      rw [e1]
      have h' : s ∈ nms R := by
        rcases List.mem_cons.mp (show s ∈ r.1 :: nms R from h) with z | z
        · exact absurd z.symm e
        · exact z
      have e2 : getK ((nms (r :: R)).map (Sum.inr : Str → Key)) ((r :: R).map fun r => tD r.2.2) (Sum.inr s) = getK ((nms R).map (Sum.inr : Str → Key)) (R.map fun r => tD r.2.2) (Sum.inr s) := by
        have : ¬ (Sum.inr r.1 : Key) = Sum.inr s := fun z => e (Sum.inr.inj z)
        simp [getK, nms, this]
      rw [e2]
      exact get_needs h'
theorem ix_needs {R : Rows} {s : Str} (h : s ∈ nms R) : dIx (dictD R) (.str s) = some (tD (nb R s)) := by
  have : dIx (dictD R) (.str s) = (lookD (dictD R) (.str s)).bind id := rfl
  rw [this]
  show (some (getK ((nms R).map (Sum.inr : Str → Key)) (R.map fun r => tD r.2.2) (Sum.inr s))).bind id = _
  rw [get_needs h]
  rfl
/-- what needs of needs are -/
structure Rch (R : Rows) (s : Str) (F : List Str) : Prop where
  nd : F.Nodup
  st : ∀ x ∈ nb R s, x ∈ F
  cl : ∀ x ∈ F, ∀ y ∈ nb R x, y ∈ F
  mi : ∀ T : Str → Prop, (∀ x ∈ nb R s, T x) → (∀ x, T x → ∀ y ∈ nb R x, T y) → ∀ x ∈ F, T x
theorem Rch.same {R : Rows} {s : Str} {F G : List Str} (f : Rch R s F) (g : Rch R s G) : srt F = srt G :=
  srt_same (perm_same f.nd g.nd fun x => ⟨fun h => f.mi (· ∈ G) g.st g.cl x h, fun h => g.mi (· ∈ F) f.st f.cl x h⟩)
theorem Rch.names {R : Rows} (ok : RowsOk R) {s : Str} {F : List Str} (f : Rch R s F) : ∀ x ∈ F, x ∈ nms R := f.mi (· ∈ nms R) (fun x h => nb_sub ok h) fun x _ y h => nb_sub ok h
theorem sub_len : ∀ {l m : List Str}, l.Nodup → (∀ x ∈ l, x ∈ m) → l.length ≤ m.length
  | [], _, _, _ => Nat.zero_le _
  | a :: l, m, nd, h => by
    have nd' := List.nodup_cons.mp nd
    have ha : a ∈ m := h a List.mem_cons_self
    have ih := sub_len (l := l) (m := m.erase a) nd'.2 fun x hx => (List.mem_erase_of_ne (fun (e : x = a) => nd'.1 (by rw [← e]; exact hx))).mpr (h x (List.mem_cons_of_mem _ hx))
    rw [List.length_erase_of_mem ha] at ih
    have := List.length_pos_of_mem ha
    rw [List.length_cons]; omega
/-! ### the walk -/
def foundD (F : List Str) : D := .nd (.dK (F.map Sum.inr)) (F.map fun _ => .bl true)
theorem look_found (F : List Str) (x : Str) : lookD (foundD F) (.str x) = some (if x ∈ F then some (.bl true) else none) := by
  show some (getK (F.map (Sum.inr : Str → Key)) (F.map fun _ => D.bl true) (Sum.inr x)) = _
  congr 1
  induction F with
  | nil => rfl
  | cons a F ih =>
    by_cases e : a = x
    · subst e
      simp [getK]
    · have : ¬ (Sum.inr a : Key) = Sum.inr x := fun z => e (Sum.inr.inj z)
      have e2 : getK ((a :: F).map (Sum.inr : Str → Key)) ((a :: F).map fun _ => D.bl true) (Sum.inr x) = getK (F.map (Sum.inr : Str → Key)) (F.map fun _ => D.bl true) (Sum.inr x) := by simp [getK, this]
      rw [e2, ih]
      have e3 : (x ∈ a :: F) ↔ x ∈ F := by
        rw [List.mem_cons]
        exact ⟨fun z => z.elim (fun q => absurd q.symm e) id, .inr⟩
      simp [e3]
theorem in_found (F : List Str) (x : Str) : dNotIn (.str x) (foundD F) = some (decide (x ∉ F)) := by
  have : dIn (.str x) (foundD F) = (lookD (foundD F) (.str x)).map (·.isSome) := rfl
  unfold dNotIn
  rw [this, look_found]
  by_cases h : x ∈ F <;> simp [h]
theorem put_found {F : List Str} {x : Str} (h : x ∉ F) (hl : F.length < sizeLine) : gSetD (foundD F) (.str x) (.bl true) = some (foundD (F ++ [x])) := by
  have hn : ¬ (Sum.inr x : Key) ∈ F.map (Sum.inr : Str → Key) := fun z => by
    obtain ⟨y, h1, h2⟩ := List.mem_map.mp z
    cases h2
    exact h h1
  show (if (F.map (Sum.inr : Str → Key)).length < sizeLine then some (D.nd (.dK (putKs (F.map Sum.inr) (Sum.inr x))) (putDs (F.map Sum.inr) (F.map fun _ => D.bl true) (Sum.inr x) (.bl true))) else none) = _
  rw [if_pos (by rw [List.length_map]; exact hl)]
  unfold putKs putDs foundD
  rw [if_neg hn, if_neg hn, List.map_append, List.map_append]
  rfl
abbrev dfsB : En → R Fl := (sSeq (sSet 4 (sMeth 3 gPop sNil)) (sIfS (sBin dNotIn (sVar 4) (sBor 2)) (sSeq (sPut 2 gSetD (sVar 4) (sC (.bl true))) (sAugL 3 (s1 dList (sBin dIx (sVar 0) (sVar 4))))) sNx))
def dfsE (R : Rows) (nm : Str) (F L : List Str) (one : Option S) : En := [some (.f (dictD R)), some (.f (.str nm)), some (.o (foundD F)), some (.o (lD L)), one]
theorem dfs_pop (R : Rows) (nm : Str) (F L : List Str) (x : Str) (one : Option S) : sSet 4 (sMeth 3 gPop sNil) (dfsE R nm F (L ++ [x]) one) = .ok .nx (dfsE R nm F L (some (.f (.str x)))) := by
  simp [dfsE, runF, argS, finF, outs, sSeq, sq, bnd, lift, sVar, sBor, sFrz, sMov, sC, sBin, sCmp, sChain, sTru, tru, sAndT, sOrT, sNotT, sAndV, sOrV, sNotV, sIf, sNil, sCons, sMk, s1, sN, sNx, sDrop, sRet, sRetO, sIfS, sSet, sSetO, sAsg, sPut, ownD, chg, ownL, isLst, sMeth, sIxV, bor, sCall, sCallO, sCallI, sCallIO, gSetL, ixN, dIx, atI, dGt, cmpI, dMod, dDiv, dMul, dPlus, dAdd, dSub, dNeg, dLt, dLen', dLen, sSlc, sSlcV, sPt, sNoPt, sIt, itD, sRg, rg1, hName, hTup, hCons, hNil, sFor, List.replicate, sPar2, pO, pF, pNil, noB, sIsiV, isTy, tyN, isA, sCmpV, sz0, sz1, sz2, sz3, sz4, sz5, gPop, List.dropLast_concat]
theorem dfs_step {R : Rows} (ok : RowsOk R) {nm : Str} {F L : List Str} {x : Str} {one : Option S} (hx : x ∈ nms R) (hl : F.length ≤ 100) (hL : L.length ≤ 1000) : dfsB (dfsE R nm F (L ++ [x]) one) = .ok .nx (dfsE R nm (if x ∈ F then F else F ++ [x]) (if x ∈ F then L else L ++ nb R x) (some (.f (.str x)))) := by
  have h10 := nb_few ok x
  have hF : F.length < sizeLine := Nat.lt_of_le_of_lt hl (by decide)
  have hz : L.length + (nb R x).length ≤ sizeLine := Nat.le_trans (show _ ≤ 1010 by omega) (by decide)
  refine (seq_ok (dfs_pop R nm F L x one)).trans ?_
  by_cases h : x ∈ F
  · simp [dfsE, runF, argS, finF, outs, sSeq, sq, bnd, lift, sVar, sBor, sFrz, sMov, sC, sBin, sCmp, sChain, sTru, tru, sAndT, sOrT, sNotT, sAndV, sOrV, sNotV, sIf, sNil, sCons, sMk, s1, sN, sNx, sDrop, sRet, sRetO, sIfS, sSet, sSetO, sAsg, sPut, ownD, chg, ownL, isLst, sMeth, sIxV, bor, sCall, sCallO, sCallI, sCallIO, gSetL, ixN, dIx, atI, dGt, cmpI, dMod, dDiv, dMul, dPlus, dAdd, dSub, dNeg, dLt, dLen', dLen, sSlc, sSlcV, sPt, sNoPt, sIt, itD, sRg, rg1, hName, hTup, hCons, hNil, sFor, List.replicate, sPar2, pO, pF, pNil, noB, sIsiV, isTy, tyN, isA, sCmpV, sz0, sz1, sz2, sz3, sz4, sz5, in_found, h]
  · have e1 := put_found h hF
    have e2 := ix_needs hx
    simp [dfsE, runF, argS, finF, outs, sSeq, sq, bnd, lift, sVar, sBor, sFrz, sMov, sC, sBin, sCmp, sChain, sTru, tru, sAndT, sOrT, sNotT, sAndV, sOrV, sNotV, sIf, sNil, sCons, sMk, s1, sN, sNx, sDrop, sRet, sRetO, sIfS, sSet, sSetO, sAsg, sPut, ownD, chg, ownL, isLst, sMeth, sIxV, bor, sCall, sCallO, sCallI, sCallIO, dGt, cmpI, dMod, dDiv, dMul, dPlus, dAdd, dSub, dNeg, dLen', dLen, sSlc, sSlcV, sPt, sNoPt, sIt, itD, sRg, rg1, hName, hTup, hCons, hNil, sFor, List.replicate, sPar2, pO, pF, pNil, noB, sIsiV, isTy, tyN, isA, sCmpV, sz0, sz1, sz2, sz3, sz4, sz5, in_found, h, e1, e2, sAugL, dList, dCat, hz]
/-- what is left to be looked at -/
def pot (R : Rows) (F : List Str) : Nat := ((R.filter fun r => decide (r.1 ∉ F)).map fun r => r.2.2.length).sum
theorem pot_le : ∀ (R : Rows), (∀ r ∈ R, r.2.2.length ≤ 10) → ∀ F, pot R F ≤ 10 * R.length
  | [], _, F => Nat.le_refl _
  | r :: R, h, F => by
    have ih := pot_le R (fun x m => h x (List.mem_cons_of_mem _ m)) F
    have hr := h r List.mem_cons_self
    unfold pot at ih ⊢
    rw [List.filter_cons]
    split
    · rw [List.map_cons, List.sum_cons, List.length_cons]; omega
    · rw [List.length_cons]; omega
theorem pot_mono (R : Rows) (F : List Str) (x : Str) : pot R (F ++ [x]) ≤ pot R F := by
  induction R with
  | nil => exact Nat.le_refl _
  | cons r R ih =>
    unfold pot at ih ⊢
    rw [List.filter_cons, List.filter_cons]
    by_cases h : r.1 ∈ F
    · rw [if_neg (by simp [h]), if_neg (by simp [h])]; exact ih
    · rw [if_pos (show decide (r.1 ∉ F) = true by simp [h])]
      split
      · rw [List.map_cons, List.sum_cons, List.map_cons, List.sum_cons]; omega
      · rw [List.map_cons, List.sum_cons]; omega
theorem pot_add : ∀ {R : Rows} {F : List Str} {x : Str}, x ∈ nms R → x ∉ F → pot R (F ++ [x]) + (nb R x).length ≤ pot R F
  | r :: R, F, x, h, hF => by
    by_cases e : r.1 = x
    · have e1 : nb (r :: R) x = r.2.2 := by simp [nb, e]
      have m := pot_mono R F x
      rw [e1]
      unfold pot at m ⊢
      rw [List.filter_cons, List.filter_cons, if_neg (by simp [e]), if_pos (by simp [e, hF]), List.map_cons, List.sum_cons]
      omega
    · have e1 : nb (r :: R) x = nb R x := by simp [nb, e]
      have h' : x ∈ nms R := by
        rcases List.mem_cons.mp (show x ∈ r.1 :: nms R from h) with z | z
        · exact absurd z.symm e
        · exact z
      have ih := pot_add (R := R) h' hF
      rw [e1]
      unfold pot at ih ⊢
      rw [List.filter_cons, List.filter_cons]
      by_cases h2 : r.1 ∈ F
      · rw [if_neg (by simp [h2]), if_neg (by simp [h2])]; exact ih
      · rw [if_pos (by simp [h2, e]), if_pos (by simp [h2]), List.map_cons, List.sum_cons, List.map_cons, List.sum_cons]; omega
theorem dfs_run {R : Rows} (ok : RowsOk R) (nm : Str) : ∀ (n : Nat) (F L : List Str) (one : Option S), F.Nodup → (∀ s ∈ F, s ∈ nms R) → (∀ s ∈ L, s ∈ nms R) → L.length + pot R F < n → L.length + pot R F ≤ 500 →
    ∃ F' one', whL (sTru (sBor 3)) dfsB n (dfsE R nm F L one) = .ok .nx (dfsE R nm F' [] one') ∧ F'.Nodup ∧ (∀ s ∈ F', s ∈ nms R) ∧ (∀ s ∈ F, s ∈ F') ∧ (∀ s ∈ L, s ∈ F') ∧ ((∀ x ∈ F, ∀ y ∈ nb R x, y ∈ F ∨ y ∈ L) → ∀ x ∈ F', ∀ y ∈ nb R x, y ∈ F') ∧
      ∀ T : Str → Prop, (∀ x, T x → ∀ y ∈ nb R x, T y) → (∀ x ∈ F, T x) → (∀ x ∈ L, T x) → ∀ x ∈ F', T x := by
  intro n
  induction n with
  | zero => intro F L one _ _ _ h; omega
  | succ n ih =>
    intro F L one nd hF hL h h5
    have hl := sub_len nd hF
    have hF100 : F.length ≤ 100 := by
      have := ok.len
      have : (nms R).length = R.length := List.length_map _
      omega
    rcases List.eq_nil_or_concat L with rfl | ⟨L', x, rfl⟩
    · refine ⟨F, one, ?_, nd, hF, fun s h => h, (fun s h => by cases h), fun c x hx y hy => (c x hx y hy).elim id (fun z => by cases z), fun T _ h1 _ => h1⟩
      unfold whL
      simp [dfsE, runF, argS, finF, outs, sSeq, sq, bnd, lift, sVar, sBor, sFrz, sMov, sC, sBin, sCmp, sChain, sTru, tru, sAndT, sOrT, sNotT, sAndV, sOrV, sNotV, sIf, sNil, sCons, sMk, s1, sN, sNx, sDrop, sRet, sRetO, sIfS, sSet, sSetO, sAsg, sPut, ownD, chg, ownL, isLst, sMeth, sIxV, bor, sCall, sCallO, sCallI, sCallIO, dGt, cmpI, dMod, dDiv, dMul, dPlus, dAdd, dSub, dNeg, dLen', dLen, sSlc, sSlcV, sPt, sNoPt, sIt, itD, sRg, rg1, hName, hTup, hCons, hNil, sFor, List.replicate, sPar2, pO, pF, pNil, noB, sIsiV, isTy, tyN, isA, sCmpV, sz0, sz1, sz2, sz3, sz4, sz5]
    · rw [List.concat_eq_append] at *
      have hx : x ∈ nms R := hL x (by simp)
      have hL' : ∀ s ∈ L', s ∈ nms R := fun s m => hL s (by simp [m])
      rw [List.length_append, List.length_singleton] at h h5
      have st := dfs_step (nm := nm) (one := one) ok hx hF100 (L := L') (by omega)
      have t : sTru (sBor 3) (dfsE R nm F (L' ++ [x]) one) = .ok true (dfsE R nm F (L' ++ [x]) one) := by
        simp [dfsE, runF, argS, finF, outs, sSeq, sq, bnd, lift, sVar, sBor, sFrz, sMov, sC, sBin, sCmp, sChain, sTru, tru, sAndT, sOrT, sNotT, sAndV, sOrV, sNotV, sIf, sNil, sCons, sMk, s1, sN, sNx, sDrop, sRet, sRetO, sIfS, sSet, sSetO, sAsg, sPut, ownD, chg, ownL, isLst, sMeth, sIxV, bor, sCall, sCallO, sCallI, sCallIO, dGt, cmpI, dMod, dDiv, dMul, dPlus, dAdd, dSub, dNeg, dLen', dLen, sSlc, sSlcV, sPt, sNoPt, sIt, itD, sRg, rg1, hName, hTup, hCons, hNil, sFor, List.replicate, sPar2, pO, pF, pNil, noB, sIsiV, isTy, tyN, isA, sCmpV, sz0, sz1, sz2, sz3, sz4, sz5]
      have go : whL (sTru (sBor 3)) dfsB (n + 1) (dfsE R nm F (L' ++ [x]) one) = whL (sTru (sBor 3)) dfsB n (dfsE R nm (if x ∈ F then F else F ++ [x]) (if x ∈ F then L' else L' ++ nb R x) (some (.f (.str x)))) := by
        conv => lhs; unfold whL
        rw [t]
        show (match dfsB (dfsE R nm F (L' ++ [x]) one) with | .ok .nx ρ2 => _ | .ok .ct ρ2 => _ | .ok .bk ρ2 => _ | r => r) = _
        rw [st]
      rw [go]
      by_cases hm : x ∈ F
      · rw [if_pos hm, if_pos hm]
        obtain ⟨F', one', e1, e2, e3, e4, e5, e6, e7⟩ := ih F L' (some (.f (.str x))) nd hF hL' (by omega) (by omega)
        refine ⟨F', one', e1, e2, e3, e4, fun s m => ?_, fun c => e6 fun a ha y hy => ?_, fun T c h1 h2 => e7 T c h1 fun s m => h2 s (by simp [m])⟩
        · rcases List.mem_append.mp m with m | m
          · exact e5 s m
          · rw [List.mem_singleton.mp m]; exact e4 x hm
        · rcases c a ha y hy with z | z
          · exact .inl z
          · rcases List.mem_append.mp z with z | z
            · exact .inr z
            · rw [List.mem_singleton.mp z]; exact .inl hm
      · rw [if_neg hm, if_neg hm]
        have pa := pot_add hx hm
        have nd' : (F ++ [x]).Nodup := by
          rw [List.nodup_append]
          exact ⟨nd, by simp, fun a ha b hb => by rw [List.mem_singleton.mp hb]; exact fun z => hm (z ▸ ha)⟩
        have hF' : ∀ s ∈ F ++ [x], s ∈ nms R := fun s m => by
          rcases List.mem_append.mp m with m | m
          · exact hF s m
          · rw [List.mem_singleton.mp m]; exact hx
        have hL2 : ∀ s ∈ L' ++ nb R x, s ∈ nms R := fun s m => (List.mem_append.mp m).elim (hL' s) (fun q => nb_sub ok q)
        obtain ⟨F', one', e1, e2, e3, e4, e5, e6, e7⟩ := ih (F ++ [x]) (L' ++ nb R x) (some (.f (.str x))) nd' hF' hL2 (by rw [List.length_append]; omega) (by rw [List.length_append]; omega)
        refine ⟨F', one', e1, e2, e3, fun s m => e4 s (by simp [m]), fun s m => ?_, fun c => e6 fun a ha y hy => ?_, fun T c h1 h2 => e7 T c (fun s m => ?_) fun s m => ?_⟩
        · rcases List.mem_append.mp m with m | m
          · exact e5 s (by simp [m])
          · rw [List.mem_singleton.mp m]; exact e4 x (by simp)
        · rcases List.mem_append.mp ha with ha | ha
          · rcases c a ha y hy with z | z
            · exact .inl (by simp [z])
            · rcases List.mem_append.mp z with z | z
              · exact .inr (by simp [z])
              · rw [List.mem_singleton.mp z]; exact .inl (by simp)
          · rw [List.mem_singleton.mp ha] at hy
            exact .inr (by simp [hy])
        · rcases List.mem_append.mp m with m | m
          · exact h1 s m
          · rw [List.mem_singleton.mp m]; exact h2 x (by simp)
        · rcases List.mem_append.mp m with m | m
          · exact h2 s (by simp [m])
          · exact c x (h2 x (by simp)) s m
end Y

set_option Elab.async false
set_option linter.all false
set_option maxRecDepth 100000
set_option maxHeartbeats 4000000
namespace Y
open PySem PySem.Spec PyProof.Rows L2 PySem.W
theorem small {n : Nat} (h : n ≤ 100000) : n ≤ sizeLine := Nat.le_trans h (by decide)
theorem names_len {R : Rows} (ok : RowsOk R) : (nms R).length ≤ 10 := by
  have := ok.len
  have : (nms R).length = R.length := List.length_map _
  omega
theorem all_ahead_ok {R : Rows} (ok : RowsOk R) {nm : Str} (h : nm ∈ nms R) : ∃ F, fs_all_ahead [dictD R, .str nm] = .val true (lD (srt F)) none ∧ Rch R nm F := by
  have h10 := nb_few ok nm
  have p0 := pot_le R ok.few []
  have l10 := ok.len
  obtain ⟨F, one, e1, nd, e3, _, e5, e6, e7⟩ := dfs_run ok nm 1000 [] (nb R nm) none List.nodup_nil (fun s h => by cases h) (fun s h => nb_sub ok h) (by omega) (by omega)
  refine ⟨F, ?_, nd, e5, e6 (fun x h => by cases h), fun T h1 h2 => e7 T h2 (fun x h => by cases h) h1⟩
  have hF := sub_len nd e3
  have n10 := names_len ok
  have s1' : sPar2 2 3 (pO (sC (.nd (.dK []) [])) (pO (s1 dList (sBin dIx (sVar 0) (sVar 1))) pNil)) [some (.f (dictD R)), some (.f (.str nm)), none, none, none] = .ok .nx (dfsE R nm [] (nb R nm) none) := by
    have e2 := ix_needs h
    simp [dfsE, runF, argS, finF, outs, sSeq, sq, bnd, lift, sVar, sBor, sFrz, sMov, sC, sBin, sCmp, sChain, sTru, tru, sAndT, sOrT, sNotT, sAndV, sOrV, sNotV, sIf, sNil, sCons, sMk, s1, sN, sNx, sDrop, sRet, sRetO, sIfS, sSet, sSetO, sAsg, sPut, ownD, chg, ownL, isLst, sMeth, sIxV, bor, sCall, sCallO, sCallI, sCallIO, dGt, cmpI, dMod, dDiv, dMul, dPlus, dAdd, dSub, dNeg, dLen', dLen, sSlc, sSlcV, sPt, sNoPt, sIt, itD, sRg, rg1, hName, hTup, hCons, hNil, sFor, List.replicate, sPar2, pO, pF, pNil, noB, sIsiV, isTy, tyN, isA, sCmpV, sz0, sz1, sz2, sz3, sz4, sz5, e2, dList, foundD]
  have s3 : sRetO (s1 dSorted (s1 dList (sBor 2))) (dfsE R nm F [] one) = .ok (.ro (lD (srt F))) (dfsE R nm F [] one) := by
    have e : dList (foundD F) = some (lD F) := by
      show some (D.nd .lst ((F.map (Sum.inr : Str → Key)).map kD)) = _
      rw [List.map_map]
      rfl
    have e2 : dSorted (lD F) = some (lD (srt F)) := sortD_names (fun s m => ok.ok s (e3 s m)) (small (by omega))
    simp [dfsE, runF, argS, finF, outs, sSeq, sq, bnd, lift, sVar, sBor, sFrz, sMov, sC, sBin, sCmp, sChain, sTru, tru, sAndT, sOrT, sNotT, sAndV, sOrV, sNotV, sIf, sNil, sCons, sMk, s1, sN, sNx, sDrop, sRet, sRetO, sIfS, sSet, sSetO, sAsg, sPut, ownD, chg, ownL, isLst, sMeth, sIxV, bor, sCall, sCallO, sCallI, sCallIO, dGt, cmpI, dMod, dDiv, dMul, dPlus, dAdd, dSub, dNeg, dLen', dLen, sSlc, sSlcV, sPt, sNoPt, sIt, itD, sRg, rg1, hName, hTup, hCons, hNil, sFor, List.replicate, sPar2, pO, pF, pNil, noB, sIsiV, isTy, tyN, isA, sCmpV, sz0, sz1, sz2, sz3, sz4, sz5, e, e2]
  have e : m_all_ahead [some (.f (dictD R)), some (.f (.str nm)), none, none, none] = .ok (.ro (lD (srt F))) (dfsE R nm F [] one) := by
    unfold m_all_ahead
    exact (seq_ok s1').trans ((seq_ok e1).trans s3)
  show finF false (m_all_ahead _) = _
  rw [show (argS false [dictD R, .str nm] ++ List.replicate (5 - 2) none : En) = [some (.f (dictD R)), some (.f (.str nm)), none, none, none] from rfl, e]
  rfl
/-! ### needs_of -/
theorem dc_rows : ∀ (R R0 : Rows) (x : Option S), (nms (R0 ++ R)).Nodup → (R0 ++ R).length ≤ 1000 → dcL (hTup 3 (hCons (hName 1) (hCons (hName 2) (hCons (hName 3) hNil)))) sYes (sVar 1) (sVar 3) [1, 2, 3] (R.map rowD) [x, none, none, none] ((nms R0).map Sum.inr) (R0.map fun r => tD r.2.2) = .ok (dictD (R0 ++ R)) [x, none, none, none]
  | [], R0, x, nd, hl => by rw [List.append_nil]; rfl
  | r :: R, R0, x, nd, hl => by
    have e0 : R0 ++ r :: R = (R0 ++ [r]) ++ R := by simp
    have ih := dc_rows R (R0 ++ [r]) x (by rw [← e0]; exact nd) (by rw [← e0]; exact hl)
    have hn : ¬ (Sum.inr r.1 : Key) ∈ (nms R0).map (Sum.inr : Str → Key) := fun z => by
      obtain ⟨y, h1, h2⟩ := List.mem_map.mp z
      cases h2
      have : (nms R0 ++ r.1 :: nms R).Nodup := by
        have : nms (R0 ++ r :: R) = nms R0 ++ r.1 :: nms R := by simp [nms]
        rw [← this]; exact nd
      exact (List.nodup_append.mp this).2.2 _ h1 _ List.mem_cons_self rfl
    have hlen : ((nms R0).map (Sum.inr : Str → Key)).length < sizeLine := by
      rw [List.length_map]
      have : (nms R0).length = R0.length := List.length_map _
      rw [List.length_append] at hl
      exact Nat.lt_of_le_of_lt (show _ ≤ 1000 by omega) (by decide)
    rw [List.map_cons]
    have e1 : hTup 3 (hCons (hName 1) (hCons (hName 2) (hCons (hName 3) hNil))) (rowD r) [x, none, none, none] = some [x, some (.f (.str r.1)), some (.f (.int r.2.1)), some (.f (tD r.2.2))] := rfl
    conv => lhs; unfold dcL
    rw [e1]
    have e2 : putKs ((nms R0).map (Sum.inr : Str → Key)) (Sum.inr r.1) = (nms (R0 ++ [r])).map Sum.inr := by
      unfold putKs
      rw [if_neg hn]
      simp [nms]
    have e3 : putDs ((nms R0).map (Sum.inr : Str → Key)) (R0.map fun r => tD r.2.2) (Sum.inr r.1) (tD r.2.2) = (R0 ++ [r]).map fun r => tD r.2.2 := by
      unfold putDs
      rw [if_neg hn]
      simp
    have e4 : keyD (.str r.1) = some (Sum.inr r.1) := rfl
    simp only [sYes, noX, bnd, if_true, sVar, List.getElem?_cons_succ, List.getElem?_cons_zero, e4]
    rw [if_pos hlen, e2, e3, e0]
    exact ih
theorem needs_ok {R : Rows} (ok : RowsOk R) : fs_needs_of [coursesD R] = .val true (dictD R) none := by
  have l10 := ok.len
  have e := dc_rows R [] (some (.f (coursesD R))) ok.nd (by simp; omega)
  have e2 : m_needs_of [some (.f (coursesD R)), none, none, none] = .ok (.ro (dictD R)) [some (.f (coursesD R)), none, none, none] := by
    unfold m_needs_of sRetO sDc
    have : sIt (sVar 0) [some (.f (coursesD R)), none, none, none] = .ok (R.map rowD) [some (.f (coursesD R)), none, none, none] := rfl
    rw [this]
    simp only [bnd]
    have : wipeE [1, 2, 3] [some (S.f (coursesD R)), none, none, none] = [some (S.f (coursesD R)), none, none, none] := rfl
    rw [this]
    have e : dcL (hTup 3 (hCons (hName 1) (hCons (hName 2) (hCons (hName 3) hNil)))) sYes (sVar 1) (sVar 3) [1, 2, 3] (R.map rowD) [some (S.f (coursesD R)), none, none, none] [] [] = .ok (dictD R) [some (S.f (coursesD R)), none, none, none] := e
    rw [e]
  show finF false (m_needs_of _) = _
  rw [show (argS false [coursesD R] ++ List.replicate (4 - 1) none : En) = [some (.f (coursesD R)), none, none, none] from rfl, e2]
  rfl
/-! ### ten rounds -/
def more (R : Rows) (l : List Str) : List Str := l.flatMap (nb R)
def turn (R : Rows) (l : List Str) : List Str := srt (ddS (l ++ more R l))
def turns (R : Rows) (nm : Str) : Nat → List Str
  | 0 => srt (nb R nm)
  | n + 1 => turn R (turns R nm n)
theorem mem_turn {R : Rows} {l : List Str} {x : Str} : x ∈ turn R l ↔ x ∈ l ∨ ∃ y ∈ l, x ∈ nb R y := by
  unfold turn more
  rw [(srt_perm _).mem_iff, mem_ddS, List.mem_append, List.mem_flatMap]
theorem turns_sub {R : Rows} (ok : RowsOk R) (nm : Str) : ∀ n, ∀ x ∈ turns R nm n, x ∈ nms R
  | 0, x, h => nb_sub ok ((srt_perm _).mem_iff.mp h)
  | n + 1, x, h => by
    rcases mem_turn.mp h with h | ⟨y, _, h⟩
    · exact turns_sub ok nm n x h
    · exact nb_sub ok h
theorem turns_nd {R : Rows} (nm : Str) (n : Nat) : (turns R nm (n + 1)).Nodup := (srt_perm _).nodup_iff.mpr (nodup_ddS _)
theorem turns_len {R : Rows} (ok : RowsOk R) (nm : Str) : ∀ n, (turns R nm n).length ≤ 10
  | 0 => by
    rw [show turns R nm 0 = srt (nb R nm) from rfl, (srt_perm _).length_eq]; exact nb_few ok nm
  | n + 1 => Nat.le_trans (sub_len (turns_nd nm n) (turns_sub ok nm (n + 1))) (names_len ok)
def closed (R : Rows) (l : List Str) : Prop := ∀ x ∈ l, ∀ y ∈ nb R x, y ∈ l
theorem turn_grow {R : Rows} (nm : Str) : ∀ n, closed R (turns R nm n) ∨ n + 1 ≤ (ddS (turns R nm n)).length
  | 0 => by
    by_cases h : turns R nm 0 = []
    · exact .inl (by rw [h]; exact fun x h => by cases h)
    · right
      have : ddS (turns R nm 0) ≠ [] := fun e => by
        obtain ⟨a, m⟩ := List.exists_mem_of_ne_nil _ h
        have := mem_ddS.mpr m
        rw [e] at this
        cases this
      have := List.length_pos_iff.mpr this
      omega
  | n + 1 => by
    by_cases c : closed R (turns R nm n)
    · left
      have e : ∀ x, x ∈ turns R nm (n + 1) → x ∈ turns R nm n := fun x h => by
        rcases mem_turn.mp h with h | ⟨y, hy, h⟩
        · exact h
        · exact c y hy x h
      exact fun x hx y hy => mem_turn.mpr (.inl (c x (e x hx) y hy))
    · right
      have ih := (turn_grow nm n).resolve_left c
      have : ∃ x y, x ∈ turns R nm n ∧ y ∈ nb R x ∧ y ∉ turns R nm n := by
        refine Classical.byContradiction fun q => c fun x hx y hy => Decidable.byContradiction fun z => q ⟨x, y, hx, hy, z⟩
      obtain ⟨x, y, hx, hy, z⟩ := this
      have := sub_len (l := y :: ddS (turns R nm n)) (m := ddS (turns R nm (n + 1))) (List.nodup_cons.mpr ⟨fun m => z (mem_ddS.mp m), nodup_ddS _⟩) fun a ha => by
        rcases List.mem_cons.mp ha with rfl | ha
        · exact mem_ddS.mpr (mem_turn.mpr (.inr ⟨x, hx, hy⟩))
        · exact mem_ddS.mpr (mem_turn.mpr (.inl (mem_ddS.mp ha)))
      rw [List.length_cons] at this
      omega
theorem turns_rch {R : Rows} (ok : RowsOk R) (nm : Str) : Rch R nm (turns R nm 10) := by
  refine ⟨turns_nd nm 9, fun x h => ?_, ?_, fun T h1 h2 => ?_⟩
  · have : ∀ n, x ∈ turns R nm n := fun n => by
      induction n with
      | zero => exact (srt_perm _).mem_iff.mpr h
      | succ n ih => exact mem_turn.mpr (.inl ih)
    exact this 10
  · rcases turn_grow (R := R) nm 10 with c | c
    · exact c
    · have h1 := sub_len (nodup_ddS (turns R nm 10)) fun x h => turns_sub ok nm 10 x (mem_ddS.mp h)
      have h2 := names_len ok
      omega
  · have : ∀ n, ∀ x ∈ turns R nm n, T x := fun n => by
      induction n with
      | zero => exact fun x h => h1 x ((srt_perm _).mem_iff.mp h)
      | succ n ih =>
        intro x h
        rcases mem_turn.mp h with h | ⟨y, hy, h⟩
        · exact ih x h
        · exact h2 y (ih y hy) x h
    exact this 10
end Y

set_option Elab.async false
set_option linter.all false
set_option maxRecDepth 100000
set_option maxHeartbeats 4000000
namespace Y
open PySem PySem.Spec PyProof.Rows L2 PySem.W
def pairD (r : Str × Int × List Str) : D := .nd .tup [.str r.1, tD r.2.2]
theorem lc_rows : ∀ (R : Rows) (x y : Option S) (acc : List D), acc.length + R.length ≤ 1000 → lcL (hName 6) sYes (sMk .tup (sCons (sBin dIx (sVar 6) (sC (.int 0))) (sCons (sBin dIx (sVar 6) (sC (.int 2))) sNil))) [6] (R.map rowD) [x, y, none, none, none, none, none] acc = .ok (.nd .lst (acc ++ R.map pairD)) [x, y, none, none, none, none, none]
  | [], x, y, acc, _ => by rw [List.map_nil, List.map_nil, List.append_nil]; rfl
  | r :: R, x, y, acc, hl => by
    rw [List.length_cons] at hl
    have ih := lc_rows R x y (acc ++ [pairD r]) (by rw [List.length_append, List.length_singleton]; omega)
    rw [List.map_cons]
    conv => lhs; unfold lcL
    have e1 : hName 6 (rowD r) [x, y, none, none, none, none, none] = some [x, y, none, none, none, none, some (.f (rowD r))] := rfl
    have e2 : sMk .tup (sCons (sBin dIx (sVar 6) (sC (.int 0))) (sCons (sBin dIx (sVar 6) (sC (.int 2))) sNil)) [x, y, none, none, none, none, some (.f (rowD r))] = .ok (pairD r) [x, y, none, none, none, none, some (.f (rowD r))] := by
      simp [rowD, pairD, runF, argS, finF, outs, sSeq, sq, bnd, lift, sVar, sBor, sFrz, sMov, sC, sBin, sCmp, sChain, sTru, tru, sAndT, sOrT, sNotT, sAndV, sOrV, sNotV, sIf, sNil, sCons, sMk, s1, sN, sNx, sDrop, sRet, sRetO, sIfS, sSet, sSetO, sAsg, sPut, ownD, chg, ownL, isLst, sMeth, sIxV, bor, sCall, sCallO, sCallI, sCallIO, gSetL, ixN, dIx, atI, dGt, cmpI, dMod, dDiv, dMul, dPlus, dAdd, dSub, dNeg, dLt, dLen', dLen, sSlc, sSlcV, sPt, sNoPt, sIt, itD, sRg, rg1, hName, hTup, hCons, hNil, sFor, List.replicate, sPar2, pO, pF, pNil, noB, sIsiV, isTy, tyN, isA, sCmpV, sz0, sz1, sz2, sz3, sz4, sz5]
    rw [e1]
    simp only [sYes, noX, bnd, if_true, e2]
    rw [if_pos (Nat.lt_of_le_of_lt (show acc.length ≤ 1000 by omega) (by decide))]
    have e3 : wipeE [6] [x, y, none, none, none, none, some (S.f (rowD r))] = [x, y, none, none, none, none, none] := rfl
    rw [e3, ih, List.map_cons]
    simp
theorem pairs_rows : ∀ R : Rows, pairsD (R.map pairD) = some ((nms R).map Sum.inr, R.map fun r => tD r.2.2)
  | [] => rfl
  | r :: R => by
    show (match keyD (D.str r.1), pairsD (R.map pairD) with | some q, some (qs, es) => some (q :: qs, tD r.2.2 :: es) | _, _ => none) = _
    rw [pairs_rows R]
    rfl
theorem merge_new : ∀ (qs ks : List Key) (es ds : List D), (ks ++ qs).Nodup → qs.length = es.length → mergeD ks ds qs es = (ks ++ qs, ds ++ es)
  | [], ks, [], ds, _, _ => by simp [mergeD]
  | q :: qs, ks, e :: es, ds, nd, hl => by
    have hn : ¬ q ∈ ks := fun m => (List.nodup_append.mp nd).2.2 q m q List.mem_cons_self rfl
    have e1 : putKs ks q = ks ++ [q] := by unfold putKs; rw [if_neg hn]
    have e2 : putDs ks ds q e = ds ++ [e] := by unfold putDs; rw [if_neg hn]
    show mergeD (putKs ks q) (putDs ks ds q e) qs es = _
    rw [e1, e2, merge_new qs (ks ++ [q]) es (ds ++ [e]) (by simpa using nd) (by simpa using hl)]
    simp
  | [], _, _ :: _, _, _, h => by simp at h
  | _ :: _, _, [], _, _, h => by simp at h
theorem nodup_inr {l : List Str} (h : l.Nodup) : (l.map (Sum.inr : Str → Key)).Nodup := by
  induction l with
  | nil => exact List.nodup_nil
  | cons a l ih =>
    have h' := List.nodup_cons.mp h
    refine List.nodup_cons.mpr ⟨fun m => ?_, ih h'.2⟩
    obtain ⟨y, h1, h2⟩ := List.mem_map.mp m
    cases h2
    exact h'.1 h1
theorem dict_rows {R : Rows} (ok : RowsOk R) : dDict (.nd .lst (R.map pairD)) = some (dictD R) := by
  show (pairsD (R.map pairD)).map (fun p => D.nd (.dK (mergeD [] [] p.1 p.2).1) (mergeD [] [] p.1 p.2).2) = _
  rw [pairs_rows, Option.map_some, merge_new _ [] _ [] (by simpa using nodup_inr ok.nd) (by simp [nms])]
  rfl
def nE (R : Rows) (nm : Str) (found : List Str) (t m o : Option S) : En := [some (.f (coursesD R)), some (.f (.str nm)), some (.f (dictD R)), some (.f (lD found)), t, m, o]
theorem more_run {R : Rows} (ok : RowsOk R) (nm : Str) (found : List Str) (t : Option S) : ∀ (l m : List Str) (o : Option S), (∀ x ∈ l, x ∈ nms R) → m.length + 10 * l.length ≤ 10000 → ∃ o', forL (hName 6) (sSet 5 (sBin dPlus (sVar 5) (s1 dList (sBin dIx (sVar 2) (sVar 6))))) (nD l) (nE R nm found t (some (.f (lD m))) o) = .ok .nx (nE R nm found t (some (.f (lD (m ++ more R l)))) o')
  | [], m, o, _, _ => ⟨o, by simp [more]; rfl⟩
  | x :: l, m, o, h, hl => by
    rw [List.length_cons] at hl
    have h10 := nb_few ok x
    obtain ⟨o', e⟩ := more_run ok nm found t l (m ++ nb R x) (some (.f (.str x))) (fun y hy => h y (List.mem_cons_of_mem _ hy)) (by rw [List.length_append]; omega)
    refine ⟨o', ?_⟩
    have e1 := ix_needs (h x List.mem_cons_self)
    have e2 : sSet 5 (sBin dPlus (sVar 5) (s1 dList (sBin dIx (sVar 2) (sVar 6)))) (nE R nm found t (some (.f (lD m))) (some (.f (.str x)))) = .ok .nx (nE R nm found t (some (.f (lD (m ++ nb R x)))) (some (.f (.str x)))) := by
      have hz : m.length + (nb R x).length ≤ sizeLine := small (by omega)
      simp [nE, runF, argS, finF, outs, sSeq, sq, bnd, lift, sVar, sBor, sFrz, sMov, sC, sBin, sCmp, sChain, sTru, tru, sAndT, sOrT, sNotT, sAndV, sOrV, sNotV, sIf, sNil, sCons, sMk, s1, sN, sNx, sDrop, sRet, sRetO, sIfS, sSet, sSetO, sAsg, sPut, ownD, chg, ownL, isLst, sMeth, sIxV, bor, sCall, sCallO, sCallI, sCallIO, dGt, cmpI, dMod, dDiv, dMul, dPlus, dAdd, dSub, dNeg, dLen', dLen, sSlc, sSlcV, sPt, sNoPt, sIt, itD, sRg, rg1, hName, hTup, hCons, hNil, sFor, List.replicate, sPar2, pO, pF, pNil, noB, sIsiV, isTy, tyN, isA, sCmpV, sz0, sz1, sz2, sz3, sz4, sz5, e1, dList, dCat, hz]
    rw [show nD (x :: l) = .str x :: nD l from rfl]
    conv => lhs; unfold forL
    rw [show hName 6 (.str x) (nE R nm found t (some (.f (lD m))) o) = some (nE R nm found t (some (.f (lD m))) (some (.f (.str x)))) from rfl]
    dsimp only
    rw [e2]
    dsimp only
    rw [e]
    simp [more]
abbrev turnB : En → R Fl := sSeq (sSet 5 (s1 dList (sBor 3))) (sSeq (sFor (sIt (sVar 3)) (hName 6) (sSet 5 (sBin dPlus (sVar 5) (s1 dList (sBin dIx (sVar 2) (sVar 6)))))) (sSet 3 (s1 dSortSet (sBor 5))))
theorem more_ok {R : Rows} (ok : RowsOk R) {l : List Str} (h : ∀ x ∈ l, x ∈ nms R) : NmsOk (l ++ more R l) := fun x m => by
  rcases List.mem_append.mp m with m | m
  · exact ok.ok x (h x m)
  · obtain ⟨y, _, hy⟩ := List.mem_flatMap.mp m
    exact nb_ok ok y x hy
theorem more_len {R : Rows} (ok : RowsOk R) : ∀ l : List Str, (more R l).length ≤ 10 * l.length
  | [] => Nat.le_refl _
  | x :: l => by
    have ih := more_len ok l
    have := nb_few ok x
    have : more R (x :: l) = nb R x ++ more R l := by simp [more]
    rw [this, List.length_append, List.length_cons]
    omega
theorem turn_run {R : Rows} (ok : RowsOk R) (nm : Str) {found : List Str} (t m o : Option S) (h : ∀ x ∈ found, x ∈ nms R) (hl : found.length ≤ 10) : ∃ m' o', turnB (nE R nm found t m o) = .ok .nx (nE R nm (turn R found) t m' o') := by
  obtain ⟨o', e⟩ := more_run ok nm found t found found o h (by omega)
  have ml := more_len ok found
  have e0 : sSet 5 (s1 dList (sBor 3)) (nE R nm found t m o) = .ok .nx (nE R nm found t (some (.f (lD found))) o) := by simp [nE, runF, argS, finF, outs, sSeq, sq, bnd, lift, sVar, sBor, sFrz, sMov, sC, sBin, sCmp, sChain, sTru, tru, sAndT, sOrT, sNotT, sAndV, sOrV, sNotV, sIf, sNil, sCons, sMk, s1, sN, sNx, sDrop, sRet, sRetO, sIfS, sSet, sSetO, sAsg, sPut, ownD, chg, ownL, isLst, sMeth, sIxV, bor, sCall, sCallO, sCallI, sCallIO, dGt, cmpI, dMod, dDiv, dMul, dPlus, dAdd, dSub, dNeg, dLen', dLen, sSlc, sSlcV, sPt, sNoPt, sIt, itD, sRg, rg1, hName, hTup, hCons, hNil, sFor, List.replicate, sPar2, pO, pF, pNil, noB, sIsiV, isTy, tyN, isA, sCmpV, sz0, sz1, sz2, sz3, sz4, sz5, dList]
  have e3 := sortSet_names (k := .lst) (.inl rfl) (more_ok ok h) (show (found ++ more R found).length + 1 < scanBound by rw [List.length_append]; exact Nat.lt_of_le_of_lt (show _ ≤ 111 by omega) (by decide))
  refine ⟨some (.f (lD (found ++ more R found))), o', (seq_ok e0).trans ((seq_ok (ρ1 := nE R nm found t (some (.f (lD (found ++ more R found)))) o') ?_).trans ?_)⟩
  · exact e
  · simp [nE, runF, argS, finF, outs, sSeq, sq, bnd, lift, sVar, sBor, sFrz, sMov, sC, sBin, sCmp, sChain, sTru, tru, sAndT, sOrT, sNotT, sAndV, sOrV, sNotV, sIf, sNil, sCons, sMk, s1, sN, sNx, sDrop, sRet, sRetO, sIfS, sSet, sSetO, sAsg, sPut, ownD, chg, ownL, isLst, sMeth, sIxV, bor, sCall, sCallO, sCallI, sCallIO, dGt, cmpI, dMod, dDiv, dMul, dPlus, dAdd, dSub, dNeg, dLen', dLen, sSlc, sSlcV, sPt, sNoPt, sIt, itD, sRg, rg1, hName, hTup, hCons, hNil, sFor, List.replicate, sPar2, pO, pF, pNil, noB, sIsiV, isTy, tyN, isA, sCmpV, sz0, sz1, sz2, sz3, sz4, sz5, e3, turn]
theorem turns_run {R : Rows} (ok : RowsOk R) (nm : Str) : ∀ (ds : List D) (n : Nat) (t m o : Option S), ∃ t' m' o', forL (hName 4) turnB ds (nE R nm (turns R nm n) t m o) = .ok .nx (nE R nm (turns R nm (n + ds.length)) t' m' o')
  | [], n, t, m, o => ⟨t, m, o, rfl⟩
  | d :: ds, n, t, m, o => by
    obtain ⟨m1, o1, e1⟩ := turn_run ok nm (found := turns R nm n) (some (.f d)) m o (turns_sub ok nm n) (turns_len ok nm n)
    obtain ⟨t', m', o', e2⟩ := turns_run ok nm ds (n + 1) (some (.f d)) m1 o1
    refine ⟨t', m', o', ?_⟩
    conv => lhs; unfold forL
    rw [show hName 4 d (nE R nm (turns R nm n) t m o) = some (nE R nm (turns R nm n) (some (.f d)) m o) from rfl]
    dsimp only
    rw [e1]
    dsimp only
    rw [show turn R (turns R nm n) = turns R nm (n + 1) from rfl, e2, List.length_cons, show n + 1 + ds.length = n + (ds.length + 1) by omega]
theorem needed_ok {R : Rows} (ok : RowsOk R) {nm : Str} (h : nm ∈ nms R) : fs__law_needed [coursesD R, .str nm] = .val false (lD (turns R nm 10)) none := by
  have l10 := ok.len
  have e1 : sSet 2 (s1 dDict (sLc (sIt (sVar 0)) (hName 6) sYes (sMk .tup (sCons (sBin dIx (sVar 6) (sC (.int 0))) (sCons (sBin dIx (sVar 6) (sC (.int 2))) sNil))) [6])) [some (.f (coursesD R)), some (.f (.str nm)), none, none, none, none, none] = .ok .nx [some (.f (coursesD R)), some (.f (.str nm)), some (.f (dictD R)), none, none, none, none] := by
    have a := lc_rows R (some (.f (coursesD R))) (some (.f (.str nm))) [] (by simp; omega)
    unfold sSet s1 sLc
    rw [show sIt (sVar 0) [some (.f (coursesD R)), some (.f (.str nm)), none, none, none, none, none] = .ok (R.map rowD) [some (.f (coursesD R)), some (.f (.str nm)), none, none, none, none, none] from rfl]
    simp only [bnd]
    rw [show wipeE [6] [some (S.f (coursesD R)), some (S.f (D.str nm)), none, none, none, none, none] = [some (S.f (coursesD R)), some (S.f (D.str nm)), none, none, none, none, none] from rfl, a, List.nil_append]
    simp only [dict_rows ok, lift]
    rfl
  have e2 : sSet 3 (s1 dSorted (sBin dIx (sVar 2) (sVar 1))) [some (.f (coursesD R)), some (.f (.str nm)), some (.f (dictD R)), none, none, none, none] = .ok .nx (nE R nm (turns R nm 0) none none none) := by
    have a := ix_needs h
    have b : dSorted (tD (nb R nm)) = some (lD (srt (nb R nm))) := sortD_names (nb_ok ok nm) (small (Nat.le_trans (nb_few ok nm) (by decide)))
    simp [nE, runF, argS, finF, outs, sSeq, sq, bnd, lift, sVar, sBor, sFrz, sMov, sC, sBin, sCmp, sChain, sTru, tru, sAndT, sOrT, sNotT, sAndV, sOrV, sNotV, sIf, sNil, sCons, sMk, s1, sN, sNx, sDrop, sRet, sRetO, sIfS, sSet, sSetO, sAsg, sPut, ownD, chg, ownL, isLst, sMeth, sIxV, bor, sCall, sCallO, sCallI, sCallIO, dGt, cmpI, dMod, dDiv, dMul, dPlus, dAdd, dSub, dNeg, dLen', dLen, sSlc, sSlcV, sPt, sNoPt, sIt, itD, sRg, rg1, hName, hTup, hCons, hNil, sFor, List.replicate, sPar2, pO, pF, pNil, noB, sIsiV, isTy, tyN, isA, sCmpV, sz0, sz1, sz2, sz3, sz4, sz5, a, b, turns]
  obtain ⟨t', m', o', e3⟩ := turns_run ok nm (rgD 0 10) 0 none none none
  have e4 : sFor (sRg rg1 (sCons (sC (.int 10)) sNil)) (hName 4) turnB (nE R nm (turns R nm 0) none none none) = .ok .nx (nE R nm (turns R nm 10) t' m' o') := e3
  have e : m__law_needed [some (.f (coursesD R)), some (.f (.str nm)), none, none, none, none, none] = .ok (.rt (lD (turns R nm 10))) (nE R nm (turns R nm 10) t' m' o') := by
    unfold m__law_needed
    exact (seq_ok e1).trans ((seq_ok e2).trans ((seq_ok e4).trans rfl))
  show finF false (m__law_needed _) = _
  rw [show (argS false [coursesD R, .str nm] ++ List.replicate (7 - 2) none : En) = [some (.f (coursesD R)), some (.f (.str nm)), none, none, none, none, none] from rfl, e]
  rfl
end Y

set_option Elab.async false
set_option linter.all false
set_option maxRecDepth 100000
set_option maxHeartbeats 4000000
namespace Y
open PySem PySem.Spec PyProof.Rows L2 PySem.W
/-! ### courses by draws -/
theorem of_ok {b : D} (h : BagOk b) {k : Kd} (hk : k = .lst ∨ k = .tup) {xs : List D} (h1 : xs ≠ []) (h2 : xs.length < 1000) : ∃ x b', fs__law_of [b, .nd k xs] = .val false x (some b') ∧ BagOk b' ∧ x ∈ xs := by
  have hp := List.length_pos_iff.mpr h1
  obtain ⟨r, b', e, hb, r0, r1⟩ := take_ok h (n := (xs.length : Int)) (by omega) (by omega)
  obtain ⟨j, rfl⟩ : ∃ j : Nat, r = (j : Int) := ⟨r.toNat, by omega⟩
  have hj : j < xs.length := by omega
  refine ⟨xs[j], b', ?_, hb, List.getElem_mem hj⟩
  rcases hk with rfl | rfl
  · simp [fs__law_of, m__law_of, runF, argS, finF, outs, sSeq, sq, bnd, lift, sVar, sBor, sFrz, sMov, sC, sBin, sCmp, sChain, sTru, tru, sAndT, sOrT, sNotT, sAndV, sOrV, sNotV, sIf, sNil, sCons, sMk, s1, sN, sNx, sDrop, sRet, sRetO, sIfS, sSet, sSetO, sAsg, sPut, ownD, chg, ownL, isLst, sMeth, sIxV, bor, sCall, sCallO, sCallI, sCallIO, gSetL, ixN, dIx, atI, dGt, cmpI, dMod, dDiv, dMul, dPlus, dAdd, dSub, dNeg, dLt, dLen', dLen, sSlc, sSlcV, sPt, sNoPt, sIt, itD, sRg, rg1, hName, hTup, hCons, hNil, sFor, List.replicate, sPar2, pO, pF, pNil, noB, sIsiV, isTy, tyN, isA, sCmpV, sz0, sz1, sz2, sz3, sz4, sz5, e, hj]
  · simp [fs__law_of, m__law_of, runF, argS, finF, outs, sSeq, sq, bnd, lift, sVar, sBor, sFrz, sMov, sC, sBin, sCmp, sChain, sTru, tru, sAndT, sOrT, sNotT, sAndV, sOrV, sNotV, sIf, sNil, sCons, sMk, s1, sN, sNx, sDrop, sRet, sRetO, sIfS, sSet, sSetO, sAsg, sPut, ownD, chg, ownL, isLst, sMeth, sIxV, bor, sCall, sCallO, sCallI, sCallIO, gSetL, ixN, dIx, atI, dGt, cmpI, dMod, dDiv, dMul, dPlus, dAdd, dSub, dNeg, dLt, dLen', dLen, sSlc, sSlcV, sPt, sNoPt, sIt, itD, sRg, rg1, hName, hTup, hCons, hNil, sFor, List.replicate, sPar2, pO, pF, pNil, noB, sIsiV, isTy, tyN, isA, sCmpV, sz0, sz1, sz2, sz3, sz4, sz5, e, hj]
def names10 : List Str := ["art", "bio", "chem", "dutch", "eng", "fin", "geo", "hist", "ital", "jazz"]
theorem names10_ok : NmsOk names10 := by
  have : (names10.all fun s => strG s) = true := by decide +kernel
  exact fun s h => List.all_eq_true.mp this s h
theorem names10_nd : names10.Nodup := by decide +kernel
def cE (b most names : D) (name at_ : Option S) (O : List Str) (fd : List D) (needs : Option S) : En := [some (.b b), some (.f most), some (.f names), name, at_, some (.o (lD O)), some (.o (.nd .lst fd)), needs]
theorem ins_run (most names : D) (at_ : Option S) (fd : List D) (needs : Option S) : ∀ (l O : List Str) (b : D) (name : Option S), BagOk b → O.length + l.length ≤ 1000 →
    ∃ b' O' name', forL (hName 3) (sDrop (sMeth 5 gInsert (sCons (sCallI 0 fs__law_take (sCons (sBin dPlus (s1 dLen' (sBor 5)) (sC (.int 1))) sNil)) (sCons (sVar 3) sNil)))) (nD l) (cE b most names name at_ O fd needs) = .ok .nx (cE b' most names name' at_ O' fd needs) ∧ BagOk b' ∧ O'.Perm (O ++ l)
  | [], O, b, name, hb, _ => ⟨b, O, name, rfl, hb, by rw [List.append_nil]⟩
  | x :: l, O, b, name, hb, hl => by
    rw [List.length_cons] at hl
    obtain ⟨r, b1, e, hb1, r0, r1⟩ := take_ok hb (n := (O.length : Int) + 1) (by omega) (by omega)
    obtain ⟨j, rfl⟩ : ∃ j : Nat, r = (j : Int) := ⟨r.toNat, by omega⟩
    obtain ⟨b', O', name', e2, hb', p⟩ := ins_run most names at_ fd needs l (O.take j ++ [x] ++ O.drop j) b1 (some (.f (.str x))) hb1 (by simp; omega)
    have st : sDrop (sMeth 5 gInsert (sCons (sCallI 0 fs__law_take (sCons (sBin dPlus (s1 dLen' (sBor 5)) (sC (.int 1))) sNil)) (sCons (sVar 3) sNil))) (cE b most names (some (.f (.str x))) at_ O fd needs) = .ok .nx (cE b1 most names (some (.f (.str x))) at_ (O.take j ++ [x] ++ O.drop j) fd needs) := by
      have c1 : O.length < sizeLine := Nat.lt_of_le_of_lt (show _ ≤ 1000 by omega) (by decide)
      have c2 : (j : Int) < 9223372036854775808 := by omega
      simp [cE, runF, argS, finF, outs, sSeq, sq, bnd, lift, sVar, sBor, sFrz, sMov, sC, sBin, sCmp, sChain, sTru, tru, sAndT, sOrT, sNotT, sAndV, sOrV, sNotV, sIf, sNil, sCons, sMk, s1, sN, sNx, sDrop, sRet, sRetO, sIfS, sSet, sSetO, sAsg, sPut, ownD, chg, ownL, isLst, sMeth, sIxV, bor, sCall, sCallO, sCallI, sCallIO, gSetL, ixN, dIx, atI, dGt, cmpI, dMod, dDiv, dMul, dPlus, dAdd, dSub, dNeg, dLt, dLen', dLen, sSlc, sSlcV, sPt, sNoPt, sIt, itD, sRg, rg1, hName, hTup, hCons, hNil, sFor, List.replicate, sPar2, pO, pF, pNil, noB, sIsiV, isTy, tyN, isA, sCmpV, sz0, sz1, sz2, sz3, sz4, sz5, e, gInsert, c1, c2, List.map_take, List.map_drop]
    refine ⟨b', O', name', ?_, hb', p.trans ?_⟩
    · rw [show nD (x :: l) = .str x :: nD l from rfl]
      conv => lhs; unfold forL
      rw [show hName 3 (.str x) (cE b most names name at_ O fd needs) = some (cE b most names (some (.f (.str x))) at_ O fd needs) from rfl]
      dsimp only
      rw [st]
      exact e2
    · have p1 : (O.take j ++ [x] ++ O.drop j).Perm (x :: O) := by
        have : (O.take j ++ [x] ++ O.drop j).Perm (x :: (O.take j ++ O.drop j)) := by
          rw [List.append_assoc]
          exact List.perm_middle
        rw [List.take_append_drop] at this
        exact this
      exact (p1.append_right l).trans List.perm_middle.symm
theorem eq0 (r : Int) : ∃ t, dEq (.int r) (.int 0) = some t := ⟨_, if_pos ⟨rfl, rfl⟩⟩
theorem pick_run (most names : D) (at_ : Option S) (O : List Str) (fd : List D) (needs : Option S) : ∀ (l : List Str) (b : D) (acc : List Str), BagOk b → acc.length + l.length ≤ 1000 →
    ∃ b' M, lcL (hName 3) (sBin dEq (sCallI 0 fs__law_take (sCons (sC (.int 4)) sNil)) (sC (.int 0))) (sVar 3) [3] (nD l) (cE b most names none at_ O fd needs) (nD acc) = .ok (lD (acc ++ M)) (cE b' most names none at_ O fd needs) ∧ BagOk b' ∧ List.Sublist M l
  | [], b, acc, hb, _ => ⟨b, [], by rw [List.append_nil]; rfl, hb, .slnil⟩
  | x :: l, b, acc, hb, hl => by
    rw [List.length_cons] at hl
    obtain ⟨r, b1, e, hb1, r0, r1⟩ := take_ok hb (n := 4) (by omega) (by omega)
    obtain ⟨t, et⟩ := eq0 r
    have e1 : sBin dEq (sCallI 0 fs__law_take (sCons (sC (.int 4)) sNil)) (sC (.int 0)) (cE b most names (some (.f (.str x))) at_ O fd needs) = .ok t (cE b1 most names (some (.f (.str x))) at_ O fd needs) := by
      simp [cE, runF, argS, finF, outs, sSeq, sq, bnd, lift, sVar, sBor, sFrz, sMov, sC, sBin, sCmp, sChain, sTru, tru, sAndT, sOrT, sNotT, sAndV, sOrV, sNotV, sIf, sNil, sCons, sMk, s1, sN, sNx, sDrop, sRet, sRetO, sIfS, sSet, sSetO, sAsg, sPut, ownD, chg, ownL, isLst, sMeth, sIxV, bor, sCall, sCallO, sCallI, sCallIO, gSetL, ixN, dIx, atI, dGt, cmpI, dMod, dDiv, dMul, dPlus, dAdd, dSub, dNeg, dLt, dLen', dLen, sSlc, sSlcV, sPt, sNoPt, sIt, itD, sRg, rg1, hName, hTup, hCons, hNil, sFor, List.replicate, sPar2, pO, pF, pNil, noB, sIsiV, isTy, tyN, isA, sCmpV, sz0, sz1, sz2, sz3, sz4, sz5, e, et]
    have go : lcL (hName 3) (sBin dEq (sCallI 0 fs__law_take (sCons (sC (.int 4)) sNil)) (sC (.int 0))) (sVar 3) [3] (nD (x :: l)) (cE b most names none at_ O fd needs) (nD acc) = (if t = true then lcL (hName 3) (sBin dEq (sCallI 0 fs__law_take (sCons (sC (.int 4)) sNil)) (sC (.int 0))) (sVar 3) [3] (nD l) (cE b1 most names none at_ O fd needs) (nD (acc ++ [x])) else lcL (hName 3) (sBin dEq (sCallI 0 fs__law_take (sCons (sC (.int 4)) sNil)) (sC (.int 0))) (sVar 3) [3] (nD l) (cE b1 most names none at_ O fd needs) (nD acc)) := by
      rw [show nD (x :: l) = .str x :: nD l from rfl]
      conv => lhs; unfold lcL
      rw [show hName 3 (.str x) (cE b most names none at_ O fd needs) = some (cE b most names (some (.f (.str x))) at_ O fd needs) from rfl]
      dsimp only
      rw [e1]
      cases t with
      | true =>
        have c : (nD acc).length < sizeLine := by rw [List.length_map]; exact Nat.lt_of_le_of_lt (show _ ≤ 1000 by omega) (by decide)
        simp only [noX, bnd, if_true]
        rw [show sVar 3 (cE b1 most names (some (.f (.str x))) at_ O fd needs) = .ok (.str x) (cE b1 most names (some (.f (.str x))) at_ O fd needs) from rfl]
        simp only [noX, bnd]
        rw [if_pos c, show nD (acc ++ [x]) = nD acc ++ [D.str x] by simp]
        rfl
      | false => rfl
    rw [go]
    cases t with
    | true =>
      obtain ⟨b', M, e2, hb', sm⟩ := pick_run most names at_ O fd needs l b1 (acc ++ [x]) hb1 (by simp; omega)
      exact ⟨b', x :: M, by rw [if_pos rfl, e2]; simp, hb', sm.cons_cons x⟩
    | false =>
      obtain ⟨b', M, e2, hb', sm⟩ := pick_run most names at_ O fd needs l b1 acc hb1 (by omega)
      exact ⟨b', M, by rw [if_neg Bool.false_ne_true, e2], hb', sm.cons x⟩
theorem cut_map (l : List Str) (lo hi : Option Int) : ∃ m, cutD (nD l) lo hi = nD m ∧ List.Sublist m l := by
  refine ⟨(l.drop (HT.sIx (nD l).length 0 lo)).take (HT.sIx (nD l).length (nD l).length hi - HT.sIx (nD l).length 0 lo), ?_, (List.take_sublist _ _).trans (List.drop_sublist _ _)⟩
  unfold cutD
  simp [List.map_take, List.map_drop]
theorem alikeAll_names : ∀ l m : List Str, alikeAll (pys (nD l)) (pys (nD m)) = true
  | [], _ => by simp [pys, alikeAll]
  | _ :: _, [] => by simp [pys, alikeAll]
  | a :: l, b :: m => by
    have ih := alikeAll_names l m
    show alikeAll (py (.str a) :: pys (nD l)) (py (.str b) :: pys (nD m)) = true
    simp only [alikeAll, ih, py, alike, Bool.and_true]
theorem py_row (r : Str × Int × List Str) : py (rowD r) = .tuple [.str r.1, .int r.2.1, .tuple (pys (nD r.2.2))] := by simp [rowD, py, pys]
theorem likeD_rows {R : Rows} (h1 : NmsOk (nms R)) (h2 : ∀ r ∈ R, NmsOk r.2.2) : likeD (R.map rowD) = true := by
  unfold likeD
  simp only [Bool.and_eq_true, Bool.or_eq_true, List.all_eq_true, List.mem_map]
  refine ⟨?_, ?_, .inl ?_⟩
  · rintro a ⟨r, _, rfl⟩ b ⟨r', _, rfl⟩
    rw [py_row, py_row]
    simp [alike, alikeAll, alikeAll_names]
  · rintro a ⟨r, hr, rfl⟩
    obtain ⟨d1, d2⟩ := dok_names (h2 r hr)
    have hs : strG r.1 = true := h1 r.1 (List.mem_map.mpr ⟨r, hr, rfl⟩)
    unfold dok
    rw [py_row]
    simp [rowD, okD, okDs, hs, d1, PyData.depth, PyData.depthAll, d2]
  · rintro a ⟨r, _, rfl⟩
    rfl
def srtR (R : Rows) : Rows := R.mergeSort fun a b => leD (rowD a) (rowD b)
theorem srtR_map (R : Rows) : (R.map rowD).mergeSort leD = (srtR R).map rowD := (sort_maps (r := fun a b => leD (rowD a) (rowD b)) (s := leD) rowD fun _ _ _ _ => rfl).symm
theorem srtR_perm (R : Rows) : (srtR R).Perm R := List.mergeSort_perm _ _
/-- what the draws have made so far -/
structure Made (O : List Str) (n : Nat) (R : Rows) : Prop where
  nm : nms R = O.take n
  nd : ∀ r ∈ R, List.Sublist r.2.2 r.2.2 ∧ r.2.2.length ≤ 10 ∧ ∀ s ∈ r.2.2, s ∈ O
theorem made_step (most names : D) (O : List Str) (R : Rows) (n : Nat) (b : D) (at_ needs : Option S) (hb : BagOk b) (hO : NmsOk O) (h10 : O.length ≤ 10) (hn : n < O.length) (m : Made O n R) :
    ∃ b' R' needs', (sSeq (sSet 7 (sLc (sIt (sSlcV 5 sNoPt (sPt (sVar 4)))) (hName 3) (sBin dEq (sCallI 0 fs__law_take (sCons (sC (.int 4)) sNil)) (sC (.int 0))) (sVar 3) [3])) (sDrop (sMeth 6 gAppend (sCons (sMk .tup (sCons (sIxV 5 (sVar 4)) (sCons (sCallI 0 fs__law_of (sCons (sMk .lst (sCons (sC (.int 1)) (sCons (sC (.int 2)) (sCons (sC (.int 3)) (sCons (sC (.int 5)) (sCons (sC (.int 9)) sNil)))))) sNil)) (sCons (s1 dTuple (s1 dSorted (sBor 7))) sNil)))) sNil)))) (cE b most names at_ (some (.f (.int (n : Int)))) O (R.map rowD) needs) = .ok .nx (cE b' most names none (some (.f (.int (n : Int)))) O (R'.map rowD) needs') ∧ BagOk b' ∧ Made O (n + 1) R' := by
  obtain ⟨cut, ec, sc⟩ := cut_map O none (some (n : Int))
  obtain ⟨b1, M, e1, hb1, sM⟩ := pick_run most names (some (.f (.int (n : Int)))) O (R.map rowD) needs cut b [] hb (by have := sc.length_le; simp; omega)
  obtain ⟨w, b2, e2, hb2, hw⟩ := of_ok hb1 (k := .lst) (.inl rfl) (xs := [.int 1, .int 2, .int 3, .int 5, .int 9]) (by simp) (by simp)
  obtain ⟨z, rfl⟩ : ∃ z : Int, w = .int z := by
    simp only [List.mem_cons, List.not_mem_nil, or_false] at hw
    rcases hw with rfl | rfl | rfl | rfl | rfl <;> exact ⟨_, rfl⟩
  have hM : ∀ s ∈ M, s ∈ O := fun s h => sc.subset (sM.subset h)
  have lM : M.length ≤ 10 := Nat.le_trans sM.length_le (Nat.le_trans sc.length_le h10)
  have lR : R.length ≤ 10 := by
    have := congrArg List.length m.nm
    rw [List.length_take] at this
    have : (nms R).length = R.length := List.length_map _
    omega
  refine ⟨b2, R ++ [(O[n], z, srt M)], some (.f (lD M)), ?_, hb2, ⟨?_, fun r hr => ?_⟩⟩
  · have s1' : sSet 7 (sLc (sIt (sSlcV 5 sNoPt (sPt (sVar 4)))) (hName 3) (sBin dEq (sCallI 0 fs__law_take (sCons (sC (.int 4)) sNil)) (sC (.int 0))) (sVar 3) [3]) (cE b most names at_ (some (.f (.int (n : Int)))) O (R.map rowD) needs) = .ok .nx (cE b1 most names none (some (.f (.int (n : Int)))) O (R.map rowD) (some (.f (lD M)))) := by
      have src : sIt (sSlcV 5 sNoPt (sPt (sVar 4))) (cE b most names at_ (some (.f (.int (n : Int)))) O (R.map rowD) needs) = .ok (nD cut) (cE b most names at_ (some (.f (.int (n : Int)))) O (R.map rowD) needs) := by
        have : dSlc (lD O) none (some (n : Int)) = some (lD cut) := by
          show some (D.nd .lst (cutD (nD O) none (some (n : Int)))) = _
          rw [ec]
        simp [cE, runF, argS, finF, outs, sSeq, sq, bnd, lift, sVar, sBor, sFrz, sMov, sC, sBin, sCmp, sChain, sTru, tru, sAndT, sOrT, sNotT, sAndV, sOrV, sNotV, sIf, sNil, sCons, sMk, s1, sN, sNx, sDrop, sRet, sRetO, sIfS, sSet, sSetO, sAsg, sPut, ownD, chg, ownL, isLst, sMeth, sIxV, bor, sCall, sCallO, sCallI, sCallIO, gSetL, ixN, dIx, atI, dGt, cmpI, dMod, dDiv, dMul, dPlus, dAdd, dSub, dNeg, dLt, dLen', dLen, sSlc, sSlcV, sPt, sNoPt, sIt, itD, sRg, rg1, hName, hTup, hCons, hNil, sFor, List.replicate, sPar2, pO, pF, pNil, noB, sIsiV, isTy, tyN, isA, sCmpV, sz0, sz1, sz2, sz3, sz4, sz5, this]
      unfold sSet sLc
      rw [src]
      simp only [bnd]
      rw [show wipeE [3] (cE b most names at_ (some (.f (.int (n : Int)))) O (R.map rowD) needs) = cE b most names none (some (.f (.int (n : Int)))) O (R.map rowD) needs from rfl]
      have e1' : lcL (hName 3) (sBin dEq (sCallI 0 fs__law_take (sCons (sC (.int 4)) sNil)) (sC (.int 0))) (sVar 3) [3] (nD cut) (cE b most names none (some (.f (.int (n : Int)))) O (R.map rowD) needs) [] = .ok (lD M) (cE b1 most names none (some (.f (.int (n : Int)))) O (R.map rowD) needs) := e1
      rw [e1']
      rfl
    refine (seq_ok s1').trans ?_
    have c1 : R.length < sizeLine := Nat.lt_of_le_of_lt (show _ ≤ 1000 by omega) (by decide)
    have c2 : dSorted (lD M) = some (lD (srt M)) := sortD_names (fun s h => hO s (hM s h)) (small (by omega))
    have c3 : dTuple (lD (srt M)) = some (tD (srt M)) := rfl
    have c4 : dIx (lD O) (.int (n : Int)) = some (.str O[n]) := by simp [runF, argS, finF, outs, sSeq, sq, bnd, lift, sVar, sBor, sFrz, sMov, sC, sBin, sCmp, sChain, sTru, tru, sAndT, sOrT, sNotT, sAndV, sOrV, sNotV, sIf, sNil, sCons, sMk, s1, sN, sNx, sDrop, sRet, sRetO, sIfS, sSet, sSetO, sAsg, sPut, ownD, chg, ownL, isLst, sMeth, sIxV, bor, sCall, sCallO, sCallI, sCallIO, gSetL, ixN, dIx, atI, dGt, cmpI, dMod, dDiv, dMul, dPlus, dAdd, dSub, dNeg, dLt, dLen', dLen, sSlc, sSlcV, sPt, sNoPt, sIt, itD, sRg, rg1, hName, hTup, hCons, hNil, sFor, List.replicate, sPar2, pO, pF, pNil, noB, sIsiV, isTy, tyN, isA, sCmpV, sz0, sz1, sz2, sz3, sz4, sz5, hn]
    simp [cE, runF, argS, finF, outs, sSeq, sq, bnd, lift, sVar, sBor, sFrz, sMov, sC, sBin, sCmp, sChain, sTru, tru, sAndT, sOrT, sNotT, sAndV, sOrV, sNotV, sIf, sNil, sCons, sMk, s1, sN, sNx, sDrop, sRet, sRetO, sIfS, sSet, sSetO, sAsg, sPut, ownD, chg, ownL, isLst, sMeth, sIxV, bor, sCall, sCallO, sCallI, sCallIO, dGt, cmpI, dMod, dDiv, dMul, dPlus, dAdd, dSub, dNeg, dLen', dLen, sSlc, sSlcV, sPt, sNoPt, sIt, itD, sRg, rg1, hName, hTup, hCons, hNil, sFor, List.replicate, sPar2, pO, pF, pNil, noB, sIsiV, isTy, tyN, isA, sCmpV, sz0, sz1, sz2, sz3, sz4, sz5, gAppend, c1, c2, c3, c4, e2, rowD]
  · rw [List.take_add_one, List.getElem?_eq_getElem hn]
    have : nms (R ++ [(O[n], z, srt M)]) = nms R ++ [O[n]] := by simp [nms]
    rw [this, m.nm]
    rfl
  · rcases List.mem_append.mp hr with hr | hr
    · exact m.nd r hr
    · rw [List.mem_singleton.mp hr]
      exact ⟨List.Sublist.refl _, by rw [show (O[n], z, srt M).2.2 = srt M from rfl, (srt_perm M).length_eq]; exact lM, fun s h => hM s ((srt_perm M).mem_iff.mp h)⟩
end Y

set_option Elab.async false
set_option linter.all false
set_option maxRecDepth 100000
set_option maxHeartbeats 4000000
namespace Y
open PySem PySem.Spec PyProof.Rows L2 PySem.W
abbrev madeB : En → R Fl := (sSeq (sSet 7 (sLc (sIt (sSlcV 5 sNoPt (sPt (sVar 4)))) (hName 3) (sBin dEq (sCallI 0 fs__law_take (sCons (sC (.int 4)) sNil)) (sC (.int 0))) (sVar 3) [3])) (sDrop (sMeth 6 gAppend (sCons (sMk .tup (sCons (sIxV 5 (sVar 4)) (sCons (sCallI 0 fs__law_of (sCons (sMk .lst (sCons (sC (.int 1)) (sCons (sC (.int 2)) (sCons (sC (.int 3)) (sCons (sC (.int 5)) (sCons (sC (.int 9)) sNil)))))) sNil)) (sCons (s1 dTuple (s1 dSorted (sBor 7))) sNil)))) sNil))))
theorem made_run (most names : D) (O : List Str) (hO : NmsOk O) (h10 : O.length ≤ 10) : ∀ (k n : Nat) (R : Rows) (b : D) (name at_ needs : Option S), n + k = O.length → BagOk b → Made O n R →
    ∃ b' R' name' at' needs', forL (hName 4) madeB ((List.range' n k).map fun i : Nat => D.int (i : Int)) (cE b most names name at_ O (R.map rowD) needs) = .ok .nx (cE b' most names name' at' O (R'.map rowD) needs') ∧ BagOk b' ∧ Made O O.length R'
  | 0, n, R, b, name, at_, needs, e, hb, m => ⟨b, R, name, at_, needs, rfl, hb, by rw [← e]; exact m⟩
  | k + 1, n, R, b, name, at_, needs, e, hb, m => by
    obtain ⟨b1, R1, nd1, e1, hb1, m1⟩ := made_step most names O R n b name needs hb hO h10 (by omega) m
    obtain ⟨b', R', name', at', needs', e2, hb', m'⟩ := made_run most names O hO h10 k (n + 1) R1 b1 none (some (.f (.int (n : Int)))) nd1 (by omega) hb1 m1
    refine ⟨b', R', name', at', needs', ?_, hb', m'⟩
    rw [List.range'_succ, List.map_cons]
    conv => lhs; unfold forL
    rw [show hName 4 (.int (n : Int)) (cE b most names name at_ O (R.map rowD) needs) = some (cE b most names name (some (.f (.int (n : Int)))) O (R.map rowD) needs) from rfl]
    dsimp only
    rw [show madeB (cE b most names name (some (.f (.int (n : Int)))) O (R.map rowD) needs) = _ from e1]
    exact e2
theorem rg_nat (n : Nat) : rgD 0 (n : Int) = (List.range' 0 n).map fun i : Nat => D.int (i : Int) := by
  unfold rgD
  rw [List.range_eq_range']
  have : ((n : Int) - 0).toNat = n := by omega
  rw [this]
  congr 1
  funext i
  simp
theorem rg1_nat {n : Nat} (h : n ≤ 1000000) : rg1 [.int (n : Int)] = some (rgD 0 (n : Int)) := by
  unfold rg1
  dsimp only
  rw [if_pos (by constructor <;> omega)]
theorem rg_ok {g : List D → Option (List D)} {f : En → R (List D)} {ρ ρ1 : En} {ds es : List D} (e : f ρ = .ok ds ρ1) (e2 : g ds = some es) : sRg g f ρ = .ok es ρ1 := by
  unfold sRg
  rw [e]
  show lift (g ds) ρ1 = _
  rw [e2]
  rfl
theorem s1_ok {g : D → Option D} {f : En → R D} {ρ ρ1 : En} {d d' : D} (e : f ρ = .ok d ρ1) (e2 : g d = some d') : s1 g f ρ = .ok d' ρ1 := by
  unfold s1
  rw [e]
  show lift (g d) ρ1 = _
  rw [e2]
  rfl
theorem one_ok {f : En → R D} {ρ ρ1 : En} {d : D} (e : f ρ = .ok d ρ1) : sCons f sNil ρ = .ok [d] ρ1 := by
  unfold sCons
  rw [e]
  rfl
theorem crg {b : D} {most : Int} {l O : List Str} {nm : Option S} (h : O.length ≤ 1000) : sRg rg1 (sCons (s1 dLen' (sBor 5)) sNil) (cE b (.int most) (lD l) nm none O [] none) = .ok ((List.range' 0 O.length).map fun i : Nat => D.int (i : Int)) (cE b (.int most) (lD l) nm none O [] none) := by
  rw [← rg_nat]
  have d2 : dLen' (lD O) = some (.int (O.length : Int)) := by simp [dLen', dLen]
  exact rg_ok (one_ok (s1_ok (d := lD O) rfl d2)) (rg1_nat (by omega))
theorem cf2 (b : D) (most : Int) (l : List Str) : sPar2 5 6 (pO (sMk .lst sNil) (pO (sMk .lst sNil) pNil)) [some (.b b), some (.f (.int most)), some (.f (lD l)), none, none, none, none, none] = .ok .nx (cE b (.int most) (lD l) none none [] [] none) := by
  simp [runF, argS, finF, outs, sSeq, sq, bnd, lift, sVar, sBor, sFrz, sMov, sC, sBin, sCmp, sChain, sTru, tru, sAndT, sOrT, sNotT, sAndV, sOrV, sNotV, sIf, sNil, sCons, sMk, s1, sN, sNx, sDrop, sRet, sRetO, sIfS, sSet, sSetO, sAsg, sPut, ownD, chg, ownL, isLst, sMeth, sIxV, bor, sCall, sCallO, sCallI, sCallIO, dGt, cmpI, dMod, dDiv, dMul, dPlus, dAdd, dSub, dNeg, dLen', dLen, sSlc, sSlcV, sPt, sNoPt, sIt, itD, sRg, rg1, hName, hTup, hCons, hNil, sFor, List.replicate, sPar2, pO, pF, pNil, noB, sIsiV, isTy, tyN, isA, sCmpV, sz0, sz1, sz2, sz3, sz4, sz5, cE]
theorem cf5 {b : D} {most : Int} {l O : List Str} {R : Rows} {nm3 at3 nd3 : Option S} (c1 : dSorted (.nd .lst (R.map rowD)) = some (.nd .lst ((srtR R).map rowD))) : sRet (s1 dTuple (s1 dSorted (sBor 6))) (cE b (.int most) (lD l) nm3 at3 O (R.map rowD) nd3) = .ok (.rt (coursesD (srtR R))) (cE b (.int most) (lD l) nm3 at3 O (R.map rowD) nd3) := by
  have c2 : dTuple (.nd .lst ((srtR R).map rowD)) = some (coursesD (srtR R)) := rfl
  have e : s1 dTuple (s1 dSorted (sBor 6)) (cE b (.int most) (lD l) nm3 at3 O (R.map rowD) nd3) = .ok (coursesD (srtR R)) (cE b (.int most) (lD l) nm3 at3 O (R.map rowD) nd3) := s1_ok (s1_ok (f := sBor 6) (d := .nd .lst (R.map rowD)) rfl c1) c2
  unfold sRet
  rw [e]
  rfl
theorem courses_ok2 {b : D} (hb : BagOk b) {most : Int} (h0 : 0 ≤ most) (h1 : most ≤ 100) : ∃ R b', fs__law_courses [b, .int most] = .val false (coursesD R) (some b') ∧ BagOk b' ∧ RowsOk R ∧ ∀ s ∈ nms R, s ∈ names10 := by
  obtain ⟨r, b1, e, hb1, r0, r1⟩ := take_ok hb (n := most + 1) (by omega) (by omega)
  obtain ⟨l, el, sl⟩ := cut_map names10 none (some r)
  have ll : l.length ≤ 10 := sl.length_le
  obtain ⟨b2, O, name2, e2, hb2, p⟩ := ins_run (.int most) (lD l) none [] none l [] b1 none hb1 (by simp; omega)
  rw [List.nil_append] at p
  have hO : NmsOk O := fun s h => names10_ok s (sl.subset (p.mem_iff.mp h))
  have lO : O.length ≤ 10 := by rw [p.length_eq]; exact ll
  obtain ⟨b3, R, nm3, at3, nd3, e3, hb3, m⟩ := made_run (.int most) (lD l) O hO lO O.length 0 [] b2 name2 none none (by omega) hb2 ⟨rfl, fun r h => by cases h⟩
  have nR : nms R = O := by rw [m.nm, List.take_length]
  have lR : R.length ≤ 10 := by
    have : (nms R).length = R.length := List.length_map _
    rw [nR] at this; omega
  have pn : (nms (srtR R)).Perm O := by rw [← nR]; exact (srtR_perm R).map _
  refine ⟨srtR R, b3, ?_, hb3, ⟨?_, ?_, fun s h => hO s (pn.mem_iff.mp h), fun r hr s h => pn.mem_iff.mpr ((m.nd r ((srtR_perm R).mem_iff.mp hr)).2.2 s h), fun r hr => (m.nd r ((srtR_perm R).mem_iff.mp hr)).2.1⟩, fun s h => sl.subset (p.mem_iff.mp (pn.mem_iff.mp h))⟩
  · have f1 : sSet 2 (sSlc (sMk .lst (sCons (sC (.str "art")) (sCons (sC (.str "bio")) (sCons (sC (.str "chem")) (sCons (sC (.str "dutch")) (sCons (sC (.str "eng")) (sCons (sC (.str "fin")) (sCons (sC (.str "geo")) (sCons (sC (.str "hist")) (sCons (sC (.str "ital")) (sCons (sC (.str "jazz")) sNil))))))))))) sNoPt (sPt (sCallI 0 fs__law_take (sCons (sBin dPlus (sVar 1) (sC (.int 1))) sNil)))) [some (.b b), some (.f (.int most)), none, none, none, none, none, none] = .ok .nx [some (.b b1), some (.f (.int most)), some (.f (lD l)), none, none, none, none, none] := by
      have g : sMk .lst (sCons (sC (.str "art")) (sCons (sC (.str "bio")) (sCons (sC (.str "chem")) (sCons (sC (.str "dutch")) (sCons (sC (.str "eng")) (sCons (sC (.str "fin")) (sCons (sC (.str "geo")) (sCons (sC (.str "hist")) (sCons (sC (.str "ital")) (sCons (sC (.str "jazz")) sNil)))))))))) [some (.b b), some (.f (.int most)), none, none, none, none, none, none] = .ok (lD names10) [some (.b b), some (.f (.int most)), none, none, none, none, none, none] := by
        have g2 : sCons (sC (.str "art")) (sCons (sC (.str "bio")) (sCons (sC (.str "chem")) (sCons (sC (.str "dutch")) (sCons (sC (.str "eng")) (sCons (sC (.str "fin")) (sCons (sC (.str "geo")) (sCons (sC (.str "hist")) (sCons (sC (.str "ital")) (sCons (sC (.str "jazz")) sNil))))))))) [some (.b b), some (.f (.int most)), none, none, none, none, none, none] = .ok (nD names10) [some (.b b), some (.f (.int most)), none, none, none, none, none, none] := rfl
        unfold sMk
        rw [g2]
        show lift (if (nD names10).length ≤ sizeLine then some (D.nd .lst (nD names10)) else none) _ = _
        rw [if_pos (show (nD names10).length ≤ sizeLine by rw [List.length_map]; exact small (by decide))]
        rfl
      have g3 : dSlc (lD names10) none (some r) = some (lD l) := by
        show some (D.nd .lst (cutD (nD names10) none (some r))) = _
        rw [el]
      unfold sSet sSlc
      rw [g]
      simp [runF, argS, finF, outs, sSeq, sq, bnd, lift, sVar, sBor, sFrz, sMov, sC, sBin, sCmp, sChain, sTru, tru, sAndT, sOrT, sNotT, sAndV, sOrV, sNotV, sIf, sNil, sCons, sMk, s1, sN, sNx, sDrop, sRet, sRetO, sIfS, sSet, sSetO, sAsg, sPut, ownD, chg, ownL, isLst, sMeth, sIxV, bor, sCall, sCallO, sCallI, sCallIO, dGt, cmpI, dMod, dDiv, dMul, dPlus, dAdd, dSub, dNeg, dLen', dLen, sSlc, sSlcV, sPt, sNoPt, sIt, itD, sRg, rg1, hName, hTup, hCons, hNil, sFor, List.replicate, sPar2, pO, pF, pNil, noB, sIsiV, isTy, tyN, isA, sCmpV, sz0, sz1, sz2, sz3, sz4, sz5, e, g3]
    have f2 := cf2 b1 most l
    have c1 : dSorted (.nd .lst (R.map rowD)) = some (.nd .lst ((srtR R).map rowD)) := by
      show sortD (R.map rowD) = _
      unfold sortD
      rw [if_pos ⟨likeD_rows (by rw [nR]; exact hO) (fun r hr s h => hO s ((m.nd r hr).2.2 s h)), by rw [List.length_map]; exact small (by omega)⟩, srtR_map]
    have f5 := cf5 (b := b3) (most := most) (l := l) (O := O) (nm3 := nm3) (at3 := at3) (nd3 := nd3) c1
    have src : sIt (sVar 2) (cE b1 (.int most) (lD l) none none [] [] none) = .ok (nD l) (cE b1 (.int most) (lD l) none none [] [] none) := rfl
    have rg := crg (b := b2) (most := most) (l := l) (nm := name2) (show O.length ≤ 1000 by omega)
    have ee : m__law_courses [some (.b b), some (.f (.int most)), none, none, none, none, none, none] = .ok (.rt (coursesD (srtR R))) (cE b3 (.int most) (lD l) nm3 at3 O (R.map rowD) nd3) := by
      unfold m__law_courses
      refine (seq_ok f1).trans ((seq_ok f2).trans ((seq_ok (ρ1 := cE b2 (.int most) (lD l) name2 none O [] none) ?_).trans ((seq_ok (ρ1 := cE b3 (.int most) (lD l) nm3 at3 O (R.map rowD) nd3) ?_).trans f5)))
      · unfold sFor
        rw [src]
        exact e2
      · unfold sFor
        rw [rg]
        exact e3
    show finF true (m__law_courses _) = _
    rw [show (argS true [b, .int most] ++ List.replicate (8 - 2) none : En) = [some (.b b), some (.f (.int most)), none, none, none, none, none, none] from rfl, ee]
    rfl
  · exact pn.nodup_iff.mpr (p.nodup_iff.mpr (names10_nd.sublist sl))
  · rw [(srtR_perm R).length_eq]; exact lR
theorem courses_ok {b : D} (hb : BagOk b) {most : Int} (h0 : 0 ≤ most) (h1 : most ≤ 100) : ∃ R b', fs__law_courses [b, .int most] = .val false (coursesD R) (some b') ∧ BagOk b' ∧ RowsOk R := by
  obtain ⟨R, b', e, hb', ok, _⟩ := courses_ok2 hb h0 h1
  exact ⟨R, b', e, hb', ok⟩
end Y

set_option Elab.async false
set_option linter.all false
set_option maxRecDepth 100000
set_option maxHeartbeats 4000000
namespace Y
open PySem PySem.Spec PyProof.Rows L2 PySem.W
theorem bin_ok {α : Type} {g : D → D → Option α} {a b : En → R D} {ρ ρ1 ρ2 : En} {x y : D} {d : α} (e1 : a ρ = .ok x ρ1) (e2 : b ρ1 = .ok y ρ2) (e3 : g x y = some d) : sBin g a b ρ = .ok d ρ2 := by
  unfold sBin
  rw [e1]
  show bnd (b ρ1) (fun y ρ2 => lift (g x y) ρ2) = _
  rw [e2]
  show lift (g x y) ρ2 = _
  rw [e3]
  rfl
/-! ### pure blocks -/
theorem set_none {ρ : En} {i : Nat} (h : ρ[i]? = some none) : ρ.set i none = ρ := by
  obtain ⟨h1, h2⟩ := List.getElem?_eq_some_iff.mp h
  rw [← h2]
  exact List.set_getElem_self h1
theorem wipe_back {ρ : En} {i : Nat} {x : Option S} (h : ρ[i]? = some none) : wipeE [i] (ρ.set i x) = ρ := by
  show (ρ.set i x).set i none = ρ
  rw [List.set_set, set_none h]
theorem var_set {ρ : En} {i : Nat} {d : D} (h : ρ[i]? = some none) : sVar i (ρ.set i (some (.f d))) = .ok d (ρ.set i (some (.f d))) := by
  have hi := (List.getElem?_eq_some_iff.mp h).1
  unfold sVar
  rw [List.getElem?_set_self hi]
theorem lc_map {i : Nat} {e : En → R D} {p : D → D} {ρ : En} (h : ρ[i]? = some none) : ∀ (ds acc : List D), (∀ d ∈ ds, e (ρ.set i (some (.f d))) = .ok (p d) (ρ.set i (some (.f d)))) → acc.length + ds.length ≤ 100000 → lcL (hName i) sYes e [i] ds ρ acc = .ok (.nd .lst (acc ++ ds.map p)) ρ
  | [], acc, _, _ => by rw [List.map_nil, List.append_nil]; rfl
  | d :: ds, acc, he, hl => by
    rw [List.length_cons] at hl
    have ih := lc_map h ds (acc ++ [p d]) (fun x hx => he x (List.mem_cons_of_mem _ hx)) (by rw [List.length_append, List.length_singleton]; omega)
    conv => lhs; unfold lcL
    rw [show hName i d ρ = some (ρ.set i (some (.f d))) from rfl]
    simp only [sYes, noX, bnd, if_true, he d List.mem_cons_self]
    rw [if_pos (Nat.lt_of_le_of_lt (show acc.length ≤ 100000 by omega) (by decide)), wipe_back h, ih]
    simp
theorem lc_filt {i : Nat} {t : En → R Bool} {q : D → Bool} {ρ : En} (h : ρ[i]? = some none) : ∀ (ds acc : List D), (∀ d ∈ ds, t (ρ.set i (some (.f d))) = .ok (q d) (ρ.set i (some (.f d)))) → acc.length + ds.length ≤ 100000 → lcL (hName i) t (sVar i) [i] ds ρ acc = .ok (.nd .lst (acc ++ ds.filter q)) ρ
  | [], acc, _, _ => by rw [List.filter_nil, List.append_nil]; rfl
  | d :: ds, acc, he, hl => by
    rw [List.length_cons] at hl
    have hr := fun x hx => he x (List.mem_cons_of_mem d hx)
    conv => lhs; unfold lcL
    rw [show hName i d ρ = some (ρ.set i (some (.f d))) from rfl]
    simp only [noX, bnd, he d List.mem_cons_self]
    cases hq : q d with
    | true =>
      have ih := lc_filt h ds (acc ++ [d]) hr (by rw [List.length_append, List.length_singleton]; omega)
      simp only [if_true, var_set h, noX, bnd]
      rw [if_pos (Nat.lt_of_le_of_lt (show acc.length ≤ 100000 by omega) (by decide)), wipe_back h, ih, List.filter_cons, if_pos hq]
      simp
    | false =>
      have ih := lc_filt h ds acc hr (by omega)
      simp only [Bool.false_eq_true, if_false]
      rw [wipe_back h, ih, List.filter_cons, if_neg (by rw [hq]; exact Bool.false_ne_true)]
theorem sLc_ok {src : En → R (List D)} {g : D → En → Option En} {t : En → R Bool} {e : En → R D} {vs : List Nat} {ρ ρ1 ρ2 : En} {ds : List D} {d : D} (h1 : src ρ = .ok ds ρ1) (hw : wipeE vs ρ1 = ρ1) (h2 : lcL g t e vs ds ρ1 [] = .ok d ρ2) : sLc src g t e vs ρ = .ok d ρ2 := by
  unfold sLc
  rw [h1]
  show lcL g t e vs ds (wipeE vs ρ1) [] = _
  rw [hw]
  exact h2
theorem bls_map (p : D → Bool) : ∀ ds : List D, blsD (ds.map fun d => D.bl (p d)) = some (ds.map p)
  | [] => rfl
  | d :: ds => by
    rw [List.map_cons, List.map_cons]
    unfold blsD
    rw [bls_map p ds]
    rfl
theorem all_map (p : D → Bool) (ds : List D) : dAll (.nd .lst (ds.map fun d => D.bl (p d))) = some (.bl (ds.all p)) := by
  show (blsD (ds.map fun d => D.bl (p d))).map (fun bs => D.bl (bs.all id)) = _
  rw [bls_map]
  simp
theorem dEq_nil {xs : List D} (h : dok (.nd .lst xs) = true) : dEq (.nd .lst xs) (.nd .lst []) = some xs.isEmpty := by
  unfold dEq
  rw [if_pos ⟨h, rfl⟩]
  cases xs <;> simp [py, pys, PyData.eqv, PyData.eqvAll]
theorem dNe_nil {xs : List D} (h : dok (.nd .lst xs) = true) : dNe (.nd .lst xs) (.nd .lst []) = some (!xs.isEmpty) := by
  unfold dNe
  rw [if_pos ⟨h, rfl⟩]
  cases xs <;> simp [py, pys, PyData.eqv, PyData.eqvAll]
theorem filter_none (q : D → Bool) (ds : List D) : (ds.filter q).isEmpty = ds.all fun d => !q d := by
  induction ds with
  | nil => rfl
  | cons d ds ih =>
    rw [List.filter_cons]
    cases h : q d <;> simp [h, ih]
/-! ### names -/
def az : Str := "abcdefghijklmnopqrstuvwxyz"
def sgs (s : Str) : List Nat := s.cps.toList
def nmS (s : Str) : Bool := decide (1 ≤ s.length ∧ s.length ≤ 8) && (sgs s).all fun c => decide (c ∈ sgs az)
def isStr : D → Bool
  | .str _ => true
  | _ => false
def isIB : D → Bool
  | .int _ => true
  | .bl _ => true
  | _ => false
def isBl : D → Bool
  | .bl _ => true
  | _ => false
def isTup : D → Bool
  | .nd .tup _ => true
  | .nd .ktp _ => true
  | _ => false
def azB : D → Bool
  | .str x => match x.cps.toList with
    | [c] => decide (c ∈ sgs az)
    | _ => false
  | _ => false
def nmB : D → Bool
  | .str s => nmS s
  | _ => false
def isInt (lo hi : Int) : D → Bool
  | .int i => decide (lo ≤ i ∧ i ≤ hi)
  | _ => false
theorem isi_str (d : D) (h : (tyN d).isSome = true) : dIsi [d, .ty "str"] = some (.bl (isStr d)) := by
  cases d with
  | nd k xs => cases k <;> simp [tyN] at h <;> simp [dIsi, isTy, tyN, isA, isStr, isIB, isBl, isTup]
  | ty n => simp [tyN] at h
  | _ => simp [dIsi, isTy, tyN, isA, isStr, isIB, isBl, isTup]
theorem isi_int (d : D) (h : (tyN d).isSome = true) : dIsi [d, .ty "int"] = some (.bl (isIB d)) := by
  cases d with
  | nd k xs => cases k <;> simp [tyN] at h <;> simp [dIsi, isTy, tyN, isA, isStr, isIB, isBl, isTup]
  | ty n => simp [tyN] at h
  | _ => simp [dIsi, isTy, tyN, isA, isStr, isIB, isBl, isTup]
theorem isi_bool (d : D) (h : (tyN d).isSome = true) : dIsi [d, .ty "bool"] = some (.bl (isBl d)) := by
  cases d with
  | nd k xs => cases k <;> simp [tyN] at h <;> simp [dIsi, isTy, tyN, isA, isStr, isIB, isBl, isTup]
  | ty n => simp [tyN] at h
  | _ => simp [dIsi, isTy, tyN, isA, isStr, isIB, isBl, isTup]
theorem isi_tup (d : D) (h : (tyN d).isSome = true) : dIsi [d, .ty "tuple"] = some (.bl (isTup d)) := by
  cases d with
  | nd k xs => cases k <;> simp [tyN] at h <;> simp [dIsi, isTy, tyN, isA, isStr, isIB, isBl, isTup]
  | ty n => simp [tyN] at h
  | _ => simp [dIsi, isTy, tyN, isA, isStr, isIB, isBl, isTup]
theorem from_ok {d : D} (h : (tyN d).isSome = true) (lo hi : Int) : fs_is_from [d, .int lo, .int hi] = .val false (.bl (isInt lo hi d)) none := by
  have h1 := isi_int d h
  have h2 := isi_bool d h
  cases d with
  | int i =>
    by_cases c : lo ≤ i <;> by_cases c2 : i ≤ hi <;> simp [fs_is_from, m_is_from, runF, argS, finF, outs, sSeq, sq, bnd, lift, sVar, sBor, sFrz, sMov, sC, sBin, sCmp, sChain, sTru, tru, sAndT, sOrT, sNotT, sAndV, sOrV, sNotV, sIf, sNil, sCons, sMk, s1, sN, sNx, sDrop, sRet, sRetO, sIfS, sSet, sSetO, sAsg, sPut, ownD, chg, ownL, isLst, sMeth, sIxV, bor, sCall, sCallO, sCallI, sCallIO, gSetL, ixN, dIx, atI, dGt, cmpI, dMod, dDiv, dMul, dPlus, dAdd, dSub, dNeg, dLt, dLen', dLen, sSlc, sSlcV, sPt, sNoPt, sIt, itD, sRg, rg1, hName, hTup, hCons, hNil, sFor, List.replicate, sPar2, pO, pF, pNil, noB, sIsiV, isTy, tyN, isA, sCmpV, sz0, sz1, sz2, sz3, sz4, sz5, h1, h2, isInt, isIB, isBl, c, c2]
  | _ => simp [fs_is_from, m_is_from, runF, argS, finF, outs, sSeq, sq, bnd, lift, sVar, sBor, sFrz, sMov, sC, sBin, sCmp, sChain, sTru, tru, sAndT, sOrT, sNotT, sAndV, sOrV, sNotV, sIf, sNil, sCons, sMk, s1, sN, sNx, sDrop, sRet, sRetO, sIfS, sSet, sSetO, sAsg, sPut, ownD, chg, ownL, isLst, sMeth, sIxV, bor, sCall, sCallO, sCallI, sCallIO, gSetL, ixN, dIx, atI, dGt, cmpI, dMod, dDiv, dMul, dPlus, dAdd, dSub, dNeg, dLt, dLen', dLen, sSlc, sSlcV, sPt, sNoPt, sIt, itD, sRg, rg1, hName, hTup, hCons, hNil, sFor, List.replicate, sPar2, pO, pF, pNil, noB, sIsiV, isTy, tyN, isA, sCmpV, sz0, sz1, sz2, sz3, sz4, sz5, h1, h2, isInt, isIB, isBl]
theorem lfrom_ok {d : D} (h : (tyN d).isSome = true) (lo hi : Int) : fs__law_from [d, .int lo, .int hi] = .val false (.bl (isInt lo hi d)) none := by
  have h1 := isi_int d h
  have h2 := isi_bool d h
  cases d with
  | int i =>
    by_cases c : lo ≤ i <;> by_cases c2 : i ≤ hi <;> simp [fs__law_from, m__law_from, runF, argS, finF, outs, sSeq, sq, bnd, lift, sVar, sBor, sFrz, sMov, sC, sBin, sCmp, sChain, sTru, tru, sAndT, sOrT, sNotT, sAndV, sOrV, sNotV, sIf, sNil, sCons, sMk, s1, sN, sNx, sDrop, sRet, sRetO, sIfS, sSet, sSetO, sAsg, sPut, ownD, chg, ownL, isLst, sMeth, sIxV, bor, sCall, sCallO, sCallI, sCallIO, gSetL, ixN, dIx, atI, dGt, cmpI, dMod, dDiv, dMul, dPlus, dAdd, dSub, dNeg, dLt, dLen', dLen, sSlc, sSlcV, sPt, sNoPt, sIt, itD, sRg, rg1, hName, hTup, hCons, hNil, sFor, List.replicate, sPar2, pO, pF, pNil, noB, sIsiV, isTy, tyN, isA, sCmpV, sz0, sz1, sz2, sz3, sz4, sz5, h1, h2, isInt, isIB, isBl, c, c2]
  | _ => simp [fs__law_from, m__law_from, runF, argS, finF, outs, sSeq, sq, bnd, lift, sVar, sBor, sFrz, sMov, sC, sBin, sCmp, sChain, sTru, tru, sAndT, sOrT, sNotT, sAndV, sOrV, sNotV, sIf, sNil, sCons, sMk, s1, sN, sNx, sDrop, sRet, sRetO, sIfS, sSet, sSetO, sAsg, sPut, ownD, chg, ownL, isLst, sMeth, sIxV, bor, sCall, sCallO, sCallI, sCallIO, gSetL, ixN, dIx, atI, dGt, cmpI, dMod, dDiv, dMul, dPlus, dAdd, dSub, dNeg, dLt, dLen', dLen, sSlc, sSlcV, sPt, sNoPt, sIt, itD, sRg, rg1, hName, hTup, hCons, hNil, sFor, List.replicate, sPar2, pO, pF, pNil, noB, sIsiV, isTy, tyN, isA, sCmpV, sz0, sz1, sz2, sz3, sz4, sz5, h1, h2, isInt, isIB, isBl]
theorem in_az (c : Nat) : dIn (sgD c) (.str az) = some (decide (c ∈ sgs az)) := rfl
theorem len_ok (s : Str) : sChain dLe dLe id (sC (.int 1)) (s1 dLen' (sBor 0)) (sC (.int 8)) [some (.f (.str s)), none] = .ok (decide (1 ≤ s.length ∧ s.length ≤ 8)) [some (.f (.str s)), none] := by
  by_cases c : (1 : Int) ≤ (s.length : Int)
  · by_cases c2 : (s.length : Int) ≤ 8
    · have d : 1 ≤ s.length ∧ s.length ≤ 8 := by omega
      simp [runF, argS, finF, outs, sSeq, sq, bnd, lift, sVar, sBor, sFrz, sMov, sC, sBin, sCmp, sChain, sTru, tru, sAndT, sOrT, sNotT, sAndV, sOrV, sNotV, sIf, sNil, sCons, sMk, s1, sN, sNx, sDrop, sRet, sRetO, sIfS, sSet, sSetO, sAsg, sPut, ownD, chg, ownL, isLst, sMeth, sIxV, bor, sCall, sCallO, sCallI, sCallIO, gSetL, ixN, dIx, atI, dGt, cmpI, dMod, dDiv, dMul, dPlus, dAdd, dSub, dNeg, dLt, dLen', dLen, sSlc, sSlcV, sPt, sNoPt, sIt, itD, sRg, rg1, hName, hTup, hCons, hNil, sFor, List.replicate, sPar2, pO, pF, pNil, noB, sIsiV, isTy, tyN, isA, sCmpV, sz0, sz1, sz2, sz3, sz4, sz5, c, c2, d]
    · have d : ¬ (1 ≤ s.length ∧ s.length ≤ 8) := by omega
      simp [runF, argS, finF, outs, sSeq, sq, bnd, lift, sVar, sBor, sFrz, sMov, sC, sBin, sCmp, sChain, sTru, tru, sAndT, sOrT, sNotT, sAndV, sOrV, sNotV, sIf, sNil, sCons, sMk, s1, sN, sNx, sDrop, sRet, sRetO, sIfS, sSet, sSetO, sAsg, sPut, ownD, chg, ownL, isLst, sMeth, sIxV, bor, sCall, sCallO, sCallI, sCallIO, gSetL, ixN, dIx, atI, dGt, cmpI, dMod, dDiv, dMul, dPlus, dAdd, dSub, dNeg, dLt, dLen', dLen, sSlc, sSlcV, sPt, sNoPt, sIt, itD, sRg, rg1, hName, hTup, hCons, hNil, sFor, List.replicate, sPar2, pO, pF, pNil, noB, sIsiV, isTy, tyN, isA, sCmpV, sz0, sz1, sz2, sz3, sz4, sz5, c, c2, d]
  · have d : ¬ (1 ≤ s.length ∧ s.length ≤ 8) := by omega
    simp [runF, argS, finF, outs, sSeq, sq, bnd, lift, sVar, sBor, sFrz, sMov, sC, sBin, sCmp, sChain, sTru, tru, sAndT, sOrT, sNotT, sAndV, sOrV, sNotV, sIf, sNil, sCons, sMk, s1, sN, sNx, sDrop, sRet, sRetO, sIfS, sSet, sSetO, sAsg, sPut, ownD, chg, ownL, isLst, sMeth, sIxV, bor, sCall, sCallO, sCallI, sCallIO, gSetL, ixN, dIx, atI, dGt, cmpI, dMod, dDiv, dMul, dPlus, dAdd, dSub, dNeg, dLt, dLen', dLen, sSlc, sSlcV, sPt, sNoPt, sIt, itD, sRg, rg1, hName, hTup, hCons, hNil, sFor, List.replicate, sPar2, pO, pF, pNil, noB, sIsiV, isTy, tyN, isA, sCmpV, sz0, sz1, sz2, sz3, sz4, sz5, c, d]
theorem sgs_all (s : Str) : ((sgs s).map sgD).all azB = (sgs s).all fun c => decide (c ∈ sgs az) := by
  rw [List.all_map]
  rfl
theorem sgs_len (s : Str) : (sgs s).length = s.length := by simp [sgs, Str.length]
theorem ret_ok {f : En → R D} {ρ ρ1 : En} {d : D} (e : f ρ = .ok d ρ1) : sRet f ρ = .ok (.rt d) ρ1 := by
  unfold sRet
  rw [e]
  rfl
theorem if_yes {t : En → R Bool} {a b : En → R Fl} {ρ ρ1 : En} (e : t ρ = .ok true ρ1) : sIfS t a b ρ = a ρ1 := by
  unfold sIfS
  rw [e]
  rfl
theorem if_no {t : En → R Bool} {a b : En → R Fl} {ρ ρ1 : En} (e : t ρ = .ok false ρ1) : sIfS t a b ρ = b ρ1 := by
  unfold sIfS
  rw [e]
  rfl
theorem or_no {t u : En → R Bool} {ρ ρ1 ρ2 : En} {b : Bool} (e : t ρ = .ok false ρ1) (e2 : u ρ1 = .ok b ρ2) : sOrT t u ρ = .ok b ρ2 := by
  unfold sOrT
  rw [e]
  exact e2
theorem or_yes {t u : En → R Bool} {ρ ρ1 : En} (e : t ρ = .ok true ρ1) : sOrT t u ρ = .ok true ρ1 := by
  unfold sOrT
  rw [e]
  rfl
theorem not_ok {t : En → R Bool} {ρ ρ1 : En} {b : Bool} (e : t ρ = .ok b ρ1) : sNotT t ρ = .ok (!b) ρ1 := by
  unfold sNotT
  rw [e]
  rfl
theorem tru_ok {f : En → R D} {ρ ρ1 : En} {b : Bool} (e : f ρ = .ok (.bl b) ρ1) : sTru f ρ = .ok b ρ1 := by
  unfold sTru
  rw [e]
  rfl
theorem n_ok {g : List D → Option D} {f : En → R (List D)} {ρ ρ1 : En} {ds : List D} {d : D} (e : f ρ = .ok ds ρ1) (e2 : g ds = some d) : sN g f ρ = .ok d ρ1 := by
  unfold sN
  rw [e]
  show lift (g ds) ρ1 = _
  rw [e2]
  rfl
theorem fin_ok {m : En → R Fl} {np n : Nat} {ds : List D} {ρ : En} {d : D} (hl : ds.length = np) (e : m (argS false ds ++ List.replicate (n - np) none) = .ok (.rt d) ρ) : runF false np n m ds = .val false d none := by
  unfold runF
  rw [if_pos hl, e]
  rfl
/-- the head of both tests of a name -/
theorem name_head (s : Str) (x : Option S) : sOrT (sNotT (sTru (sN dIsi (sCons (sVar 0) (sCons (sC (.ty "str")) sNil))))) (sNotT (sChain dLe dLe id (sC (.int 1)) (s1 dLen' (sBor 0)) (sC (.int 8)))) [some (.f (.str s)), none] = .ok (!decide (1 ≤ s.length ∧ s.length ≤ 8)) [some (.f (.str s)), none] :=
  or_no (not_ok (tru_ok (n_ok (ds := [.str s, .ty "str"]) rfl (isi_str (.str s) rfl)))) (not_ok (len_ok s))
theorem name_ok {d : D} (h : (tyN d).isSome = true) (hl : ∀ s, d = .str s → s.length ≤ 1000) : fs_is_name [d] = .val false (.bl (nmB d)) none := by
  have h1 := isi_str d h
  cases d with
  | str s =>
    have hs := hl s rfl
    refine fin_ok (ρ := [some (.f (.str s)), none]) rfl ?_
    show m_is_name [some (.f (.str s)), none] = _
    unfold m_is_name
    by_cases c : 1 ≤ s.length ∧ s.length ≤ 8
    · have e1 := name_head s none
      rw [decide_eq_true c] at e1
      refine (seq_ok ((if_no e1).trans rfl)).trans ?_
      have blk : sLc (sIt (sVar 0)) (hName 1) sYes (sCmp dIn (sVar 1) (sC (.str az))) [1] [some (.f (.str s)), none] = .ok (.nd .lst (((sgs s).map sgD).map fun d => D.bl (azB d))) [some (.f (.str s)), none] := by
        refine sLc_ok (ds := (sgs s).map sgD) (ρ1 := [some (.f (.str s)), none]) rfl rfl ?_
        refine (lc_map (i := 1) (e := sCmp dIn (sVar 1) (sC (.str az))) (p := fun d => D.bl (azB d)) (ρ := [some (.f (.str s)), none]) rfl ((sgs s).map sgD) [] (fun d hd => ?_) ?_).trans rfl
        · obtain ⟨c, _, rfl⟩ := List.mem_map.mp hd
          unfold sCmp
          exact bin_ok (x := sgD c) (y := .str az) rfl rfl (by rw [in_az]; rfl)
        · have := sgs_len s
          simp [this]; omega
      refine ret_ok (s1_ok blk ?_)
      rw [all_map, sgs_all]
      simp [nmB, nmS, c]
    · have e1 := name_head s none
      rw [decide_eq_false c] at e1
      refine (show sSeq _ _ _ = _ from ?_)
      unfold sSeq
      rw [(if_yes e1).trans rfl]
      simp [sRet, sC, bnd, sq, nmB, nmS, c]
  | _ => simp [fs_is_name, m_is_name, runF, argS, finF, outs, sSeq, sq, bnd, lift, sVar, sBor, sFrz, sMov, sC, sBin, sCmp, sChain, sTru, tru, sAndT, sOrT, sNotT, sAndV, sOrV, sNotV, sIf, sNil, sCons, sMk, s1, sN, sNx, sDrop, sRet, sRetO, sIfS, sSet, sSetO, sAsg, sPut, ownD, chg, ownL, isLst, sMeth, sIxV, bor, sCall, sCallO, sCallI, sCallIO, gSetL, ixN, dIx, atI, dGt, cmpI, dMod, dDiv, dMul, dPlus, dAdd, dSub, dNeg, dLt, dLen', dLen, sSlc, sSlcV, sPt, sNoPt, sIt, itD, sRg, rg1, hName, hTup, hCons, hNil, sFor, List.replicate, sPar2, pO, pF, pNil, noB, sIsiV, isTy, tyN, isA, sCmpV, sz0, sz1, sz2, sz3, sz4, sz5, h1, nmB, isStr]
end Y

set_option Elab.async false
set_option linter.all false
set_option maxRecDepth 100000
set_option maxHeartbeats 4000000
namespace Y
open PySem PySem.Spec PyProof.Rows L2 PySem.W
/-! ### the values that may come -/
def vv (m : Nat) : Nat → D → Bool
  | _, .non => true
  | _, .bl _ => true
  | _, .int _ => true
  | _, .str s => strG s && decide (s.length ≤ 20)
  | _, .ty _ => false
  | 0, .nd _ _ => false
  | n + 1, .nd .tup xs => decide (xs.length ≤ m) && xs.all fun x => vv m n x
  | n + 1, .nd .lst xs => decide (xs.length ≤ m) && xs.all fun x => vv m n x
  | _ + 1, .nd _ _ => false
theorem vv_ty {m n : Nat} {d : D} (h : vv m n d = true) : (tyN d).isSome = true := by
  cases d with
  | nd k xs =>
    cases n with
    | zero => simp [vv] at h
    | succ n => cases k <;> first | rfl | simp [vv] at h
  | ty _ => cases n <;> simp [vv] at h
  | _ => rfl
theorem vv_str {m n : Nat} {s : Str} (h : vv m n (.str s) = true) : strG s = true ∧ s.length ≤ 20 := by
  cases n <;> simpa [vv] using h
theorem vv_tup {m n : Nat} {xs : List D} (h : vv m n (.nd .tup xs) = true) : ∃ j, n = j + 1 ∧ xs.length ≤ m ∧ ∀ x ∈ xs, vv m j x = true := by
  cases n with
  | zero => simp [vv] at h
  | succ n => exact ⟨n, rfl, by simpa [vv] using h⟩
theorem vv_lst {m n : Nat} {xs : List D} (h : vv m n (.nd .lst xs) = true) : ∃ j, n = j + 1 ∧ xs.length ≤ m ∧ ∀ x ∈ xs, vv m j x = true := by
  cases n with
  | zero => simp [vv] at h
  | succ n => exact ⟨n, rfl, by simpa [vv] using h⟩
theorem okDs_of {xs : List D} {n : Nat} (h : ∀ x ∈ xs, okD x = true ∧ (py x).depth ≤ n) : okDs xs = true ∧ PyData.depthAll (pys xs) ≤ n := by
  induction xs with
  | nil => exact ⟨rfl, Nat.zero_le _⟩
  | cons a xs ih =>
    obtain ⟨h1, h2⟩ := ih fun x m => h x (List.mem_cons_of_mem _ m)
    obtain ⟨a1, a2⟩ := h a List.mem_cons_self
    constructor
    · show (okD a && okDs xs) = true
      rw [a1, h1]; rfl
    · show max (PyData.depth (py a)) (PyData.depthAll (pys xs)) ≤ n
      exact Nat.max_le.mpr ⟨a2, h2⟩
theorem vv_ok {m : Nat} : ∀ {n : Nat} {d : D}, vv m n d = true → okD d = true ∧ (py d).depth ≤ n := by
  intro n
  induction n with
  | zero =>
    intro d h
    cases d with
    | str s => exact ⟨(vv_str h).1, Nat.le_refl _⟩
    | nd k xs => simp [vv] at h
    | ty _ => simp [vv] at h
    | _ => exact ⟨by simp [okD], by simp [py, PyData.depth]⟩
  | succ n ih =>
    intro d h
    cases d with
    | str s => exact ⟨(vv_str h).1, Nat.zero_le _⟩
    | nd k xs =>
      cases k with
      | tup =>
        obtain ⟨j, e, _, hx⟩ := vv_tup h
        cases e
        obtain ⟨h1, h2⟩ := okDs_of fun x m => ih (hx x m)
        exact ⟨by simpa [okD] using h1, by simp only [py, PyData.depth]; omega⟩
      | lst =>
        obtain ⟨j, e, _, hx⟩ := vv_lst h
        cases e
        obtain ⟨h1, h2⟩ := okDs_of fun x m => ih (hx x m)
        exact ⟨by simpa [okD] using h1, by simp only [py, PyData.depth]; omega⟩
      | _ => simp [vv] at h
    | ty _ => simp [vv] at h
    | _ => exact ⟨by simp [okD], by simp [py, PyData.depth]⟩
theorem dok_of_all {n : Nat} (hn : n ≤ 60) {m : Nat} {xs : List D} (h : ∀ x ∈ xs, vv m n x = true) : dok (.nd .lst xs) = true := by
  obtain ⟨h1, h2⟩ := okDs_of fun x m => vv_ok (h x m)
  unfold dok
  simp only [okD, py, PyData.depth, h1, Bool.true_and, decide_eq_true_eq]
  omega
/-! ### the law's test of a name -/
theorem strG_sign {s : Str} (h : strG s = true) {c : Nat} (hc : c ∈ sgs s) : strG ⟨#[c]⟩ = true := by
  have : ∀ x ∈ s.cps, x < 0x110000 := by
    have h' : s.cps.all (· < 0x110000) = true := h
    have h2 : ∀ (i : Nat) (x : i < s.cps.size), s.cps[i] < 1114112 := by simpa [Array.all_eq_true] using h'
    intro x hx
    obtain ⟨i, hi, rfl⟩ := Array.mem_iff_getElem.mp hx
    exact h2 i hi
  have hc' : c ∈ s.cps := by simpa [sgs] using hc
  have := this c hc'
  show (#[c] : Array Nat).all (· < 0x110000) = true
  simpa using this
theorem lname_ok {m n : Nat} {d : D} (h : vv m n d = true) : fs__law_is_name [d] = .val false (.bl (nmB d)) none := by
  have hty := vv_ty h
  have h1 := isi_str d hty
  cases d with
  | str s =>
    obtain ⟨g, hs⟩ := vv_str h
    refine fin_ok (ρ := [some (.f (.str s)), none]) rfl ?_
    show m__law_is_name [some (.f (.str s)), none] = _
    unfold m__law_is_name
    by_cases c : 1 ≤ s.length ∧ s.length ≤ 8
    · have e1 := name_head s none
      rw [decide_eq_true c] at e1
      refine (seq_ok ((if_no e1).trans rfl)).trans ?_
      have blk : sLc (sIt (sVar 0)) (hName 1) (sBin dNotIn (sVar 1) (sC (.str az))) (sVar 1) [1] [some (.f (.str s)), none] = .ok (.nd .lst (((sgs s).map sgD).filter fun d => !azB d)) [some (.f (.str s)), none] := by
        refine sLc_ok (ds := (sgs s).map sgD) (ρ1 := [some (.f (.str s)), none]) rfl rfl ?_
        refine (lc_filt (i := 1) (t := sBin dNotIn (sVar 1) (sC (.str az))) (q := fun d => !azB d) (ρ := [some (.f (.str s)), none]) rfl ((sgs s).map sgD) [] (fun d hd => ?_) ?_).trans rfl
        · obtain ⟨c, _, rfl⟩ := List.mem_map.mp hd
          exact bin_ok (x := sgD c) (y := .str az) rfl rfl (by unfold dNotIn; rw [in_az]; rfl)
        · have := sgs_len s
          simp [this]; omega
      refine ret_ok (bin_ok blk (y := .nd .lst []) rfl ?_)
      have dk : dok (.nd .lst (((sgs s).map sgD).filter fun d => !azB d)) = true := by
        refine dok_of_all (m := 0) (n := 0) (by decide) fun x hx => ?_
        obtain ⟨c, hc, rfl⟩ := List.mem_map.mp (List.mem_filter.mp hx).1
        have := strG_sign g hc
        show (strG ⟨#[c]⟩ && decide (1 ≤ 20)) = true
        rw [this]; rfl
      rw [dEq_nil dk, filter_none]
      have : (((sgs s).map sgD).all fun d => !!azB d) = ((sgs s).map sgD).all azB := by simp
      rw [this, sgs_all]
      simp [nmB, nmS, c]
    · have e1 := name_head s none
      rw [decide_eq_false c] at e1
      refine (show sSeq _ _ _ = _ from ?_)
      unfold sSeq
      rw [(if_yes e1).trans rfl]
      simp [sRet, sC, bnd, sq, nmB, nmS, c]
  | _ => simp [fs__law_is_name, m__law_is_name, runF, argS, finF, outs, sSeq, sq, bnd, lift, sVar, sBor, sFrz, sMov, sC, sBin, sCmp, sChain, sTru, tru, sAndT, sOrT, sNotT, sAndV, sOrV, sNotV, sIf, sNil, sCons, sMk, s1, sN, sNx, sDrop, sRet, sRetO, sIfS, sSet, sSetO, sAsg, sPut, ownD, chg, ownL, isLst, sMeth, sIxV, bor, sCall, sCallO, sCallI, sCallIO, gSetL, ixN, dIx, atI, dGt, cmpI, dMod, dDiv, dMul, dPlus, dAdd, dSub, dNeg, dLt, dLen', dLen, sSlc, sSlcV, sPt, sNoPt, sIt, itD, sRg, rg1, hName, hTup, hCons, hNil, sFor, List.replicate, sPar2, pO, pF, pNil, noB, sIsiV, isTy, tyN, isA, sCmpV, sz0, sz1, sz2, sz3, sz4, sz5, h1, nmB, isStr]
end Y

set_option Elab.async false
set_option linter.all false
set_option maxRecDepth 100000
set_option maxHeartbeats 4000000
namespace Y
open PySem PySem.Spec PyProof.Rows L2 PySem.W
/-! ### rising -/
def risB (l : List Str) : Bool := (l.zip (l.drop 1)).all fun p => decide (sgs p.1 < sgs p.2)
theorem risB_iff : ∀ l : List Str, risB l = true ↔ l.Pairwise fun a b => sgs a < sgs b
  | [] => by simp [risB]
  | [a] => by simp [risB]
  | a :: b :: l => by
    have ih := risB_iff (b :: l)
    have e : risB (a :: b :: l) = (decide (sgs a < sgs b) && risB (b :: l)) := by simp [risB]
    rw [e, Bool.and_eq_true, decide_eq_true_eq, ih, List.pairwise_cons (a := a)]
    constructor
    · rintro ⟨h1, h2⟩
      refine ⟨fun c hc => ?_, h2⟩
      rcases List.mem_cons.mp hc with rfl | hc
      · exact h1
      · exact List.lt_trans h1 ((List.pairwise_cons.mp h2).1 c hc)
    · rintro ⟨h1, h2⟩
      exact ⟨h1 b List.mem_cons_self, h2⟩
theorem ddS_nodup : ∀ {l : List Str}, l.Nodup → ddS l = l
  | [], _ => rfl
  | a :: l, h => by
    have h' := List.nodup_cons.mp h
    unfold ddS
    rw [if_neg (fun z => ?_), ddS_nodup h'.2]
    obtain ⟨x, h1, h2⟩ := List.any_eq_true.mp z
    exact h'.1 (by rw [← of_decide_eq_true h2]; exact h1)
theorem srt_sorted {l : List Str} (h : l.Pairwise fun a b => sgs a ≤ sgs b) : srt l = l := by
  apply map_inj_str
  rw [← srt_map]
  have hp : (nD l).Pairwise fun a b => leD a b = true := by
    rw [List.pairwise_map]
    exact h.imp fun {a b} q => by rw [leD_str]; exact decide_eq_true q
  refine List.Perm.eq_of_pairwise (le := fun a b => leD a b = true) (fun a b ha hb h1 h2 => ?_) (sort_pairwise leD_total _) hp (List.mergeSort_perm _ _)
  obtain ⟨s, _, rfl⟩ := List.mem_map.mp ((List.mergeSort_perm _ _).mem_iff.mp ha)
  obtain ⟨s', _, rfl⟩ := List.mem_map.mp hb
  simp only [leD_str, decide_eq_true_eq] at h1 h2
  rw [str_ext (List.le_antisymm h1 h2)]
theorem srt_pw (l : List Str) : (srt l).Pairwise fun a b => sgs a ≤ sgs b := by
  have h := sort_pairwise leD_total (nD l)
  rw [srt_map, List.pairwise_map] at h
  exact h.imp fun {a b} q => by rw [leD_str] at q; exact of_decide_eq_true q
theorem ris_srt (l : List Str) : (l.Pairwise fun a b => sgs a < sgs b) ↔ l = srt (ddS l) := by
  constructor
  · intro h
    have nd : l.Nodup := h.imp fun {a b} q e => by rw [e] at q; exact List.lt_irrefl _ q
    rw [ddS_nodup nd, srt_sorted (h.imp fun {a b} q => List.le_of_lt q)]
  · intro h
    have nd : l.Nodup := by
      rw [h]; exact (srt_perm _).nodup_iff.mpr (nodup_ddS l)
    have pw : l.Pairwise fun a b => sgs a ≤ sgs b := by
      have := srt_pw (ddS l)
      rw [← h] at this
      exact this
    refine (pw.and nd).imp fun {a b} q => ?_
    exact List.not_le.mp fun z => q.2 (str_ext (List.le_antisymm q.1 z))
theorem eqvAll_names : ∀ l m : List Str, PyData.eqvAll (pys (nD l)) (pys (nD m)) = decide (l = m)
  | [], [] => rfl
  | [], b :: m => by simp [pys, PyData.eqvAll]
  | a :: l, [] => by simp [pys, PyData.eqvAll]
  | a :: l, b :: m => by
    have ih := eqvAll_names l m
    show (PyData.eqv (py (.str a)) (py (.str b)) && PyData.eqvAll (pys (nD l)) (pys (nD m))) = _
    rw [eqv_str, ih]
    by_cases h : a = b <;> by_cases h2 : l = m <;> simp [h, h2]
theorem dEq_names {l m : List Str} (h1 : NmsOk l) (h2 : NmsOk m) : dEq (lD l) (lD m) = some (decide (l = m)) := by
  unfold dEq
  rw [if_pos ⟨dok_lst h1, dok_lst h2⟩]
  have : PyData.eqv (py (lD l)) (py (lD m)) = PyData.eqvAll (pys (nD l)) (pys (nD m)) := by simp [py, PyData.eqv]
  rw [this, eqvAll_names]
theorem lrising_ok {k : Kd} (hk : k = .lst ∨ k = .tup) {l : List Str} (h : NmsOk l) (hl : l.length ≤ 1000) : fs__law_rising [.nd k (nD l)] = .val false (.bl (risB l)) none := by
  have e1 : dList (.nd k (nD l)) = some (lD l) := by rcases hk with rfl | rfl <;> rfl
  have e2 := sortSet_names hk h (Nat.lt_of_le_of_lt (show l.length + 1 ≤ 1001 by omega) (by decide))
  have hs : NmsOk (srt (ddS l)) := fun s m => h s (mem_ddS.mp ((srt_perm _).mem_iff.mp m))
  have e3 := dEq_names h hs
  have e4 : decide (l = srt (ddS l)) = risB l := by
    rw [Bool.eq_iff_iff, decide_eq_true_eq, risB_iff, ris_srt]
  rw [e4] at e3
  refine fin_ok (ρ := [some (.f (.nd k (nD l)))]) rfl ?_
  show m__law_rising [some (.f (.nd k (nD l)))] = _
  unfold m__law_rising
  refine ret_ok (bin_ok (s1_ok (f := sBor 0) (d := .nd k (nD l)) rfl e1) (s1_ok (f := sBor 0) (d := .nd k (nD l)) rfl e2) ?_)
  rw [e3]
  rfl
theorem lc_mapG {g : D → En → Option En} {e : En → R D} {vs : List Nat} {p : D → D} {ρ : En} : ∀ (ds acc : List D), (∀ d ∈ ds, ∃ ρ1 ρ2, g d ρ = some ρ1 ∧ e ρ1 = .ok (p d) ρ2 ∧ wipeE vs ρ2 = ρ) → acc.length + ds.length ≤ 100000 → lcL g sYes e vs ds ρ acc = .ok (.nd .lst (acc ++ ds.map p)) ρ
  | [], acc, _, _ => by rw [List.map_nil, List.append_nil]; rfl
  | d :: ds, acc, he, hl => by
    rw [List.length_cons] at hl
    have ih := lc_mapG ds (acc ++ [p d]) (fun x hx => he x (List.mem_cons_of_mem _ hx)) (by rw [List.length_append, List.length_singleton]; omega)
    obtain ⟨ρ1, ρ2, h1, h2, h3⟩ := he d List.mem_cons_self
    conv => lhs; unfold lcL
    rw [h1]
    simp only [sYes, noX, bnd, if_true, h2]
    rw [if_pos (Nat.lt_of_le_of_lt (show acc.length ≤ 100000 by omega) (by decide)), h3, ih]
    simp
theorem cut1 (xs : List D) : cutD xs (some 1) none = xs.drop 1 := by
  unfold cutD
  have h1 : HT.sIx xs.length 0 (some 1) = min 1 xs.length := HT.sIx_nat _ _ 1
  have h2 : HT.sIx xs.length xs.length none = xs.length := rfl
  rw [h1, h2]
  cases xs with
  | nil => rfl
  | cons a xs =>
    have : min 1 (a :: xs).length = 1 := by rw [List.length_cons]; omega
    rw [this]
    simp
def ltP : D → Bool
  | .nd .tup [.str a, .str b] => decide (sgs a < sgs b)
  | _ => false
theorem rises_ok {k : Kd} (hk : k = .lst ∨ k = .tup) {l : List Str} (hl : l.length ≤ 1000) : fs_rises [.nd k (nD l)] = .val false (.bl (risB l)) none := by
  have e1 : dSlc (.nd k (nD l)) (some 1) none = some (.nd k (nD (l.drop 1))) := by
    have : cutD (nD l) (some 1) none = nD (l.drop 1) := by rw [cut1]; simp
    rcases hk with rfl | rfl <;> (show some (D.nd _ (cutD (nD l) (some 1) none)) = _; rw [this])
  have e2 : zp2 [.nd k (nD l), .nd k (nD (l.drop 1))] = some (zpD (nD l) (nD (l.drop 1))) := by rcases hk with rfl | rfl <;> rfl
  have e3 : zpD (nD l) (nD (l.drop 1)) = (l.zip (l.drop 1)).map fun p => .nd .tup [.str p.1, .str p.2] := by
    unfold zpD
    rw [List.zip_map, List.map_map]
    rfl
  refine fin_ok (ρ := [some (.f (.nd k (nD l))), none, none]) rfl ?_
  show m_rises [some (.f (.nd k (nD l))), none, none] = _
  unfold m_rises
  have src : sRg zp2 (sCons (sVar 0) (sCons (sSlc (sVar 0) (sPt (sC (.int 1))) sNoPt) sNil)) [some (.f (.nd k (nD l))), none, none] = .ok (zpD (nD l) (nD (l.drop 1))) [some (.f (.nd k (nD l))), none, none] := by
    have a : sSlc (sVar 0) (sPt (sC (.int 1))) sNoPt [some (.f (.nd k (nD l))), none, none] = .ok (.nd k (nD (l.drop 1))) [some (.f (.nd k (nD l))), none, none] := by
      show lift (dSlc (.nd k (nD l)) (some 1) none) _ = _
      rw [e1]; rfl
    have b : sCons (sSlc (sVar 0) (sPt (sC (.int 1))) sNoPt) sNil [some (.f (.nd k (nD l))), none, none] = .ok [.nd k (nD (l.drop 1))] [some (.f (.nd k (nD l))), none, none] := one_ok a
    have c : sCons (sVar 0) (sCons (sSlc (sVar 0) (sPt (sC (.int 1))) sNoPt) sNil) [some (.f (.nd k (nD l))), none, none] = .ok [.nd k (nD l), .nd k (nD (l.drop 1))] [some (.f (.nd k (nD l))), none, none] := by
      unfold sCons at b ⊢
      show bnd (bnd _ _) _ = _
      rw [b]; rfl
    exact rg_ok c e2
  have blk : sLc (sRg zp2 (sCons (sVar 0) (sCons (sSlc (sVar 0) (sPt (sC (.int 1))) sNoPt) sNil))) (hTup 2 (hCons (hName 1) (hCons (hName 2) hNil))) sYes (sCmp dLt (sVar 1) (sBor 2)) [1, 2] [some (.f (.nd k (nD l))), none, none] = .ok (.nd .lst ((zpD (nD l) (nD (l.drop 1))).map fun d => D.bl (ltP d))) [some (.f (.nd k (nD l))), none, none] := by
    refine sLc_ok src rfl ((lc_mapG (p := fun d => D.bl (ltP d)) _ [] (fun d hd => ?_) ?_).trans rfl)
    · rw [e3] at hd
      obtain ⟨p, _, rfl⟩ := List.mem_map.mp hd
      exact ⟨[some (.f (.nd k (nD l))), some (.f (.str p.1)), some (.f (.str p.2))], [some (.f (.nd k (nD l))), some (.f (.str p.1)), some (.f (.str p.2))], rfl, rfl, rfl⟩
    · rw [e3, List.length_map, List.length_zip]; simp; omega
  refine ret_ok (s1_ok blk ?_)
  rw [all_map, e3, List.all_map]
  rfl
end Y

set_option Elab.async false
set_option linter.all false
set_option maxRecDepth 100000
set_option maxHeartbeats 4000000
namespace Y
open PySem PySem.Spec PyProof.Rows L2 PySem.W
/-! ### rows -/
def rowB (many : Nat) : D → Bool
  | .nd .tup ys => decide (ys.length = many)
  | _ => false
def rowsB (most many : Nat) : D → Bool
  | .nd .tup xs => decide (xs.length ≤ most) && xs.all (rowB many)
  | _ => false
theorem dEq_ints (a b : Nat) : dEq (.int (a : Int)) (.int (b : Int)) = some (decide (a = b)) := by
  unfold dEq
  rw [if_pos ⟨rfl, rfl⟩]
  simp only [py, PyData.eqv]
  by_cases h : a = b
  · subst h; simp
  · have : ((a : Int) == (b : Int)) = false := by rw [beq_eq_false_iff_ne]; omega
    rw [this, decide_eq_false h]
theorem dNe_ints (a b : Nat) : dNe (.int (a : Int)) (.int (b : Int)) = some (!decide (a = b)) := by
  have h := dEq_ints a b
  unfold dEq at h
  unfold dNe
  rw [if_pos ⟨rfl, rfl⟩] at h ⊢
  rw [Option.some.inj h]
theorem len_nd {k : Kd} (hk : k = .lst ∨ k = .tup) (xs : List D) : dLen' (.nd k xs) = some (.int (xs.length : Int)) := by rcases hk with rfl | rfl <;> rfl
theorem and_no {a b : En → R D} {ρ ρ1 : En} (e : a ρ = .ok (.bl false) ρ1) : sAndV a b ρ = .ok (.bl false) ρ1 := by
  unfold sAndV
  rw [e]
  rfl
theorem and_yes {a b : En → R D} {ρ ρ1 ρ2 : En} {d : D} (e : a ρ = .ok (.bl true) ρ1) (e2 : b ρ1 = .ok d ρ2) : sAndV a b ρ = .ok d ρ2 := by
  unfold sAndV
  rw [e]
  exact e2
/-- the false way out -/
theorem out_no {t : En → R Bool} {b : En → R Fl} {ρ ρ1 : En} (e : t ρ = .ok true ρ1) : sSeq (sIfS t (sRet (sC (.bl false))) sNx) b ρ = .ok (.rt (.bl false)) ρ1 := by
  unfold sSeq
  rw [if_yes e]
  rfl
theorem out_go {t : En → R Bool} {b : En → R Fl} {ρ ρ1 : En} (e : t ρ = .ok false ρ1) : sSeq (sIfS t (sRet (sC (.bl false))) sNx) b ρ = b ρ1 := seq_ok ((if_no e).trans rfl)
theorem rows_head {d : D} (hty : (tyN d).isSome = true) (most many : Nat) : ∃ b, sOrT (sNotT (sTru (sN dIsi (sCons (sVar 0) (sCons (sC (.ty "tuple")) sNil))))) (sBin dGt (s1 dLen' (sBor 0)) (sBor 1)) [some (.f d), some (.f (.int (most : Int))), some (.f (.int (many : Int))), none] = .ok b [some (.f d), some (.f (.int (most : Int))), some (.f (.int (many : Int))), none] ∧ (isTup d = false → b = true) ∧ ∀ xs, d = .nd .tup xs → b = !decide (xs.length ≤ most) := by
  have e0 : sNotT (sTru (sN dIsi (sCons (sVar 0) (sCons (sC (.ty "tuple")) sNil)))) [some (.f d), some (.f (.int (most : Int))), some (.f (.int (many : Int))), none] = .ok (!isTup d) [some (.f d), some (.f (.int (most : Int))), some (.f (.int (many : Int))), none] := not_ok (tru_ok (n_ok (ds := [d, .ty "tuple"]) rfl (isi_tup d hty)))
  cases h : isTup d with
  | false =>
    rw [h] at e0
    exact ⟨true, or_yes e0, fun _ => rfl, fun xs e => by rw [e] at h; cases h⟩
  | true =>
    rw [h] at e0
    cases d with
    | nd k xs =>
      have hk : k = .tup ∨ k = .ktp := by cases k <;> simp [isTup] at h <;> simp
      have el : dLen' (.nd k xs) = some (.int (xs.length : Int)) := by rcases hk with rfl | rfl <;> rfl
      have eg : dGt (.int (xs.length : Int)) (.int (most : Int)) = some (!decide (xs.length ≤ most)) := by
        show some (decide ((most : Int) < (xs.length : Int))) = _
        congr 1
        by_cases c : xs.length ≤ most
        · have : ¬ (most : Int) < xs.length := by omega
          rw [decide_eq_true c, decide_eq_false this]; rfl
        · have : (most : Int) < xs.length := by omega
          rw [decide_eq_false c, decide_eq_true this]; rfl
      exact ⟨_, or_no e0 (bin_ok (s1_ok (f := sBor 0) rfl el) rfl eg), (fun z => by cases z), fun ys e => by cases e; rfl⟩
    | _ => cases h
theorem row_len {m n : Nat} {r : D} (h : vv m n r = true) (hr : isTup r = true) : ∃ ys, r = .nd .tup ys := by
  cases r with
  | nd k ys =>
    cases k with
    | tup => exact ⟨ys, rfl⟩
    | ktp => cases n <;> simp [vv] at h
    | _ => cases hr
  | _ => cases hr
theorem rowB_no {r : D} {many : Nat} (h : isTup r = false) : rowB many r = false := by
  cases r with
  | nd k ys => cases k <;> first | rfl | cases h
  | _ => rfl
theorem rows_ok {m n : Nat} {d : D} (h : vv m n d = true) (hm : m ≤ 1000) (most many : Nat) : fs_are_rows [d, .int (most : Int), .int (many : Int)] = .val false (.bl (rowsB most many d)) none := by
  obtain ⟨b, e1, e2, e3⟩ := rows_head (vv_ty h) most many
  refine fin_ok (ρ := [some (.f d), some (.f (.int (most : Int))), some (.f (.int (many : Int))), none]) rfl ?_
  show m_are_rows [some (.f d), some (.f (.int (most : Int))), some (.f (.int (many : Int))), none] = _
  unfold m_are_rows
  cases ht : isTup d with
  | false =>
    rw [e2 ht] at e1
    refine (out_no e1).trans ?_
    have : rowsB most many d = false := by
      cases d with
      | nd k ys => cases k <;> first | rfl | cases ht
      | _ => rfl
    rw [this]
  | true =>
    obtain ⟨xs, rfl⟩ := row_len h ht
    obtain ⟨j, _, hx, hv⟩ := vv_tup h
    rw [e3 xs rfl] at e1
    by_cases c : xs.length ≤ most
    · rw [decide_eq_true c] at e1
      refine (out_go e1).trans ?_
      have blk : sLc (sIt (sVar 0)) (hName 3) sYes (sAndV (sN dIsi (sCons (sVar 3) (sCons (sC (.ty "tuple")) sNil))) (sCmp dEq (s1 dLen' (sBor 3)) (sBor 2))) [3] [some (.f (.nd .tup xs)), some (.f (.int (most : Int))), some (.f (.int (many : Int))), none] = .ok (.nd .lst (xs.map fun d => D.bl (rowB many d))) [some (.f (.nd .tup xs)), some (.f (.int (most : Int))), some (.f (.int (many : Int))), none] := by
        refine sLc_ok (ds := xs) (ρ1 := [some (.f (.nd .tup xs)), some (.f (.int (most : Int))), some (.f (.int (many : Int))), none]) rfl rfl ?_
        refine (lc_map (i := 3) (p := fun d => D.bl (rowB many d)) (ρ := [some (.f (.nd .tup xs)), some (.f (.int (most : Int))), some (.f (.int (many : Int))), none]) rfl xs [] (fun r hr => ?_) (by simp; omega)).trans rfl
        have hr' := hv r hr
        have ei := isi_tup r (vv_ty hr')
        cases hrt : isTup r with
        | false =>
          rw [hrt] at ei
          rw [rowB_no hrt]
          exact and_no (n_ok (ds := [r, .ty "tuple"]) rfl ei)
        | true =>
          rw [hrt] at ei
          obtain ⟨ys, rfl⟩ := row_len hr' hrt
          refine and_yes (n_ok (ds := [.nd .tup ys, .ty "tuple"]) rfl ei) ?_
          unfold sCmp
          refine bin_ok (s1_ok (f := sBor 3) (d := .nd .tup ys) rfl (len_nd (.inr rfl) ys)) rfl ?_
          show (dEq (.int (ys.length : Int)) (.int (many : Int))).map D.bl = _
          rw [dEq_ints]; rfl
      refine ret_ok (s1_ok blk ?_)
      rw [all_map]
      simp [rowsB, c]
    · rw [decide_eq_false c] at e1
      refine (out_no e1).trans ?_
      simp [rowsB, c]
theorem lrows_ok {m n : Nat} {d : D} (h : vv m n d = true) (hm : m ≤ 1000) (hn : n ≤ 60) (most many : Nat) : fs__law_are_rows [d, .int (most : Int), .int (many : Int)] = .val false (.bl (rowsB most many d)) none := by
  obtain ⟨b, e1, e2, e3⟩ := rows_head (vv_ty h) most many
  refine fin_ok (ρ := [some (.f d), some (.f (.int (most : Int))), some (.f (.int (many : Int))), none]) rfl ?_
  show m__law_are_rows [some (.f d), some (.f (.int (most : Int))), some (.f (.int (many : Int))), none] = _
  unfold m__law_are_rows
  cases ht : isTup d with
  | false =>
    rw [e2 ht] at e1
    refine (out_no e1).trans ?_
    have : rowsB most many d = false := by
      cases d with
      | nd k ys => cases k <;> first | rfl | cases ht
      | _ => rfl
    rw [this]
  | true =>
    obtain ⟨xs, rfl⟩ := row_len h ht
    obtain ⟨j, ej, hx, hv⟩ := vv_tup h
    rw [e3 xs rfl] at e1
    by_cases c : xs.length ≤ most
    · rw [decide_eq_true c] at e1
      refine (out_go e1).trans ?_
      have blk : sLc (sIt (sVar 0)) (hName 3) (sOrT (sNotT (sTru (sN dIsi (sCons (sVar 3) (sCons (sC (.ty "tuple")) sNil))))) (sBin dNe (s1 dLen' (sBor 3)) (sBor 2))) (sVar 3) [3] [some (.f (.nd .tup xs)), some (.f (.int (most : Int))), some (.f (.int (many : Int))), none] = .ok (.nd .lst (xs.filter fun d => !rowB many d)) [some (.f (.nd .tup xs)), some (.f (.int (most : Int))), some (.f (.int (many : Int))), none] := by
        refine sLc_ok (ds := xs) (ρ1 := [some (.f (.nd .tup xs)), some (.f (.int (most : Int))), some (.f (.int (many : Int))), none]) rfl rfl ?_
        refine (lc_filt (i := 3) (q := fun d => !rowB many d) (ρ := [some (.f (.nd .tup xs)), some (.f (.int (most : Int))), some (.f (.int (many : Int))), none]) rfl xs [] (fun r hr => ?_) (by simp; omega)).trans rfl
        have hr' := hv r hr
        have ei := isi_tup r (vv_ty hr')
        cases hrt : isTup r with
        | false =>
          rw [hrt] at ei
          rw [rowB_no hrt]
          exact or_yes (not_ok (tru_ok (n_ok (ds := [r, .ty "tuple"]) rfl ei)))
        | true =>
          rw [hrt] at ei
          obtain ⟨ys, rfl⟩ := row_len hr' hrt
          refine or_no (not_ok (tru_ok (n_ok (ds := [.nd .tup ys, .ty "tuple"]) rfl ei))) ?_
          exact bin_ok (s1_ok (f := sBor 3) (d := .nd .tup ys) rfl (len_nd (.inr rfl) ys)) rfl (dNe_ints _ _)
      refine ret_ok ?_
      unfold sCmp
      refine bin_ok blk (y := .nd .lst []) rfl ?_
      rw [dEq_nil (dok_of_all (m := m) (n := j) (by omega) fun x hx => hv x (List.mem_filter.mp hx).1), filter_none]
      simp [rowsB, c]
    · rw [decide_eq_false c] at e1
      refine (out_no e1).trans ?_
      simp [rowsB, c]
end Y

set_option Elab.async false
set_option linter.all false
set_option maxRecDepth 100000
set_option maxHeartbeats 4000000
namespace Y
open PySem PySem.Spec PyProof.Rows L2 PySem.W
/-! ### one course -/
theorem call_ok {fs : List D → FO} {f : En → R (List D)} {ρ ρ1 : En} {ds : List D} {o : Bool} {d : D} {x : Option D} (e : f ρ = .ok ds ρ1) (e2 : fs ds = .val o d x) : sCall fs f ρ = .ok d ρ1 := by
  unfold sCall
  rw [e]
  show (match fs ds with | .val _ d _ => R.ok d ρ1 | _ => .bad) = _
  rw [e2]
theorem cons_ok {f : En → R D} {g : En → R (List D)} {ρ ρ1 ρ2 : En} {d : D} {ds : List D} (e : f ρ = .ok d ρ1) (e2 : g ρ1 = .ok ds ρ2) : sCons f g ρ = .ok (d :: ds) ρ2 := by
  unfold sCons
  rw [e]
  show bnd (g ρ1) (fun ds ρ2 => R.ok (d :: ds) ρ2) = _
  rw [e2]
  rfl
def strOf : D → Str
  | .str s => s
  | _ => ""
theorem names_of {cs : List D} (h : cs.all nmB = true) : cs = nD (cs.map strOf) := by
  induction cs with
  | nil => rfl
  | cons c cs ih =>
    rw [List.all_cons, Bool.and_eq_true] at h
    have : c = .str (strOf c) := by
      cases c with
      | str s => rfl
      | _ => cases h.1
    show c :: cs = .str (strOf c) :: nD (cs.map strOf)
    rw [← this, ← ih h.2]
theorem names_ok {m n : Nat} {cs : List D} (hv : ∀ x ∈ cs, vv m n x = true) (h : cs.all nmB = true) : NmsOk (cs.map strOf) := fun s hs => by
  obtain ⟨c, hc, rfl⟩ := List.mem_map.mp hs
  have hn := List.all_eq_true.mp h c hc
  have hvc := hv c hc
  cases c with
  | str s => exact (vv_str hvc).1
  | _ => cases hn
def crsB : D → Bool
  | .nd .tup [a, b, .nd .tup cs] => nmB a && (isInt 1 9 b && (cs.all nmB && risB (cs.map strOf)))
  | _ => false
theorem crsB_no {a b c : D} (h : isTup c = false) : crsB (.nd .tup [a, b, c]) = false := by
  cases c with
  | nd k xs => cases k <;> first | rfl | cases h
  | _ => rfl
theorem crsB_no2 {a b c : D} (h : nmB a = false ∨ isInt 1 9 b = false) : crsB (.nd .tup [a, b, c]) = false := by
  cases c with
  | nd k xs =>
    cases k with
    | tup => rcases h with h | h <;> simp [crsB, h]
    | _ => rfl
  | _ => rfl
/-- the head of both tests of a course -/
theorem course_ok {m n : Nat} (hm : m ≤ 1000) {a b c : D} (h : vv m n (.nd .tup [a, b, c]) = true) : fs_is_course [.nd .tup [a, b, c]] = .val false (.bl (crsB (.nd .tup [a, b, c]))) none := by
  obtain ⟨j, _, _, hv⟩ := vv_tup h
  have va := hv a (by simp)
  have vb := hv b (by simp)
  have vc := hv c (by simp)
  have ea := name_ok (vv_ty va) (fun s e => by subst e; exact Nat.le_trans (vv_str va).2 (by decide))
  have eb := from_ok (vv_ty vb) 1 9
  have ec := isi_tup c (vv_ty vc)
  refine fin_ok (ρ := [some (.f (.nd .tup [a, b, c])), none]) rfl ?_
  show m_is_course [some (.f (.nd .tup [a, b, c])), none] = _
  unfold m_is_course
  have t1 : sNotT (sTru (sCall fs_is_name (sCons (sBin dIx (sVar 0) (sC (.int 0))) sNil))) [some (.f (.nd .tup [a, b, c])), none] = .ok (!nmB a) [some (.f (.nd .tup [a, b, c])), none] := not_ok (tru_ok (call_ok (one_ok (bin_ok (x := .nd .tup [a, b, c]) rfl rfl rfl)) ea))
  have t2 : sNotT (sTru (sCall fs_is_from (sCons (sBin dIx (sVar 0) (sC (.int 1))) (sCons (sC (.int 1)) (sCons (sC (.int 9)) sNil))))) [some (.f (.nd .tup [a, b, c])), none] = .ok (!isInt 1 9 b) [some (.f (.nd .tup [a, b, c])), none] := not_ok (tru_ok (call_ok (cons_ok (bin_ok (x := .nd .tup [a, b, c]) rfl rfl rfl) rfl) eb))
  have t3 : sNotT (sTru (sN dIsi (sCons (sBin dIx (sVar 0) (sC (.int 2))) (sCons (sC (.ty "tuple")) sNil)))) [some (.f (.nd .tup [a, b, c])), none] = .ok (!isTup c) [some (.f (.nd .tup [a, b, c])), none] := not_ok (tru_ok (n_ok (cons_ok (bin_ok (x := .nd .tup [a, b, c]) rfl rfl rfl) rfl) ec))
  cases ha : nmB a with
  | false =>
    rw [ha] at t1
    refine (out_no (or_yes t1)).trans ?_
    rw [crsB_no2 (.inl ha)]
  | true =>
    rw [ha] at t1
    cases hb : isInt 1 9 b with
    | false =>
      rw [hb] at t2
      refine (out_no (or_no t1 (or_yes t2))).trans ?_
      rw [crsB_no2 (.inr hb)]
    | true =>
      rw [hb] at t2
      cases hc : isTup c with
      | false =>
        rw [hc] at t3
        refine (out_no (or_no t1 (or_no t2 t3))).trans ?_
        rw [crsB_no hc]
      | true =>
        rw [hc] at t3
        refine (out_go (or_no t1 (or_no t2 t3))).trans ?_
        obtain ⟨cs, rfl⟩ := row_len vc hc
        obtain ⟨j2, _, hl, hcs⟩ := vv_tup vc
        have blk : sLc (sIt (sBin dIx (sVar 0) (sC (.int 2)))) (hName 1) sYes (sCall fs_is_name (sCons (sVar 1) sNil)) [1] [some (.f (.nd .tup [a, b, .nd .tup cs])), none] = .ok (.nd .lst (cs.map fun d => D.bl (nmB d))) [some (.f (.nd .tup [a, b, .nd .tup cs])), none] := by
          refine sLc_ok (ds := cs) (ρ1 := [some (.f (.nd .tup [a, b, .nd .tup cs])), none]) rfl rfl ?_
          refine (lc_map (i := 1) (p := fun d => D.bl (nmB d)) (ρ := [some (.f (.nd .tup [a, b, .nd .tup cs])), none]) rfl cs [] (fun r hr => ?_) (by simp; omega)).trans rfl
          have vr := hcs r hr
          exact call_ok (one_ok (f := sVar 1) (d := r) rfl) (name_ok (vv_ty vr) (fun s e => by subst e; exact Nat.le_trans (vv_str vr).2 (by decide)))
        have all := s1_ok blk (all_map nmB cs)
        refine ret_ok ?_
        cases hn : cs.all nmB with
        | false =>
          rw [hn] at all
          rw [and_no all]
          simp [crsB, ha, hb, hn]
        | true =>
          rw [hn] at all
          have e := names_of hn
          have er := rises_ok (k := .tup) (.inr rfl) (l := cs.map strOf) (by rw [List.length_map]; omega)
          rw [← e] at er
          have er2 : sCall fs_rises (sCons (sBin dIx (sVar 0) (sC (.int 2))) sNil) [some (.f (.nd .tup [a, b, .nd .tup cs])), none] = .ok (.bl (risB (cs.map strOf))) [some (.f (.nd .tup [a, b, .nd .tup cs])), none] := call_ok (one_ok (bin_ok (x := .nd .tup [a, b, .nd .tup cs]) (y := .int 2) rfl rfl rfl)) er
          refine (and_yes all er2).trans ?_
          simp [crsB, ha, hb, hn]
/-! ### the law's loop -/
abbrev lcB : En → R Fl := sSeq (sIfS (sOrT (sNotT (sTru (sCall fs__law_is_name (sCons (sVar 2) sNil)))) (sOrT (sNotT (sTru (sCall fs__law_from (sCons (sVar 3) (sCons (sC (.int 1)) (sCons (sC (.int 9)) sNil)))))) (sNotT (sTru (sN dIsi (sCons (sVar 4) (sCons (sC (.ty "tuple")) sNil)))))))
  (sRet (sC (.bl false)))
  sNx)
  (sIfS (sOrT (sBin dNe (sLc (sIt (sVar 4)) (hName 5) (sNotT (sTru (sCall fs__law_is_name (sCons (sVar 5) sNil)))) (sVar 5) [5]) (sMk .lst sNil)) (sNotT (sTru (sCall fs__law_rising (sCons (sVar 4) sNil)))))
  (sRet (sC (.bl false)))
  sNx)
theorem lcourse_ok {m n : Nat} (hm : m ≤ 1000) (hn : n ≤ 60) {a b c T : D} (h : vv m n (.nd .tup [a, b, c]) = true) : lcB [some (.f T), none, some (.f a), some (.f b), some (.f c), none] = .ok (if crsB (.nd .tup [a, b, c]) = true then .nx else .rt (.bl false)) [some (.f T), none, some (.f a), some (.f b), some (.f c), none] := by
  obtain ⟨j, ej, _, hv⟩ := vv_tup h
  have va := hv a (by simp)
  have vb := hv b (by simp)
  have vc := hv c (by simp)
  have ea := lname_ok va
  have eb := lfrom_ok (vv_ty vb) 1 9
  have ec := isi_tup c (vv_ty vc)
  generalize hρ : ([some (.f T), none, some (.f a), some (.f b), some (.f c), none] : En) = ρ
  have v2 : sVar 2 ρ = .ok a ρ := by subst hρ; rfl
  have v3 : sVar 3 ρ = .ok b ρ := by subst hρ; rfl
  have v4 : sVar 4 ρ = .ok c ρ := by subst hρ; rfl
  have n5 : ρ[5]? = some none := by subst hρ; rfl
  have t1 : sNotT (sTru (sCall fs__law_is_name (sCons (sVar 2) sNil))) ρ = .ok (!nmB a) ρ := not_ok (tru_ok (call_ok (one_ok v2) ea))
  have t2 : sNotT (sTru (sCall fs__law_from (sCons (sVar 3) (sCons (sC (.int 1)) (sCons (sC (.int 9)) sNil))))) ρ = .ok (!isInt 1 9 b) ρ := not_ok (tru_ok (call_ok (cons_ok v3 rfl) eb))
  have t3 : sNotT (sTru (sN dIsi (sCons (sVar 4) (sCons (sC (.ty "tuple")) sNil)))) ρ = .ok (!isTup c) ρ := not_ok (tru_ok (n_ok (cons_ok v4 rfl) ec))
  cases ha : nmB a with
  | false =>
    rw [ha] at t1
    refine (out_no (or_yes t1)).trans ?_
    rw [crsB_no2 (.inl ha)]; rfl
  | true =>
    rw [ha] at t1
    cases hb : isInt 1 9 b with
    | false =>
      rw [hb] at t2
      refine (out_no (or_no t1 (or_yes t2))).trans ?_
      rw [crsB_no2 (.inr hb)]; rfl
    | true =>
      rw [hb] at t2
      cases hc : isTup c with
      | false =>
        rw [hc] at t3
        refine (out_no (or_no t1 (or_no t2 t3))).trans ?_
        rw [crsB_no hc]; rfl
      | true =>
        rw [hc] at t3
        refine (out_go (or_no t1 (or_no t2 t3))).trans ?_
        obtain ⟨cs, rfl⟩ := row_len vc hc
        obtain ⟨j2, ej2, hl, hcs⟩ := vv_tup vc
        have w5 : wipeE [5] ρ = ρ := set_none n5
        have src : sIt (sVar 4) ρ = .ok cs ρ := by unfold sIt; rw [v4]; rfl
        have blk : sLc (sIt (sVar 4)) (hName 5) (sNotT (sTru (sCall fs__law_is_name (sCons (sVar 5) sNil)))) (sVar 5) [5] ρ = .ok (.nd .lst (cs.filter fun d => !nmB d)) ρ := by
          refine sLc_ok (ds := cs) src w5 ?_
          refine (lc_filt (i := 5) (q := fun d => !nmB d) n5 cs [] (fun r hr => ?_) (by simp; omega)).trans rfl
          exact not_ok (tru_ok (call_ok (one_ok (var_set n5)) (lname_ok (hcs r hr))))
        have dk : dok (.nd .lst (cs.filter fun d => !nmB d)) = true := dok_of_all (m := m) (n := j2) (by omega) fun x hx => hcs x (List.mem_filter.mp hx).1
        have u1 : sBin dNe (sLc (sIt (sVar 4)) (hName 5) (sNotT (sTru (sCall fs__law_is_name (sCons (sVar 5) sNil)))) (sVar 5) [5]) (sMk .lst sNil) ρ = .ok (!cs.all nmB) ρ := by
          refine bin_ok blk (y := .nd .lst []) rfl ?_
          rw [dNe_nil dk, filter_none]
          simp
        cases hn : cs.all nmB with
        | false =>
          rw [hn] at u1
          refine (if_yes (or_yes u1)).trans ?_
          simp [crsB, ha, hb, hn, sRet, sC, bnd]
        | true =>
          rw [hn] at u1
          have e := names_of hn
          have er := lrising_ok (k := .tup) (.inr rfl) (names_ok hcs hn) (by rw [List.length_map]; omega)
          rw [← e] at er
          have u2 : sNotT (sTru (sCall fs__law_rising (sCons (sVar 4) sNil))) ρ = .ok (!risB (cs.map strOf)) ρ := not_ok (tru_ok (call_ok (one_ok v4) er))
          cases hr : risB (cs.map strOf) with
          | false =>
            rw [hr] at u2
            refine (if_yes (or_no u1 u2)).trans ?_
            simp [crsB, ha, hb, hn, hr, sRet, sC, bnd]
          | true =>
            rw [hr] at u2
            refine (if_no (or_no u1 u2)).trans ?_
            simp [crsB, ha, hb, hn, hr, sNx]
end Y

set_option Elab.async false
set_option linter.all false
set_option maxRecDepth 100000
set_option maxHeartbeats 4000000
namespace Y
open PySem PySem.Spec PyProof.Rows L2 PySem.W
/-! ### courses, as rows -/
def intOf : D → Int
  | .int i => i
  | _ => 0
def rowOf : D → Str × Int × List Str
  | .nd .tup [a, b, .nd .tup cs] => (strOf a, intOf b, cs.map strOf)
  | _ => ("", 0, [])
structure Rows0 (R : Rows) : Prop where
  len : R.length ≤ 10
  ok : NmsOk (nms R)
  nd : ∀ r ∈ R, NmsOk r.2.2 ∧ risB r.2.2 = true ∧ r.2.2.length ≤ 1000
theorem crs_row {m n : Nat} (hm : m ≤ 1000) {r : D} (hv : vv m n r = true) (h : crsB r = true) : r = rowD (rowOf r) ∧ strG (rowOf r).1 = true ∧ NmsOk (rowOf r).2.2 ∧ risB (rowOf r).2.2 = true ∧ (rowOf r).2.2.length ≤ 1000 := by
  unfold crsB at h
  split at h
  · rename_i a b cs
    simp only [Bool.and_eq_true] at h
    obtain ⟨ha, hb, hn, hr⟩ := h
    obtain ⟨j, _, _, hx⟩ := vv_tup hv
    obtain ⟨j2, _, hl, hcs⟩ := vv_tup (hx (.nd .tup cs) (by simp))
    have va := hx a (by simp)
    have e := names_of hn
    refine ⟨?_, ?_, names_ok hcs hn, hr, by show (cs.map strOf).length ≤ 1000; rw [List.length_map]; omega⟩
    · cases a with
      | str s =>
        cases b with
        | int i =>
          show D.nd .tup [.str s, .int i, .nd .tup cs] = .nd .tup [.str s, .int i, .nd .tup (nD (cs.map strOf))]
          rw [← e]
        | _ => simp [isInt] at hb
      | _ => simp [nmB] at ha
    · cases a with
      | str s => exact (vv_str va).1
      | _ => simp [nmB] at ha
  · cases h
theorem rows_of {m n : Nat} (hm : m ≤ 1000) {xs : List D} (hv : ∀ x ∈ xs, vv m n x = true) (h : xs.all crsB = true) : xs = (xs.map rowOf).map rowD := by
  rw [List.map_map]
  have : ∀ x ∈ xs, (rowD ∘ rowOf) x = x := fun x hx => ((crs_row hm (hv x hx) (List.all_eq_true.mp h x hx)).1).symm
  exact ((List.map_congr_left this).trans (List.map_id xs)).symm
theorem rows0_of {m n : Nat} (hm : m ≤ 1000) {xs : List D} (hv : ∀ x ∈ xs, vv m n x = true) (h : xs.all crsB = true) (hl : xs.length ≤ 10) : Rows0 (xs.map rowOf) := by
  refine ⟨by rw [List.length_map]; exact hl, fun s hs => ?_, fun r hr => ?_⟩
  · obtain ⟨r, hr, rfl⟩ := List.mem_map.mp hs
    obtain ⟨x, hx, rfl⟩ := List.mem_map.mp hr
    exact (crs_row hm (hv x hx) (List.all_eq_true.mp h x hx)).2.1
  · obtain ⟨x, hx, rfl⟩ := List.mem_map.mp hr
    exact (crs_row hm (hv x hx) (List.all_eq_true.mp h x hx)).2.2
def subB (R : Rows) : Bool := R.all fun r => r.2.2.all fun s => decide (s ∈ nms R)
def cycB (R : Rows) : Bool := (nms R).all fun s => decide (s ∉ turns R s 10)
theorem rowsOk_of {R : Rows} (h : Rows0 R) (h1 : risB (nms R) = true) (h2 : subB R = true) : RowsOk R := by
  have nd : (nms R).Nodup := ((risB_iff _).mp h1).imp fun {a b} q e => by rw [e] at q; exact List.lt_irrefl _ q
  have sub : ∀ r ∈ R, ∀ s ∈ r.2.2, s ∈ nms R := fun r hr s hs => of_decide_eq_true (List.all_eq_true.mp (List.all_eq_true.mp h2 r hr) s hs)
  refine ⟨nd, h.len, h.ok, sub, fun r hr => ?_⟩
  have nd2 : r.2.2.Nodup := ((risB_iff _).mp (h.nd r hr).2.1).imp fun {a b} q e => by rw [e] at q; exact List.lt_irrefl _ q
  have := sub_len nd2 (sub r hr)
  have e : (nms R).length = R.length := List.length_map _
  have := h.len
  omega
theorem turns_srt (R : Rows) (nm : Str) : srt (turns R nm 10) = turns R nm 10 := srt_same (srt_perm _)
theorem ahead_turns {R : Rows} (ok : RowsOk R) {nm : Str} (h : nm ∈ nms R) : fs_all_ahead [dictD R, .str nm] = .val true (lD (turns R nm 10)) none := by
  obtain ⟨F, e, f⟩ := all_ahead_ok ok h
  rw [e, ← turns_srt, (turns_rch ok nm).same f]
theorem turns_names {R : Rows} (ok : RowsOk R) (nm : Str) : NmsOk (turns R nm 10) := fun s h => ok.ok s (turns_sub ok nm 10 s h)
/-! ### needs_of, whatever the names -/
theorem dc_any : ∀ (R : Rows) (x : Option S) (ks : List Key) (es : List D), ks.length + R.length ≤ 1000 → ∃ ks' es', dcL (hTup 3 (hCons (hName 1) (hCons (hName 2) (hCons (hName 3) hNil)))) sYes (sVar 1) (sVar 3) [1, 2, 3] (R.map rowD) [x, none, none, none] ks es = .ok (.nd (.dK ks') es') [x, none, none, none]
  | [], x, ks, es, _ => ⟨ks, es, rfl⟩
  | r :: R, x, ks, es, hl => by
    rw [List.length_cons] at hl
    have hp : (putKs ks (Sum.inr r.1 : Key)).length ≤ ks.length + 1 := by
      unfold putKs
      split
      · omega
      · rw [List.length_append]; exact Nat.le_refl _
    obtain ⟨ks', es', ih⟩ := dc_any R x (putKs ks (Sum.inr r.1)) (putDs ks es (Sum.inr r.1) (tD r.2.2)) (by omega)
    refine ⟨ks', es', ?_⟩
    rw [List.map_cons]
    have e1 : hTup 3 (hCons (hName 1) (hCons (hName 2) (hCons (hName 3) hNil))) (rowD r) [x, none, none, none] = some [x, some (.f (.str r.1)), some (.f (.int r.2.1)), some (.f (tD r.2.2))] := rfl
    have e4 : keyD (.str r.1) = some (Sum.inr r.1) := rfl
    conv => lhs; unfold dcL
    rw [e1]
    simp only [sYes, noX, bnd, if_true, sVar, List.getElem?_cons_succ, List.getElem?_cons_zero, e4]
    rw [if_pos (Nat.lt_of_le_of_lt (show ks.length ≤ 1000 by omega) (by decide))]
    exact ih
theorem needs_any {R : Rows} (h : R.length ≤ 10) : ∃ Z, fs_needs_of [coursesD R] = .val true Z none := by
  obtain ⟨ks, es, e⟩ := dc_any R (some (.f (coursesD R))) [] [] (by simp; omega)
  refine ⟨.nd (.dK ks) es, ?_⟩
  have e2 : m_needs_of [some (.f (coursesD R)), none, none, none] = .ok (.ro (.nd (.dK ks) es)) [some (.f (coursesD R)), none, none, none] := by
    unfold m_needs_of sRetO sDc
    have : sIt (sVar 0) [some (.f (coursesD R)), none, none, none] = .ok (R.map rowD) [some (.f (coursesD R)), none, none, none] := rfl
    rw [this]
    simp only [bnd]
    have : wipeE [1, 2, 3] [some (S.f (coursesD R)), none, none, none] = [some (S.f (coursesD R)), none, none, none] := rfl
    rw [this, e]
  show finF false (m_needs_of _) = _
  rw [show (argS false [coursesD R] ++ List.replicate (4 - 1) none : En) = [some (.f (coursesD R)), none, none, none] from rfl, e2]
  rfl
theorem needs_ok2 {R : Rows} (h : R.length ≤ 10) (nd : (nms R).Nodup) : fs_needs_of [coursesD R] = .val true (dictD R) none := by
  have e := dc_rows R [] (some (.f (coursesD R))) nd (by simp; omega)
  have e2 : m_needs_of [some (.f (coursesD R)), none, none, none] = .ok (.ro (dictD R)) [some (.f (coursesD R)), none, none, none] := by
    unfold m_needs_of sRetO sDc
    have : sIt (sVar 0) [some (.f (coursesD R)), none, none, none] = .ok (R.map rowD) [some (.f (coursesD R)), none, none, none] := rfl
    rw [this]
    simp only [bnd]
    have : wipeE [1, 2, 3] [some (S.f (coursesD R)), none, none, none] = [some (S.f (coursesD R)), none, none, none] := rfl
    rw [this]
    have e : dcL (hTup 3 (hCons (hName 1) (hCons (hName 2) (hCons (hName 3) hNil)))) sYes (sVar 1) (sVar 3) [1, 2, 3] (R.map rowD) [some (S.f (coursesD R)), none, none, none] [] [] = .ok (dictD R) [some (S.f (coursesD R)), none, none, none] := e
    rw [e]
  show finF false (m_needs_of _) = _
  rw [show (argS false [coursesD R] ++ List.replicate (4 - 1) none : En) = [some (.f (coursesD R)), none, none, none] from rfl, e2]
  rfl
/-! ### in needs -/
theorem in_dict {R : Rows} (s : Str) : dIn (.str s) (dictD R) = some (decide (s ∈ nms R)) := by
  have : dIn (.str s) (dictD R) = (lookD (dictD R) (.str s)).map (·.isSome) := rfl
  rw [this]
  show (some (getK ((nms R).map (Sum.inr : Str → Key)) (R.map fun r => tD r.2.2) (Sum.inr s))).map (·.isSome) = _
  by_cases h : s ∈ nms R
  · rw [get_needs h, decide_eq_true h]; rfl
  · rw [decide_eq_false h]
    have : getK ((nms R).map (Sum.inr : Str → Key)) (R.map fun r => tD r.2.2) (Sum.inr s) = none := by
      unfold getK
      rw [Option.map_eq_none_iff, List.find?_eq_none]
      intro p hp e
      have h1 := (List.of_mem_zip hp).1
      obtain ⟨y, hy, e2⟩ := List.mem_map.mp h1
      have h2 : p.1 = Sum.inr s := of_decide_eq_true e
      rw [← e2] at h2
      cases h2
      exact h hy
    rw [this]; rfl
end Y

set_option Elab.async false
set_option linter.all false
set_option maxRecDepth 100000
set_option maxHeartbeats 4000000
namespace Y
open PySem PySem.Spec PyProof.Rows L2 PySem.W
/-! ### are_courses -/
def acB (d : D) : Bool := match d with
  | .nd .tup xs => rowsB 10 3 (.nd .tup xs) && (xs.all crsB && (risB (nms (xs.map rowOf)) && (subB (xs.map rowOf) && cycB (xs.map rowOf))))
  | _ => false
def aE (T Z : D) (x2 x3 x4 : Option S) : En := [some (.f T), some (.f Z), x2, x3, x4]
theorem in_run {R : Rows} (T : D) (X : Option S) (k : En → List D → Y.R D) : ∀ (l : List Str) (acc : List D), acc.length + l.length ≤ 100000 → lc2I (hName 3) sYes (sCmp dIn (sVar 3) (sBor 1)) [3] k (nD l) (aE T (dictD R) none none X) acc = k (aE T (dictD R) none none X) (acc ++ l.map fun s => D.bl (decide (s ∈ nms R)))
  | [], acc, _ => by rw [List.map_nil, List.append_nil]; rfl
  | s :: l, acc, hl => by
    rw [List.length_cons] at hl
    have ih := in_run (R := R) T X k l (acc ++ [D.bl (decide (s ∈ nms R))]) (by rw [List.length_append, List.length_singleton]; omega)
    rw [show nD (s :: l) = .str s :: nD l from rfl]
    conv => lhs; unfold lc2I
    rw [show hName 3 (.str s) (aE T (dictD R) none none X) = some (aE T (dictD R) none (some (.f (.str s))) X) from rfl]
    have e : sCmp dIn (sVar 3) (sBor 1) (aE T (dictD R) none (some (.f (.str s))) X) = .ok (.bl (decide (s ∈ nms R))) (aE T (dictD R) none (some (.f (.str s))) X) := by
      unfold sCmp
      exact bin_ok (x := .str s) (y := dictD R) rfl rfl (by rw [in_dict]; rfl)
    simp only [sYes, noX, bnd, if_true, e]
    rw [if_pos (Nat.lt_of_le_of_lt (show acc.length ≤ 100000 by omega) (by decide))]
    rw [show wipeE [3] (aE T (dictD R) none (some (.f (.str s))) X) = aE T (dictD R) none none X from rfl, ih]
    simp
theorem ins_all {R : Rows} (T : D) : ∀ (l : Rows) (acc : List D), (∀ r ∈ l, r.2.2.length ≤ 1000) → acc.length + 1000 * l.length ≤ 100000 → lc2L (hName 4) sYes (sIt (sVar 4)) (hName 3) sYes (sCmp dIn (sVar 3) (sBor 1)) [4, 3] [3] (l.map fun r => tD r.2.2) (aE T (dictD R) none none none) acc = .ok (.nd .lst (acc ++ l.flatMap fun r => r.2.2.map fun s => D.bl (decide (s ∈ nms R)))) (aE T (dictD R) none none none)
  | [], acc, _, _ => by rw [List.map_nil, List.flatMap_nil, List.append_nil]; rfl
  | r :: l, acc, h, hl => by
    rw [List.length_cons] at hl
    have hr := h r List.mem_cons_self
    rw [List.map_cons]
    conv => lhs; unfold lc2L
    rw [show hName 4 (tD r.2.2) (aE T (dictD R) none none none) = some (aE T (dictD R) none none (some (.f (tD r.2.2)))) from rfl]
    have e : sIt (sVar 4) (aE T (dictD R) none none (some (.f (tD r.2.2)))) = .ok (nD r.2.2) (aE T (dictD R) none none (some (.f (tD r.2.2)))) := rfl
    simp only [sYes, noX, bnd, if_true, e]
    rw [show wipeE [3] (aE T (dictD R) none none (some (.f (tD r.2.2)))) = aE T (dictD R) none none (some (.f (tD r.2.2))) from rfl]
    rw [in_run T (some (.f (tD r.2.2))) _ r.2.2 acc (by omega)]
    rw [show wipeE [4, 3] (aE T (dictD R) none none (some (.f (tD r.2.2)))) = aE T (dictD R) none none none from rfl]
    have ih := ins_all (R := R) T l (acc ++ r.2.2.map fun s => D.bl (decide (s ∈ nms R))) (fun x hx => h x (List.mem_cons_of_mem _ hx)) (by rw [List.length_append, List.length_map]; omega)
    rw [ih]
    simp
theorem flat_all (R l : Rows) : dAll (.nd .lst (l.flatMap fun r => r.2.2.map fun s => D.bl (decide (s ∈ nms R)))) = some (.bl (l.all fun r => r.2.2.all fun s => decide (s ∈ nms R))) := by
  have e : (l.flatMap fun r => r.2.2.map fun s => D.bl (decide (s ∈ nms R))) = ((l.flatMap fun r => nD r.2.2).map fun d => D.bl (decide (strOf d ∈ nms R))) := by
    induction l with
    | nil => rfl
    | cons r l ih =>
      rw [List.flatMap_cons, List.flatMap_cons, List.map_append, ih, List.map_map]
      rfl
  rw [e, all_map]
  congr 2
  induction l with
  | nil => rfl
  | cons r l ih =>
    rw [List.flatMap_cons, List.all_append, List.all_cons, ih, List.all_map]
    · rfl
    · rw [List.flatMap_cons, List.flatMap_cons, List.map_append, List.map_map] at e
      exact List.append_cancel_left e
theorem lcD_ok {i : Nat} {src : List Key → List D → List D} {g : D → En → Option En} {t : En → R Bool} {e : En → R D} {vs : List Nat} {ρ ρ2 : En} {ks : List Key} {ds : List D} {d : D} (h1 : ρ[i]? = some (some (.f (.nd (.dK ks) ds)))) (hw : wipeE vs ρ = ρ) (h2 : lcL g t e vs (src ks ds) ρ [] = .ok d ρ2) : sLcD i src g t e vs ρ = .ok d ρ2 := by
  unfold sLcD sDct
  rw [h1]
  show lcL g t e vs (src ks ds) (wipeE vs ρ) [] = _
  rw [hw]
  exact h2
theorem rises_names {R : Rows} (h : R.length ≤ 10) : fs_rises [lD (nms R)] = .val false (.bl (risB (nms R))) none := rises_ok (.inl rfl) (by have : (nms R).length = R.length := List.length_map _; omega)
theorem set_call {i : Nat} {f : En → R D} {ρ ρ1 : En} {d : D} (e : f ρ = .ok d ρ1) : sSet i f ρ = .ok .nx (ρ1.set i (some (.f d))) := by
  unfold sSet
  rw [e]
  rfl
theorem heads_ok {R : Rows} {ρ : En} {j : Nat} (hj : ρ[j]? = some none) (hl : R.length ≤ 10) (hs : sIt (sVar 0) ρ = .ok (R.map rowD) ρ) : sLc (sIt (sVar 0)) (hName j) sYes (sBin dIx (sVar j) (sC (.int 0))) [j] ρ = .ok (lD (nms R)) ρ := by
  have e : (R.map rowD).map (fun d => match d with | .nd .tup (a :: _) => a | _ => .non) = nD (nms R) := by
    rw [List.map_map]
    show _ = (R.map (·.1)).map D.str
    rw [List.map_map]
    rfl
  refine sLc_ok hs (set_none hj) ?_
  refine (lc_map (i := j) (p := fun d => match d with | .nd .tup (a :: _) => a | _ => .non) hj (R.map rowD) [] (fun r hr => ?_) (by simp; omega)).trans (by rw [List.nil_append, e])
  obtain ⟨x, _, rfl⟩ := List.mem_map.mp hr
  exact bin_ok (x := rowD x) (y := .int 0) (var_set hj) rfl rfl
theorem fin_ex {m : En → Y.R Fl} {np n : Nat} {ds : List D} {d : D} (hl : ds.length = np) (e : ∃ ρ, m (argS false ds ++ List.replicate (n - np) none) = .ok (.rt d) ρ) : runF false np n m ds = .val false d none := by
  obtain ⟨ρ, e⟩ := e
  exact fin_ok hl e
theorem rowB_3 {x : D} (h : rowB 3 x = true) : ∃ a b c, x = .nd .tup [a, b, c] := by
  unfold rowB at h
  split at h
  · rename_i ys
    match ys, of_decide_eq_true h with
    | [a, b, c], _ => exact ⟨a, b, c, rfl⟩
  · cases h
theorem acB_rows {d : D} (h : rowsB 10 3 d = false) : acB d = false := by
  cases d with
  | nd k xs =>
    cases k with
    | tup => simp [acB, h]
    | _ => rfl
  | _ => rfl
theorem rowsB_yes {d : D} (h : rowsB 10 3 d = true) : ∃ xs, d = .nd .tup xs ∧ xs.length ≤ 10 ∧ xs.all (rowB 3) = true := by
  unfold rowsB at h
  split at h
  · rename_i xs
    rw [Bool.and_eq_true, decide_eq_true_eq] at h
    exact ⟨xs, rfl, h⟩
  · cases h
theorem acB_eq {xs : List D} {R : Rows} (hR : xs.map rowOf = R) (h : rowsB 10 3 (.nd .tup xs) = true) (h2 : xs.all crsB = true) : acB (.nd .tup xs) = (risB (nms R) && (subB R && cycB R)) := by
  subst hR
  simp [acB, h, h2]
theorem are_ok {m n : Nat} {d : D} (h : vv m n d = true) (hm : m ≤ 1000) : fs_are_courses [d] = .val false (.bl (acB d)) none := by
  refine fin_ex rfl ?_
  show ∃ ρ, m_are_courses [some (.f d), none, none, none, none] = _
  unfold m_are_courses
  have e1 := rows_ok h hm 10 3
  have t1 : sNotT (sTru (sCall fs_are_rows (sCons (sVar 0) (sCons (sC (.int 10)) (sCons (sC (.int 3)) sNil))))) [some (.f d), none, none, none, none] = .ok (!rowsB 10 3 d) [some (.f d), none, none, none, none] := not_ok (tru_ok (call_ok (ds := [d, .int 10, .int 3]) rfl e1))
  cases hb : rowsB 10 3 d with
  | false =>
    rw [hb] at t1
    rw [acB_rows hb]
    exact ⟨_, out_no (or_yes t1)⟩
  | true =>
    rw [hb] at t1
    obtain ⟨xs, rfl, hl, ha⟩ := rowsB_yes hb
    obtain ⟨j, _, _, hv⟩ := vv_tup h
    have blk : sLc (sIt (sVar 0)) (hName 3) sYes (sCall fs_is_course (sCons (sVar 3) sNil)) [3] [some (.f (.nd .tup xs)), none, none, none, none] = .ok (.nd .lst (xs.map fun d => D.bl (crsB d))) [some (.f (.nd .tup xs)), none, none, none, none] := by
      refine sLc_ok (ds := xs) (ρ1 := [some (.f (.nd .tup xs)), none, none, none, none]) rfl rfl ?_
      refine (lc_map (i := 3) (p := fun d => D.bl (crsB d)) (ρ := [some (.f (.nd .tup xs)), none, none, none, none]) rfl xs [] (fun r hr => ?_) (by simp; omega)).trans rfl
      obtain ⟨a, b, c, rfl⟩ := rowB_3 (List.all_eq_true.mp ha r hr)
      exact call_ok (ds := [.nd .tup [a, b, c]]) rfl (course_ok hm (hv _ hr))
    have t2 := not_ok (tru_ok (s1_ok blk (all_map crsB xs)))
    cases hc : xs.all crsB with
    | false =>
      rw [hc] at t2
      have : acB (.nd .tup xs) = false := by simp [acB, hc]
      rw [this]
      exact ⟨_, out_no (or_no t1 t2)⟩
    | true =>
      rw [hc] at t2
      have hxs := rows_of hm hv hc
      have r0 := rows0_of hm hv hc hl
      have hac := acB_eq rfl hb hc
      generalize xs.map rowOf = R at hxs r0 hac
      have hd : D.nd .tup xs = coursesD R := by rw [hxs]; rfl
      rw [hac, hd]
      rw [hd] at t1 t2
      have er := rises_names r0.len
      have go : ∀ Z, fs_needs_of [coursesD R] = .val true Z none → sSet 1 (sCall fs_needs_of (sCons (sVar 0) sNil)) [some (.f (coursesD R)), none, none, none, none] = .ok .nx (aE (coursesD R) Z none none none) := fun Z e => set_call (call_ok (ds := [coursesD R]) (ρ1 := [some (.f (coursesD R)), none, none, none, none]) rfl e)
      have t3 : ∀ Z, sNotT (sTru (sCall fs_rises (sCons (sLc (sIt (sVar 0)) (hName 3) sYes (sBin dIx (sVar 3) (sC (.int 0))) [3]) sNil))) (aE (coursesD R) Z none none none) = .ok (!risB (nms R)) (aE (coursesD R) Z none none none) := fun Z => not_ok (tru_ok (call_ok (one_ok (heads_ok (j := 3) (ρ := aE (coursesD R) Z none none none) rfl r0.len rfl)) er))
      cases hr : risB (nms R) with
      | false =>
        obtain ⟨Z, ez⟩ := needs_any r0.len
        have t3 := t3 Z
        rw [hr] at t3
        exact ⟨_, (out_go (or_no t1 t2)).trans ((seq_ok (go Z ez)).trans (out_no (or_yes t3)))⟩
      | true =>
        have nd : (nms R).Nodup := ((risB_iff _).mp hr).imp fun {a b} q e => by rw [e] at q; exact List.lt_irrefl _ q
        have ez := needs_ok2 r0.len nd
        have t3 := t3 (dictD R)
        rw [hr] at t3
        have blk2 : sLc2D 1 vaD (hName 4) sYes (sIt (sVar 4)) (hName 3) sYes (sCmp dIn (sVar 3) (sBor 1)) [4, 3] [3] (aE (coursesD R) (dictD R) none none none) = .ok (.nd .lst (R.flatMap fun r => r.2.2.map fun s => D.bl (decide (s ∈ nms R)))) (aE (coursesD R) (dictD R) none none none) := by
          have := ins_all (R := R) (coursesD R) R [] (fun r hr => (r0.nd r hr).2.2) (by have := r0.len; simp; omega)
          rw [List.nil_append] at this
          exact this
        have t4 := not_ok (tru_ok (s1_ok blk2 (flat_all R R)))
        cases hs : subB R with
        | false =>
          rw [show (R.all fun r => r.2.2.all fun s => decide (s ∈ nms R)) = false from hs] at t4
          exact ⟨_, (out_go (or_no t1 t2)).trans ((seq_ok (go _ ez)).trans (out_no (or_no t3 t4)))⟩
        | true =>
          rw [show (R.all fun r => r.2.2.all fun s => decide (s ∈ nms R)) = true from hs] at t4
          have ok := rowsOk_of r0 hr hs
          have n10 := names_len ok
          have blk3 : sLcD 1 kyD (hName 2) sYes (sCmp dNotIn (sVar 2) (sCall fs_all_ahead (sCons (sVar 1) (sCons (sVar 2) sNil)))) [2] (aE (coursesD R) (dictD R) none none none) = .ok (.nd .lst ((nD (nms R)).map fun d => D.bl (decide (strOf d ∉ turns R (strOf d) 10)))) (aE (coursesD R) (dictD R) none none none) := by
            have ek : kyD ((nms R).map Sum.inr) (R.map fun r => tD r.2.2) = nD (nms R) := by
              unfold kyD
              rw [List.map_map]
              rfl
            refine lcD_ok (ρ := aE (coursesD R) (dictD R) none none none) (ks := (nms R).map Sum.inr) (ds := R.map fun r => tD r.2.2) rfl rfl ?_
            rw [ek]
            refine (lc_map (i := 2) (p := fun d => D.bl (decide (strOf d ∉ turns R (strOf d) 10))) (ρ := aE (coursesD R) (dictD R) none none none) rfl (nD (nms R)) [] (fun r hr => ?_) (by simp; omega)).trans rfl
            obtain ⟨s, hsn, rfl⟩ := List.mem_map.mp hr
            have ea := ahead_turns ok hsn
            have ei : dNotIn (.str s) (lD (turns R s 10)) = some (decide (s ∉ turns R s 10)) := by
              unfold dNotIn
              rw [dIn_lst (turns_names ok s) (ok.ok s hsn)]
              by_cases c : s ∈ turns R s 10 <;> simp [c]
            unfold sCmp
            refine bin_ok (x := .str s) (y := lD (turns R s 10)) rfl (call_ok (ds := [dictD R, .str s]) rfl ea) ?_
            rw [ei]; rfl
          refine ⟨_, (out_go (or_no t1 t2)).trans ((seq_ok (go _ ez)).trans ((out_go (or_no t3 t4)).trans (ret_ok (s1_ok blk3 ?_))))⟩
          rw [all_map, List.all_map]
          rfl
end Y

set_option Elab.async false
set_option linter.all false
set_option maxRecDepth 100000
set_option maxHeartbeats 4000000
namespace Y
open PySem PySem.Spec PyProof.Rows L2 PySem.W
/-! ### the law's own test -/
theorem sLc_ok2 {src : En → Y.R (List D)} {g : D → En → Option En} {t : En → Y.R Bool} {e : En → Y.R D} {vs : List Nat} {ρ ρ1 ρ2 ρ3 : En} {ds : List D} {d : D} (h1 : src ρ = .ok ds ρ1) (hw : wipeE vs ρ1 = ρ2) (h2 : lcL g t e vs ds ρ2 [] = .ok d ρ3) : sLc src g t e vs ρ = .ok d ρ3 := by
  unfold sLc
  rw [h1]
  show lcL g t e vs ds (wipeE vs ρ1) [] = _
  rw [hw]
  exact h2
def wanE (T : D) (x2 x3 x4 : Option S) : En := [some (.f T), none, x2, x3, x4, none]
theorem lrows_run {m n : Nat} (hm : m ≤ 1000) (hn : n ≤ 60) (T : D) : ∀ (xs : List D) (x2 x3 x4 : Option S), (∀ x ∈ xs, vv m n x = true) → xs.all (rowB 3) = true → ∃ y2 y3 y4, forL (hTup 3 (hCons (hName 2) (hCons (hName 3) (hCons (hName 4) hNil)))) lcB xs (wanE T x2 x3 x4) = .ok (if xs.all crsB = true then .nx else .rt (.bl false)) (wanE T y2 y3 y4)
  | [], x2, x3, x4, _, _ => ⟨x2, x3, x4, rfl⟩
  | x :: xs, x2, x3, x4, hv, ha => by
    rw [List.all_cons, Bool.and_eq_true] at ha
    obtain ⟨a, b, c, rfl⟩ := rowB_3 ha.1
    have e := lcourse_ok hm hn (T := T) (hv _ List.mem_cons_self)
    conv => enter [1, y2, 1, y3, 1, y4, 1]; unfold forL
    rw [show hTup 3 (hCons (hName 2) (hCons (hName 3) (hCons (hName 4) hNil))) (.nd .tup [a, b, c]) (wanE T x2 x3 x4) = some [some (.f T), none, some (.f a), some (.f b), some (.f c), none] from rfl]
    dsimp only
    rw [e]
    cases hc : crsB (.nd .tup [a, b, c]) with
    | true =>
      obtain ⟨y2, y3, y4, ih⟩ := lrows_run hm hn T xs (some (.f a)) (some (.f b)) (some (.f c)) (fun y hy => hv y (List.mem_cons_of_mem _ hy)) ha.2
      refine ⟨y2, y3, y4, ?_⟩
      rw [List.all_cons, hc]
      simp only [if_true, Bool.true_and]
      exact ih
    | false =>
      refine ⟨some (.f a), some (.f b), some (.f c), ?_⟩
      rw [List.all_cons, hc]
      rfl
/-! ### strange needs -/
def strg (R l : Rows) : List Str := l.flatMap fun r => r.2.2.filter fun s => !decide (s ∈ nms R)
def stE (R : Rows) (f : List Str) (row : Option S) : En := [some (.f (coursesD R)), some (.f (lD (nms R))), some (.f (lD f)), row, none]
theorem filter_names (l : List Str) (q : Str → Bool) : (nD l).filter (fun d => q (strOf d)) = nD (l.filter q) := by
  induction l with
  | nil => rfl
  | cons a l ih =>
    show ((D.str a) :: nD l).filter (fun d => q (strOf d)) = _
    rw [List.filter_cons, List.filter_cons]
    cases h : q a with
    | true => rw [if_pos (show q (strOf (.str a)) = true from h), if_pos rfl, ih]; rfl
    | false => rw [if_neg (show ¬ q (strOf (.str a)) = true by rw [show strOf (.str a) = a from rfl, h]; exact Bool.false_ne_true), if_neg Bool.false_ne_true, ih]
theorem strange_step {R : Rows} (ok : NmsOk (nms R)) {r : Str × Int × List Str} (hr : NmsOk r.2.2) (hl : r.2.2.length ≤ 1000) (f : List Str) (hf : f.length ≤ 100000) : sSet 2 (sBin dPlus (sVar 2) (sLc (sIt (sBin dIx (sVar 3) (sC (.int 2)))) (hName 4) (sBin dNotIn (sVar 4) (sBor 1)) (sVar 4) [4])) (stE R f (some (.f (rowD r)))) = .ok .nx (stE R (f ++ r.2.2.filter fun s => !decide (s ∈ nms R)) (some (.f (rowD r)))) := by
  have src : sIt (sBin dIx (sVar 3) (sC (.int 2))) (stE R f (some (.f (rowD r)))) = .ok (nD r.2.2) (stE R f (some (.f (rowD r)))) := rfl
  have blk : sLc (sIt (sBin dIx (sVar 3) (sC (.int 2)))) (hName 4) (sBin dNotIn (sVar 4) (sBor 1)) (sVar 4) [4] (stE R f (some (.f (rowD r)))) = .ok (lD (r.2.2.filter fun s => !decide (s ∈ nms R))) (stE R f (some (.f (rowD r)))) := by
    refine sLc_ok src rfl ?_
    refine (lc_filt (i := 4) (q := fun d => !decide (strOf d ∈ nms R)) (ρ := stE R f (some (.f (rowD r)))) rfl (nD r.2.2) [] (fun d hd => ?_) (by simp; omega)).trans ?_
    · obtain ⟨s, hs, rfl⟩ := List.mem_map.mp hd
      refine bin_ok (x := .str s) (y := lD (nms R)) rfl rfl ?_
      unfold dNotIn
      rw [dIn_lst ok (hr s hs)]
      rfl
    · rw [List.nil_append, filter_names r.2.2 fun s => !decide (s ∈ nms R)]
  have hz : f.length + (r.2.2.filter fun s => !decide (s ∈ nms R)).length ≤ sizeLine := by
    have := List.length_filter_le (fun s => !decide (s ∈ nms R)) r.2.2
    exact Nat.le_trans (show _ ≤ 101000 by omega) (by decide)
  refine set_call (bin_ok (ρ1 := stE R f (some (.f (rowD r)))) (x := lD f) rfl blk ?_)
  show (if (nD f).length + (nD (r.2.2.filter fun s => !decide (s ∈ nms R))).length ≤ sizeLine then some (D.nd .lst (nD f ++ nD (r.2.2.filter fun s => !decide (s ∈ nms R)))) else none) = _
  rw [if_pos (by rw [List.length_map, List.length_map]; exact hz)]
  simp
theorem strange_run {R : Rows} (ok : NmsOk (nms R)) : ∀ (l : Rows) (f : List Str) (row : Option S), (∀ r ∈ l, NmsOk r.2.2 ∧ r.2.2.length ≤ 1000) → f.length + 1000 * l.length ≤ 100000 → ∃ row', forL (hName 3) (sSet 2 (sBin dPlus (sVar 2) (sLc (sIt (sBin dIx (sVar 3) (sC (.int 2)))) (hName 4) (sBin dNotIn (sVar 4) (sBor 1)) (sVar 4) [4]))) (l.map rowD) (stE R f row) = .ok .nx (stE R (f ++ strg R l) row')
  | [], f, row, _, _ => ⟨row, by simp [strg]; rfl⟩
  | r :: l, f, row, h, hl => by
    rw [List.length_cons] at hl
    have hr := h r List.mem_cons_self
    have st := strange_step ok hr.1 hr.2 f (by omega)
    have := List.length_filter_le (fun s => !decide (s ∈ nms R)) r.2.2
    obtain ⟨row', ih⟩ := strange_run ok l (f ++ r.2.2.filter fun s => !decide (s ∈ nms R)) (some (.f (rowD r))) (fun x hx => h x (List.mem_cons_of_mem _ hx)) (by rw [List.length_append]; omega)
    refine ⟨row', ?_⟩
    rw [List.map_cons]
    conv => lhs; unfold forL
    rw [show hName 3 (rowD r) (stE R f row) = some (stE R f (some (.f (rowD r)))) from rfl]
    dsimp only
    rw [st]
    dsimp only
    rw [ih]
    simp [strg]
theorem strange_ok {R : Rows} (r0 : Rows0 R) : fs__law_strange [coursesD R, lD (nms R)] = .val false (lD (strg R R)) none := by
  obtain ⟨row', e⟩ := strange_run r0.ok R [] none (fun r hr => ⟨(r0.nd r hr).1, (r0.nd r hr).2.2⟩) (by have := r0.len; simp; omega)
  rw [List.nil_append] at e
  refine fin_ex rfl ⟨stE R (strg R R) row', ?_⟩
  show m__law_strange [some (.f (coursesD R)), some (.f (lD (nms R))), none, none, none] = _
  unfold m__law_strange
  have e1 : sSet 2 (sMk .lst sNil) [some (.f (coursesD R)), some (.f (lD (nms R))), none, none, none] = .ok .nx (stE R [] none) := rfl
  have e2 : sFor (sIt (sVar 0)) (hName 3) (sSet 2 (sBin dPlus (sVar 2) (sLc (sIt (sBin dIx (sVar 3) (sC (.int 2)))) (hName 4) (sBin dNotIn (sVar 4) (sBor 1)) (sVar 4) [4]))) (stE R [] none) = .ok .nx (stE R (strg R R) row') := by
    unfold sFor
    rw [show sIt (sVar 0) (stE R [] none) = .ok (R.map rowD) (stE R [] none) from rfl]
    exact e
  exact (seq_ok e1).trans ((seq_ok e2).trans rfl)
theorem strg_empty (R : Rows) : (strg R R).isEmpty = subB R := by
  unfold strg subB
  have : ∀ l : Rows, (l.flatMap fun r => r.2.2.filter fun s => !decide (s ∈ nms R)).isEmpty = l.all fun r => r.2.2.all fun s => decide (s ∈ nms R) := fun l => by
    induction l with
    | nil => rfl
    | cons r l ih =>
      have ea : ∀ a b : List Str, (a ++ b).isEmpty = (a.isEmpty && b.isEmpty) := fun a b => by cases a <;> rfl
      rw [List.flatMap_cons, ea, ih, List.all_cons]
      congr 1
      induction r.2.2 with
      | nil => rfl
      | cons s t ih2 =>
        rw [List.filter_cons, List.all_cons]
        by_cases h : s ∈ nms R
        · rw [if_neg (by simp [h]), ih2]; simp [h]
        · rw [if_pos (by simp [h])]; simp [h]
  exact this R
theorem strg_ok {R : Rows} (r0 : Rows0 R) : NmsOk (strg R R) := fun s hs => by
  obtain ⟨r, hr, h⟩ := List.mem_flatMap.mp hs
  exact (r0.nd r hr).1 s (List.mem_filter.mp h).1
theorem sq_rt {a b : En → Y.R Fl} {ρ ρ1 : En} {d : D} (h : a ρ = .ok (.rt d) ρ1) : sSeq a b ρ = .ok (.rt d) ρ1 := by
  unfold sSeq
  rw [h]
  rfl
theorem lare_ok {m n : Nat} {d : D} (h : vv m n d = true) (hm : m ≤ 1000) (hn : n ≤ 60) : fs__law_are_courses [d] = .val false (.bl (acB d)) none := by
  refine fin_ex rfl ?_
  show ∃ ρ, m__law_are_courses (wanE d none none none) = _
  unfold m__law_are_courses
  have e1 := lrows_ok h hm hn 10 3
  have t1 : sNotT (sTru (sCall fs__law_are_rows (sCons (sVar 0) (sCons (sC (.int 10)) (sCons (sC (.int 3)) sNil))))) (wanE d none none none) = .ok (!rowsB 10 3 d) (wanE d none none none) := not_ok (tru_ok (call_ok (ds := [d, .int 10, .int 3]) rfl e1))
  cases hb : rowsB 10 3 d with
  | false =>
    rw [hb] at t1
    rw [acB_rows hb]
    exact ⟨_, out_no t1⟩
  | true =>
    rw [hb] at t1
    obtain ⟨xs, rfl, hl, ha⟩ := rowsB_yes hb
    obtain ⟨j, ej, _, hv⟩ := vv_tup h
    obtain ⟨y2, y3, y4, e2⟩ := lrows_run hm (show j ≤ 60 by omega) (.nd .tup xs) xs none none none hv ha
    have e3 : sFor (sIt (sVar 0)) (hTup 3 (hCons (hName 2) (hCons (hName 3) (hCons (hName 4) hNil)))) lcB (wanE (.nd .tup xs) none none none) = .ok (if xs.all crsB = true then .nx else .rt (.bl false)) (wanE (.nd .tup xs) y2 y3 y4) := by
      unfold sFor
      rw [show sIt (sVar 0) (wanE (.nd .tup xs) none none none) = .ok xs (wanE (.nd .tup xs) none none none) from rfl]
      exact e2
    cases hc : xs.all crsB with
    | false =>
      rw [hc] at e3
      have : acB (.nd .tup xs) = false := by simp [acB, hc]
      rw [this]
      exact ⟨_, (out_go t1).trans (sq_rt e3)⟩
    | true =>
      rw [hc] at e3
      have hxs := rows_of hm hv hc
      have r0 := rows0_of hm hv hc hl
      have hac := acB_eq rfl hb hc
      generalize xs.map rowOf = R at hxs r0 hac
      have hd : D.nd .tup xs = coursesD R := by rw [hxs]; rfl
      rw [hac, hd]
      rw [hd] at t1 e3
      have l10 := r0.len
      have nl : (nms R).length = R.length := List.length_map _
      have e4 : sSet 1 (sLc (sIt (sVar 0)) (hName 5) sYes (sBin dIx (sVar 5) (sC (.int 0))) [5]) (wanE (coursesD R) y2 y3 y4) = .ok .nx [some (.f (coursesD R)), some (.f (lD (nms R))), y2, y3, y4, none] := set_call (heads_ok (j := 5) (ρ := wanE (coursesD R) y2 y3 y4) rfl r0.len rfl)
      have er := lrising_ok (k := .lst) (.inl rfl) r0.ok (by omega)
      generalize hρ : ([some (.f (coursesD R)), some (.f (lD (nms R))), y2, y3, y4, none] : En) = ρ at e4
      have v0 : sVar 0 ρ = .ok (coursesD R) ρ := by subst hρ; rfl
      have v1 : sVar 1 ρ = .ok (lD (nms R)) ρ := by subst hρ; rfl
      have t3 : sNotT (sTru (sCall fs__law_rising (sCons (sVar 1) sNil))) ρ = .ok (!risB (nms R)) ρ := not_ok (tru_ok (call_ok (one_ok v1) er))
      have t4 : sBin dNe (sCall fs__law_strange (sCons (sVar 0) (sCons (sVar 1) sNil))) (sMk .lst sNil) ρ = .ok (!subB R) ρ := by
        refine bin_ok (call_ok (cons_ok v0 (one_ok v1)) (strange_ok r0)) (y := .nd .lst []) rfl ?_
        rw [dNe_nil (dok_lst (strg_ok r0)), ← strg_empty]
        congr 2
        cases strg R R <;> rfl
      cases hr : risB (nms R) with
      | false =>
        rw [hr] at t3
        exact ⟨_, (out_go t1).trans ((seq_ok e3).trans ((seq_ok e4).trans (out_no (or_yes t3))))⟩
      | true =>
        rw [hr] at t3
        cases hs : subB R with
        | false =>
          rw [hs] at t4
          exact ⟨_, (out_go t1).trans ((seq_ok e3).trans ((seq_ok e4).trans (out_no (or_no t3 t4))))⟩
        | true =>
          rw [hs] at t4
          have ok := rowsOk_of r0 hr hs
          generalize hσ : wipeE [2] ρ = σ
          have w0 : sVar 0 (σ.set 2 (some (.f .non))) = .ok (coursesD R) (σ.set 2 (some (.f .non))) := by subst hσ hρ; rfl
          have n2 : σ[2]? = some none := by subst hσ hρ; rfl
          have blk : sLc (sIt (sVar 1)) (hName 2) (sBin dIn (sVar 2) (sCall fs__law_needed (sCons (sVar 0) (sCons (sVar 2) sNil)))) (sVar 2) [2] ρ = .ok (lD ((nms R).filter fun s => decide (s ∈ turns R s 10))) σ := by
            refine sLc_ok2 (ds := nD (nms R)) (ρ1 := ρ) (by unfold sIt; rw [v1]; rfl) hσ ?_
            refine (lc_filt (i := 2) (q := fun d => decide (strOf d ∈ turns R (strOf d) 10)) n2 (nD (nms R)) [] (fun d hd => ?_) (by simp; omega)).trans ?_
            · obtain ⟨s, hsn, rfl⟩ := List.mem_map.mp hd
              have x0 : sVar 0 (σ.set 2 (some (.f (.str s)))) = .ok (coursesD R) (σ.set 2 (some (.f (.str s)))) := by subst hσ hρ; rfl
              refine bin_ok (var_set n2) (call_ok (cons_ok x0 (one_ok (var_set n2))) (needed_ok ok hsn)) ?_
              rw [dIn_lst (turns_names ok s) (ok.ok s hsn)]
              rfl
            · rw [List.nil_append, filter_names (nms R) fun s => decide (s ∈ turns R s 10)]
          refine ⟨σ, (out_go t1).trans ((seq_ok e3).trans ((seq_ok e4).trans ((out_go (or_no t3 t4)).trans (ret_ok ?_))))⟩
          unfold sCmp
          refine bin_ok blk (y := .nd .lst []) rfl ?_
          rw [dEq_nil (dok_lst fun s hs => r0.ok s (List.mem_filter.mp hs).1)]
          have : (nD ((nms R).filter fun s => decide (s ∈ turns R s 10))).isEmpty = cycB R := by
            unfold cycB
            generalize nms R = l
            induction l with
            | nil => rfl
            | cons s l ih =>
              rw [List.filter_cons, List.all_cons]
              by_cases c : s ∈ turns R s 10
              · rw [if_pos (by simp [c])]; simp [c]
              · rw [if_neg (by simp [c]), ih]; simp [c]
          rw [this]
          rfl
end Y

set_option Elab.async false
set_option linter.all false
set_option maxRecDepth 100000
set_option maxHeartbeats 4000000
namespace Y
open PySem PySem.Spec PyProof.Rows L2 PySem.W
/-! ### odd things -/
theorem vv_mono {m m' : Nat} (hm : m ≤ m') : ∀ {n n' : Nat} {d : D}, n ≤ n' → vv m n d = true → vv m' n' d = true := by
  intro n
  induction n with
  | zero =>
    intro n' d _ h
    cases d with
    | nd k xs => simp [vv] at h
    | str s => cases n' <;> simpa [vv] using h
    | ty _ => simp [vv] at h
    | _ => cases n' <;> rfl
  | succ n ih =>
    intro n' d hn h
    cases n' with
    | zero => omega
    | succ n' =>
      cases d with
      | nd k xs =>
        cases k with
        | tup =>
          obtain ⟨j, e, hl, hx⟩ := vv_tup h
          cases e
          have : ∀ x ∈ xs, vv m' n' x = true := fun x hx' => ih (by omega) (hx x hx')
          have l : xs.length ≤ m' := by omega
          simpa [vv, l] using this
        | lst =>
          obtain ⟨j, e, hl, hx⟩ := vv_lst h
          cases e
          have : ∀ x ∈ xs, vv m' n' x = true := fun x hx' => ih (by omega) (hx x hx')
          have l : xs.length ≤ m' := by omega
          simpa [vv, l] using this
        | _ => simp [vv] at h
      | str s => simpa [vv] using h
      | ty _ => simp [vv] at h
      | _ => rfl
def odd1 : List D := [.non, .bl true, .bl false, .int 0, .int 1, .int (-1), .int 5, .int 9, .int 10, .int 41, .int 100, .int 101, .int 400, .int 401, .int 1899, .int 2101, .str "", .str "a", .str "A", .str "abcdefghi"]
def odd2 : List D := [.str "a b", .nd .tup [], .nd .lst [], .nd .tup [.int 1], .nd .tup [.str "a"], .nd .tup [.str "a", .int 1], .nd .lst [.nd .lst []], .nd .tup [.nd .tup [], .nd .tup []]]
theorem odd_vv : ∀ x ∈ odd1 ++ odd2, vv 2 2 x = true := by
  have : ((odd1 ++ odd2).all fun x => vv 2 2 x) = true := by decide +kernel
  exact fun x hx => List.all_eq_true.mp this x hx
theorem mk_ok {k : Kd} {f : En → Y.R (List D)} {ρ ρ1 : En} {ds : List D} (e : f ρ = .ok ds ρ1) (h : ds.length ≤ sizeLine) : sMk k f ρ = .ok (.nd k ds) ρ1 := by
  unfold sMk
  rw [e]
  show lift (if ds.length ≤ sizeLine then some (D.nd k ds) else none) ρ1 = _
  rw [if_pos h]
  rfl
theorem callI_ok {i : Nat} {fs : List D → FO} {f : En → Y.R (List D)} {ρ ρ1 : En} {ds : List D} {d0 d d' : D} {o : Bool} (h0 : ∃ z, ownD i ρ = some z) (e : f ρ = .ok ds ρ1) (h1 : ownD i ρ1 = some d0) (e2 : fs (d0 :: ds) = .val o d (some d')) : sCallI i fs f ρ = .ok d (chg i d' ρ1) := by
  obtain ⟨z, hz⟩ := h0
  unfold sCallI
  rw [hz]
  show bnd (f ρ) _ = _
  rw [e]
  show (match ownD i ρ1 with | some d0 => (match fs (d0 :: ds) with | .val _ d (some d') => Y.R.ok d (chg i d' ρ1) | _ => .bad) | none => .bad) = _
  rw [h1]
  dsimp only
  rw [e2]
theorem cat_ok {a b : List D} (h : a.length + b.length ≤ sizeLine) : dCat (.nd .lst a) (.nd .lst b) = some (.nd .lst (a ++ b)) := by
  unfold dCat
  exact if_pos h
theorem odd_ok {b : D} (h : BagOk b) : ∃ x b', fs__law_odd [b] = .val false x (some b') ∧ BagOk b' ∧ vv 2 2 x = true := by
  obtain ⟨x, b', e, hb, hx⟩ := of_ok h (k := .lst) (.inl rfl) (xs := odd1 ++ odd2) (by simp [odd1]) (by decide)
  refine ⟨x, b', ?_, hb, odd_vv x hx⟩
  have c1 : sSet 1 (sMk .lst (sCons (sC .non) (sCons (sC (.bl true)) (sCons (sC (.bl false)) (sCons (sC (.int 0)) (sCons (sC (.int 1)) (sCons (s1 dNeg (sC (.int 1))) (sCons (sC (.int 5)) (sCons (sC (.int 9)) (sCons (sC (.int 10)) (sCons (sC (.int 41)) (sCons (sC (.int 100)) (sCons (sC (.int 101)) (sCons (sC (.int 400)) (sCons (sC (.int 401)) (sCons (sC (.int 1899)) (sCons (sC (.int 2101)) (sCons (sC (.str "")) (sCons (sC (.str "a")) (sCons (sC (.str "A")) (sCons (sC (.str "abcdefghi")) sNil))))))))))))))))))))) [some (.b b), none] = .ok .nx [some (.b b), some (.f (.nd .lst odd1))] := set_call (ρ1 := [some (.b b), none]) (mk_ok (ds := odd1) rfl (small (by decide)))
  have c2 : sMk .lst (sCons (sC (.str "a b")) (sCons (sMk .tup sNil) (sCons (sMk .lst sNil) (sCons (sMk .tup (sCons (sC (.int 1)) sNil)) (sCons (sMk .tup (sCons (sC (.str "a")) sNil)) (sCons (sMk .tup (sCons (sC (.str "a")) (sCons (sC (.int 1)) sNil))) (sCons (sMk .lst (sCons (sMk .lst sNil) sNil)) (sCons (sMk .tup (sCons (sMk .tup sNil) (sCons (sMk .tup sNil) sNil))) sNil)))))))) [some (.b b), some (.f (.nd .lst odd1))] = .ok (.nd .lst odd2) [some (.b b), some (.f (.nd .lst odd1))] := by
    have m0 : ∀ (k : Kd) (ρ : En), sMk k sNil ρ = .ok (.nd k []) ρ := fun k ρ => mk_ok rfl (small (by decide))
    have m1 : ∀ (k : Kd) (d : D) (ρ : En), sMk k (sCons (sC d) sNil) ρ = .ok (.nd k [d]) ρ := fun k d ρ => mk_ok rfl (small (show 1 ≤ 100000 by decide))
    refine mk_ok (ds := odd2) ?_ (small (by decide))
    refine cons_ok rfl (cons_ok (m0 _ _) (cons_ok (m0 _ _) (cons_ok (m1 _ _ _) (cons_ok (m1 _ _ _) (cons_ok (mk_ok rfl (small (show 2 ≤ 100000 by decide))) (cons_ok (mk_ok (one_ok (m0 _ _)) (small (show 1 ≤ 100000 by decide))) (one_ok (mk_ok (cons_ok (m0 _ _) (one_ok (m0 _ _))) (small (show 2 ≤ 100000 by decide))))))))))
  have c3 : dPlus (.nd .lst odd1) (.nd .lst odd2) = some (.nd .lst (odd1 ++ odd2)) := cat_ok (small (show odd1.length + odd2.length ≤ 100000 by decide))
  have ee : m__law_odd [some (.b b), none] = .ok (.rt x) [some (.b b'), some (.f (.nd .lst odd1))] := by
    unfold m__law_odd
    refine (seq_ok c1).trans (ret_ok ?_)
    exact callI_ok (ρ1 := [some (.b b), some (.f (.nd .lst odd1))]) ⟨b, rfl⟩ (one_ok (bin_ok (x := .nd .lst odd1) rfl c2 c3)) rfl e
  show finF true (m__law_odd [some (.b b), none]) = _
  rw [ee]
  rfl
/-! ### spoilt -/
theorem mem_cut {xs : List D} {lo hi : Option Int} {x : D} (h : x ∈ cutD xs lo hi) : x ∈ xs := (List.drop_sublist _ _).subset ((List.take_sublist _ _).subset h)
theorem len_cut (xs : List D) (lo hi : Option Int) : (cutD xs lo hi).length ≤ xs.length := ((List.take_sublist _ _).trans (List.drop_sublist _ _)).length_le
def spE (b d : D) (deep : Int) (rows at_ way : Option S) : En := [some (.b b), some (.f d), some (.f (.int deep)), rows, at_, way]
theorem slcV_ok {lo hi : En → Y.R (Option Int)} {a c : Option Int} {b d : D} {deep : Int} {ys : List D} {at_ way : Option S} (h1 : lo (spE b d deep (some (.o (.nd .lst ys))) at_ way) = .ok a (spE b d deep (some (.o (.nd .lst ys))) at_ way)) (h2 : hi (spE b d deep (some (.o (.nd .lst ys))) at_ way) = .ok c (spE b d deep (some (.o (.nd .lst ys))) at_ way)) : sSlcV 3 lo hi (spE b d deep (some (.o (.nd .lst ys))) at_ way) = .ok (.nd .lst (cutD ys a c)) (spE b d deep (some (.o (.nd .lst ys))) at_ way) := by
  have hb : sBor 3 (spE b d deep (some (.o (.nd .lst ys))) at_ way) = .ok (.nd .lst ys) (spE b d deep (some (.o (.nd .lst ys))) at_ way) := rfl
  unfold sSlcV
  rw [hb]
  simp only [bnd, h1, h2, hb]
  rfl
theorem pt_ok {f : En → Y.R D} {ρ ρ1 : En} {i : Int} (e : f ρ = .ok (.int i) ρ1) : sPt f ρ = .ok (some i) ρ1 := by
  unfold sPt
  rw [e]
  rfl
theorem node_vv {m j : Nat} {k : Kd} (hk : k = .lst ∨ k = .tup) {ys : List D} (hl : ys.length ≤ m) (h : ∀ y ∈ ys, vv m j y = true) : vv m (j + 1) (.nd k ys) = true := by
  rcases hk with rfl | rfl <;> simpa [vv, hl] using h
/-- the end of the def: the rows are given back -/
theorem sp_end (b : D) {d : D} (hty : (tyN d).isSome = true) (deep : Int) (ys : List D) (at_ way : Option S) : ∃ k ρ, (k = .lst ∨ k = .tup) ∧ sRet (sIf (sTru (sN dIsi (sCons (sVar 1) (sCons (sC (.ty "tuple")) sNil)))) (s1 dTuple (sBor 3)) (sFrz 3)) (spE b d deep (some (.o (.nd .lst ys))) at_ way) = .ok (.rt (.nd k ys)) (some (.b b) :: ρ) := by
  have t : sTru (sN dIsi (sCons (sVar 1) (sCons (sC (.ty "tuple")) sNil))) (spE b d deep (some (.o (.nd .lst ys))) at_ way) = .ok (isTup d) (spE b d deep (some (.o (.nd .lst ys))) at_ way) := tru_ok (n_ok (ds := [d, .ty "tuple"]) rfl (isi_tup d hty))
  cases h : isTup d with
  | true =>
    rw [h] at t
    refine ⟨.tup, _, .inr rfl, ret_ok (ρ1 := spE b d deep (some (.o (.nd .lst ys))) at_ way) ?_⟩
    unfold sIf
    rw [t]
    rfl
  | false =>
    rw [h] at t
    refine ⟨.lst, _, .inl rfl, ret_ok (ρ1 := spE b d deep (some (.f (.nd .lst ys))) at_ way) ?_⟩
    unfold sIf
    rw [t]
    rfl
def isSeq : D → Bool
  | .nd .tup _ => true
  | .nd .ktp _ => true
  | .nd .lst _ => true
  | .nd .scr _ => true
  | _ => false
theorem isi_seq (d : D) (h : (tyN d).isSome = true) : dIsi [d, .nd .tup [.ty "tuple", .ty "list"]] = some (.bl (isSeq d)) := by
  cases d with
  | nd k xs => cases k <;> simp [tyN] at h <;> simp [dIsi, isTy, tyN, isA, isSeq]
  | ty n => simp [tyN] at h
  | _ => simp [dIsi, isTy, tyN, isA, isSeq]
theorem seq_node {m n : Nat} {d : D} (h : vv m n d = true) (hs : isSeq d = true) : ∃ k xs j, d = .nd k xs ∧ (k = .lst ∨ k = .tup) ∧ n = j + 1 ∧ xs.length ≤ m ∧ ∀ x ∈ xs, vv m j x = true := by
  cases d with
  | nd k xs =>
    cases k with
    | tup => obtain ⟨j, e, hl, hx⟩ := vv_tup h; exact ⟨_, _, j, rfl, .inr rfl, e, hl, hx⟩
    | lst => obtain ⟨j, e, hl, hx⟩ := vv_lst h; exact ⟨_, _, j, rfl, .inl rfl, e, hl, hx⟩
    | ktp => cases n <;> simp [vv] at h
    | scr => cases n <;> simp [vv] at h
    | dK _ => cases hs
    | dT _ => cases hs
  | _ => cases hs
theorem dEq_int0 (r c : Int) : ∃ t, dEq (.int r) (.int c) = some t ∧ (t = true ↔ r = c) := by
  refine ⟨_, if_pos ⟨rfl, rfl⟩, ?_⟩
  simp [py, PyData.eqv]
end Y

set_option Elab.async false
set_option linter.all false
set_option maxRecDepth 100000
set_option maxHeartbeats 4000000
namespace Y
open PySem PySem.Spec PyProof.Rows L2 PySem.W
theorem takeI {b : D} {d : D} {deep : Int} {r3 r4 r5 : Option S} {f : En → Y.R (List D)} {n : Int} (hb : BagOk b) (h1 : 0 < n) (h2 : n < 1073741824) (e : f (spE b d deep r3 r4 r5) = .ok [.int n] (spE b d deep r3 r4 r5)) : ∃ r b', sCallI 0 fs__law_take f (spE b d deep r3 r4 r5) = .ok (.int r) (spE b' d deep r3 r4 r5) ∧ BagOk b' ∧ 0 ≤ r ∧ r < n := by
  obtain ⟨r, b', e2, hb', r0, r1⟩ := take_ok hb h1 h2
  exact ⟨r, b', callI_ok ⟨b, rfl⟩ e rfl e2, hb', r0, r1⟩
theorem sp_cond {m n : Nat} {b d : D} (deep : Nat) (hb : BagOk b) (h : vv m n d = true) : ∃ cb b1, sOrT (sNotT (sTru (sN dIsi (sCons (sVar 1) (sCons (sMk .tup (sCons (sC (.ty "tuple")) (sCons (sC (.ty "list")) sNil))) sNil))))) (sOrT (sBin dEq (s1 dLen' (sBor 1)) (sC (.int 0))) (sOrT (sBin dEq (sVar 2) (sC (.int 0))) (sBin dEq (sCallI 0 fs__law_take (sCons (sC (.int 6)) sNil)) (sC (.int 0))))) (spE b d (deep : Int) none none none) = .ok cb (spE b1 d (deep : Int) none none none) ∧ BagOk b1 ∧ (cb = false → deep ≠ 0 ∧ ∃ k xs j, d = .nd k xs ∧ (k = .lst ∨ k = .tup) ∧ n = j + 1 ∧ xs.length ≤ m ∧ (∀ x ∈ xs, vv m j x = true) ∧ xs ≠ []) := by
  have ar : sCons (sVar 1) (sCons (sMk .tup (sCons (sC (.ty "tuple")) (sCons (sC (.ty "list")) sNil))) sNil) (spE b d (deep : Int) none none none) = .ok [d, .nd .tup [.ty "tuple", .ty "list"]] (spE b d (deep : Int) none none none) := cons_ok rfl (one_ok (mk_ok rfl (small (show 2 ≤ 100000 by decide))))
  have t1 := not_ok (tru_ok (n_ok ar (isi_seq d (vv_ty h))))
  cases hs : isSeq d with
  | false =>
    rw [hs] at t1
    exact ⟨true, b, or_yes t1, hb, fun z => by cases z⟩
  | true =>
    rw [hs] at t1
    obtain ⟨k, xs, j, rfl, hk, hn, hl, hx⟩ := seq_node h hs
    obtain ⟨c1, d1, i1⟩ := dEq_int0 (xs.length : Int) 0
    obtain ⟨c2, d2, i2⟩ := dEq_int0 (deep : Int) 0
    have t2 : sBin dEq (s1 dLen' (sBor 1)) (sC (.int 0)) (spE b (.nd k xs) (deep : Int) none none none) = .ok c1 (spE b (.nd k xs) (deep : Int) none none none) := bin_ok (s1_ok (d := .nd k xs) rfl (len_nd hk xs)) rfl d1
    have t3 : sBin dEq (sVar 2) (sC (.int 0)) (spE b (.nd k xs) (deep : Int) none none none) = .ok c2 (spE b (.nd k xs) (deep : Int) none none none) := bin_ok (x := .int (deep : Int)) rfl rfl d2
    cases c1 with
    | true => exact ⟨true, b, or_no t1 (or_yes t2), hb, fun z => by cases z⟩
    | false =>
      cases c2 with
      | true => exact ⟨true, b, or_no t1 (or_no t2 (or_yes t3)), hb, fun z => by cases z⟩
      | false =>
        obtain ⟨r, b1, e, hb1, r0, r1⟩ := takeI (d := .nd k xs) (deep := (deep : Int)) (r3 := none) (r4 := none) (r5 := none) (f := sCons (sC (.int 6)) sNil) hb (n := 6) (by decide) (by decide) rfl
        obtain ⟨c3, d3, _⟩ := dEq_int0 r 0
        refine ⟨c3, b1, or_no t1 (or_no t2 (or_no t3 (bin_ok e rfl d3))), hb1, fun _ => ⟨fun z => ?_, k, xs, j, rfl, hk, hn, hl, hx, fun z => ?_⟩⟩
        · exact Bool.false_ne_true (i2.mpr (by omega))
        · exact Bool.false_ne_true (i1.mpr (by rw [z]; rfl))
theorem setO_ok {i : Nat} {f : En → Y.R D} {ρ ρ1 : En} {d : D} (e : f ρ = .ok d ρ1) : sSetO i f ρ = .ok .nx (ρ1.set i (some (.o d))) := by
  unfold sSetO
  rw [e]
  rfl
/-- the ways that lay the rows anew -/
theorem way_bin {b d : D} {deep : Int} {xs a c : List D} {r4 r5 : Option S} {fa fb : En → Y.R D} {m : Nat} (ea : fa (spE b d deep (some (.o (.nd .lst xs))) r4 r5) = .ok (.nd .lst a) (spE b d deep (some (.o (.nd .lst xs))) r4 r5)) (eb : fb (spE b d deep (some (.o (.nd .lst xs))) r4 r5) = .ok (.nd .lst c) (spE b d deep (some (.o (.nd .lst xs))) r4 r5)) (h : a.length + c.length ≤ 100000) : sSetO 3 (sBin dCat fa fb) (spE b d deep (some (.o (.nd .lst xs))) r4 r5) = .ok .nx (spE b d deep (some (.o (.nd .lst (a ++ c)))) r4 r5) := setO_ok (bin_ok ea eb (cat_ok (small h)))
theorem put_ok {i : Nat} {g : D → D → D → Option D} {fk fe : En → Y.R D} {ρ ρ1 : En} {e k d0 d' : D} (h1 : fe ρ = .ok e ρ1) (h2 : ownD i ρ1 = some d0) (h3 : fk ρ1 = .ok k ρ1) (h4 : g d0 k e = some d') : sPut i g fk fe ρ = .ok .nx (chg i d' ρ1) := by
  unfold sPut
  rw [h1]
  simp only [bnd, h2, lift, h3, h4]
theorem at_nat {xs : List D} {jj : Nat} (h : jj < xs.length) : dIx (.nd .lst xs) (.int (jj : Int)) = some xs[jj] := by
  simp [runF, argS, finF, outs, sSeq, sq, bnd, lift, sVar, sBor, sFrz, sMov, sC, sBin, sCmp, sChain, sTru, tru, sAndT, sOrT, sNotT, sAndV, sOrV, sNotV, sIf, sNil, sCons, sMk, s1, sN, sNx, sDrop, sRet, sRetO, sIfS, sSet, sSetO, sAsg, sPut, ownD, chg, ownL, isLst, sMeth, sIxV, bor, sCall, sCallO, sCallI, sCallIO, gSetL, ixN, dIx, atI, dGt, cmpI, dMod, dDiv, dMul, dPlus, dAdd, dSub, dNeg, dLt, dLen', dLen, sSlc, sSlcV, sPt, sNoPt, sIt, itD, sRg, rg1, hName, hTup, hCons, hNil, sFor, List.replicate, sPar2, pO, pF, pNil, noB, sIsiV, isTy, tyN, isA, sCmpV, sz0, sz1, sz2, sz3, sz4, sz5, h]
theorem set_nat {xs : List D} {jj : Nat} (h : jj < xs.length) (x : D) : gSetL (.nd .lst xs) (.int (jj : Int)) x = some (.nd .lst (xs.set jj x)) := by
  simp [runF, argS, finF, outs, sSeq, sq, bnd, lift, sVar, sBor, sFrz, sMov, sC, sBin, sCmp, sChain, sTru, tru, sAndT, sOrT, sNotT, sAndV, sOrV, sNotV, sIf, sNil, sCons, sMk, s1, sN, sNx, sDrop, sRet, sRetO, sIfS, sSet, sSetO, sAsg, sPut, ownD, chg, ownL, isLst, sMeth, sIxV, bor, sCall, sCallO, sCallI, sCallIO, gSetL, ixN, dIx, atI, dGt, cmpI, dMod, dDiv, dMul, dPlus, dAdd, dSub, dNeg, dLt, dLen', dLen, sSlc, sSlcV, sPt, sNoPt, sIt, itD, sRg, rg1, hName, hTup, hCons, hNil, sFor, List.replicate, sPar2, pO, pF, pNil, noB, sIsiV, isTy, tyN, isA, sCmpV, sz0, sz1, sz2, sz3, sz4, sz5, h]
theorem sp_ok : ∀ (t deep m n : Nat) (b d : D), BagOk b → vv m n d = true → deep < t → deep + 2 ≤ n → 2 ≤ m → m ≤ 5000 → ∃ x b', fs__law_spoilt t [b, d, .int (deep : Int)] = .val false x (some b') ∧ BagOk b' ∧ vv (3 * m) n x = true := by
  intro t
  induction t with
  | zero => intro deep m n b d _ _ h; omega
  | succ t ih =>
    intro deep m n b d hb h ht hn hm2 hm
    suffices H : ∃ x b' ρ, m__law_spoilt (fs__law_spoilt t) (spE b d (deep : Int) none none none) = .ok (.rt x) (some (.b b') :: ρ) ∧ BagOk b' ∧ vv (3 * m) n x = true by
      obtain ⟨x, b', ρ, e, hb', hx⟩ := H
      refine ⟨x, b', ?_, hb', hx⟩
      show finF true (m__law_spoilt (fs__law_spoilt t) (spE b d (deep : Int) none none none)) = _
      rw [e]
      rfl
    unfold m__law_spoilt
    obtain ⟨cb, b1, e1, hb1, yes⟩ := sp_cond deep hb h
    cases cb with
    | true =>
      obtain ⟨x, b2, e2, hb2, hx⟩ := odd_ok hb1
      refine ⟨x, b2, [some (.f d), some (.f (.int (deep : Int))), none, none, none], ?_, hb2, vv_mono (by omega) (by omega) hx⟩
      have e3 : sRet (sCallI 0 fs__law_odd sNil) (spE b1 d (deep : Int) none none none) = .ok (.rt x) (some (.b b2) :: [some (.f d), some (.f (.int (deep : Int))), none, none, none]) := ret_ok (callI_ok (ρ1 := spE b1 d (deep : Int) none none none) ⟨b1, rfl⟩ rfl rfl e2)
      exact sq_rt ((if_yes e1).trans e3)
    | false =>
      obtain ⟨hd, k, xs, j, rfl, hk, rfl, hl, hx, hne⟩ := yes rfl
      have hp := List.length_pos_iff.mpr hne
      have hty := vv_ty h
      refine Exists.imp (fun x => Exists.imp fun b' => Exists.imp fun ρ => And.imp (fun e => (seq_ok ((if_no e1).trans rfl)).trans e) id) ?_
      have f1 : sSetO 3 (s1 dList (sBor 1)) (spE b1 (.nd k xs) (deep : Int) none none none) = .ok .nx (spE b1 (.nd k xs) (deep : Int) (some (.o (.nd .lst xs))) none none) := setO_ok (ρ1 := spE b1 (.nd k xs) (deep : Int) none none none) (s1_ok (d := .nd k xs) rfl (by rcases hk with rfl | rfl <;> rfl))
      obtain ⟨r, b2, g2, hb2, r0, r1⟩ := takeI (d := .nd k xs) (deep := (deep : Int)) (r3 := some (.o (.nd .lst xs))) (r4 := none) (r5 := none) (f := sCons (s1 dLen' (sBor 3)) sNil) hb1 (n := (xs.length : Int)) (by omega) (by omega) (one_ok (s1_ok (d := .nd .lst xs) rfl (len_nd (.inl rfl) xs)))
      have f2 := set_call (i := 4) g2
      obtain ⟨w, b3, g3, hb3, w0, w1⟩ := takeI (d := .nd k xs) (deep := (deep : Int)) (r3 := some (.o (.nd .lst xs))) (r4 := some (.f (.int r))) (r5 := none) (f := sCons (sC (.int 8)) sNil) hb2 (n := 8) (by decide) (by decide) rfl
      have f3 := set_call (i := 5) g3
      refine Exists.imp (fun x => Exists.imp fun b' => Exists.imp fun ρ => And.imp (fun e => (seq_ok f1).trans ((seq_ok f2).trans ((seq_ok f3).trans e))) id) ?_
      show ∃ x b' ρ, sSeq _ _ (spE b3 (.nd k xs) (deep : Int) (some (.o (.nd .lst xs))) (some (.f (.int r))) (some (.f (.int w)))) = _ ∧ _ ∧ _
      have mono : ∀ x ∈ xs, vv (3 * m) j x = true := fun x hx' => vv_mono (by omega) (Nat.le_refl _) (hx x hx')
      -- rows laid anew, then given back
      have fin : ∀ (ys : List D) (b4 : D) {W : En → Y.R Fl}, BagOk b4 → ys.length ≤ 3 * m → (∀ y ∈ ys, vv (3 * m) j y = true) → W (spE b3 (.nd k xs) (deep : Int) (some (.o (.nd .lst xs))) (some (.f (.int r))) (some (.f (.int w)))) = .ok .nx (spE b4 (.nd k xs) (deep : Int) (some (.o (.nd .lst ys))) (some (.f (.int r))) (some (.f (.int w)))) →
          ∃ x b' ρ, sSeq W (sRet (sIf (sTru (sN dIsi (sCons (sVar 1) (sCons (sC (.ty "tuple")) sNil)))) (s1 dTuple (sBor 3)) (sFrz 3))) (spE b3 (.nd k xs) (deep : Int) (some (.o (.nd .lst xs))) (some (.f (.int r))) (some (.f (.int w)))) = .ok (.rt x) (some (.b b') :: ρ) ∧ BagOk b' ∧ vv (3 * m) (j + 1) x = true := fun ys b4 W hb4 hly hy e => by
        obtain ⟨k2, ρ, hk2, e2⟩ := sp_end b4 hty (deep : Int) ys (some (.f (.int r))) (some (.f (.int w)))
        exact ⟨_, b4, ρ, (seq_ok e).trans e2, hb4, node_vv hk2 hly hy⟩
      obtain ⟨q0, p0, _⟩ := dEq_int0 w 0
      obtain ⟨q1, p1, _⟩ := dEq_int0 w 1
      obtain ⟨q2, p2, _⟩ := dEq_int0 w 2
      obtain ⟨q3, p3, _⟩ := dEq_int0 w 3
      have tw : ∀ (c : Int) (q : Bool), dEq (.int w) (.int c) = some q → sBin dEq (sVar 5) (sC (.int c)) (spE b3 (.nd k xs) (deep : Int) (some (.o (.nd .lst xs))) (some (.f (.int r))) (some (.f (.int w)))) = .ok q (spE b3 (.nd k xs) (deep : Int) (some (.o (.nd .lst xs))) (some (.f (.int r))) (some (.f (.int w)))) := fun c q e => bin_ok (x := .int w) rfl rfl e
      have vat : sPt (sVar 4) (spE b3 (.nd k xs) (deep : Int) (some (.o (.nd .lst xs))) (some (.f (.int r))) (some (.f (.int w)))) = .ok (some r) (spE b3 (.nd k xs) (deep : Int) (some (.o (.nd .lst xs))) (some (.f (.int r))) (some (.f (.int w)))) := rfl
      have vat1 : ∀ c : Int, sPt (sBin dPlus (sVar 4) (sC (.int c))) (spE b3 (.nd k xs) (deep : Int) (some (.o (.nd .lst xs))) (some (.f (.int r))) (some (.f (.int w)))) = .ok (some (r + c)) (spE b3 (.nd k xs) (deep : Int) (some (.o (.nd .lst xs))) (some (.f (.int r))) (some (.f (.int w)))) := fun c => rfl
      have vno : sNoPt (spE b3 (.nd k xs) (deep : Int) (some (.o (.nd .lst xs))) (some (.f (.int r))) (some (.f (.int w)))) = .ok none (spE b3 (.nd k xs) (deep : Int) (some (.o (.nd .lst xs))) (some (.f (.int r))) (some (.f (.int w)))) := rfl
      have lc := len_cut xs
      cases q0 with
      | true =>
        have l1 := lc none (some r)
        have l2 := lc (some (r + 1)) none
        exact fin _ b3 hb3 (by rw [List.length_append]; omega) (fun y hy => (List.mem_append.mp hy).elim (fun z => mono y (mem_cut z)) fun z => mono y (mem_cut z)) ((if_yes (tw 0 _ p0)).trans (way_bin (m := m) (slcV_ok vno vat) (slcV_ok (vat1 1) vno) (by omega)))
      | false =>
        cases q1 with
        | true =>
          have l1 := lc none (some (r + 1))
          have l2 := lc (some r) none
          exact fin _ b3 hb3 (by rw [List.length_append]; omega) (fun y hy => (List.mem_append.mp hy).elim (fun z => mono y (mem_cut z)) fun z => mono y (mem_cut z)) ((if_no (tw 0 _ p0)).trans ((if_yes (tw 1 _ p1)).trans (way_bin (m := m) (slcV_ok vno (vat1 1)) (slcV_ok vat vno) (by omega))))
        | false =>
          cases q2 with
          | true =>
            have t : sTru (sN dIsi (sCons (sVar 1) (sCons (sC (.ty "tuple")) sNil))) (spE b3 (.nd k xs) (deep : Int) (some (.o (.nd .lst xs))) (some (.f (.int r))) (some (.f (.int w)))) = .ok (isTup (.nd k xs)) (spE b3 (.nd k xs) (deep : Int) (some (.o (.nd .lst xs))) (some (.f (.int r))) (some (.f (.int w)))) := tru_ok (n_ok (ds := [.nd k xs, .ty "tuple"]) rfl (isi_tup _ hty))
            have out : ∃ k2 ρ, (k2 = .lst ∨ k2 = .tup) ∧ sRet (sIf (sTru (sN dIsi (sCons (sVar 1) (sCons (sC (.ty "tuple")) sNil)))) (s1 dList (sBor 3)) (s1 dTuple (sBor 3))) (spE b3 (.nd k xs) (deep : Int) (some (.o (.nd .lst xs))) (some (.f (.int r))) (some (.f (.int w)))) = .ok (.rt (.nd k2 xs)) (some (.b b3) :: ρ) := by
              cases ht' : isTup (.nd k xs) with
              | true =>
                rw [ht'] at t
                refine ⟨.lst, _, .inl rfl, ret_ok (ρ1 := spE b3 (.nd k xs) (deep : Int) (some (.o (.nd .lst xs))) (some (.f (.int r))) (some (.f (.int w)))) ?_⟩
                unfold sIf
                rw [t]
                rfl
              | false =>
                rw [ht'] at t
                refine ⟨.tup, _, .inr rfl, ret_ok (ρ1 := spE b3 (.nd k xs) (deep : Int) (some (.o (.nd .lst xs))) (some (.f (.int r))) (some (.f (.int w)))) ?_⟩
                unfold sIf
                rw [t]
                rfl
            obtain ⟨k2, ρ, hk2, e⟩ := out
            exact ⟨_, b3, ρ, sq_rt ((if_no (tw 0 _ p0)).trans ((if_no (tw 1 _ p1)).trans ((if_yes (tw 2 _ p2)).trans e))), hb3, node_vv hk2 (by omega) mono⟩
          | false =>
            cases q3 with
            | true =>
              have l1 := lc none (some r)
              have l2 := lc (some r) (some (r + 2))
              have l3 := lc (some (r + 2)) none
              have rv : s1 dRev (sSlcV 3 (sPt (sVar 4)) (sPt (sBin dPlus (sVar 4) (sC (.int 2))))) (spE b3 (.nd k xs) (deep : Int) (some (.o (.nd .lst xs))) (some (.f (.int r))) (some (.f (.int w)))) = .ok (.nd .lst (cutD xs (some r) (some (r + 2))).reverse) (spE b3 (.nd k xs) (deep : Int) (some (.o (.nd .lst xs))) (some (.f (.int r))) (some (.f (.int w)))) := s1_ok (slcV_ok vat (vat1 2)) rfl
              have pl := bin_ok (g := dPlus) (slcV_ok vno vat) rv (cat_ok (small (show (cutD xs none (some r)).length + (cutD xs (some r) (some (r + 2))).reverse.length ≤ 100000 by rw [List.length_reverse]; omega)))
              exact fin _ b3 hb3 (by simp only [List.length_append, List.length_reverse]; omega) (fun y hy => (List.mem_append.mp hy).elim (fun z => (List.mem_append.mp z).elim (fun z => mono y (mem_cut z)) fun z => mono y (mem_cut (List.mem_reverse.mp z))) fun z => mono y (mem_cut z)) ((if_no (tw 0 _ p0)).trans ((if_no (tw 1 _ p1)).trans ((if_no (tw 2 _ p2)).trans ((if_yes (tw 3 _ p3)).trans (way_bin (m := m) pl (slcV_ok (vat1 2) vno) (by simp only [List.length_append, List.length_reverse]; omega))))))
            | false =>
              obtain ⟨jj, rfl⟩ : ∃ jj : Nat, r = (jj : Int) := ⟨r.toNat, by omega⟩
              have hjj : jj < xs.length := by omega
              obtain ⟨x, b4, e4, hb4, hx4⟩ := ih (deep - 1) m j b3 xs[jj] hb3 (hx _ (List.getElem_mem hjj)) (by omega) (by omega) hm2 hm
              have a1 : sIxV 3 (sVar 4) (spE b3 (.nd k xs) (deep : Int) (some (.o (.nd .lst xs))) (some (.f (.int (jj : Int)))) (some (.f (.int w)))) = .ok xs[jj] (spE b3 (.nd k xs) (deep : Int) (some (.o (.nd .lst xs))) (some (.f (.int (jj : Int)))) (some (.f (.int w)))) := by
                have hb : sBor 3 (spE b3 (.nd k xs) (deep : Int) (some (.o (.nd .lst xs))) (some (.f (.int (jj : Int)))) (some (.f (.int w)))) = .ok (.nd .lst xs) (spE b3 (.nd k xs) (deep : Int) (some (.o (.nd .lst xs))) (some (.f (.int (jj : Int)))) (some (.f (.int w)))) := rfl
                have hv : sVar 4 (spE b3 (.nd k xs) (deep : Int) (some (.o (.nd .lst xs))) (some (.f (.int (jj : Int)))) (some (.f (.int w)))) = .ok (.int (jj : Int)) (spE b3 (.nd k xs) (deep : Int) (some (.o (.nd .lst xs))) (some (.f (.int (jj : Int)))) (some (.f (.int w)))) := rfl
                unfold sIxV
                rw [hb]
                simp only [bnd, hv, hb, at_nat hjj, lift]
              have a2 : sBin dSub (sVar 2) (sC (.int 1)) (spE b3 (.nd k xs) (deep : Int) (some (.o (.nd .lst xs))) (some (.f (.int (jj : Int)))) (some (.f (.int w)))) = .ok (.int ((deep - 1 : Nat) : Int)) (spE b3 (.nd k xs) (deep : Int) (some (.o (.nd .lst xs))) (some (.f (.int (jj : Int)))) (some (.f (.int w)))) := bin_ok (x := .int (deep : Int)) rfl rfl (by show some (D.int ((deep : Int) - 1)) = _; congr 2; omega)
              have a3 := callI_ok (i := 0) ⟨b3, rfl⟩ (cons_ok a1 (one_ok a2)) rfl e4
              have a4 := put_ok (i := 3) (g := gSetL) (fk := sVar 4) (k := .int (jj : Int)) (d0 := .nd .lst xs) a3 rfl rfl (set_nat hjj x)
              refine fin (xs.set jj x) b4 hb4 (by rw [List.length_set]; omega) (fun y hy => ?_) ((if_no (tw 0 _ p0)).trans ((if_no (tw 1 _ p1)).trans ((if_no (tw 2 _ p2)).trans ((if_no (tw 3 _ p3)).trans a4))))
              rcases List.mem_or_eq_of_mem_set hy with z | z
              · exact mono y z
              · rw [z]; exact hx4
end Y

set_option Elab.async false
set_option linter.all false
set_option maxRecDepth 100000
set_option maxHeartbeats 4000000
namespace Y
open PySem PySem.Spec PyProof.Rows L2 PySem.W
/-! ### the law -/
theorem same_ok (a : Bool) : fs__law_same [.bl a, .bl a] = .val false (.bl true) none := by
  refine fin_ok (ρ := [some (.f (.bl a)), some (.f (.bl a))]) rfl ?_
  show m__law_same [some (.f (.bl a)), some (.f (.bl a))] = _
  unfold m__law_same
  refine ret_ok (and_yes (n_ok (ds := [.bl a, .ty "bool"]) rfl (isi_bool (.bl a) rfl)) ?_)
  unfold sCmp
  refine bin_ok (x := .bl a) (y := .bl a) rfl rfl ?_
  rw [dEq_self (d := .bl a) rfl]
  rfl
/-- both tests of one thing -/
theorem test_ok {i : Nat} {ρ : En} {x : D} {m : Nat} (hv : sVar i ρ = .ok x ρ) (h : vv m 7 x = true) (hm : m ≤ 1000) : sNotT (sTru (sCall fs__law_same (sCons (sCall fs_are_courses (sCons (sVar i) sNil)) (sCons (sCall fs__law_are_courses (sCons (sVar i) sNil)) sNil)))) ρ = .ok false ρ :=
  not_ok (b := true) (tru_ok (call_ok (cons_ok (call_ok (one_ok hv) (are_ok h hm)) (one_ok (call_ok (one_ok hv) (lare_ok h hm (by decide))))) (same_ok _)))
def kE (sc many k : D) (b courses : D) (thing turn more ringed name at_ : Option S) : En := [some (.f sc), some (.f many), some (.f k), some (.o b), some (.f courses), thing, turn, more, ringed, name, at_]
abbrev turnK : En → Y.R Fl := sSeq (sIfS (sNotT (sTru (sCall fs__law_same (sCons (sCall fs_are_courses (sCons (sVar 5) sNil)) (sCons (sCall fs__law_are_courses (sCons (sVar 5) sNil)) sNil))))) (sRet (sC (.bl false))) sNx) (sSet 5 (sCallI 3 (fs__law_spoilt 6) (sCons (sVar 5) (sCons (sC (.int 4)) sNil))))
theorem turns_k (sc many k C : D) (more ringed name at_ : Option S) : ∀ (ds : List D) (m : Nat) (x b : D) (turn : Option S), BagOk b → vv m 7 x = true → 2 ≤ m → m * 3 ^ ds.length ≤ 2430 → ∃ b' x' turn', forL (hName 6) turnK ds (kE sc many k b C (some (.f x)) turn more ringed name at_) = .ok .nx (kE sc many k b' C (some (.f x')) turn' more ringed name at_)
  | [], m, x, b, turn, _, _, _, _ => ⟨b, x, turn, rfl⟩
  | d :: ds, m, x, b, turn, hb, hx, h2, hm => by
    rw [List.length_cons, Nat.pow_succ] at hm
    have hp : 1 ≤ 3 ^ ds.length := Nat.one_le_pow _ _ (by decide)
    have h3 : m * 3 ≤ 2430 := Nat.le_trans (by
      have : m * 3 * 1 ≤ m * 3 * 3 ^ ds.length := Nat.mul_le_mul_left _ hp
      have e : m * (3 ^ ds.length * 3) = m * 3 * 3 ^ ds.length := by rw [Nat.mul_comm (3 ^ ds.length) 3, Nat.mul_assoc]
      rw [e]
      omega) hm
    obtain ⟨x1, b1, e1, hb1, hx1⟩ := sp_ok 6 4 m 7 b x hb hx (by decide) (by decide) h2 (by omega)
    obtain ⟨b', x', turn', ih⟩ := turns_k sc many k C more ringed name at_ ds (3 * m) x1 b1 (some (.f d)) hb1 hx1 (by omega) (by rw [Nat.mul_comm 3 m, Nat.mul_assoc, Nat.mul_comm 3]; exact hm)
    refine ⟨b', x', turn', ?_⟩
    conv => lhs; unfold forL
    rw [show hName 6 d (kE sc many k b C (some (.f x)) turn more ringed name at_) = some (kE sc many k b C (some (.f x)) (some (.f d)) more ringed name at_) from rfl]
    dsimp only
    have t := test_ok (i := 5) (ρ := kE sc many k b C (some (.f x)) (some (.f d)) more ringed name at_) rfl hx (by omega)
    have c := set_call (i := 5) (callI_ok (i := 3) (ρ := kE sc many k b C (some (.f x)) (some (.f d)) more ringed name at_) ⟨b, rfl⟩ (ds := [x, .int 4]) rfl rfl e1)
    rw [show turnK (kE sc many k b C (some (.f x)) (some (.f d)) more ringed name at_) = .ok .nx (kE sc many k b1 C (some (.f x1)) (some (.f d)) more ringed name at_) from (out_go t).trans c]
    exact ih
/-! ### written courses -/
theorem srt_nil : srt [] = [] := (srt_perm []).eq_nil
theorem turns_none {R : Rows} (h : ∀ r ∈ R, r.2.2 = []) (nm : Str) : ∀ n, turns R nm n = [] := by
  have hn : ∀ s, nb R s = [] := fun s => by
    unfold nb
    split
    · rename_i r e
      exact h r (List.mem_of_find?_eq_some e)
    · rfl
  intro n
  induction n with
  | zero => show srt (nb R nm) = []; rw [hn, srt_nil]
  | succ n ih =>
    show turn R (turns R nm n) = []
    rw [ih]
    show srt (ddS ([] ++ more R [])) = []
    exact srt_nil
theorem cyc_none {R : Rows} (h : ∀ r ∈ R, r.2.2 = []) : cycB R = true := by
  unfold cycB
  rw [List.all_eq_true]
  intro s _
  rw [turns_none h]
  simp
def manyR : Rows := [("a", 1, []), ("b", 1, []), ("c", 1, []), ("d", 1, []), ("e", 1, []), ("f", 1, []), ("g", 1, []), ("h", 1, []), ("i", 1, []), ("j", 1, []), ("k", 1, [])]
theorem many_vv : vv 20 7 (coursesD manyR) = true := by decide +kernel
theorem many10_vv : vv 20 7 (coursesD (manyR.take 10)) = true := by decide +kernel
theorem many_no : acB (coursesD manyR) = false := by
  have : rowsB 10 3 (coursesD manyR) = false := by decide +kernel
  exact acB_rows this
theorem ten_rows : ((manyR.take 10).map rowD).map rowOf = manyR.take 10 := by
  rw [List.map_map]
  have : ∀ x ∈ manyR.take 10, (rowOf ∘ rowD) x = x := fun x hx => by
    have : x.2.2 = [] := by
      have q : ((manyR.take 10).all fun r => r.2.2.isEmpty) = true := by decide +kernel
      exact List.isEmpty_iff.mp (List.all_eq_true.mp q x hx)
    obtain ⟨a, b, c⟩ := x
    cases this
    rfl
  exact (List.map_congr_left this).trans (List.map_id _)
theorem ten_yes : acB (coursesD (manyR.take 10)) = true := by
  have h1 : rowsB 10 3 (coursesD (manyR.take 10)) = true := by decide +kernel
  have h2 : ((manyR.take 10).map rowD).all crsB = true := by decide +kernel
  rw [show coursesD (manyR.take 10) = .nd .tup ((manyR.take 10).map rowD) from rfl, acB_eq ten_rows h1 h2]
  have h3 : risB (nms (manyR.take 10)) = true := by decide +kernel
  have h4 : subB (manyR.take 10) = true := by decide +kernel
  rw [h3, h4, cyc_none (fun r hr => ?_)]
  · rfl
  · have q : ((manyR.take 10).all fun r => r.2.2.isEmpty) = true := by decide +kernel
    exact List.isEmpty_iff.mp (List.all_eq_true.mp q r hr)
theorem none_yes : acB (.nd .tup []) = true := rfl
end Y

set_option Elab.async false
set_option linter.all false
set_option maxRecDepth 100000
set_option maxHeartbeats 4000000
namespace Y
open PySem PySem.Spec PyProof.Rows L2 PySem.W
theorem names10_len : ∀ s ∈ names10, s.length ≤ 20 := by
  have : (names10.all fun s => decide (s.length ≤ 20)) = true := by decide +kernel
  exact fun s h => of_decide_eq_true (List.all_eq_true.mp this s h)
theorem name_vv {m n : Nat} {s : Str} (h : s ∈ names10) : vv m n (.str s) = true := by
  have h1 := names10_ok s h
  have h2 := names10_len s h
  cases n <;> simp [vv, h1, h2]
theorem names_vv {m : Nat} {l : List Str} (h : ∀ s ∈ l, s ∈ names10) (hl : l.length ≤ m) (n : Nat) : vv m (n + 1) (tD l) = true := by
  refine node_vv (.inr rfl) (by rw [List.length_map]; exact hl) fun y hy => ?_
  obtain ⟨s, hs, rfl⟩ := List.mem_map.mp hy
  exact name_vv (h s hs)
theorem row_vv {m n : Nat} (hm : 3 ≤ m) {r : Str × Int × List Str} (h1 : r.1 ∈ names10) (h2 : ∀ s ∈ r.2.2, s ∈ names10) (hl : r.2.2.length ≤ m) : vv m (n + 2) (rowD r) = true := by
  refine node_vv (.inr rfl) (show 3 ≤ m from hm) fun y hy => ?_
  simp only [List.mem_cons, List.not_mem_nil, or_false] at hy
  rcases hy with rfl | rfl | rfl
  · exact name_vv h1
  · cases n <;> rfl
  · exact names_vv h2 hl n
theorem courses_vv {m n : Nat} (hm : 3 ≤ m) {R : Rows} (hl : R.length ≤ m) (h : ∀ r ∈ R, r.1 ∈ names10 ∧ (∀ s ∈ r.2.2, s ∈ names10) ∧ r.2.2.length ≤ m) : vv m (n + 3) (coursesD R) = true := by
  refine node_vv (.inr rfl) (by rw [List.length_map]; exact hl) fun y hy => ?_
  obtain ⟨r, hr, rfl⟩ := List.mem_map.mp hy
  obtain ⟨h1, h2, h3⟩ := h r hr
  exact row_vv hm h1 h2 h3
theorem at_tup {xs : List D} {jj : Nat} (h : jj < xs.length) : dIx (.nd .tup xs) (.int (jj : Int)) = some xs[jj] := by
  simp [runF, argS, finF, outs, sSeq, sq, bnd, lift, sVar, sBor, sFrz, sMov, sC, sBin, sCmp, sChain, sTru, tru, sAndT, sOrT, sNotT, sAndV, sOrV, sNotV, sIf, sNil, sCons, sMk, s1, sN, sNx, sDrop, sRet, sRetO, sIfS, sSet, sSetO, sAsg, sPut, ownD, chg, ownL, isLst, sMeth, sIxV, bor, sCall, sCallO, sCallI, sCallIO, gSetL, ixN, dIx, atI, dGt, cmpI, dMod, dDiv, dMul, dPlus, dAdd, dSub, dNeg, dLt, dLen', dLen, sSlc, sSlcV, sPt, sNoPt, sIt, itD, sRg, rg1, hName, hTup, hCons, hNil, sFor, List.replicate, sPar2, pO, pF, pNil, noB, sIsiV, isTy, tyN, isA, sCmpV, sz0, sz1, sz2, sz3, sz4, sz5, h]
theorem slc_ok {fa : En → Y.R D} {lo hi : En → Y.R (Option Int)} {ρ : En} {a c : Option Int} {d r : D} (e : fa ρ = .ok d ρ) (h1 : lo ρ = .ok a ρ) (h2 : hi ρ = .ok c ρ) (h3 : dSlc d a c = some r) : sSlc fa lo hi ρ = .ok r ρ := by
  unfold sSlc
  rw [e]
  simp only [bnd, h1, h2, h3]
  rfl
theorem tcat_ok {a b : List D} (h : a.length + b.length ≤ sizeLine) : dPlus (.nd .tup a) (.nd .tup b) = some (.nd .tup (a ++ b)) := by
  show (if a.length + b.length ≤ sizeLine then some (D.nd .tup (a ++ b)) else none) = _
  rw [if_pos h]
theorem cut_rows (R : Rows) (lo hi : Option Int) : ∃ S : Rows, cutD (R.map rowD) lo hi = S.map rowD ∧ (∀ r ∈ S, r ∈ R) ∧ S.length ≤ R.length := by
  refine ⟨(R.drop (HT.sIx (R.map rowD).length 0 lo)).take (HT.sIx (R.map rowD).length (R.map rowD).length hi - HT.sIx (R.map rowD).length 0 lo), ?_, fun r h => (List.drop_sublist _ _).subset ((List.take_sublist _ _).subset h), ((List.take_sublist _ _).trans (List.drop_sublist _ _)).length_le⟩
  unfold cutD
  rw [List.map_take, List.map_drop]
abbrev ringK : En → Y.R Fl := sSeq (sPar2 9 10 (pF (sBin dIx (sCallI 3 fs__law_of (sCons (sVar 4) sNil)) (sC (.int 0))) (pF (sCallI 3 fs__law_take (sCons (s1 dLen' (sBor 4)) sNil)) pNil)))
  (sSeq (sSet 7 (sBin dPlus (sSlc (sBin dIx (sVar 4) (sVar 10)) sNoPt (sPt (sC (.int 2)))) (sMk .tup (sCons (s1 dTuple (s1 dSortSet (sBin dPlus (sBin dIx (sBin dIx (sVar 4) (sVar 10)) (sC (.int 2))) (sMk .tup (sCons (sVar 9) sNil))))) sNil))))
  (sSeq (sSet 8 (sBin dPlus (sBin dPlus (sSlc (sVar 4) sNoPt (sPt (sVar 10))) (sMk .tup (sCons (sVar 7) sNil))) (sSlc (sVar 4) (sPt (sBin dPlus (sVar 10) (sC (.int 1)))) sNoPt)))
  (sIfS (sNotT (sTru (sCall fs__law_same (sCons (sCall fs_are_courses (sCons (sVar 8) sNil)) (sCons (sCall fs__law_are_courses (sCons (sVar 8) sNil)) sNil)))))
  (sRet (sC (.bl false)))
  sNx)))
theorem ring_ok (sc many k : D) {R : Rows} (ok : RowsOk R) (hn : ∀ s ∈ nms R, s ∈ names10) (hne : R ≠ []) {b : D} (hb : BagOk b) (x5 x6 x7 x8 x9 x10 : Option S) : ∃ b' y7 y8 y9 y10, BagOk b' ∧ ringK (kE sc many k b (coursesD R) x5 x6 x7 x8 x9 x10) = .ok .nx (kE sc many k b' (coursesD R) x5 x6 y7 y8 y9 y10) := by
  have hp := List.length_pos_iff.mpr hne
  have l10 := ok.len
  have good : ∀ r ∈ R, r.1 ∈ names10 ∧ (∀ s ∈ r.2.2, s ∈ names10) ∧ r.2.2.length ≤ 10 := fun r hr => ⟨hn _ (List.mem_map.mpr ⟨r, hr, rfl⟩), fun s hs => hn s (ok.sub r hr s hs), ok.few r hr⟩
  obtain ⟨x, b1, e1, hb1, hx⟩ := of_ok hb (k := .tup) (.inr rfl) (xs := R.map rowD) (by simpa using hne) (by simp; omega)
  obtain ⟨r1, hr1, rfl⟩ := List.mem_map.mp hx
  obtain ⟨r, b2, e2, hb2, r0, rlt⟩ := take_ok hb1 (n := (R.length : Int)) (by omega) (by omega)
  obtain ⟨j, rfl⟩ : ∃ j : Nat, r = (j : Int) := ⟨r.toNat, by omega⟩
  have hj : j < R.length := by omega
  have hjm : j < (R.map rowD).length := by rw [List.length_map]; exact hj
  have hrj := good _ (List.getElem_mem hj)
  have f1 : sPar2 9 10 (pF (sBin dIx (sCallI 3 fs__law_of (sCons (sVar 4) sNil)) (sC (.int 0))) (pF (sCallI 3 fs__law_take (sCons (s1 dLen' (sBor 4)) sNil)) pNil)) (kE sc many k b (coursesD R) x5 x6 x7 x8 x9 x10) = .ok .nx (kE sc many k b2 (coursesD R) x5 x6 x7 x8 (some (.f (.str r1.1))) (some (.f (.int (j : Int))))) := by
    have a1 := callI_ok (i := 3) (ρ := kE sc many k b (coursesD R) x5 x6 x7 x8 x9 x10) ⟨b, rfl⟩ (f := sCons (sVar 4) sNil) (ds := [coursesD R]) rfl rfl e1
    have a2 : sBin dIx (sCallI 3 fs__law_of (sCons (sVar 4) sNil)) (sC (.int 0)) (kE sc many k b (coursesD R) x5 x6 x7 x8 x9 x10) = .ok (.str r1.1) (kE sc many k b1 (coursesD R) x5 x6 x7 x8 x9 x10) := bin_ok a1 rfl rfl
    have al : dLen' (coursesD R) = some (.int (R.length : Int)) := by rw [show coursesD R = .nd .tup (R.map rowD) from rfl, len_nd (.inr rfl), List.length_map]
    have a3 : sCallI 3 fs__law_take (sCons (s1 dLen' (sBor 4)) sNil) (kE sc many k b1 (coursesD R) x5 x6 x7 x8 x9 x10) = .ok (.int (j : Int)) (kE sc many k b2 (coursesD R) x5 x6 x7 x8 x9 x10) := callI_ok (i := 3) ⟨b1, rfl⟩ (one_ok (s1_ok (d := coursesD R) rfl al)) rfl e2
    unfold sPar2 pF
    rw [a2]
    simp only [bnd, a3, pNil]
    rfl
  generalize hρ : kE sc many k b2 (coursesD R) x5 x6 x7 x8 (some (.f (.str r1.1))) (some (.f (.int (j : Int)))) = ρ at f1
  have v4 : sVar 4 ρ = .ok (coursesD R) ρ := by subst hρ; rfl
  have v10 : sVar 10 ρ = .ok (.int (j : Int)) ρ := by subst hρ; rfl
  have v9 : sVar 9 ρ = .ok (.str r1.1) ρ := by subst hρ; rfl
  have row : sBin dIx (sVar 4) (sVar 10) ρ = .ok (rowD R[j]) ρ := bin_ok v4 v10 (by rw [show coursesD R = .nd .tup (R.map rowD) from rfl, at_tup hjm]; simp)
  have nl : NmsOk (R[j].2.2 ++ [r1.1]) := fun s hs => by
    rcases List.mem_append.mp hs with z | z
    · exact names10_ok s (hrj.2.1 s z)
    · rw [List.mem_singleton.mp z]; exact names10_ok _ (good r1 hr1).1
  have ss := sortSet_names (k := .tup) (.inr rfl) nl (by rw [List.length_append, List.length_singleton]; exact Nat.lt_of_le_of_lt (show _ ≤ 12 by omega) (by decide))
  have more : sBin dPlus (sSlc (sBin dIx (sVar 4) (sVar 10)) sNoPt (sPt (sC (.int 2)))) (sMk .tup (sCons (s1 dTuple (s1 dSortSet (sBin dPlus (sBin dIx (sBin dIx (sVar 4) (sVar 10)) (sC (.int 2))) (sMk .tup (sCons (sVar 9) sNil))))) sNil)) ρ = .ok (rowD (R[j].1, R[j].2.1, srt (ddS (R[j].2.2 ++ [r1.1])))) ρ := by
    have m1 : sSlc (sBin dIx (sVar 4) (sVar 10)) sNoPt (sPt (sC (.int 2))) ρ = .ok (.nd .tup [.str R[j].1, .int R[j].2.1]) ρ := slc_ok row rfl rfl rfl
    have m2 : sBin dPlus (sBin dIx (sBin dIx (sVar 4) (sVar 10)) (sC (.int 2))) (sMk .tup (sCons (sVar 9) sNil)) ρ = .ok (.nd .tup (nD (R[j].2.2 ++ [r1.1]))) ρ := by
      refine bin_ok (bin_ok row rfl (d := tD R[j].2.2) rfl) (mk_ok (one_ok v9) (small (show 1 ≤ 100000 by decide))) ?_
      rw [tcat_ok (small (by rw [List.length_map]; simp; omega))]
      simp
    have m3 : sMk .tup (sCons (s1 dTuple (s1 dSortSet (sBin dPlus (sBin dIx (sBin dIx (sVar 4) (sVar 10)) (sC (.int 2))) (sMk .tup (sCons (sVar 9) sNil))))) sNil) ρ = .ok (.nd .tup [tD (srt (ddS (R[j].2.2 ++ [r1.1])))]) ρ := mk_ok (one_ok (s1_ok (s1_ok m2 ss) rfl)) (small (show 1 ≤ 100000 by decide))
    exact bin_ok m1 m3 (tcat_ok (small (show 3 ≤ 100000 by decide)))
  have f2 := set_call (i := 7) more
  generalize hM : (R[j].1, R[j].2.1, srt (ddS (R[j].2.2 ++ [r1.1]))) = M at f2
  have gM : M.1 ∈ names10 ∧ (∀ s ∈ M.2.2, s ∈ names10) ∧ M.2.2.length ≤ 21 := by
    subst hM
    have sub : ∀ s ∈ srt (ddS (R[j].2.2 ++ [r1.1])), s ∈ R[j].2.2 ++ [r1.1] := fun s hs => mem_ddS.mp ((srt_perm _).mem_iff.mp hs)
    refine ⟨hrj.1, fun s hs => ?_, ?_⟩
    · rcases List.mem_append.mp (sub s hs) with z | z
      · exact hrj.2.1 s z
      · rw [List.mem_singleton.mp z]; exact (good r1 hr1).1
    · have := sub_len ((srt_perm _).nodup_iff.mpr (nodup_ddS (R[j].2.2 ++ [r1.1]))) sub
      rw [List.length_append, List.length_singleton] at this
      show (srt (ddS (R[j].2.2 ++ [r1.1]))).length ≤ 21
      omega
  generalize hσ : ρ.set 7 (some (.f (rowD M))) = σ at f2
  have w4 : sVar 4 σ = .ok (coursesD R) σ := by subst hσ hρ; rfl
  have w10 : sVar 10 σ = .ok (.int (j : Int)) σ := by subst hσ hρ; rfl
  have w7 : sVar 7 σ = .ok (rowD M) σ := by subst hσ hρ; rfl
  obtain ⟨A, eA, sA, lA⟩ := cut_rows R none (some (j : Int))
  obtain ⟨B, eB, sB, lB⟩ := cut_rows R (some ((j : Int) + 1)) none
  have ring : sBin dPlus (sBin dPlus (sSlc (sVar 4) sNoPt (sPt (sVar 10))) (sMk .tup (sCons (sVar 7) sNil))) (sSlc (sVar 4) (sPt (sBin dPlus (sVar 10) (sC (.int 1)))) sNoPt) σ = .ok (coursesD (A ++ [M] ++ B)) σ := by
    have s1' : sSlc (sVar 4) sNoPt (sPt (sVar 10)) σ = .ok (coursesD A) σ := slc_ok w4 rfl (pt_ok w10) (by show some (D.nd .tup (cutD (R.map rowD) none (some (j : Int)))) = _; rw [eA]; rfl)
    have s2' : sSlc (sVar 4) (sPt (sBin dPlus (sVar 10) (sC (.int 1)))) sNoPt σ = .ok (coursesD B) σ := slc_ok w4 (pt_ok (bin_ok w10 rfl rfl)) rfl (by show some (D.nd .tup (cutD (R.map rowD) (some ((j : Int) + 1)) none)) = _; rw [eB]; rfl)
    have s3' := bin_ok (g := dPlus) s1' (mk_ok (k := .tup) (one_ok w7) (small (show 1 ≤ 100000 by decide))) (tcat_ok (small (by rw [List.length_map]; simp; omega)))
    refine bin_ok s3' s2' ?_
    rw [show coursesD B = .nd .tup (B.map rowD) from rfl, tcat_ok (small (by simp; omega))]
    simp [coursesD]
  have f3 := set_call (i := 8) ring
  have rv : vv 21 7 (coursesD (A ++ [M] ++ B)) = true := courses_vv (n := 4) (by decide) (by simp; omega) fun r hr => by
    have g21 : ∀ r ∈ R, r.1 ∈ names10 ∧ (∀ s ∈ r.2.2, s ∈ names10) ∧ r.2.2.length ≤ 21 := fun r hr => ⟨(good r hr).1, (good r hr).2.1, Nat.le_trans (good r hr).2.2 (by decide)⟩
    rcases List.mem_append.mp hr with z | z
    · rcases List.mem_append.mp z with z | z
      · exact g21 r (sA r z)
      · rw [List.mem_singleton.mp z]; exact gM
    · exact g21 r (sB r z)
  have t := test_ok (i := 8) (ρ := σ.set 8 (some (.f (coursesD (A ++ [M] ++ B))))) (x := coursesD (A ++ [M] ++ B)) (by subst hσ hρ; rfl) rv (by decide)
  refine ⟨b2, some (.f (rowD M)), some (.f (coursesD (A ++ [M] ++ B))), some (.f (.str r1.1)), some (.f (.int (j : Int))), hb2, ?_⟩
  refine (seq_ok f1).trans ((seq_ok f2).trans ((seq_ok f3).trans ((if_no t).trans ?_)))
  subst hσ hρ
  rfl
end Y

set_option Elab.async false
set_option linter.all false
set_option maxRecDepth 100000
set_option maxHeartbeats 4000000
namespace Y
open PySem PySem.Spec PyProof.Rows L2 PySem.W
theorem dok_vv {m n : Nat} (hn : n ≤ 60) {d : D} (h : vv m n d = true) : dok d = true := by
  obtain ⟨h1, h2⟩ := vv_ok h
  unfold dok
  simp [h1]
  omega
theorem ne_tup {xs : List D} (h : dok (.nd .tup xs) = true) : dNe (.nd .tup xs) (.nd .tup []) = some (!xs.isEmpty) := by
  unfold dNe
  rw [if_pos ⟨h, rfl⟩]
  cases xs <;> simp [py, pys, PyData.eqv, PyData.eqvAll]
def uE (sc many : D) (k x3 x4 x5 x6 x7 x8 x9 x10 : Option S) : En := [some (.f sc), some (.f many), k, x3, x4, x5, x6, x7, x8, x9, x10]
abbrev cellK : En → Y.R Fl := sSeq (sSetO 3 (sCallO fs__law_bag (sCons (sVar 0) (sCons (sVar 2) sNil))))
  (sSeq (sSet 4 (sCallI 3 fs__law_courses (sCons (sC (.int 8)) sNil)))
  (sSeq (sIfS (sBin dNe (sVar 4) (sMk .tup sNil)) ringK sNx)
  (sSeq (sSet 5 (sVar 4))
  (sFor (sRg rg1 (sCons (sC (.int 5)) sNil)) (hName 6) turnK))))
theorem rg5 (ρ : En) : sRg rg1 (sCons (sC (.int 5)) sNil) ρ = .ok ((List.range' 0 5).map fun i : Nat => D.int (i : Int)) ρ := by
  rw [← rg_nat]
  exact rg_ok (one_ok rfl) (rg1_nat (by decide))
theorem cellK_step (ns : List Int) (many : D) (k : Nat) (hk : k ≤ 1000) (x3 x4 x5 x6 x7 x8 x9 x10 : Option S) : ∃ y3 y4 y5 y6 y7 y8 y9 y10, cellK (uE (.nd .scr (ns.map D.int)) many (some (.f (.int (k : Int)))) x3 x4 x5 x6 x7 x8 x9 x10) = .ok .nx (uE (.nd .scr (ns.map D.int)) many (some (.f (.int (k : Int)))) y3 y4 y5 y6 y7 y8 y9 y10) := by
  obtain ⟨b, e1, hb⟩ := bag_ok ns k hk
  obtain ⟨R, b', e2, hb', ok, hn⟩ := courses_ok2 hb (most := 8) (by decide) (by decide)
  generalize hsc : D.nd .scr (ns.map D.int) = sc at *
  have f1 : sSetO 3 (sCallO fs__law_bag (sCons (sVar 0) (sCons (sVar 2) sNil))) (uE sc many (some (.f (.int (k : Int)))) x3 x4 x5 x6 x7 x8 x9 x10) = .ok .nx (uE sc many (some (.f (.int (k : Int)))) (some (.o b)) x4 x5 x6 x7 x8 x9 x10) := by
    simp [uE, runF, argS, finF, outs, sSeq, sq, bnd, lift, sVar, sBor, sFrz, sMov, sC, sBin, sCmp, sChain, sTru, tru, sAndT, sOrT, sNotT, sAndV, sOrV, sNotV, sIf, sNil, sCons, sMk, s1, sN, sNx, sDrop, sRet, sRetO, sIfS, sSet, sSetO, sAsg, sPut, ownD, chg, ownL, isLst, sMeth, sIxV, bor, sCall, sCallO, sCallI, sCallIO, dGt, cmpI, dMod, dDiv, dMul, dPlus, dAdd, dSub, dNeg, dLen', dLen, sSlc, sSlcV, sPt, sNoPt, sIt, itD, sRg, rg1, hName, hTup, hCons, hNil, sFor, List.replicate, sPar2, pO, pF, pNil, noB, sIsiV, isTy, tyN, isA, sCmpV, sz0, sz1, sz2, sz3, sz4, sz5, e1]
  have f2 : sSet 4 (sCallI 3 fs__law_courses (sCons (sC (.int 8)) sNil)) (uE sc many (some (.f (.int (k : Int)))) (some (.o b)) x4 x5 x6 x7 x8 x9 x10) = .ok .nx (kE sc many (.int (k : Int)) b' (coursesD R) x5 x6 x7 x8 x9 x10) :=
    set_call (i := 4) (callI_ok (i := 3) (ρ := uE sc many (some (.f (.int (k : Int)))) (some (.o b)) x4 x5 x6 x7 x8 x9 x10) ⟨b, rfl⟩ (ds := [.int 8]) rfl rfl e2)
  have cv : vv 10 7 (coursesD R) = true := courses_vv (n := 4) (by decide) ok.len fun r hr => ⟨hn _ (List.mem_map.mpr ⟨r, hr, rfl⟩), fun s hs => hn s (ok.sub r hr s hs), ok.few r hr⟩
  have f3 : ∃ b2 y7 y8 y9 y10, BagOk b2 ∧ sIfS (sBin dNe (sVar 4) (sMk .tup sNil)) ringK sNx (kE sc many (.int (k : Int)) b' (coursesD R) x5 x6 x7 x8 x9 x10) = .ok .nx (kE sc many (.int (k : Int)) b2 (coursesD R) x5 x6 y7 y8 y9 y10) := by
    have t : sBin dNe (sVar 4) (sMk .tup sNil) (kE sc many (.int (k : Int)) b' (coursesD R) x5 x6 x7 x8 x9 x10) = .ok (!(R.map rowD).isEmpty) (kE sc many (.int (k : Int)) b' (coursesD R) x5 x6 x7 x8 x9 x10) :=
      bin_ok (x := coursesD R) rfl (mk_ok (ds := []) rfl (small (by decide))) (ne_tup (dok_vv (by decide) cv))
    cases R with
    | nil => exact ⟨b', x7, x8, x9, x10, hb', (if_no t).trans rfl⟩
    | cons r R =>
      obtain ⟨b2, y7, y8, y9, y10, h2, e⟩ := ring_ok sc many (.int (k : Int)) ok hn (by simp) hb' x5 x6 x7 x8 x9 x10
      exact ⟨b2, y7, y8, y9, y10, h2, (if_yes t).trans e⟩
  obtain ⟨b2, y7, y8, y9, y10, hb2, e3⟩ := f3
  have f4 : sSet 5 (sVar 4) (kE sc many (.int (k : Int)) b2 (coursesD R) x5 x6 y7 y8 y9 y10) = .ok .nx (kE sc many (.int (k : Int)) b2 (coursesD R) (some (.f (coursesD R))) x6 y7 y8 y9 y10) := rfl
  obtain ⟨b3, x', turn', e5⟩ := turns_k sc many (.int (k : Int)) (coursesD R) y7 y8 y9 y10 ((List.range' 0 5).map fun i : Nat => D.int (i : Int)) 10 (coursesD R) b2 x6 hb2 cv (by decide) (by rw [List.length_map, List.length_range']; decide)
  refine ⟨some (.o b3), some (.f (coursesD R)), some (.f x'), turn', y7, y8, y9, y10, ?_⟩
  refine (seq_ok f1).trans ((seq_ok f2).trans ((seq_ok e3).trans ((seq_ok f4).trans ?_)))
  unfold sFor
  rw [rg5]
  exact e5
theorem cellsK_run (ns : List Int) (many : D) : ∀ (j n : Nat) (x2 x3 x4 x5 x6 x7 x8 x9 x10 : Option S), n + j ≤ 1000 → ∃ y2 y3 y4 y5 y6 y7 y8 y9 y10, forL (hName 2) cellK ((List.range' n j).map fun i : Nat => D.int (i : Int)) (uE (.nd .scr (ns.map D.int)) many x2 x3 x4 x5 x6 x7 x8 x9 x10) = .ok .nx (uE (.nd .scr (ns.map D.int)) many y2 y3 y4 y5 y6 y7 y8 y9 y10)
  | 0, n, x2, x3, x4, x5, x6, x7, x8, x9, x10, _ => ⟨x2, x3, x4, x5, x6, x7, x8, x9, x10, rfl⟩
  | j + 1, n, x2, x3, x4, x5, x6, x7, x8, x9, x10, h => by
    obtain ⟨y3, y4, y5, y6, y7, y8, y9, y10, e1⟩ := cellK_step ns many n (by omega) x3 x4 x5 x6 x7 x8 x9 x10
    obtain ⟨z2, z3, z4, z5, z6, z7, z8, z9, z10, e2⟩ := cellsK_run ns many j (n + 1) (some (.f (.int (n : Int)))) y3 y4 y5 y6 y7 y8 y9 y10 (by omega)
    refine ⟨z2, z3, z4, z5, z6, z7, z8, z9, z10, ?_⟩
    rw [List.range'_succ, List.map_cons]
    conv => lhs; unfold forL
    rw [show hName 2 (.int (n : Int)) (uE (.nd .scr (ns.map D.int)) many x2 x3 x4 x5 x6 x7 x8 x9 x10) = some (uE (.nd .scr (ns.map D.int)) many (some (.f (.int (n : Int)))) x3 x4 x5 x6 x7 x8 x9 x10) from rfl]
    dsimp only
    rw [e1]
    exact e2
theorem countK_ok (ns : List Int) (t : List (Option S)) : sRg rg1 (sCons (sBin dPlus (sN dMin2 (sCons (s1 dLen' (sBor 0)) (sCons (sC (.int 12)) sNil))) (sC (.int 2))) sNil) (some (.f (.nd .scr (ns.map D.int))) :: t) = .ok ((List.range' 0 (min ns.length 12 + 2)).map fun i : Nat => D.int (i : Int)) (some (.f (.nd .scr (ns.map D.int))) :: t) := by
  have d1 : dLen' (.nd .scr (ns.map D.int)) = some (.int (ns.length : Int)) := by simp [dLen', dLen]
  have d2 : dMin2 [.int (ns.length : Int), .int 12] = some (.int ((min ns.length 12 : Nat) : Int)) := by
    show some (D.int (if (12 : Int) < (ns.length : Int) then (12 : Int) else (ns.length : Int))) = _
    by_cases h : (12 : Int) < (ns.length : Int)
    · rw [if_pos h, show min ns.length 12 = 12 by omega]
      rfl
    · rw [if_neg h, show min ns.length 12 = ns.length by omega]
  have d3 : dPlus (.int ((min ns.length 12 : Nat) : Int)) (.int 2) = some (.int ((min ns.length 12 + 2 : Nat) : Int)) := rfl
  have d4 := rg1_nat (n := min ns.length 12 + 2) (by omega)
  rw [rg_nat] at d4
  exact rg_ok (one_ok (bin_ok (n_ok (cons_ok (s1_ok (f := sBor 0) rfl d1) (cons_ok rfl rfl)) d2) rfl d3)) d4
theorem is_ok {fs : List D → FO} {f : En → Y.R D} {ρ : En} {x : D} {b c : Bool} (e : f ρ = .ok x ρ) (e2 : fs [x] = .val false (.bl b) none) (h : dIsNot (.bl b) (.bl c) = some false) : sBin dIsNot (sCall fs (sCons f sNil)) (sC (.bl c)) ρ = .ok false ρ :=
  bin_ok (call_ok (one_ok e) e2) rfl h
end Y

set_option Elab.async false
set_option linter.all false
set_option maxRecDepth 100000
set_option maxHeartbeats 400000
namespace Y
open PySem PySem.Spec PyProof.Rows L2 PySem.W
def letD (i : Nat) : D := .nd .tup [.str ⟨#[97 + i]⟩, .int 1, .nd .tup []]
def letP : D → D
  | .int i => letD i.toNat
  | d => d
theorem let_at : ∀ i < 11, atI ("abcdefghijk" : Str).cps.toList (Int.ofNat i) = some (Nat.add 97 i) := by decide +kernel
theorem let_names : manyR = (List.range' 0 11).map fun i => ((⟨#[97 + i]⟩ : Str), (1 : Int), ([] : List Str)) := by decide +kernel
theorem let_rows : ((List.range' 0 11).map fun i : Nat => D.int (i : Int)).map letP = manyR.map rowD := by
  rw [let_names, List.map_map, List.map_map]
  exact List.map_congr_left fun i _ => rfl
theorem let_ix {i : Nat} (h : i < 11) : dIx (.str "abcdefghijk") (.int (i : Int)) = some (.str ⟨#[97 + i]⟩) := by
  have e := congrArg (Option.map fun c => D.str ⟨#[c]⟩) (let_at i h)
  exact e
theorem let_one {ρ : En} {i : Nat} (h : i < 11) (v : sVar 10 ρ = .ok (.int (i : Int)) ρ) : sMk .tup (sCons (sBin dIx (sC (.str "abcdefghijk")) (sVar 10)) (sCons (sC (.int 1)) (sCons (sMk .tup sNil) sNil))) ρ = .ok (letD i) ρ :=
  mk_ok (ds := [.str ⟨#[97 + i]⟩, .int 1, .nd .tup []]) (cons_ok (bin_ok (x := .str "abcdefghijk") (y := .int (i : Int)) rfl v (let_ix h)) (cons_ok rfl (one_ok (mk_ok (ds := []) rfl (small (by decide)))))) (small (show 3 ≤ 100000 by decide))
theorem many_set (sc : D) : sSet 1 (s1 dTuple (sLc (sRg rg1 (sCons (sC (.int 11)) sNil)) (hName 10) sYes (sMk .tup (sCons (sBin dIx (sC (.str "abcdefghijk")) (sVar 10)) (sCons (sC (.int 1)) (sCons (sMk .tup sNil) sNil)))) [10])) [some (.f sc), none, none, none, none, none, none, none, none, none, none] = .ok .nx (uE sc (coursesD manyR) none none none none none none none none none) := by
  generalize hρ : ([some (.f sc), none, none, none, none, none, none, none, none, none, none] : En) = ρ
  have h10 : ρ[10]? = some none := by subst hρ; rfl
  have hw : wipeE [10] ρ = ρ := by subst hρ; rfl
  have src : sRg rg1 (sCons (sC (.int 11)) sNil) ρ = .ok ((List.range' 0 11).map fun i : Nat => D.int (i : Int)) ρ := by
    rw [← rg_nat]
    exact rg_ok (one_ok rfl) (rg1_nat (by decide))
  have go := lc_map (i := 10) (e := sMk .tup (sCons (sBin dIx (sC (.str "abcdefghijk")) (sVar 10)) (sCons (sC (.int 1)) (sCons (sMk .tup sNil) sNil)))) (p := letP) h10 ((List.range' 0 11).map fun i : Nat => D.int (i : Int)) [] (fun d hd => by
    obtain ⟨i, hi, rfl⟩ := List.mem_map.mp hd
    rw [List.mem_range'_1] at hi
    exact let_one (by omega) (var_set h10)) (by simp)
  rw [let_rows, List.nil_append] at go
  have blk := sLc_ok src hw go
  have f := set_call (i := 1) (s1_ok (g := dTuple) (d' := coursesD manyR) blk rfl)
  refine f.trans ?_
  subst hρ
  rfl
end Y

set_option Elab.async false
set_option linter.all false
set_option maxRecDepth 100000
set_option maxHeartbeats 4000000
namespace Y
open PySem PySem.Spec PyProof.Rows L2 PySem.W
theorem law_true : ∀ ns : List Int, ns.length ≤ 63 → fs_law [.nd .scr (ns.map D.int)] = .val false (.bl true) none := by
  intro ns _
  have f1 := many_set (.nd .scr (ns.map D.int))
  obtain ⟨y2, y3, y4, y5, y6, y7, y8, y9, y10, e⟩ := cellsK_run ns (coursesD manyR) (min ns.length 12 + 2) 0 none none none none none none none none none (by omega)
  have a1 := are_ok many_vv (by decide)
  rw [many_no] at a1
  have a2 := are_ok many10_vv (by decide)
  rw [ten_yes] at a2
  have a3 := are_ok (m := 20) (n := 7) (d := .nd .tup []) rfl (by decide)
  rw [none_yes] at a3
  have t : sOrT (sBin dIsNot (sCall fs_are_courses (sCons (sVar 1) sNil)) (sC (.bl false))) (sOrT (sBin dIsNot (sCall fs_are_courses (sCons (sSlc (sVar 1) sNoPt (sPt (sC (.int 10)))) sNil)) (sC (.bl true))) (sBin dIsNot (sCall fs_are_courses (sCons (sMk .tup sNil) sNil)) (sC (.bl true)))) (uE (.nd .scr (ns.map D.int)) (coursesD manyR) none none none none none none none none none) = .ok false (uE (.nd .scr (ns.map D.int)) (coursesD manyR) none none none none none none none none none) :=
    or_no (is_ok (f := sVar 1) rfl a1 rfl) (or_no (is_ok (slc_ok (d := coursesD manyR) rfl rfl rfl rfl) a2 rfl) (is_ok (mk_ok (ds := []) rfl (small (by decide))) a3 rfl))
  have e2 : sFor (sRg rg1 (sCons (sBin dPlus (sN dMin2 (sCons (s1 dLen' (sBor 0)) (sCons (sC (.int 12)) sNil))) (sC (.int 2))) sNil)) (hName 2) cellK (uE (.nd .scr (ns.map D.int)) (coursesD manyR) none none none none none none none none none) = .ok .nx (uE (.nd .scr (ns.map D.int)) (coursesD manyR) y2 y3 y4 y5 y6 y7 y8 y9 y10) := by
    unfold sFor
    rw [show uE (.nd .scr (ns.map D.int)) (coursesD manyR) none none none none none none none none none = (some (.f (.nd .scr (ns.map D.int))) :: [some (.f (coursesD manyR)), none, none, none, none, none, none, none, none, none] : En) from rfl, countK_ok ns]
    exact e
  refine fin_ok (ρ := uE (.nd .scr (ns.map D.int)) (coursesD manyR) y2 y3 y4 y5 y6 y7 y8 y9 y10) rfl ?_
  show m_law [some (.f (.nd .scr (ns.map D.int))), none, none, none, none, none, none, none, none, none, none] = _
  unfold m_law
  exact (seq_ok f1).trans ((out_go t).trans ((seq_ok e2).trans rfl))
end Y

open PySem PySem.W PyProof.Rows
set_option maxRecDepth 100000 in
set_option maxHeartbeats 0 in
theorem PySem.Challenge.cw_schoolbook_k01_what_are_courses_holds : PySem.Challenge.rw_schoolbook_k01_what_are_courses.Holds := by
  w_on; o_law; k_head; (case hw => w_witness2)
  k_fill
  refine Y.walk (fs := Y.fs_law) (k := 11) (l := PySem.Challenge.rw_schoolbook_k01_what_are_courses) ⟨rfl, by decide, by decide⟩ rfl rfl Y.law_true (fun w h Y => PySem.W.kIn_of Y) ?F
  case F =>
    intro w mg fa h KX G hmg
    refine' Y.all_mk KX G hmg ?a0 ?l0 ?c0 ?k0 ?a1 ?l1 ?c1 ?k1 ?a2 ?l2 ?c2 ?k2 ?a3 ?l3 ?c3 ?k3 ?a4 ?l4 ?c4 ?k4 ?a5 ?l5 ?c5 ?k5 ?a6 ?l6 ?c6 ?k6 ?a7 ?l7 ?c7 ?k7 ?a8 ?l8 ?c8 ?k8 ?a9 ?l9 ?c9 ?k9 ?a10 ?l10 ?c10 ?k10 ?a11 ?l11 ?c11 ?k11 ?a12 ?l12 ?c12 ?k12 ?a13 ?l13 ?c13 ?k13 ?a14 ?l14 ?c14 ?k14 ?a15 ?l15 ?c15 ?k15 ?a16 ?l16 ?c16 ?k16 ?a17 ?l17 ?c17 ?k17 ?a18 ?l18 ?c18 ?k18 ?a19 ?l19 ?c19 ?k19 ?a20 ?l20 ?c20 ?k20 ?a21 ?l21 ?c21 ?k21 ?a22 ?l22 ?c22 ?k22 ?g_MOST_COURSES ?z_all ?z_bool ?z_dict ?z_int ?z_isinstance ?z_len ?z_list ?z_min ?z_range ?z_set ?z_sorted ?z_str ?z_tuple ?z_zip
    (case a0 => k_is); (case l0 => k_is); (case c0 => k_is); (case k0 => k_is); (case a1 => k_is); (case l1 => k_is)
    (case c1 => k_is); (case k1 => k_is); (case a2 => k_is); (case l2 => k_is); (case c2 => k_is); (case k2 => k_is)
    (case a3 => k_is); (case l3 => k_is); (case c3 => k_is); (case k3 => k_is); (case a4 => k_is); (case l4 => k_is)
    (case c4 => k_is); (case k4 => k_is); (case a5 => k_is); (case l5 => k_is); (case c5 => k_is); (case k5 => k_is)
    (case a6 => k_is); (case l6 => k_is); (case c6 => k_is); (case k6 => k_is); (case a7 => k_is); (case l7 => k_is)
    (case c7 => k_is); (case k7 => k_is); (case a8 => k_is); (case l8 => k_is); (case c8 => k_is); (case k8 => k_is)
    (case a9 => k_is); (case l9 => k_is); (case c9 => k_is); (case k9 => k_is); (case a10 => k_is); (case l10 => k_is)
    (case c10 => k_is); (case k10 => k_is); (case a11 => k_is); (case l11 => k_is); (case c11 => k_is); (case k11 => k_is)
    (case a12 => k_is); (case l12 => k_is); (case c12 => k_is); (case k12 => k_is); (case a13 => k_is); (case l13 => k_is)
    (case c13 => k_is); (case k13 => k_is); (case a14 => k_is); (case l14 => k_is); (case c14 => k_is); (case k14 => k_is)
    (case a15 => k_is); (case l15 => k_is); (case c15 => k_is); (case k15 => k_is); (case a16 => k_is); (case l16 => k_is)
    (case c16 => k_is); (case k16 => k_is); (case a17 => k_is); (case l17 => k_is); (case c17 => k_is); (case k17 => k_is)
    (case a18 => k_is); (case l18 => k_is); (case c18 => k_is); (case k18 => k_is); (case a19 => k_is); (case l19 => k_is)
    (case c19 => k_is); (case k19 => k_is); (case a20 => k_is); (case l20 => k_is); (case c20 => k_is); (case k20 => k_is)
    (case a21 => k_is); (case l21 => k_is); (case c21 => k_is); (case k21 => k_is); (case a22 => k_is); (case l22 => k_is)
    (case c22 => k_is); (case k22 => k_is); (case g_MOST_COURSES => k_is); (case z_all => k_is); (case z_bool => k_is); (case z_dict => k_is)
    (case z_int => k_is); (case z_isinstance => k_is); (case z_len => k_is); (case z_list => k_is); (case z_min => k_is); (case z_range => k_is)
    (case z_set => k_is); (case z_sorted => k_is); (case z_str => k_is); (case z_tuple => k_is); (case z_zip => k_is)
#print axioms PySem.Challenge.cw_schoolbook_k01_what_are_courses_holds

