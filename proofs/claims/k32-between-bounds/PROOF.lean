import PyProof.Rows.All
import Wide.All
import OpenK.AllK
import Wide.FinOn
import HandS.ForMost
import HandS.ForExc
import HandS.IsInst
import HandS.Deep
import HandS.Zip
import HandS.Walk
import HandS.Style
import HandS.Flow
import HandS.DictComp
import HandS.More
import HandS.TupAny
import HandS.RaiseMore
import HandS.Conv
import KE.SortData
import KE.SortCalls
import PyProof.Rows.SetFrom
import HandS.Set
import HandS.SetFor
import HandS.TupMul
import PySem.Challenge.RW_schoolbook_k32_whole_plans_between_bound
set_option Elab.async false
set_option linter.all false
set_option maxRecDepth 100000
set_option maxHeartbeats 2000000
/-! Values as data: a value semantics over the hand layer. -/
namespace Y
open PySem L2

inductive Kd where
  | tup | lst | scr | ktp
  | dK (ks : List Key)
  | dT (ks : List (List Key))

inductive D where
  | non | bl (b : Bool) | int (i : Int) | str (s : Str) | ty (n : String)
  | nd (k : Kd) (xs : List D)

/-- texts are no longer than may be -/
def keyL : Key → Bool
  | .inl _ => true
  | .inr s => decide (s.length ≤ sizeLine)
def keysL (ks : List Key) : Bool := ks.all keyL
def keyLL (k : List Key) : Bool := keysL k && decide (k.length ≤ sizeLine)
def keyssL (ks : List (List Key)) : Bool := ks.all keyLL
/-- an object that is read -/
def ItemAt (K : PySem.W.Frag) (H : Hp) (a : Addr) : Kd → List V → Prop
  | .lst, vs => H a = some (.lst vs) ∧ vs.length ≤ sizeLine
  | .scr, vs => SqL K H a vs ∧ vs.length ≤ sizeLine
  | .tup, vs => H a = some (.tup vs) ∧ vs.length ≤ sizeLine
  | .ktp, vs => SqT K H a vs ∧ vs.length ≤ sizeLine
  | .dK ks, vs => ks.length = vs.length ∧ Rd H a (.dK (ks.zip vs)) ∧ vs.length ≤ sizeLine ∧ keysL ks = true
  | .dT ks, vs => ks.length = vs.length ∧ Rd H a (.dT (ks.zip vs)) ∧ vs.length ≤ sizeLine ∧ keyssL ks = true
def owK : Kd → Bool
  | .lst => true | .dK _ => true | .dT _ => true | _ => false
/-- an object that may be changed -/
def ItemW (H : Hp) (a : Addr) : Kd → List V → Prop
  | .lst, vs => H a = some (.lst vs) ∧ vs.length ≤ sizeLine
  | .dK ks, vs => ks.length = vs.length ∧ H a = some (.dK (ks.zip vs)) ∧ vs.length ≤ sizeLine ∧ keysL ks = true
  | .dT ks, vs => ks.length = vs.length ∧ H a = some (.dT (ks.zip vs)) ∧ vs.length ≤ sizeLine ∧ keyssL ks = true
  | _, _ => False

mutual
inductive Fz (K : PySem.W.Frag) (F : Hp) : V → D → Prop
  | non : Fz K F .non .non
  | bl (b : Bool) : Fz K F (.bl b) (.bl b)
  | int (i : Int) : Fz K F (.int i) (.int i)
  | str (s : Str) (h : s.length ≤ sizeLine) : Fz K F (.str s) (.str s)
  | ty (n : String) : Fz K F (.ty n) (.ty n)
  | nd {a : Addr} {k : Kd} {vs : List V} {ds : List D} (h : ItemAt K F a k vs) (hs : Fzs K F vs ds) : Fz K F (.ref a) (.nd k ds)
inductive Fzs (K : PySem.W.Frag) (F : Hp) : List V → List D → Prop
  | nil : Fzs K F [] []
  | cons {v : V} {d : D} {vs : List V} {ds : List D} (h : Fz K F v d) (hs : Fzs K F vs ds) : Fzs K F (v :: vs) (d :: ds)
end

section
variable {K : PySem.W.Frag} {F F' H H' : Hp} {a : Addr} {k : Kd} {v : V} {d : D} {vs : List V} {ds : List D}
theorem rd_mono {u : HO} (e : Same F F') (h : Rd F a u) : Rd F' a u := by
  rcases h with h | ⟨o, h⟩
  · exact .inl (e _ _ h)
  · exact .inr ⟨o, e _ _ h⟩
theorem sqT_mono (e : Same F F') (h : SqT K F a vs) : SqT K F' a vs := by
  rcases h with h | h
  · exact .inl (rd_mono e h)
  · exact .inr h
theorem sqL_mono (e : Same F F') (h : SqL K F a vs) : SqL K F' a vs := e.seq h
theorem ItemAt.mono (e : Same F F') (h : ItemAt K F a k vs) : ItemAt K F' a k vs := by
  cases k with
  | tup => exact ⟨e _ _ h.1, h.2⟩
  | ktp => exact ⟨sqT_mono e h.1, h.2⟩
  | lst => exact ⟨e _ _ h.1, h.2⟩
  | scr => exact ⟨sqL_mono e h.1, h.2⟩
  | dK ks => exact ⟨h.1, rd_mono e h.2.1, h.2.2⟩
  | dT ks => exact ⟨h.1, rd_mono e h.2.1, h.2.2⟩
mutual
theorem Fz.mono (e : Same F F') : ∀ {v : V} {d : D}, Fz K F v d → Fz K F' v d
  | _, _, .non => .non
  | _, _, .bl b => .bl b
  | _, _, .int i => .int i
  | _, _, .str s h => .str s h
  | _, _, .ty n => .ty n
  | _, _, .nd h hs => .nd (h.mono e) (hs.mono e)
theorem Fzs.mono (e : Same F F') : ∀ {vs : List V} {ds : List D}, Fzs K F vs ds → Fzs K F' vs ds
  | _, _, .nil => .nil
  | _, _, .cons h hs => .cons (h.mono e) (hs.mono e)
end
theorem Fzs.length : ∀ {vs : List V} {ds : List D}, Fzs K F vs ds → vs.length = ds.length
  | _, _, .nil => rfl
  | _, _, .cons _ hs => congrArg Nat.succ (Fzs.length hs)
theorem Fzs.append : ∀ {vs ws : List V} {ds es : List D}, Fzs K F vs ds → Fzs K F ws es → Fzs K F (vs ++ ws) (ds ++ es)
  | _, _, _, _, .nil, h => h
  | _, _, _, _, .cons h hs, g => .cons h (Fzs.append hs g)
theorem Fzs.get : ∀ {vs : List V} {ds : List D} {i : Nat} {d : D}, Fzs K F vs ds → ds[i]? = some d → ∃ v, vs[i]? = some v ∧ Fz K F v d
  | _, _, _, _, .nil, e => by simp at e
  | _, _, 0, _, .cons h _, e => by simp at e; subst e; exact ⟨_, rfl, h⟩
  | _, _, i + 1, _, .cons _ hs, e => by
    obtain ⟨v, h1, h2⟩ := Fzs.get (i := i) hs (by simpa using e)
    exact ⟨v, by simpa using h1, h2⟩
theorem Fzs.getV : ∀ {vs : List V} {ds : List D} {i : Nat} {v : V}, Fzs K F vs ds → vs[i]? = some v → ∃ d, ds[i]? = some d ∧ Fz K F v d
  | _, _, _, _, .nil, e => by simp at e
  | _, _, 0, _, .cons h _, e => by simp at e; subst e; exact ⟨_, rfl, h⟩
  | _, _, i + 1, _, .cons _ hs, e => by
    obtain ⟨v, h1, h2⟩ := Fzs.getV (i := i) hs (by simpa using e)
    exact ⟨v, by simpa using h1, h2⟩
theorem Fzs.take : ∀ {vs : List V} {ds : List D} (n : Nat), Fzs K F vs ds → Fzs K F (vs.take n) (ds.take n)
  | _, _, 0, _ => .nil
  | _, _, _ + 1, .nil => .nil
  | _, _, n + 1, .cons h hs => .cons h (Fzs.take n hs)
theorem Fzs.drop : ∀ {vs : List V} {ds : List D} (n : Nat), Fzs K F vs ds → Fzs K F (vs.drop n) (ds.drop n)
  | _, _, 0, h => h
  | _, _, _ + 1, .nil => .nil
  | _, _, n + 1, .cons _ hs => Fzs.drop n hs
theorem Fzs.set (h : Fz K F v d) : ∀ {vs : List V} {ds : List D} (i : Nat), Fzs K F vs ds → Fzs K F (vs.set i v) (ds.set i d)
  | _, _, _, .nil => .nil
  | _, _, 0, .cons _ hs => .cons h hs
  | _, _, i + 1, .cons g hs => .cons g (Fzs.set h i hs)
theorem Fzs.reverse : ∀ {vs : List V} {ds : List D}, Fzs K F vs ds → Fzs K F vs.reverse ds.reverse
  | _, _, .nil => .nil
  | _, _, .cons h hs => by
    rw [List.reverse_cons, List.reverse_cons]
    exact (Fzs.reverse hs).append (.cons h .nil)
theorem Fzs.eraseIdx : ∀ {vs : List V} {ds : List D} (i : Nat), Fzs K F vs ds → Fzs K F (vs.eraseIdx i) (ds.eraseIdx i)
  | _, _, _, .nil => .nil
  | _, _, 0, .cons _ hs => hs
  | _, _, i + 1, .cons g hs => .cons g (Fzs.eraseIdx i hs)
/-- read now: frozen, or a changing object with frozen items -/
inductive Bz (K : PySem.W.Frag) (F H : Hp) : V → D → Prop
  | fz {v : V} {d : D} (h : Fz K F v d) : Bz K F H v d
  | cell {a : Addr} {k : Kd} {vs : List V} {ds : List D} (o : owK k = true) (h : ItemAt K H a k vs) (hs : Fzs K F vs ds) : Bz K F H (.ref a) (.nd k ds)
theorem Bz.node (e : Same F H) (h : Bz K F H v (.nd k ds)) : ∃ a vs, v = .ref a ∧ ItemAt K H a k vs ∧ Fzs K F vs ds := by
  cases h with
  | fz h => cases h with
    | nd h hs => exact ⟨_, _, rfl, h.mono e, hs⟩
  | cell o h hs => exact ⟨_, _, rfl, h, hs⟩
theorem ItemW.at (h : ItemW H a k vs) : ItemAt K H a k vs := by
  cases k with
  | tup => exact h.elim
  | ktp => exact h.elim
  | scr => exact h.elim
  | lst => exact h
  | dK ks => exact ⟨h.1, .inl h.2.1, h.2.2⟩
  | dT ks => exact ⟨h.1, .inl h.2.1, h.2.2⟩
theorem ItemW.ow (h : ItemW H a k vs) : owK k = true := by
  cases k with
  | tup => exact h.elim
  | ktp => exact h.elim
  | scr => exact h.elim
  | lst => rfl
  | dK ks => rfl
  | dT ks => rfl
theorem ItemW.any (h : ItemW H a k vs) : ∃ o, H a = some o := by
  cases k with
  | tup => exact h.elim
  | ktp => exact h.elim
  | scr => exact h.elim
  | lst => exact ⟨_, h.1⟩
  | dK ks => exact ⟨_, h.2.1⟩
  | dT ks => exact ⟨_, h.2.1⟩
theorem ItemW.keep (h : ItemW H a k vs) (e : ∀ o, H a = some o → H' a = some o) : ItemW H' a k vs := by
  cases k with
  | tup => exact h.elim
  | ktp => exact h.elim
  | scr => exact h.elim
  | lst => exact ⟨e _ h.1, h.2⟩
  | dK ks => exact ⟨h.1, e _ h.2.1, h.2.2⟩
  | dT ks => exact ⟨h.1, e _ h.2.1, h.2.2⟩
end

/-! ### slots -/
/-- frozen, owned, borrowed -/
inductive S where
  | f (d : D) | o (d : D) | b (d : D)
abbrev En := List (Option S)

inductive Sl (K : PySem.W.Frag) (β : V) (F H : Hp) : St → En → List Addr → Prop
  | nil : Sl K β F H [] [] []
  | skip {x : Option V} {σ : St} {ρ : En} {fp : List Addr} (t : Sl K β F H σ ρ fp) : Sl K β F H (x :: σ) (none :: ρ) fp
  | fr {v : V} {d : D} {σ : St} {ρ : En} {fp : List Addr} (h : Fz K F v d) (t : Sl K β F H σ ρ fp) : Sl K β F H (some v :: σ) (some (.f d) :: ρ) fp
  | ow {a : Addr} {k : Kd} {vs : List V} {ds : List D} {σ : St} {ρ : En} {fp : List Addr} (h : ItemW H a k vs) (hs : Fzs K F vs ds) (t : Sl K β F H σ ρ fp) : Sl K β F H (some (.ref a) :: σ) (some (.o (.nd k ds)) :: ρ) (a :: fp)
  | bo {a : Addr} {k : Kd} {vs : List V} {ds : List D} {σ : St} {ρ : En} {fp : List Addr} (e : β = .ref a) (h : ItemW H a k vs) (hs : Fzs K F vs ds) (t : Sl K β F H σ ρ fp) : Sl K β F H (some (.ref a) :: σ) (some (.b (.nd k ds)) :: ρ) (a :: fp)

/-- (nothing: a dict may be locked at any time) -/
def NoLock (_F : Hp) : Prop := True
structure Sta (K : PySem.W.Frag) (β : V) (lk : Bool) (F H : Hp) (σ : St) (ρ : En) (fp : List Addr) : Prop where
  ex : Same F H
  sl : Sl K β F H σ ρ fp
  nd : fp.Nodup
  own : ∀ a ∈ fp, F a = none
  lock : lk = false → NoLock F

/-- a tuple: it may be frozen late -/
def IsTp (H : Hp) (a : Addr) : Prop := ∃ vs, H a = some (.tup vs)
theorem IsTp.not {H : Hp} {a : Addr} {o : HO} (h : H a = some o) (n : ∀ vs, o ≠ .tup vs) : ¬ IsTp H a := fun ⟨vs, e⟩ => by
  rw [h] at e; exact n vs (Option.some.inj e)
theorem ItemW.nt {H : Hp} {a : Addr} {k : Kd} {vs : List V} (h : ItemW H a k vs) : ¬ IsTp H a := by
  cases k with
  | lst => exact IsTp.not h.1 fun _ e => nomatch e
  | dK ks => exact IsTp.not h.2.1 fun _ e => nomatch e
  | dT ks => exact IsTp.not h.2.1 fun _ e => nomatch e
  | tup => exact h.elim
  | ktp => exact h.elim
  | scr => exact h.elim
structure Tr (F H : Hp) (fp : List Addr) (F' H' : Hp) (fp' : List Addr) : Prop where
  ex : Same F F'
  keep : ∀ a o, H a = some o → a ∉ fp → H' a = some o
  new : ∀ a, a ∈ fp' ∨ (F a = none ∧ F' a ≠ none ∧ ¬ IsTp H a) → a ∈ fp ∨ H a = none

section
variable {K : PySem.W.Frag} {β : V} {lk : Bool} {F F' F1 F2 H H' H1 H2 : Hp} {fp fp' fp1 fp2 : List Addr} {σ : St} {ρ : En} {a : Addr} {v : V} {d : D}
theorem Tr.refl : Tr F H fp F H fp := ⟨Same.refl _, fun _ _ h _ => h, fun a h => h.elim .inl fun ⟨h1, h2, _⟩ => absurd h1 h2⟩
theorem Tr.trans (t : Tr F H fp F1 H1 fp1) (u : Tr F1 H1 fp1 F2 H2 fp2) : Tr F H fp F2 H2 fp2 := by
  have n1 : ∀ a o, H a = some o → a ∉ fp → a ∉ fp1 := fun a o h n m => (t.new a (.inl m)).elim n fun q => by rw [h] at q; cases q
  have back : ∀ a, a ∈ fp1 ∨ H1 a = none → a ∈ fp ∨ H a = none := fun a h => by
    rcases h with h | h
    · exact t.new a (.inl h)
    · by_cases hm : a ∈ fp
      · exact .inl hm
      · refine .inr ?_
        cases q : H a with
        | none => rfl
        | some o => rw [t.keep a o q hm] at h; cases h
  refine ⟨t.ex.trans u.ex, fun a o h n => u.keep a o (t.keep a o h n) (n1 a o h n), fun a h => ?_⟩
  rcases h with h | ⟨h1, h2, h3⟩
  · exact back a (u.new a (.inl h))
  · by_cases q : F1 a = none
    · by_cases hm : a ∈ fp
      · exact .inl hm
      · cases qq : H a with
        | none => exact .inr rfl
        | some o => exact back a (u.new a (.inr ⟨q, h2, fun ⟨vs, e⟩ => h3 ⟨vs, by rw [t.keep a o qq hm] at e; rw [qq]; exact e⟩⟩)) |>.imp id fun z => by rw [qq] at z; exact z
    · exact t.new a (.inr ⟨h1, q, h3⟩)
theorem Tr.sub {fp3 : List Addr} (t : Tr F H fp F' H' fp') (h : ∀ a ∈ fp3, a ∈ fp') : Tr F H fp F' H' fp3 :=
  ⟨t.ex, t.keep, fun a q => t.new a (q.imp (h a) id)⟩
/-- the same from a greater footprint -/
theorem Tr.wide {gp : List Addr} (t : Tr F H fp F' H' fp') (h : ∀ a ∈ fp, a ∈ gp) : Tr F H gp F' H' fp' :=
  ⟨t.ex, fun a o q n => t.keep a o q fun m => n (h a m), fun a q => (t.new a q).imp (h a) id⟩
theorem Sl.fpH (s : Sl K β F H σ ρ fp) : ∀ a ∈ fp, ∃ o, H a = some o := by
  induction s with
  | nil => intro a h; cases h
  | skip t ih => exact ih
  | fr h t ih => exact ih
  | ow h hs t ih => intro b hb; rcases List.mem_cons.mp hb with rfl | hb; exact h.any; exact ih b hb
  | bo e h hs t ih => intro b hb; rcases List.mem_cons.mp hb with rfl | hb; exact h.any; exact ih b hb
theorem Sl.fpT (s : Sl K β F H σ ρ fp) : ∀ a ∈ fp, ¬ IsTp H a := by
  induction s with
  | nil => intro a h; cases h
  | skip t ih => exact ih
  | fr h t ih => exact ih
  | ow h hs t ih => intro b hb; rcases List.mem_cons.mp hb with rfl | hb; exact h.nt; exact ih b hb
  | bo e h hs t ih => intro b hb; rcases List.mem_cons.mp hb with rfl | hb; exact h.nt; exact ih b hb
theorem Sl.frame (s : Sl K β F H σ ρ fp) (ex : Same F F') (kp : ∀ a ∈ fp, ∀ o, H a = some o → H' a = some o) : Sl K β F' H' σ ρ fp := by
  induction s with
  | nil => exact .nil
  | skip t ih => exact .skip (ih kp)
  | fr h t ih => exact .fr (h.mono ex) (ih kp)
  | ow h hs t ih => exact .ow (h.keep (kp _ List.mem_cons_self)) (hs.mono ex) (ih fun b hb => kp b (List.mem_cons_of_mem _ hb))
  | bo e h hs t ih => exact .bo e (h.keep (kp _ List.mem_cons_self)) (hs.mono ex) (ih fun b hb => kp b (List.mem_cons_of_mem _ hb))
theorem Sl.len (s : Sl K β F H σ ρ fp) : σ.length = ρ.length := by
  induction s with
  | nil => rfl
  | skip t ih => simp [ih]
  | fr h t ih => simp [ih]
  | ow h hs t ih => simp [ih]
  | bo e h hs t ih => simp [ih]
/-- a frozen slot is read -/
theorem Sl.getF (s : Sl K β F H σ ρ fp) : ∀ {i : Nat} {d : D}, ρ[i]? = some (some (.f d)) → ∃ v, σ[i]? = some (some v) ∧ Fz K F v d := by
  induction s with
  | nil => intro i d e; simp at e
  | skip t ih => intro i d e; cases i with
    | zero => simp at e
    | succ i => simpa using ih (i := i) (by simpa using e)
  | fr h t ih => intro i d e; cases i with
    | zero => simp at e; subst e; exact ⟨_, rfl, h⟩
    | succ i => simpa using ih (i := i) (by simpa using e)
  | ow h hs t ih => intro i d e; cases i with
    | zero => simp at e
    | succ i => simpa using ih (i := i) (by simpa using e)
  | bo e' h hs t ih => intro i d e; cases i with
    | zero => simp at e
    | succ i => simpa using ih (i := i) (by simpa using e)
/-- any slot is read -/
theorem Sl.getB (s : Sl K β F H σ ρ fp) : ∀ {i : Nat} {x : S}, ρ[i]? = some (some x) → ∃ v, σ[i]? = some (some v) ∧ Bz K F H v (match x with | .f d => d | .o d => d | .b d => d) := by
  induction s with
  | nil => intro i d e; simp at e
  | skip t ih => intro i d e; cases i with
    | zero => simp at e
    | succ i => simpa using ih (i := i) (by simpa using e)
  | fr h t ih => intro i d e; cases i with
    | zero => simp at e; subst e; exact ⟨_, rfl, .fz h⟩
    | succ i => simpa using ih (i := i) (by simpa using e)
  | ow h hs t ih => intro i d e; cases i with
    | zero => simp at e; subst e; exact ⟨_, rfl, .cell h.ow h.at hs⟩
    | succ i => simpa using ih (i := i) (by simpa using e)
  | bo e' h hs t ih => intro i d e; cases i with
    | zero => simp at e; subst e; exact ⟨_, rfl, .cell h.ow h.at hs⟩
    | succ i => simpa using ih (i := i) (by simpa using e)
/-- a slot forgotten, or stored frozen -/
theorem Sl.store (s : Sl K β F H σ ρ fp) (h : Fz K F v d) : ∀ {i : Nat}, ∃ fp', Sl K β F H (σ.set i (some v)) (ρ.set i (some (.f d))) fp' ∧ List.Sublist fp' fp := by
  induction s with
  | nil => intro i; exact ⟨_, .nil, List.Sublist.refl _⟩
  | skip t ih => intro i; cases i with
    | zero => exact ⟨_, .fr h t, List.Sublist.refl _⟩
    | succ i => obtain ⟨q, h1, h2⟩ := ih (i := i); exact ⟨q, .skip h1, h2⟩
  | fr g t ih => intro i; cases i with
    | zero => exact ⟨_, .fr h t, List.Sublist.refl _⟩
    | succ i => obtain ⟨q, h1, h2⟩ := ih (i := i); exact ⟨q, .fr g h1, h2⟩
  | ow g hs t ih => intro i; cases i with
    | zero => exact ⟨_, .fr h t, List.sublist_cons_self _ _⟩
    | succ i => obtain ⟨q, h1, h2⟩ := ih (i := i); exact ⟨_, .ow g hs h1, h2.cons_cons _⟩
  | bo e g hs t ih => intro i; cases i with
    | zero => exact ⟨_, .fr h t, List.sublist_cons_self _ _⟩
    | succ i => obtain ⟨q, h1, h2⟩ := ih (i := i); exact ⟨_, .bo e g hs h1, h2.cons_cons _⟩
theorem Sl.storeO {a : Addr} {k : Kd} {vs : List V} {ds : List D} (s : Sl K β F H σ ρ fp) (h : ItemW H a k vs) (hz : Fzs K F vs ds) : ∀ {i : Nat}, ∃ fp', Sl K β F H (σ.set i (some (.ref a))) (ρ.set i (some (.o (.nd k ds)))) fp' ∧ (∀ b ∈ fp', b ∈ a :: fp) ∧ ((a :: fp).Nodup → fp'.Nodup) := by
  induction s with
  | nil => intro i; exact ⟨_, .nil, fun b hb => (by cases hb), fun _ => List.nodup_nil⟩
  | skip t ih => intro i; cases i with
    | zero => exact ⟨_, .ow h hz t, fun b hb => hb, fun n => n⟩
    | succ i => obtain ⟨q, h1, h2, h3⟩ := ih (i := i); exact ⟨q, .skip h1, h2, h3⟩
  | fr g t ih => intro i; cases i with
    | zero => exact ⟨_, .ow h hz t, fun b hb => hb, fun n => n⟩
    | succ i => obtain ⟨q, h1, h2, h3⟩ := ih (i := i); exact ⟨q, .fr g h1, h2, h3⟩
  | @ow a0 k0 vs0 ds0 σ ρ fp g hs t ih => intro i; cases i with
    | zero => exact ⟨_, .ow h hz t, fun b hb => (List.mem_cons.mp hb).elim (fun e => e ▸ List.mem_cons_self) fun e => List.mem_cons_of_mem _ (List.mem_cons_of_mem _ e), fun n => (List.nodup_cons.mpr ⟨fun m => (List.nodup_cons.mp n).1 (List.mem_cons_of_mem _ m), (List.nodup_cons.mp (List.nodup_cons.mp n).2).2⟩)⟩
    | succ i =>
      obtain ⟨q, h1, h2, h3⟩ := ih (i := i)
      refine ⟨a0 :: q, .ow g hs h1, fun b hb => ?_, fun n => ?_⟩
      · rcases List.mem_cons.mp hb with rfl | hb
        · exact List.mem_cons_of_mem _ List.mem_cons_self
        · rcases List.mem_cons.mp (h2 b hb) with rfl | hb
          · exact List.mem_cons_self
          · exact List.mem_cons_of_mem _ (List.mem_cons_of_mem _ hb)
      · have n1 := List.nodup_cons.mp n
        have n2 := List.nodup_cons.mp n1.2
        refine List.nodup_cons.mpr ⟨fun m => ?_, h3 (List.nodup_cons.mpr ⟨fun m => n1.1 (List.mem_cons_of_mem _ m), n2.2⟩)⟩
        rcases List.mem_cons.mp (h2 _ m) with e | e
        · exact n1.1 (e ▸ List.mem_cons_self)
        · exact n2.1 e
  | @bo a0 k0 vs0 ds0 σ ρ fp eb g hs t ih => intro i; cases i with
    | zero => exact ⟨_, .ow h hz t, fun b hb => (List.mem_cons.mp hb).elim (fun e => e ▸ List.mem_cons_self) fun e => List.mem_cons_of_mem _ (List.mem_cons_of_mem _ e), fun n => (List.nodup_cons.mpr ⟨fun m => (List.nodup_cons.mp n).1 (List.mem_cons_of_mem _ m), (List.nodup_cons.mp (List.nodup_cons.mp n).2).2⟩)⟩
    | succ i =>
      obtain ⟨q, h1, h2, h3⟩ := ih (i := i)
      refine ⟨a0 :: q, .bo eb g hs h1, fun b hb => ?_, fun n => ?_⟩
      · rcases List.mem_cons.mp hb with rfl | hb
        · exact List.mem_cons_of_mem _ List.mem_cons_self
        · rcases List.mem_cons.mp (h2 b hb) with rfl | hb
          · exact List.mem_cons_self
          · exact List.mem_cons_of_mem _ (List.mem_cons_of_mem _ hb)
      · have n1 := List.nodup_cons.mp n
        have n2 := List.nodup_cons.mp n1.2
        refine List.nodup_cons.mpr ⟨fun m => ?_, h3 (List.nodup_cons.mpr ⟨fun m => n1.1 (List.mem_cons_of_mem _ m), n2.2⟩)⟩
        rcases List.mem_cons.mp (h2 _ m) with e | e
        · exact n1.1 (e ▸ List.mem_cons_self)
        · exact n2.1 e
theorem Sl.drop (s : Sl K β F H σ ρ fp) : ∀ {i : Nat} (x : Option V), ∃ fp', Sl K β F H (σ.set i x) (ρ.set i none) fp' ∧ List.Sublist fp' fp := by
  induction s with
  | nil => intro i x; exact ⟨_, .nil, List.Sublist.refl _⟩
  | skip t ih => intro i x; cases i with
    | zero => exact ⟨_, .skip t, List.Sublist.refl _⟩
    | succ i => obtain ⟨q, h1, h2⟩ := ih (i := i) x; exact ⟨q, .skip h1, h2⟩
  | fr g t ih => intro i x; cases i with
    | zero => exact ⟨_, .skip t, List.Sublist.refl _⟩
    | succ i => obtain ⟨q, h1, h2⟩ := ih (i := i) x; exact ⟨q, .fr g h1, h2⟩
  | ow g hs t ih => intro i x; cases i with
    | zero => exact ⟨_, .skip t, List.sublist_cons_self _ _⟩
    | succ i => obtain ⟨q, h1, h2⟩ := ih (i := i) x; exact ⟨_, .ow g hs h1, h2.cons_cons _⟩
  | bo e g hs t ih => intro i x; cases i with
    | zero => exact ⟨_, .skip t, List.sublist_cons_self _ _⟩
    | succ i => obtain ⟨q, h1, h2⟩ := ih (i := i) x; exact ⟨_, .bo e g hs h1, h2.cons_cons _⟩
/-- a new object's place is not among them -/
theorem Sta.fresh (s : Sta K β lk F H σ ρ fp) {p : Addr} (h : H p = none) : p ∉ fp ∧ F p = none :=
  ⟨fun m => (by obtain ⟨o, e⟩ := s.sl.fpH p m; rw [h] at e; cases e), s.ex.free h⟩
/-- others go on, ours stands -/
theorem Sta.frame {gp gp' : List Addr} (s : Sta K β lk F H σ ρ fp) (t : Tr F H gp F' H' gp') (dj : ∀ a ∈ fp, a ∉ gp) (ex : Same F' H') (lock : lk = false → NoLock F') :
    Sta K β lk F' H' σ ρ fp ∧ ∀ a ∈ fp, a ∉ gp' := by
  have nn : ∀ a ∈ fp, ¬ (a ∈ gp ∨ H a = none) := fun a ha q => by
    rcases q with q | q
    · exact dj a ha q
    · obtain ⟨o, e⟩ := s.sl.fpH a ha; rw [q] at e; cases e
  refine ⟨⟨ex, s.sl.frame t.ex fun a ha o h => t.keep a o h (dj a ha), s.nd, fun a ha => ?_, lock⟩, fun a ha m => nn a ha (t.new a (.inl m))⟩
  cases q : F' a with
  | none => rfl
  | some o => exact absurd (t.new a (.inr ⟨s.own a ha, by rw [q]; exact (fun z => nomatch z), s.sl.fpT a ha⟩)) (nn a ha)
end
/-! ### new objects -/
def mkHO : Kd → List V → Option HO
  | .lst, vs => if vs.length ≤ sizeLine then some (.lst vs) else none
  | .tup, vs => if vs.length ≤ sizeLine then some (.tup vs) else none
  | .dK ks, vs => if ks.length = vs.length ∧ vs.length ≤ sizeLine ∧ keysL ks = true then some (.dK (ks.zip vs)) else none
  | .dT ks, vs => if ks.length = vs.length ∧ vs.length ≤ sizeLine ∧ keyssL ks = true then some (.dT (ks.zip vs)) else none
  | .scr, _ => none
  | .ktp, _ => none
section
variable {K : PySem.W.Frag} {β : V} {lk : Bool} {F F' H H' : Hp} {fp : List Addr} {σ : St} {ρ : En} {p : Addr} {k : Kd} {vs : List V} {ds : List D} {ho : HO}
theorem mkAt (e : mkHO k vs = some ho) (h : F p = some ho) : ItemAt K F p k vs := by
  cases k <;> simp only [mkHO] at e
  case scr => cases e
  case ktp => cases e
  all_goals
    split at e
    · rename_i c
      cases e
      first
        | exact ⟨h, c⟩
        | exact ⟨c.1, .inl h, c.2⟩
    · cases e
theorem mkW (e : mkHO k vs = some ho) (o : owK k = true) (h : F p = some ho) : ItemW F p k vs := by
  cases k <;> simp only [mkHO] at e
  case scr => cases e
  case ktp => cases e
  case tup => cases o
  all_goals
    split at e
    · rename_i c
      cases e
      first
        | exact ⟨h, c⟩
        | exact ⟨c.1, h, c.2⟩
    · cases e
theorem mkNf (e : mkHO k vs = some ho) : ∀ o u, ho ≠ .frz o u := by
  intro o u q
  subst q
  cases k <;> simp only [mkHO] at e
  case scr => cases e
  case ktp => cases e
  all_goals
    split at e <;> cases e
theorem NoLock.upd (_n : NoLock F) (_h : ∀ o u, ho ≠ .frz o u) : NoLock (upd F p ho) := trivial
theorem same_upd (h : F p = none) : Same F (upd F p ho) := fun b o e => by rw [upd_ne (ne_of_none e h)]; exact e
theorem same_upd2 (h : Same F H) (hp : H p = none) : Same (upd F p ho) (upd H p ho) := fun b o e => by
  by_cases q : b = p
  · subst q; rw [upd_same] at e ⊢; exact e
  · rw [upd_ne q] at e ⊢; exact h b o e
theorem same_updR (h : Same F H) (hp : F p = none) : Same F (upd H p ho) := fun b o e => by
  rw [upd_ne (ne_of_none e hp)]; exact h b o e
/-- a new object, frozen at once -/
theorem Sta.new (s : Sta K β lk F H σ ρ fp) (hp : H p = none) (e : mkHO k vs = some ho) (hs : Fzs K F vs ds) :
    Sta K β lk (upd F p ho) (upd H p ho) σ ρ fp ∧ Tr F H fp (upd F p ho) (upd H p ho) fp ∧ Fz K (upd F p ho) (.ref p) (.nd k ds) := by
  obtain ⟨n1, n2⟩ := s.fresh hp
  have ex : Same F (upd F p ho) := same_upd n2
  refine ⟨⟨same_upd2 s.ex hp, s.sl.frame ex fun a ha o h => ?_, s.nd, fun a ha => ?_, fun z => (s.lock z).upd (mkNf e)⟩, ⟨ex, fun a o h n => ?_, fun a h => ?_⟩, .nd (mkAt e upd_same) (hs.mono ex)⟩
  · rw [upd_ne (ne_of_none h hp)]; exact h
  · rw [upd_ne (fun (z : a = p) => n1 (z ▸ ha))]; exact s.own a ha
  · rw [upd_ne (ne_of_none h hp)]; exact h
  · rcases h with h | ⟨h1, h2, _⟩
    · exact .inl h
    · refine .inr ?_
      by_cases q : a = p
      · rw [q]; exact hp
      · rw [upd_ne q] at h2; exact absurd h1 h2
/-- a new object, ours -/
theorem Sta.newO (s : Sta K β lk F H σ ρ fp) (hp : H p = none) (e : mkHO k vs = some ho) (o : owK k = true) (hs : Fzs K F vs ds) :
    Sta K β lk F (upd H p ho) (some (.ref p) :: σ) (some (.o (.nd k ds)) :: ρ) (p :: fp) ∧ Tr F H fp F (upd H p ho) (p :: fp) := by
  obtain ⟨n1, n2⟩ := s.fresh hp
  refine ⟨⟨same_updR s.ex n2, .ow (mkW e o upd_same) hs (s.sl.frame (Same.refl _) fun a ha u h => ?_), List.nodup_cons.mpr ⟨n1, s.nd⟩, fun a ha => ?_, s.lock⟩, ⟨Same.refl _, fun a u h n => ?_, fun a h => ?_⟩⟩
  · rw [upd_ne (ne_of_none h hp)]; exact h
  · rcases List.mem_cons.mp ha with rfl | ha
    · exact n2
    · exact s.own a ha
  · rw [upd_ne (ne_of_none h hp)]; exact h
  · rcases h with h | ⟨h1, h2, _⟩
    · rcases List.mem_cons.mp h with rfl | h
      · exact .inr hp
      · exact .inl h
    · exact absurd h1 h2
theorem ItemW.nf (h : ItemW H p k vs) : ∃ ho, mkHO k vs = some ho ∧ H p = some ho := by
  cases k with
  | tup => exact h.elim
  | ktp => exact h.elim
  | scr => exact h.elim
  | lst => exact ⟨_, if_pos h.2, h.1⟩
  | dK ks => exact ⟨_, if_pos ⟨h.1, h.2.2.1, h.2.2.2⟩, h.2.1⟩
  | dT ks => exact ⟨_, if_pos ⟨h.1, h.2.2.1, h.2.2.2⟩, h.2.1⟩
/-- what is ours is frozen -/
theorem Sta.freeze (s : Sta K β lk F H σ ρ (p :: fp)) (hw : ItemW H p k vs) (hs : Fzs K F vs ds) {σ' : St} {ρ' : En} (sl : Sl K β F H σ' ρ' fp) :
    ∃ F', Sta K β lk F' H σ' ρ' fp ∧ Tr F H (p :: fp) F' H fp ∧ Fz K F' (.ref p) (.nd k ds) := by
  obtain ⟨ho, e, hp⟩ := hw.nf
  have n2 : F p = none := s.own p List.mem_cons_self
  have nd := List.nodup_cons.mp s.nd
  have ex : Same F (upd F p ho) := same_upd n2
  refine ⟨upd F p ho, ⟨fun b o q => ?_, sl.frame ex fun _ _ _ h => h, nd.2, fun a ha => ?_, fun z => (s.lock z).upd (mkNf e)⟩, ⟨ex, fun a o h n => h, fun a h => ?_⟩, .nd (mkAt e upd_same) (hs.mono ex)⟩
  · by_cases z : b = p
    · subst z; rw [upd_same] at q; rw [hp]; exact q
    · rw [upd_ne z] at q; exact s.ex b o q
  · rw [upd_ne (fun (z : a = p) => nd.1 (z ▸ ha))]; exact s.own a (List.mem_cons_of_mem _ ha)
  · rcases h with h | ⟨h1, h2, _⟩
    · exact .inl (List.mem_cons_of_mem _ h)
    · by_cases q : a = p
      · rw [q]; exact .inl List.mem_cons_self
      · rw [upd_ne q] at h2; exact absurd h1 h2
end
end Y

set_option Elab.async false
set_option linter.all false
set_option maxRecDepth 100000
set_option maxHeartbeats 2000000
/-! The judgements by values; names, constants, operators, tests. -/
namespace Y
open PySem L2

inductive R (α : Type) where
  | ok (a : α) (ρ : En) | exc (c : Str) (x : Option (Str × D)) (ρ : En) | bad
def bnd {α β : Type} (r : R α) (g : α → En → R β) : R β :=
  match r with
  | .ok a ρ => g a ρ
  | .exc c x ρ => .exc c x ρ
  | .bad => .bad
def lift {α : Type} (o : Option α) (ρ : En) : R α :=
  match o with
  | some a => .ok a ρ
  | none => .bad
structure Wd where
  β : V
  lk : Bool
  cls : Str → Value
  W : WX
def XR (K : PySem.W.Frag) (F H : Hp) (x : Option (Str × D)) (dd : Option Addr) : Prop :=
  match x with
  | none => dd = none
  | some (f, d) => ∃ a v, dd = some a ∧ H a = some (.xd [(f, v)]) ∧ Fz K F v d
abbrev StaW (K : PySem.W.Frag) (w : Wd) := Sta K w.β w.lk
def Pst (K : PySem.W.Frag) (w : Wd) (F H : Hp) (fp : List Addr) (σ : St) {α : Type} (r : R α) (N : α → En → Hp → Hp → List Addr → Prop) : Prop :=
  match r with
  | .ok a ρ' => ∀ F' H' fp', Tr F H fp F' H' fp' → N a ρ' F' H' fp'
  | .exc c x ρ' => ∀ F' H' fp' dd, Tr F H fp F' H' fp' → StaW K w F' H' σ ρ' fp' → XR K F' H' x dd → w.W (w.cls c) dd σ H'
  | .bad => False
section
variable {K : PySem.W.Frag} {w : Wd} {F F1 H H1 : Hp} {fp fp1 : List Addr} {σ : St} {α β : Type} {r : R α} {g : α → En → R β} {N : α → En → Hp → Hp → List Addr → Prop} {M : β → En → Hp → Hp → List Addr → Prop}
theorem Pst.tr (h : Pst K w F H fp σ r N) (t : Tr F H fp F1 H1 fp1) : Pst K w F1 H1 fp1 σ r N := by
  cases r with
  | ok a ρ => exact fun F' H' fp' u => h F' H' fp' (t.trans u)
  | exc c x ρ => exact fun F' H' fp' dd u => h F' H' fp' dd (t.trans u)
  | bad => exact h
theorem Pst.bnd (h : Pst K w F H fp σ (bnd r g) M) (k : ∀ a ρ1 F1 H1 fp1, Tr F H fp F1 H1 fp1 → Pst K w F1 H1 fp1 σ (g a ρ1) M → N a ρ1 F1 H1 fp1) : Pst K w F H fp σ r N := by
  cases r with
  | ok a ρ => exact fun F' H' fp' u => k a ρ F' H' fp' u (Pst.tr (r := g a ρ) h u)
  | exc c x ρ => exact h
  | bad => exact h
theorem Pst.imp (h : Pst K w F H fp σ r N) {N' : α → En → Hp → Hp → List Addr → Prop} (k : ∀ a ρ1 F1 H1 fp1, Tr F H fp F1 H1 fp1 → N a ρ1 F1 H1 fp1 → N' a ρ1 F1 H1 fp1) : Pst K w F H fp σ r N' := by
  cases r with
  | ok a ρ => exact fun F' H' fp' u => k a ρ F' H' fp' u (h F' H' fp' u)
  | exc c x ρ => exact h
  | bad => exact h
theorem Pst.lift {o : Option α} {ρ : En} (h : Pst K w F H fp σ (Y.lift o ρ) N) : ∃ a, o = some a ∧ ∀ F' H' fp', Tr F H fp F' H' fp' → N a ρ F' H' fp' := by
  cases o with
  | none => exact h.elim
  | some a => exact ⟨a, rfl, h⟩
end

def nF (K : PySem.W.Frag) (w : Wd) (σ : St) (Q : VK) : D → En → Hp → Hp → List Addr → Prop := fun d ρ F H fp => ∀ v, StaW K w F H σ ρ fp → Fz K F v d → Q v H
def nB (K : PySem.W.Frag) (w : Wd) (σ : St) (Q : VK) : D → En → Hp → Hp → List Addr → Prop := fun d ρ F H fp => ∀ v, StaW K w F H σ ρ fp → Bz K F H v d → Q v H
def nO (K : PySem.W.Frag) (w : Wd) (σ : St) (Q : VK) : D → En → Hp → Hp → List Addr → Prop := fun d ρ F H fp => ∀ v, StaW K w F H (some v :: σ) (some (.o d) :: ρ) fp → Q v H
def nT (K : PySem.W.Frag) (w : Wd) (σ : St) (Q : Bool → Hp → Prop) : Bool → En → Hp → Hp → List Addr → Prop := fun b ρ F H fp => StaW K w F H σ ρ fp → Q b H
def nA (K : PySem.W.Frag) (w : Wd) (σ : St) (Q : List V → Hp → Prop) : List D → En → Hp → Hp → List Addr → Prop := fun ds ρ F H fp => ∀ vs, StaW K w F H σ ρ fp → Fzs K F vs ds → Q vs H
def cF (K : PySem.W.Frag) (w : Wd) (f : En → R D) : TE := fun σ H Q => ∃ F ρ fp, StaW K w F H σ ρ fp ∧ Pst K w F H fp σ (f ρ) (nF K w σ Q)
def cB (K : PySem.W.Frag) (w : Wd) (f : En → R D) : TE := fun σ H Q => ∃ F ρ fp, StaW K w F H σ ρ fp ∧ Pst K w F H fp σ (f ρ) (nB K w σ Q)
def cO (K : PySem.W.Frag) (w : Wd) (f : En → R D) : TE := fun σ H Q => ∃ F ρ fp, StaW K w F H σ ρ fp ∧ Pst K w F H fp σ (f ρ) (nO K w σ Q)
def cT (K : PySem.W.Frag) (w : Wd) (f : En → R Bool) : TT := fun σ H Q => ∃ F ρ fp, StaW K w F H σ ρ fp ∧ Pst K w F H fp σ (f ρ) (nT K w σ Q)
def cA (K : PySem.W.Frag) (w : Wd) (f : En → R (List D)) : TA := fun σ H Q => ∃ F ρ fp, StaW K w F H σ ρ fp ∧ Pst K w F H fp σ (f ρ) (nA K w σ Q)

section
variable {X : Cx} {e : Expr} {es : List Expr}
theorem peI {t t' : TE} (h : PE X e t) (k : ∀ σ H Q, t' σ H Q → t σ H Q) : PE X e t' := ⟨fun pins s σ H Q I q => h.run pins s σ H Q I (k σ H Q q)⟩
theorem ptI {t t' : TT} (h : PT X e t) (k : ∀ σ H Q, t' σ H Q → t σ H Q) : PT X e t' := ⟨fun pins s σ H Q I q => h.run pins s σ H Q I (k σ H Q q)⟩
theorem pwI {t t' : TT} (h : PW X e t) (k : ∀ σ H Q, t' σ H Q → t σ H Q) : PW X e t' := ⟨fun wh pins s σ H Q I q => h.run wh pins s σ H Q I (k σ H Q q)⟩
theorem paI {t t' : TA} (h : PA X es t) (k : ∀ σ H Q, t' σ H Q → t σ H Q) : PA X es t' := ⟨fun pos pins s σ H Q I q => h.run pos pins s σ H Q I (k σ H Q q)⟩
end

section
variable {K : PySem.W.Frag} {w : Wd} {σ : St} {H : Hp} {Q : VK} {f : En → R D}
theorem cB_of (h : cB K w f σ H Q) : cF K w f σ H Q := by
  obtain ⟨F, ρ, fp, s, h⟩ := h
  exact ⟨F, ρ, fp, s, h.imp fun d ρ1 F1 H1 fp1 _ n v s1 z => n v s1 (.fz z)⟩
theorem cF_fz (h : cF K w f σ H Q) : cO K w f σ H Q := by
  obtain ⟨F, ρ, fp, s, h⟩ := h
  refine ⟨F, ρ, fp, s, ?_⟩
  cases q : f ρ with
  | bad => rw [q] at h; exact h
  | exc c x ρ => rw [q] at h; exact h
  | ok d ρ1 =>
    rw [q] at h
    intro F1 H1 fp1 t v s1
    cases hs : s1.sl with
    | ow hw hz sl =>
      obtain ⟨F2, s2, t2, z⟩ := Sta.freeze s1 hw hz sl
      exact h F2 H1 _ (t.trans t2) _ s2 z
end
section
variable {X : Cx} {w : Wd} {e : Expr} {f : En → R D}
theorem dB (h : PE X e (cF X.K w f)) : PE X e (cB X.K w f) := peI h fun σ H Q q => cB_of q
theorem dF (h : PE X e (cO X.K w f)) : PE X e (cF X.K w f) := peI h fun σ H Q q => cF_fz q
end

/-! ### slots -/
def sVar (i : Nat) : En → R D := fun ρ => match ρ[i]? with
  | some (some (.f d)) => .ok d ρ
  | _ => .bad
def sBor (i : Nat) : En → R D := fun ρ => match ρ[i]? with
  | some (some (.f d)) => .ok d ρ
  | some (some (.o d)) => .ok d ρ
  | some (some (.b d)) => .ok d ρ
  | _ => .bad
/-- an owned name is given away: frozen from now on -/
def sFrz (i : Nat) : En → R D := fun ρ => match ρ[i]? with
  | some (some (.o d)) => .ok d (ρ.set i (some (.f d)))
  | some (some (.f d)) => .ok d ρ
  | _ => .bad
/-- an owned name is given away whole: the name is forgotten -/
def sMov (i : Nat) : En → R D := fun ρ => match ρ[i]? with
  | some (some (.o d)) => .ok d (ρ.set i none)
  | _ => .bad
def sC (d : D) : En → R D := fun ρ => .ok d ρ

section
variable {K : PySem.W.Frag} {β : V} {F F' H H' : Hp} {fp : List Addr} {σ : St} {ρ : En}
/-- the place of a changing slot -/
theorem Sl.own (s : Sl K β F H σ ρ fp) (mk : D → S) (hm : mk = S.o ∨ mk = S.b) : ∀ {i : Nat} {d : D}, ρ[i]? = some (some (mk d)) →
    ∃ a k vs ds fp1 fp2, d = .nd k ds ∧ fp = fp1 ++ a :: fp2 ∧ σ[i]? = some (some (.ref a)) ∧ ItemW H a k vs ∧ Fzs K F vs ds ∧ (mk = S.b → β = .ref a) ∧
      (∀ F' H' d', Same F F' → (∀ b ∈ fp1 ++ fp2, ∀ o, H b = some o → H' b = some o) → Fz K F' (.ref a) d' → Sl K β F' H' σ (ρ.set i (some (.f d'))) (fp1 ++ fp2)) ∧
      (∀ F' H' k' vs' ds', Same F F' → (∀ b ∈ fp1 ++ fp2, ∀ o, H b = some o → H' b = some o) → ItemW H' a k' vs' → Fzs K F' vs' ds' → Sl K β F' H' σ (ρ.set i (some (mk (.nd k' ds')))) fp) ∧
      (∀ F' H', Same F F' → (∀ b ∈ fp1 ++ fp2, ∀ o, H b = some o → H' b = some o) → Sl K β F' H' σ (ρ.set i none) (fp1 ++ fp2)) := by
  induction s with
  | nil => intro i d e; simp at e
  | @skip x σ ρ fp t ih =>
    intro i d e
    cases i with
    | zero => simp at e
    | succ i =>
      obtain ⟨a, k, vs, ds, fp1, fp2, h1, h2, h3, h4, h5, h6, h7, h8, h9⟩ := ih (i := i) (by simpa using e)
      exact ⟨a, k, vs, ds, fp1, fp2, h1, h2, by simpa using h3, h4, h5, h6, fun F' H' d' q1 q2 q3 => .skip (h7 F' H' d' q1 q2 q3), fun F' H' k' vs' ds' q1 q2 q3 q4 => .skip (h8 F' H' k' vs' ds' q1 q2 q3 q4), fun F' H' q1 q2 => .skip (h9 F' H' q1 q2)⟩
  | @fr v d0 σ ρ fp h t ih =>
    intro i d e
    cases i with
    | zero => rcases hm with rfl | rfl <;> simp at e
    | succ i =>
      obtain ⟨a, k, vs, ds, fp1, fp2, h1, h2, h3, h4, h5, h6, h7, h8, h9⟩ := ih (i := i) (by simpa using e)
      exact ⟨a, k, vs, ds, fp1, fp2, h1, h2, by simpa using h3, h4, h5, h6, fun F' H' d' q1 q2 q3 => .fr (h.mono q1) (h7 F' H' d' q1 q2 q3), fun F' H' k' vs' ds' q1 q2 q3 q4 => .fr (h.mono q1) (h8 F' H' k' vs' ds' q1 q2 q3 q4), fun F' H' q1 q2 => .fr (h.mono q1) (h9 F' H' q1 q2)⟩
  | @ow a0 k0 vs0 ds0 σ ρ fp h hs t ih =>
    intro i d e
    cases i with
    | zero =>
      rcases hm with rfl | rfl
      · simp at e
        subst e
        exact ⟨a0, k0, vs0, ds0, [], fp, rfl, rfl, rfl, h, hs, fun z => (by cases (congrFun z .non)), fun F' H' d' q1 q2 q3 => .fr q3 (t.frame q1 q2), fun F' H' k' vs' ds' q1 q2 q3 q4 => .ow q3 q4 (t.frame q1 q2), fun F' H' q1 q2 => .skip (t.frame q1 q2)⟩
      · simp at e
    | succ i =>
      obtain ⟨a, k, vs, ds, fp1, fp2, h1, h2, h3, h4, h5, h6, h7, h8, h9⟩ := ih (i := i) (by simpa using e)
      have up : ∀ {H' : Hp}, (∀ b ∈ a0 :: fp1 ++ fp2, ∀ o, H b = some o → H' b = some o) → (∀ b ∈ fp1 ++ fp2, ∀ o, H b = some o → H' b = some o) := fun q b hb => q b (List.mem_cons_of_mem _ hb)
      exact ⟨a, k, vs, ds, a0 :: fp1, fp2, h1, by rw [h2]; rfl, by simpa using h3, h4, h5, h6, fun F' H' d' q1 q2 q3 => .ow (h.keep (q2 a0 List.mem_cons_self)) (hs.mono q1) (h7 F' H' d' q1 (up q2) q3),
        fun F' H' k' vs' ds' q1 q2 q3 q4 => .ow (h.keep (q2 a0 List.mem_cons_self)) (hs.mono q1) (h8 F' H' k' vs' ds' q1 (up q2) q3 q4), fun F' H' q1 q2 => .ow (h.keep (q2 a0 List.mem_cons_self)) (hs.mono q1) (h9 F' H' q1 (up q2))⟩
  | @bo a0 k0 vs0 ds0 σ ρ fp eb h hs t ih =>
    intro i d e
    cases i with
    | zero =>
      rcases hm with rfl | rfl
      · simp at e
      · simp at e
        subst e
        exact ⟨a0, k0, vs0, ds0, [], fp, rfl, rfl, rfl, h, hs, fun _ => eb, fun F' H' d' q1 q2 q3 => .fr q3 (t.frame q1 q2), fun F' H' k' vs' ds' q1 q2 q3 q4 => .bo eb q3 q4 (t.frame q1 q2), fun F' H' q1 q2 => .skip (t.frame q1 q2)⟩
    | succ i =>
      obtain ⟨a, k, vs, ds, fp1, fp2, h1, h2, h3, h4, h5, h6, h7, h8, h9⟩ := ih (i := i) (by simpa using e)
      have up : ∀ {H' : Hp}, (∀ b ∈ a0 :: fp1 ++ fp2, ∀ o, H b = some o → H' b = some o) → (∀ b ∈ fp1 ++ fp2, ∀ o, H b = some o → H' b = some o) := fun q b hb => q b (List.mem_cons_of_mem _ hb)
      exact ⟨a, k, vs, ds, a0 :: fp1, fp2, h1, by rw [h2]; rfl, by simpa using h3, h4, h5, h6, fun F' H' d' q1 q2 q3 => .bo eb (h.keep (q2 a0 List.mem_cons_self)) (hs.mono q1) (h7 F' H' d' q1 (up q2) q3),
        fun F' H' k' vs' ds' q1 q2 q3 q4 => .bo eb (h.keep (q2 a0 List.mem_cons_self)) (hs.mono q1) (h8 F' H' k' vs' ds' q1 (up q2) q3 q4), fun F' H' q1 q2 => .bo eb (h.keep (q2 a0 List.mem_cons_self)) (hs.mono q1) (h9 F' H' q1 (up q2))⟩
end
theorem mid {a : Addr} {l1 l2 : List Addr} (h : (l1 ++ a :: l2).Nodup) : a ∉ l1 ++ l2 ∧ (l1 ++ l2).Nodup ∧ (a :: (l1 ++ l2)).Perm (l1 ++ a :: l2) := by
  have p : (a :: (l1 ++ l2)).Perm (l1 ++ a :: l2) := (List.perm_middle).symm
  have q := List.nodup_cons.mp (p.nodup_iff.mpr h)
  exact ⟨q.1, q.2, p⟩
section
variable {X : Cx} {w : Wd} {x : Str} {pos : Pos}
theorem d_var (i : Nat) (hN : X.N[i]? = some x := by rfl) (hv : Vis X.env.scope x := by first | exact Or.inl rfl | exact Or.inr (Or.inl rfl) | exact Or.inr (Or.inr rfl)) (hd : (x == ("__debug__" : Str)) = false := by decide)
    (hcd : (x == ("__classdict__" : Str)) = false := by decide) : PE X (.Name x pos) (cF X.K w (sVar i)) := peI (pe_var hN hv hd hcd) fun σ H Q h => by
  obtain ⟨F, ρ, fp, s, h⟩ := h
  unfold sVar at h
  split at h
  · rename_i d e
    obtain ⟨v, e1, z⟩ := s.sl.getF e
    exact ⟨v, e1, h F H fp .refl v s z⟩
  · exact h.elim
theorem d_bor (i : Nat) (hN : X.N[i]? = some x := by rfl) (hv : Vis X.env.scope x := by first | exact Or.inl rfl | exact Or.inr (Or.inl rfl) | exact Or.inr (Or.inr rfl)) (hd : (x == ("__debug__" : Str)) = false := by decide)
    (hcd : (x == ("__classdict__" : Str)) = false := by decide) : PE X (.Name x pos) (cB X.K w (sBor i)) := peI (pe_var hN hv hd hcd) fun σ H Q h => by
  obtain ⟨F, ρ, fp, s, h⟩ := h
  unfold sBor at h
  split at h
  · rename_i d e
    obtain ⟨v, e1, z⟩ := s.sl.getB e
    exact ⟨v, e1, h F H fp .refl v s z⟩
  · rename_i d e
    obtain ⟨v, e1, z⟩ := s.sl.getB e
    exact ⟨v, e1, h F H fp .refl v s z⟩
  · rename_i d e
    obtain ⟨v, e1, z⟩ := s.sl.getB e
    exact ⟨v, e1, h F H fp .refl v s z⟩
  · exact h.elim
theorem d_frz (i : Nat) (hN : X.N[i]? = some x := by rfl) (hv : Vis X.env.scope x := by first | exact Or.inl rfl | exact Or.inr (Or.inl rfl) | exact Or.inr (Or.inr rfl)) (hd : (x == ("__debug__" : Str)) = false := by decide)
    (hcd : (x == ("__classdict__" : Str)) = false := by decide) : PE X (.Name x pos) (cF X.K w (sFrz i)) := peI (pe_var hN hv hd hcd) fun σ H Q h => by
  obtain ⟨F, ρ, fp, s, h⟩ := h
  unfold sFrz at h
  split at h
  · rename_i d e
    obtain ⟨a, k, vs, ds, fp1, fp2, rfl, rfl, e1, hw, hz, _, put, _, _⟩ := s.sl.own .o (.inl rfl) e
    obtain ⟨ho, em, hp⟩ := hw.nf
    obtain ⟨m1, m2, m3⟩ := mid s.nd
    have n2 : F a = none := s.own a (by simp)
    have ex : Same F (upd F a ho) := same_upd n2
    refine ⟨.ref a, e1, h (upd F a ho) H (fp1 ++ fp2) ⟨ex, fun b o h n => h, fun b q => ?_⟩ _ ⟨fun b o q => ?_, put _ H _ ex (fun _ _ _ h => h) (.nd (mkAt em upd_same) (hz.mono ex)), m2, fun b hb => ?_, fun z => (s.lock z).upd (mkNf em)⟩ (.nd (mkAt em upd_same) (hz.mono ex))⟩
    · rcases q with q | ⟨q1, q2, _⟩
      · exact .inl (m3.mem_iff.mp (List.mem_cons_of_mem _ q))
      · by_cases z : b = a
        · rw [z]; exact .inl (by simp)
        · rw [upd_ne z] at q2; exact absurd q1 q2
    · by_cases z : b = a
      · subst z; rw [upd_same] at q; rw [hp]; exact q
      · rw [upd_ne z] at q; exact s.ex b o q
    · rw [upd_ne (fun (z : b = a) => m1 (z ▸ hb))]; exact s.own b (m3.mem_iff.mp (List.mem_cons_of_mem _ hb))
  · rename_i d e
    obtain ⟨v, e1, z⟩ := s.sl.getF e
    exact ⟨v, e1, h F H fp .refl v s z⟩
  · exact h.elim
theorem d_mov (i : Nat) (hN : X.N[i]? = some x := by rfl) (hv : Vis X.env.scope x := by first | exact Or.inl rfl | exact Or.inr (Or.inl rfl) | exact Or.inr (Or.inr rfl)) (hd : (x == ("__debug__" : Str)) = false := by decide)
    (hcd : (x == ("__classdict__" : Str)) = false := by decide) : PE X (.Name x pos) (cO X.K w (sMov i)) := peI (pe_var hN hv hd hcd) fun σ H Q h => by
  obtain ⟨F, ρ, fp, s, h⟩ := h
  unfold sMov at h
  split at h
  · rename_i d e
    obtain ⟨a, k, vs, ds, fp1, fp2, rfl, rfl, e1, hw, hz, _, _, _, dr⟩ := s.sl.own .o (.inl rfl) e
    obtain ⟨m1, m2, m3⟩ := mid s.nd
    refine ⟨.ref a, e1, h F H (a :: (fp1 ++ fp2)) (Tr.refl.sub fun b hb => m3.mem_iff.mp hb) _ ⟨s.ex, .ow hw hz (dr F H (Same.refl _) fun _ _ _ h => h), List.nodup_cons.mpr ⟨m1, m2⟩, fun b hb => s.own b (m3.mem_iff.mp hb), s.lock⟩⟩
  · exact h.elim
theorem d_c {d : D} {v : V} {e : Expr} (h : PE X e (tC v)) (z : ∀ F, Fz X.K F v d) : PE X e (cF X.K w (sC d)) := peI h fun σ H Q h => by
  obtain ⟨F, ρ, fp, s, h⟩ := h
  exact h F H fp .refl v s (z F)
theorem d_int {i j pos} : PE X (.Constant (.int i) j pos) (cF X.K w (sC (.int i))) := d_c pe_int fun _ => .int i
theorem d_bl {i j pos} : PE X (.Constant (.bool i) j pos) (cF X.K w (sC (.bl i))) := d_c pe_bl fun _ => .bl i
theorem d_non {j pos} : PE X (.Constant .none j pos) (cF X.K w (sC .non)) := d_c pe_non fun _ => .non
theorem d_str {i j pos} (h : i.length ≤ sizeLine := by decide +kernel) : PE X (.Constant (.str i) j pos) (cF X.K w (sC (.str i))) := d_c pe_str fun _ => .str i h
/-- a module's constant -/
theorem d_glob {v : V} {d : D} {u : Value} (hg : Gl X x) (hm : X.mg x = some u) (r : RelV v u) (z : ∀ F, Fz X.K F v d) (hd : (x == ("__debug__" : Str)) = false := by decide) : PE X (.Name x pos) (cF X.K w (sC d)) := d_c (pe_glob hg hm r hd) z
end

/-! ### operators of two -/
/-- what an operation on values does: an old value, or a new object -/
def RB (K : PySem.W.Frag) (r : R2) (g : D → D → Option D) : Prop := ∀ F H x y dx dy d Q, Same F H → Fz K F x dx → Bz K F H y dy → g dx dy = some d →
  (∀ v, Fz K F v d → Q v H) → (∀ p k vs ds ho, d = .nd k ds → H p = none → mkHO k vs = some ho → Fzs K F vs ds → Q (.ref p) (upd H p ho)) → r x y H Q
/-- always a new one -/
def RN (K : PySem.W.Frag) (r : R2) (g : D → D → Option D) : Prop := ∀ F H x y dx dy d Q, Same F H → Fz K F x dx → Bz K F H y dy → g dx dy = some d →
  (∀ p k vs ds ho, d = .nd k ds → owK k = true → H p = none → mkHO k vs = some ho → Fzs K F vs ds → Q (.ref p) (upd H p ho)) → r x y H Q
def RT (K : PySem.W.Frag) (r : R2) (g : D → D → Option Bool) : Prop := ∀ F H x y dx dy b Q, Same F H → Fz K F x dx → Bz K F H y dy → g dx dy = some b → Q (.bl b) H → r x y H Q
def sBin {α : Type} (g : D → D → Option α) (a b : En → R D) : En → R α := fun ρ => bnd (a ρ) fun x ρ1 => bnd (b ρ1) fun y ρ2 => lift (g x y) ρ2
/-- how a wish for an old value and for a new one follow -/
theorem fin_new {K : PySem.W.Frag} {w : Wd} {F H : Hp} {fp : List Addr} {σ : St} {ρ : En} {d : D} {Q : VK} (s : StaW K w F H σ ρ fp) (h : ∀ F' H' fp', Tr F H fp F' H' fp' → nF K w σ Q d ρ F' H' fp') :
    (∀ v, Fz K F v d → Q v H) ∧ (∀ p k vs ds ho, d = .nd k ds → H p = none → mkHO k vs = some ho → Fzs K F vs ds → Q (.ref p) (upd H p ho)) := by
  refine ⟨fun v z => h F H fp .refl v s z, fun p k vs ds ho e hp em hs => ?_⟩
  subst e
  obtain ⟨s1, t1, z1⟩ := s.new hp em hs
  exact h _ _ _ t1 _ s1 z1
theorem fin_newO {K : PySem.W.Frag} {w : Wd} {F H : Hp} {fp : List Addr} {σ : St} {ρ : En} {d : D} {Q : VK} (s : StaW K w F H σ ρ fp) (h : ∀ F' H' fp', Tr F H fp F' H' fp' → nO K w σ Q d ρ F' H' fp') :
    (∀ p k vs ds ho, d = .nd k ds → owK k = true → H p = none → mkHO k vs = some ho → Fzs K F vs ds → Q (.ref p) (upd H p ho)) := by
  intro p k vs ds ho e o hp em hs
  subst e
  obtain ⟨s1, t1⟩ := s.newO hp em o hs
  exact h _ _ _ t1 _ s1
section
variable {X : Cx} {w : Wd} {a b : Expr} {fa fb : En → R D} {pos : Pos} {r : R2}
theorem two {K : PySem.W.Frag} {r : R2} {α : Type} {g : D → D → Option α} {σ : St} {H : Hp} {Q : VK} {N : α → En → Hp → Hp → List Addr → Prop} (h : ∃ F ρ fp, StaW K w F H σ ρ fp ∧ Pst K w F H fp σ (sBin g fa fb ρ) N)
    (k : ∀ F H x y dx dy d ρ fp, StaW K w F H σ ρ fp → Fz K F x dx → Bz K F H y dy → g dx dy = some d → (∀ F' H' fp', Tr F H fp F' H' fp' → N d ρ F' H' fp') → r x y H Q) : tOp r (cF K w fa) (cB K w fb) σ H Q := by
  obtain ⟨F, ρ, fp, s, h⟩ := h
  refine ⟨F, ρ, fp, s, h.bnd fun dx ρ1 F1 H1 fp1 t1 h1 => fun x s1 zx => ⟨F1, ρ1, fp1, s1, h1.bnd fun dy ρ2 F2 H2 fp2 t2 h2 => fun y s2 zy => ?_⟩⟩
  obtain ⟨d, e, h3⟩ := h2.lift
  exact k F2 H2 x y dx dy d ρ2 fp2 s2 (zx.mono t2.ex) zy e h3
theorem d_bin {op : Operator} {g : D → D → Option D} (ho : OpR X (binaryOp op) r) (hr : RB X.K r g) (ha : PE X a (cF X.K w fa)) (hb : PE X b (cB X.K w fb)) : PE X (.BinOp a op b pos) (cF X.K w (sBin g fa fb)) :=
  peI (pe_op ho ha hb) fun σ H Q h => two h fun F H x y dx dy d ρ fp s zx zy e n => hr F H x y dx dy d Q s.ex zx zy e (fin_new s n).1 (fin_new s n).2
theorem d_binO {op : Operator} {g : D → D → Option D} (ho : OpR X (binaryOp op) r) (hr : RN X.K r g) (ha : PE X a (cF X.K w fa)) (hb : PE X b (cB X.K w fb)) : PE X (.BinOp a op b pos) (cO X.K w (sBin g fa fb)) :=
  peI (pe_op ho ha hb) fun σ H Q h => two h fun F H x y dx dy d ρ fp s zx zy e n => hr F H x y dx dy d Q s.ex zx zy e (fin_newO s n)
def sCmp (g : D → D → Option Bool) (a b : En → R D) : En → R D := sBin (fun x y => (g x y).map D.bl) a b
theorem d_cmp {op : CmpOp} {g : D → D → Option Bool} (ho : OpR X (compareOp op) r) (hr : RT X.K r g) (ha : PE X a (cF X.K w fa)) (hb : PE X b (cB X.K w fb)) (hm : behindInMarks op b = false) : PE X (.Compare a [op] [b] pos) (cF X.K w (sCmp g fa fb)) :=
  peI (pe_cmpR ho ha hb hm) fun σ H Q h => two h fun F H x y dx dy d ρ fp s zx zy e n => by
    obtain ⟨b, e1, rfl⟩ := Option.map_eq_some_iff.mp e
    exact hr F H x y dx dy b Q s.ex zx zy e1 (n F H fp .refl _ s (.bl b))
theorem t_cmp {op : CmpOp} {g : D → D → Option Bool} (ho : OpR X (compareOp op) r) (hr : RT X.K r g) (ha : PE X a (cF X.K w fa)) (hb : PE X b (cB X.K w fb)) (hm : behindInMarks op b = false) : PT X (.Compare a [op] [b] pos) (cT X.K w (sBin g fa fb)) :=
  ptI (pt_cmpR ho ha hb hm) fun σ H Q h => two h fun F H x y dx dy b ρ fp s zx zy e n => hr F H x y dx dy b _ s.ex zx zy e ⟨b, rfl, n F H fp .refl s⟩
/-- a <= b <= c -/
def sChain {α : Type} (g g' : D → D → Option Bool) (k : Bool → α) (a b c : En → R D) : En → R α := fun ρ => bnd (a ρ) fun x ρ1 => bnd (b ρ1) fun y ρ2 => bnd (lift (g x y) ρ2) fun t ρ3 => if t then bnd (c ρ3) fun z ρ4 => lift ((g' y z).map k) ρ4 else .ok (k false) ρ3
theorem chain {fc : En → R D} {r r' : R2} {α : Type} {k : Bool → α} {K : PySem.W.Frag} {g g' : D → D → Option Bool} (hr : RT K r g) (hr' : RT K r' g') {σ : St} {H : Hp} {Q : VK} {N : α → En → Hp → Hp → List Addr → Prop} (h : ∃ F ρ fp, StaW K w F H σ ρ fp ∧ Pst K w F H fp σ (sChain g g' k fa fb fc ρ) N)
    (q : ∀ F H b ρ fp, StaW K w F H σ ρ fp → (∀ F' H' fp', Tr F H fp F' H' fp' → N (k b) ρ F' H' fp') → Q (.bl b) H) :
    (cF K w fa) σ H fun x H1 => (cF K w fb) σ H1 fun y H2 => r x y H2 fun z H3 => ∃ k, z = .bl k ∧ if k = true then (cF K w fc) σ H3 fun u H4 => r' y u H4 Q else Q (.bl false) H3 := by
  obtain ⟨F, ρ, fp, s, h⟩ := h
  refine ⟨F, ρ, fp, s, h.bnd fun dx ρ1 F1 H1 fp1 t1 h1 => fun x s1 zx => ⟨F1, ρ1, fp1, s1, h1.bnd fun dy ρ2 F2 H2 fp2 t2 h2 => fun y s2 zy => ?_⟩⟩
  have h3 := h2.bnd (N := fun t ρ3 F3 H3 fp3 => Pst K w F3 H3 fp3 σ (if t then bnd (fc ρ3) fun z ρ4 => lift ((g' dy z).map k) ρ4 else .ok (k false) ρ3) N) fun _ _ _ _ _ _ n => n
  obtain ⟨t, e, h4⟩ := h3.lift
  refine hr F2 H2 x y dx dy t _ s2.ex (zx.mono t2.ex) (.fz zy) e ⟨t, rfl, ?_⟩
  have h5 := h4 F2 H2 fp2 .refl
  cases t with
  | false => exact iteF (q F2 H2 false ρ2 fp2 s2 (show Pst K w F2 H2 fp2 σ (R.ok (k false) ρ2) N by simpa using h5))
  | true =>
    refine iteT ?_
    have h5 : Pst K w F2 H2 fp2 σ (bnd (fc ρ2) fun z ρ4 => lift ((g' dy z).map k) ρ4) N := by simpa using h5
    refine ⟨F2, ρ2, fp2, s2, h5.bnd fun dz ρ4 F4 H4 fp4 t4 h6 => fun u s4 zu => ?_⟩
    obtain ⟨kb, e6, h7⟩ := h6.lift
    obtain ⟨b, e7, rfl⟩ := Option.map_eq_some_iff.mp e6
    exact hr' F4 H4 y u dy dz b _ s4.ex (zy.mono t4.ex) (.fz zu) e7 (q F4 H4 b ρ4 fp4 s4 h7)
theorem d_chain {c : Expr} {fc : En → R D} {op op' : CmpOp} {r r' : R2} {g g' : D → D → Option Bool} (ho : OpR X (compareOp op) r) (ho' : OpR X (compareOp op') r') (hr : RT X.K r g) (hr' : RT X.K r' g') (ha : PE X a (cF X.K w fa)) (hb : PE X b (cF X.K w fb)) (hc : PE X c (cF X.K w fc))
    (hm : lastMarks [op, op'] [b, c] = false := by with_unfolding_all rfl) : PE X (.Compare a [op, op'] [b, c] pos) (cF X.K w (sChain g g' D.bl fa fb fc)) :=
  peI (pe_chain ho ho' ha hb hc hm) fun σ H Q h => chain hr hr' h fun F H b ρ fp s n => n F H fp .refl _ s (.bl b)
theorem t_chain {c : Expr} {fc : En → R D} {op op' : CmpOp} {r r' : R2} {g g' : D → D → Option Bool} (ho : OpR X (compareOp op) r) (ho' : OpR X (compareOp op') r') (hr : RT X.K r g) (hr' : RT X.K r' g') (ha : PE X a (cF X.K w fa)) (hb : PE X b (cF X.K w fb)) (hc : PE X c (cF X.K w fc))
    (hm : lastMarks [op, op'] [b, c] = false := by with_unfolding_all rfl) : PT X (.Compare a [op, op'] [b, c] pos) (cT X.K w (sChain g g' id fa fb fc)) :=
  ptI (pt_chain ho ho' ha hb hc hm) fun σ H Q h => chain hr hr' h fun F H b ρ fp s n => ⟨b, rfl, n F H fp .refl s⟩
end
end Y

set_option Elab.async false
set_option linter.all false
set_option maxRecDepth 100000
set_option maxHeartbeats 2000000
/-! Truth, and, or, not, if; argument lists, displays; built-ins called; subscripts. -/
namespace Y
open PySem L2
/-- a value's truth -/
def tru : D → Option Bool
  | .non => some false
  | .bl b => some b
  | .int i => some (i != 0)
  | .str s => some ((s.length : Int) != 0)
  | .nd .lst ds => some (!ds.isEmpty)
  | .nd .tup ds => some (!ds.isEmpty)
  | .nd .scr ds => some (!ds.isEmpty)
  | .nd .ktp ds => some (!ds.isEmpty)
  | _ => none
theorem Fzs.emp {K : PySem.W.Frag} {F : Hp} {vs : List V} {ds : List D} (h : Fzs K F vs ds) : vs.isEmpty = ds.isEmpty := by
  cases h <;> rfl
theorem Fz.tru {K : PySem.W.Frag} {F : Hp} {v : V} {d : D} {b : Bool} (h : Fz K F v d) (e : Y.tru d = some b) : TruV K v F b := by
  cases h with
  | non => simp [Y.tru] at e; subst e; exact rfl
  | bl c => simp [Y.tru] at e; subst e; exact rfl
  | int i => simp [Y.tru] at e; subst e; exact rfl
  | str s h => simp [Y.tru] at e; subst e; exact ⟨h, rfl⟩
  | ty n => simp [Y.tru] at e
  | nd h hs =>
    rename_i a k vs ds
    have q := hs.emp
    cases k <;> simp only [Y.tru, Option.some.injEq] at e
    case lst => subst e; exact .inl ⟨vs, SqL.of h.1, by rw [q]⟩
    case tup => subst e; exact .inr (.inl ⟨vs, SqT.of h.1, by rw [q]⟩)
    case ktp => subst e; exact .inr (.inl ⟨vs, h.1, by rw [q]⟩)
    case scr => subst e; exact .inl ⟨vs, h.1, by rw [q]⟩
    all_goals cases e
theorem Bz.tru {K : PySem.W.Frag} {F H : Hp} {v : V} {d : D} {b : Bool} (ex : Same F H) (h : Bz K F H v d) (e : Y.tru d = some b) : TruV K v H b := by
  cases h with
  | fz h => exact (h.mono ex).tru e
  | cell o h hs =>
    rename_i a k vs ds
    have q := hs.emp
    cases k <;> simp only [Y.tru, Option.some.injEq] at e
    case lst => subst e; exact .inl ⟨vs, SqL.of h.1, by rw [q]⟩
    case tup => subst e; exact .inr (.inl ⟨vs, SqT.of h.1, by rw [q]⟩)
    case ktp => subst e; exact .inr (.inl ⟨vs, h.1, by rw [q]⟩)
    case scr => subst e; exact .inl ⟨vs, h.1, by rw [q]⟩
    all_goals cases e
def sTru (f : En → R D) : En → R Bool := fun ρ => bnd (f ρ) fun d ρ1 => lift (tru d) ρ1
def sAndT (a b : En → R Bool) : En → R Bool := fun ρ => bnd (a ρ) fun c ρ1 => if c = true then b ρ1 else .ok false ρ1
def sOrT (a b : En → R Bool) : En → R Bool := fun ρ => bnd (a ρ) fun c ρ1 => if c = true then .ok true ρ1 else b ρ1
def sNotT (a : En → R Bool) : En → R Bool := fun ρ => bnd (a ρ) fun c ρ1 => .ok (!c) ρ1
def sAndV (a b : En → R D) : En → R D := fun ρ => bnd (a ρ) fun d ρ1 => bnd (lift (tru d) ρ1) fun c ρ2 => if c = true then b ρ2 else .ok d ρ2
def sOrV (a b : En → R D) : En → R D := fun ρ => bnd (a ρ) fun d ρ1 => bnd (lift (tru d) ρ1) fun c ρ2 => if c = true then .ok d ρ2 else b ρ2
def sNotV (a : En → R D) : En → R D := fun ρ => bnd (a ρ) fun d ρ1 => lift ((tru d).map fun c => D.bl (!c)) ρ1
def sIf {α : Type} (t : En → R Bool) (a b : En → R α) : En → R α := fun ρ => bnd (t ρ) fun c ρ1 => if c = true then a ρ1 else b ρ1
section
variable {X : Cx} {w : Wd} {a b e : Expr} {es rest : List Expr} {fa fb : En → R D} {ft fu : En → R Bool} {pos : Pos}
theorem t_tru (ha : PE X a (cB X.K w fa)) (he : ∀ whole, isTrue a X.env whole = (do let v ← whole; standAt a.pos; holding [v] (truthy v)) := by intro _; rfl) : PT X a (cT X.K w (sTru fa)) :=
  ptI (pt_truth ha he) fun σ H Q h => by
    obtain ⟨F, ρ, fp, s, h⟩ := h
    refine ⟨F, ρ, fp, s, h.bnd fun d ρ1 F1 H1 fp1 t1 h1 => fun v s1 z => ?_⟩
    obtain ⟨b, e, n⟩ := h1.lift
    exact ⟨b, z.tru s1.ex e, n F1 H1 fp1 .refl s1⟩
theorem w_and1 (h : PT X a (cT X.K w ft)) : PW X (.BoolOp .And [a] pos) (cT X.K w ft) := pw_and1 h
theorem w_or1 (h : PT X a (cT X.K w ft)) : PW X (.BoolOp .Or [a] pos) (cT X.K w ft) := pw_or1 h
theorem w_and (ha : PT X a (cT X.K w ft)) (hb : PW X (.BoolOp .And (b :: rest) pos) (cT X.K w fu)) : PW X (.BoolOp .And (a :: b :: rest) pos) (cT X.K w (sAndT ft fu)) :=
  pwI (pw_and ha hb) fun σ H Q h => by
    obtain ⟨F, ρ, fp, s, h⟩ := h
    refine ⟨F, ρ, fp, s, h.bnd fun c ρ1 F1 H1 fp1 t1 h1 => fun s1 => ?_⟩
    cases c with
    | true => exact iteT ⟨F1, ρ1, fp1, s1, (by simpa using h1)⟩
    | false =>
      have h2 : Pst X.K w F1 H1 fp1 σ (R.ok false ρ1) (nT X.K w σ Q) := by simpa using h1
      exact iteF (h2 F1 H1 fp1 .refl s1)
theorem w_or (ha : PT X a (cT X.K w ft)) (hb : PW X (.BoolOp .Or (b :: rest) pos) (cT X.K w fu)) : PW X (.BoolOp .Or (a :: b :: rest) pos) (cT X.K w (sOrT ft fu)) :=
  pwI (pw_or ha hb) fun σ H Q h => by
    obtain ⟨F, ρ, fp, s, h⟩ := h
    refine ⟨F, ρ, fp, s, h.bnd fun c ρ1 F1 H1 fp1 t1 h1 => fun s1 => ?_⟩
    cases c with
    | true =>
      have h2 : Pst X.K w F1 H1 fp1 σ (R.ok true ρ1) (nT X.K w σ Q) := by simpa using h1
      exact iteT (h2 F1 H1 fp1 .refl s1)
    | false => exact iteF ⟨F1, ρ1, fp1, s1, (by simpa using h1)⟩
theorem t_not (ha : PT X a (cT X.K w ft)) : PT X (.UnaryOp .Not a pos) (cT X.K w (sNotT ft)) :=
  ptI (pt_not ha) fun σ H Q h => by
    obtain ⟨F, ρ, fp, s, h⟩ := h
    exact ⟨F, ρ, fp, s, h.bnd fun c ρ1 F1 H1 fp1 t1 h1 => fun s1 => h1 F1 H1 fp1 .refl s1⟩
theorem d_one {op} (h : PE X a (cF X.K w fa)) : PE X (.BoolOp op [a] pos) (cF X.K w fa) := pe_one h
theorem d_and (ha : PE X a (cF X.K w fa)) (hb : PE X (.BoolOp .And (b :: rest) pos) (cF X.K w fb)) : PE X (.BoolOp .And (a :: b :: rest) pos) (cF X.K w (sAndV fa fb)) :=
  peI (pe_andT ha hb) fun σ H Q h => by
    obtain ⟨F, ρ, fp, s, h⟩ := h
    refine ⟨F, ρ, fp, s, h.bnd fun d ρ1 F1 H1 fp1 t1 h1 => fun v s1 z => ?_⟩
    obtain ⟨c, e, h2⟩ := (h1.bnd (N := fun t ρ3 F3 H3 fp3 => Pst X.K w F3 H3 fp3 σ (if t = true then fb ρ3 else .ok d ρ3) (nF X.K w σ Q)) fun _ _ _ _ _ _ n => n).lift
    have h3 := h2 F1 H1 fp1 .refl
    refine ⟨c, (z.mono s1.ex).tru e, ?_⟩
    cases c with
    | true => exact iteT ⟨F1, ρ1, fp1, s1, (by simpa using h3)⟩
    | false =>
      have h4 : Pst X.K w F1 H1 fp1 σ (R.ok d ρ1) (nF X.K w σ Q) := by simpa using h3
      exact iteF (h4 F1 H1 fp1 .refl v s1 z)
theorem d_or (ha : PE X a (cF X.K w fa)) (hb : PE X (.BoolOp .Or (b :: rest) pos) (cF X.K w fb)) : PE X (.BoolOp .Or (a :: b :: rest) pos) (cF X.K w (sOrV fa fb)) :=
  peI (pe_orT ha hb) fun σ H Q h => by
    obtain ⟨F, ρ, fp, s, h⟩ := h
    refine ⟨F, ρ, fp, s, h.bnd fun d ρ1 F1 H1 fp1 t1 h1 => fun v s1 z => ?_⟩
    obtain ⟨c, e, h2⟩ := (h1.bnd (N := fun t ρ3 F3 H3 fp3 => Pst X.K w F3 H3 fp3 σ (if t = true then .ok d ρ3 else fb ρ3) (nF X.K w σ Q)) fun _ _ _ _ _ _ n => n).lift
    have h3 := h2 F1 H1 fp1 .refl
    refine ⟨c, (z.mono s1.ex).tru e, ?_⟩
    cases c with
    | true =>
      have h4 : Pst X.K w F1 H1 fp1 σ (R.ok d ρ1) (nF X.K w σ Q) := by simpa using h3
      exact iteT (h4 F1 H1 fp1 .refl v s1 z)
    | false => exact iteF ⟨F1, ρ1, fp1, s1, (by simpa using h3)⟩
theorem d_not (ha : PE X a (cB X.K w fa)) : PE X (.UnaryOp .Not a pos) (cF X.K w (sNotV fa)) :=
  peI (pe_notT ha) fun σ H Q h => by
    obtain ⟨F, ρ, fp, s, h⟩ := h
    refine ⟨F, ρ, fp, s, h.bnd fun d ρ1 F1 H1 fp1 t1 h1 => fun v s1 z => ?_⟩
    obtain ⟨q, e, n⟩ := h1.lift
    obtain ⟨c, e2, rfl⟩ := Option.map_eq_some_iff.mp e
    exact ⟨c, z.tru s1.ex e2, n F1 H1 fp1 .refl _ s1 (.bl _)⟩
theorem ifx {K : PySem.W.Frag} {ta tb : TE} {C : (En → R D) → TE} (n : St → VK → D → En → Hp → Hp → List Addr → Prop) (hC : ∀ f σ H Q, C f σ H Q ↔ ∃ F ρ fp, StaW K w F H σ ρ fp ∧ Pst K w F H fp σ (f ρ) (n σ Q)) {σ : St} {H : Hp} {Q : VK} (h : C (sIf ft fa fb) σ H Q) : tIf (cT K w ft) (C fa) (C fb) σ H Q := by
  obtain ⟨F, ρ, fp, s, h⟩ := (hC _ _ _ _).mp h
  refine ⟨F, ρ, fp, s, h.bnd fun c ρ1 F1 H1 fp1 t1 h1 => fun s1 => ?_⟩
  cases c with
  | true => exact iteT ((hC _ _ _ _).mpr ⟨F1, ρ1, fp1, s1, (by simpa using h1)⟩)
  | false => exact iteF ((hC _ _ _ _).mpr ⟨F1, ρ1, fp1, s1, (by simpa using h1)⟩)
theorem d_if {c : Expr} (hc : PT X c (cT X.K w ft)) (ha : PE X a (cF X.K w fa)) (hb : PE X b (cF X.K w fb)) : PE X (.IfExp c a b pos) (cF X.K w (sIf ft fa fb)) :=
  peI (pe_ifExp hc ha hb) fun σ H Q h => ifx (C := cF X.K w) (ta := cF X.K w fa) (tb := cF X.K w fb) (fun σ Q => nF X.K w σ Q) (fun _ _ _ _ => Iff.rfl) h
theorem d_ifO {c : Expr} (hc : PT X c (cT X.K w ft)) (ha : PE X a (cO X.K w fa)) (hb : PE X b (cO X.K w fb)) : PE X (.IfExp c a b pos) (cO X.K w (sIf ft fa fb)) :=
  peI (pe_ifExp hc ha hb) fun σ H Q h => ifx (C := cO X.K w) (ta := cO X.K w fa) (tb := cO X.K w fb) (fun σ Q => nO X.K w σ Q) (fun _ _ _ _ => Iff.rfl) h
end

/-! ### argument lists, displays -/
def sNil : En → R (List D) := fun ρ => .ok [] ρ
def sCons (a : En → R D) (b : En → R (List D)) : En → R (List D) := fun ρ => bnd (a ρ) fun d ρ1 => bnd (b ρ1) fun ds ρ2 => .ok (d :: ds) ρ2
def sMk (k : Kd) (f : En → R (List D)) : En → R D := fun ρ => bnd (f ρ) fun ds ρ1 => lift (if ds.length ≤ sizeLine then some (.nd k ds) else none) ρ1
section
variable {X : Cx} {w : Wd} {a b e : Expr} {es rest : List Expr} {fa fb : En → R D} {fs : En → R (List D)} {pos : Pos}
theorem a_nil : PA X [] (cA X.K w sNil) := paI pa_nil fun σ H Q h => by
  obtain ⟨F, ρ, fp, s, h⟩ := h
  exact h F H fp .refl [] s .nil
theorem a_cons (ha : PE X e (cF X.K w fa)) (hr : PA X es (cA X.K w fs)) (hs : starEach (e :: es) X.env = (false, eval e X.env) :: starEach es X.env := by rfl) : PA X (e :: es) (cA X.K w (sCons fa fs)) :=
  paI (pa_cons ha hr hs) fun σ H Q h => by
    obtain ⟨F, ρ, fp, s, h⟩ := h
    refine ⟨F, ρ, fp, s, h.bnd fun d ρ1 F1 H1 fp1 t1 h1 => fun v s1 z => ⟨F1, ρ1, fp1, s1, h1.bnd fun ds ρ2 F2 H2 fp2 t2 h2 => fun vs s2 zs => ?_⟩⟩
    exact h2 F2 H2 fp2 .refl (v :: vs) s2 (.cons (z.mono t2.ex) zs)
theorem d_tup {x1} (h : PA X es (cA X.K w fs)) : PE X (.Tuple es x1 pos) (cF X.K w (sMk .tup fs)) :=
  peI (pe_tup h) fun σ H Q h => by
    obtain ⟨F, ρ, fp, s, h⟩ := h
    refine ⟨F, ρ, fp, s, h.bnd fun ds ρ1 F1 H1 fp1 t1 h1 => fun vs s1 z => ?_⟩
    obtain ⟨d, e, n⟩ := h1.lift
    split at e
    · rename_i hl
      cases e
      have hl' : vs.length ≤ sizeLine := by rw [z.length]; exact hl
      exact ⟨hl', fun p hp => (fin_new s1 n).2 p .tup vs ds _ rfl hp (if_pos hl') z⟩
    · cases e
theorem d_lst (h : PA X es (cA X.K w fs)) : PE X (.List es pos) (cO X.K w (sMk .lst fs)) :=
  peI (pe_lst h) fun σ H Q h => by
    obtain ⟨F, ρ, fp, s, h⟩ := h
    refine ⟨F, ρ, fp, s, h.bnd fun ds ρ1 F1 H1 fp1 t1 h1 => fun vs s1 z => ?_⟩
    obtain ⟨d, e, n⟩ := h1.lift
    split at e
    · rename_i hl
      cases e
      have hl' : vs.length ≤ sizeLine := by rw [z.length]; exact hl
      exact ⟨hl', fun p hp => fin_newO s1 n p .lst vs ds _ rfl rfl hp (if_pos hl') z⟩
    · cases e
theorem d_dict0 : PE X (.Dict [] [] pos) (cO X.K w (sC (.nd (.dK []) []))) := peI pe_dnewK fun σ H Q h => by
  obtain ⟨F, ρ, fp, s, h⟩ := h
  exact fun d hd => fin_newO s h d (.dK []) [] [] (.dK []) rfl rfl hd rfl .nil
theorem d_dict0T : PE X (.Dict [] [] pos) (cO X.K w (sC (.nd (.dT []) []))) := peI pe_dnewT fun σ H Q h => by
  obtain ⟨F, ρ, fp, s, h⟩ := h
  exact fun d hd => fin_newO s h d (.dT []) [] [] (.dT []) rfl rfl hd rfl .nil
end

/-! ### built-ins called by their names -/
/-- one argument, read now -/
def C1 (K : PySem.W.Frag) (r : List V → Hp → VK → Prop) (g : D → Option D) : Prop := ∀ F H x dx d Q, Same F H → Bz K F H x dx → g dx = some d →
  (∀ v, Fz K F v d → Q v H) → (∀ p k vs ds ho, d = .nd k ds → H p = none → mkHO k vs = some ho → Fzs K F vs ds → Q (.ref p) (upd H p ho)) → r [x] H Q
def C1N (K : PySem.W.Frag) (r : List V → Hp → VK → Prop) (g : D → Option D) : Prop := ∀ F H x dx d Q, Same F H → Bz K F H x dx → g dx = some d →
  (∀ p k vs ds ho, d = .nd k ds → owK k = true → H p = none → mkHO k vs = some ho → Fzs K F vs ds → Q (.ref p) (upd H p ho)) → r [x] H Q
/-- any number, frozen -/
def CN (K : PySem.W.Frag) (r : List V → Hp → VK → Prop) (g : List D → Option D) : Prop := ∀ F H xs dxs d Q, Same F H → Fzs K F xs dxs → g dxs = some d →
  (∀ v, Fz K F v d → Q v H) → (∀ p k vs ds ho, d = .nd k ds → H p = none → mkHO k vs = some ho → Fzs K F vs ds → Q (.ref p) (upd H p ho)) → r xs H Q
def s1 (g : D → Option D) (f : En → R D) : En → R D := fun ρ => bnd (f ρ) fun d ρ1 => lift (g d) ρ1
def sN (g : List D → Option D) (f : En → R (List D)) : En → R D := fun ρ => bnd (f ρ) fun d ρ1 => lift (g d) ρ1
section
variable {X : Cx} {w : Wd} {a e : Expr} {es : List Expr} {fa : En → R D} {fs : En → R (List D)} {pos p : Pos} {r : List V → Hp → VK → Prop} {x : Str} {id : String}
theorem tB1 {K : PySem.W.Frag} {σ : St} {H : Hp} {Q : List V → Hp → Prop} {N : D → En → Hp → Hp → List Addr → Prop} {g : D → Option D} (h : ∃ F ρ fp, StaW K w F H σ ρ fp ∧ Pst K w F H fp σ (s1 g fa ρ) N)
    (k : ∀ F H v dx d ρ fp, StaW K w F H σ ρ fp → Bz K F H v dx → g dx = some d → (∀ F' H' fp', Tr F H fp F' H' fp' → N d ρ F' H' fp') → Q [v] H) : tCons (cB K w fa) tNil σ H Q := by
  obtain ⟨F, ρ, fp, s, h⟩ := h
  refine ⟨F, ρ, fp, s, h.bnd fun dx ρ1 F1 H1 fp1 t1 h1 => fun v s1 z => ?_⟩
  obtain ⟨d, e, n⟩ := h1.lift
  exact k F1 H1 v dx d ρ1 fp1 s1 z e n
theorem d_b1 {g : D → Option D} (hc : CallR X (.builtin id) r) (hr : C1 X.K r g) (hg : Gl X x) (hm : X.mg x = none) (hv : bootBuiltins x = some (.builtin id)) (ha : PE X a (cB X.K w fa)) (hn : x ≠ "__name__" := by decide) (hd : (x == ("__debug__" : Str)) = false := by decide) (hs : starEach [a] X.env = (false, eval a X.env) :: starEach [] X.env := by rfl) (hpl : (backTo pos (starEach [] X.env)).any (·.1) = false := by rfl) :
    PE X (.Call (.Name x p) [a] [] pos) (cF X.K w (s1 g fa)) := peI (pe_callB hc hg hm hv (pa_cons ha pa_nil hs) hn hd hs hpl) fun σ H Q h =>
  tB1 h fun F H v dx d ρ fp s z e n => hr F H v dx d Q s.ex z e (fin_new s n).1 (fin_new s n).2
theorem d_t1 {g : D → Option D} (hc : CallR X (.type id) r) (hr : C1 X.K r g) (hg : Gl X x) (hm : X.mg x = none) (hv : bootBuiltins x = some (.type id)) (ha : PE X a (cB X.K w fa)) (hn : x ≠ "__name__" := by decide) (hd : (x == ("__debug__" : Str)) = false := by decide) (hs : starEach [a] X.env = (false, eval a X.env) :: starEach [] X.env := by rfl) (hpl : (backTo pos (starEach [] X.env)).any (·.1) = false := by rfl) :
    PE X (.Call (.Name x p) [a] [] pos) (cF X.K w (s1 g fa)) := peI (pe_callTy hc hg hm hv (pa_cons ha pa_nil hs) hn hd hs hpl) fun σ H Q h =>
  tB1 h fun F H v dx d ρ fp s z e n => hr F H v dx d Q s.ex z e (fin_new s n).1 (fin_new s n).2
theorem d_b1O {g : D → Option D} (hc : CallR X (.builtin id) r) (hr : C1N X.K r g) (hg : Gl X x) (hm : X.mg x = none) (hv : bootBuiltins x = some (.builtin id)) (ha : PE X a (cB X.K w fa)) (hn : x ≠ "__name__" := by decide) (hd : (x == ("__debug__" : Str)) = false := by decide) (hs : starEach [a] X.env = (false, eval a X.env) :: starEach [] X.env := by rfl) (hpl : (backTo pos (starEach [] X.env)).any (·.1) = false := by rfl) :
    PE X (.Call (.Name x p) [a] [] pos) (cO X.K w (s1 g fa)) := peI (pe_callB hc hg hm hv (pa_cons ha pa_nil hs) hn hd hs hpl) fun σ H Q h =>
  tB1 h fun F H v dx d ρ fp s z e n => hr F H v dx d Q s.ex z e (fin_newO s n)
theorem d_t1O {g : D → Option D} (hc : CallR X (.type id) r) (hr : C1N X.K r g) (hg : Gl X x) (hm : X.mg x = none) (hv : bootBuiltins x = some (.type id)) (ha : PE X a (cB X.K w fa)) (hn : x ≠ "__name__" := by decide) (hd : (x == ("__debug__" : Str)) = false := by decide) (hs : starEach [a] X.env = (false, eval a X.env) :: starEach [] X.env := by rfl) (hpl : (backTo pos (starEach [] X.env)).any (·.1) = false := by rfl) :
    PE X (.Call (.Name x p) [a] [] pos) (cO X.K w (s1 g fa)) := peI (pe_callTy hc hg hm hv (pa_cons ha pa_nil hs) hn hd hs hpl) fun σ H Q h =>
  tB1 h fun F H v dx d ρ fp s z e n => hr F H v dx d Q s.ex z e (fin_newO s n)
theorem d_bN {g : List D → Option D} (hc : CallR X (.builtin id) r) (hr : CN X.K r g) (hg : Gl X x) (hm : X.mg x = none) (hv : bootBuiltins x = some (.builtin id)) (ha : PA X (e :: es) (cA X.K w fs)) (hn : x ≠ "__name__" := by decide) (hd : (x == ("__debug__" : Str)) = false := by decide) (hs : starEach (e :: es) X.env = (false, eval e X.env) :: starEach es X.env := by rfl) (hpl : (backTo pos (starEach es X.env)).any (·.1) = false := by rfl) :
    PE X (.Call (.Name x p) (e :: es) [] pos) (cF X.K w (sN g fs)) := peI (pe_callB hc hg hm hv ha hn hd hs hpl) fun σ H Q h => by
  obtain ⟨F, ρ, fp, s, h⟩ := h
  refine ⟨F, ρ, fp, s, h.bnd fun ds ρ1 F1 H1 fp1 t1 h1 => fun vs s1 z => ?_⟩
  obtain ⟨d, e, n⟩ := h1.lift
  exact hr F1 H1 vs ds d Q s1.ex z e (fin_new s1 n).1 (fin_new s1 n).2
end
end Y

set_option Elab.async false
set_option linter.all false
set_option maxRecDepth 100000
set_option maxHeartbeats 2000000
/-! The operations on values. -/
namespace Y
open PySem L2

mutual
def py : D → PyData
  | .non => .none
  | .bl b => .bool b
  | .int i => .int i
  | .str s => .str s
  | .ty _ => .none
  | .nd .tup ds => .tuple (pys ds)
  | .nd .lst ds => .list (pys ds)
  | .nd .scr ds => .list (pys ds)
  | .nd .ktp ds => .tuple (pys ds)
  | .nd _ _ => .none
def pys : List D → List PyData
  | [] => []
  | d :: ds => py d :: pys ds
end
/-- no dict, no class within -/
def strG (s : Str) : Bool := PyData.canLay0 (.str s)
mutual
def okD : D → Bool
  | .str s => strG s
  | .ty _ => false
  | .nd .tup ds => okDs ds
  | .nd .lst ds => okDs ds
  | .nd .scr ds => okDs ds
  | .nd .ktp ds => okDs ds
  | .nd _ _ => false
  | _ => true
def okDs : List D → Bool
  | [] => true
  | d :: ds => okD d && okDs ds
end
def dok (d : D) : Bool := okD d && decide ((py d).depth ≤ 64)
mutual
theorem canLay_ok : ∀ d : D, okD d = true → (py d).canLay0 = true
  | .non, _ => by simp [py, PyData.canLay0]
  | .bl _, _ => by simp [py, PyData.canLay0]
  | .int _, _ => by simp [py, PyData.canLay0]
  | .str s, h => by simpa [py, okD, strG] using h
  | .ty _, h => by simp [okD] at h
  | .nd k ds, h => by
    cases k with
    | tup => simp only [py, PyData.canLay0]; exact canLays_ok ds (by simpa [okD] using h)
    | lst => simp only [py, PyData.canLay0]; exact canLays_ok ds (by simpa [okD] using h)
    | scr => simp only [py, PyData.canLay0]; exact canLays_ok ds (by simpa [okD] using h)
    | ktp => simp only [py, PyData.canLay0]; exact canLays_ok ds (by simpa [okD] using h)
    | dK _ => simp [okD] at h
    | dT _ => simp [okD] at h
theorem canLays_ok : ∀ ds : List D, okDs ds = true → PyData.canLayAll0 (pys ds) = true
  | [], _ => by simp [pys, PyData.canLayAll0]
  | d :: ds, h => by
    have h' : okD d = true ∧ okDs ds = true := by simpa [okDs] using h
    simp [pys, PyData.canLayAll0, canLay_ok d h'.1, canLays_ok ds h'.2]
end
theorem shaped_ok {d : D} (h : dok d = true) : SeqAt.shaped (py d) = true := by
  have h' : okD d = true ∧ (py d).depth ≤ 64 := by simpa [dok] using h
  show ((py d).canLay0 && decide ((py d).depth ≤ 64)) = true
  rw [canLay_ok d h'.1, decide_eq_true h'.2]
  rfl
section
variable {K : PySem.W.Frag} {F H : Hp}
mutual
theorem Fz.dp : ∀ {v : V} {d : D}, Fz K F v d → okD d = true → Dp K F v (py d)
  | _, _, .non, _ => by simpa [py] using Dp.non
  | _, _, .bl b, _ => by simpa [py] using Dp.bl b
  | _, _, .int i, _ => by simpa [py] using Dp.int i
  | _, _, .str s _, _ => by simpa [py] using Dp.str s
  | _, _, .ty _, h => by simp [okD] at h
  | _, _, .nd (k := k) h hs, o => by
    cases k with
    | tup => simp only [py]; exact .tup (SqT.of h.1) (Fzs.dp hs (by simpa [okD] using o))
    | ktp => simp only [py]; exact .tup h.1 (Fzs.dp hs (by simpa [okD] using o))
    | lst => simp only [py]; exact .lst (SqL.of h.1) (Fzs.dp hs (by simpa [okD] using o))
    | scr => simp only [py]; exact .lst h.1 (Fzs.dp hs (by simpa [okD] using o))
    | dK _ => simp [okD] at o
    | dT _ => simp [okD] at o
theorem Fzs.dp : ∀ {vs : List V} {ds : List D}, Fzs K F vs ds → okDs ds = true → DpAll K F vs (pys ds)
  | _, _, .nil, _ => by simpa [pys] using DpAll.nil
  | _, _, .cons h hs, o => by
    have o' := (Bool.and_eq_true _ _).mp (show (okD _ && okDs _) = true by simpa [okDs] using o)
    simp only [pys]
    exact .cons (Fz.dp h o'.1) (Fzs.dp hs o'.2)
end
theorem Bz.dp (ex : Same F H) {v : V} {d : D} (h : Bz K F H v d) (o : okD d = true) : Dp K H v (py d) := by
  cases h with
  | fz h => exact (h.mono ex).dp o
  | cell o' h hs =>
    rename_i a k vs ds
    have hs' := hs.mono ex
    cases k with
    | tup => simp only [py]; exact .tup (SqT.of h.1) (hs'.dp (by simpa [okD] using o))
    | ktp => simp only [py]; exact .tup h.1 (hs'.dp (by simpa [okD] using o))
    | lst => simp only [py]; exact .lst (SqL.of h.1) (hs'.dp (by simpa [okD] using o))
    | scr => simp only [py]; exact .lst h.1 (hs'.dp (by simpa [okD] using o))
    | dK _ => simp [okD] at o
    | dT _ => simp [okD] at o
theorem Fz.int_inv {v : V} {i : Int} (h : Fz K F v (.int i)) : v = .int i := by cases h; rfl
theorem Fz.bl_inv {v : V} {i : Bool} (h : Fz K F v (.bl i)) : v = .bl i := by cases h; rfl
theorem Fz.str_inv {v : V} {i : Str} (h : Fz K F v (.str i)) : v = .str i ∧ i.length ≤ sizeLine := by cases h; exact ⟨rfl, by assumption⟩
theorem Fz.ty_inv {v : V} {i : String} (h : Fz K F v (.ty i)) : v = .ty i := by cases h; rfl
theorem Fz.non_inv {v : V} (h : Fz K F v .non) : v = .non := by cases h; rfl
theorem Bz.int_inv {v : V} {i : Int} (h : Bz K F H v (.int i)) : v = .int i := by cases h with | fz h => exact h.int_inv
theorem Bz.bl_inv {v : V} {i : Bool} (h : Bz K F H v (.bl i)) : v = .bl i := by cases h with | fz h => exact h.bl_inv
theorem Bz.str_inv {v : V} {i : Str} (h : Bz K F H v (.str i)) : v = .str i ∧ i.length ≤ sizeLine := by cases h with | fz h => exact h.str_inv
theorem Bz.ty_inv {v : V} {i : String} (h : Bz K F H v (.ty i)) : v = .ty i := by cases h with | fz h => exact h.ty_inv
theorem Bz.non_inv {v : V} (h : Bz K F H v .non) : v = .non := by cases h with | fz h => exact h.non_inv
theorem Fz.node (h : Fz K F v (.nd k ds)) : ∃ a vs, v = .ref a ∧ ItemAt K F a k vs ∧ Fzs K F vs ds := by
  cases h with | nd h hs => exact ⟨_, _, rfl, h, hs⟩
end

/-! ### arithmetic -/
def dAdd : D → D → Option D
  | .int a, .int b => some (.int (a + b))
  | .str a, .str b => if a.length + b.length ≤ sizeLine then some (.str (a ++ b)) else none
  | .nd .tup a, .nd .tup b => if a.length + b.length ≤ sizeLine then some (.nd .tup (a ++ b)) else none
  | _, _ => none
def dCat : D → D → Option D
  | .nd .lst a, .nd .lst b => if a.length + b.length ≤ sizeLine then some (.nd .lst (a ++ b)) else none
  | _, _ => none
def dSub : D → D → Option D
  | .int a, .int b => some (.int (a - b))
  | _, _ => none
def dMul : D → D → Option D
  | .int a, .int b => if (-(2 ^ 64) < a ∧ a < 2 ^ 64) ∨ (-(2 ^ 64) < b ∧ b < 2 ^ 64) then some (.int (a * b)) else none
  | _, _ => none
def dDiv : D → D → Option D
  | .int a, .int b => if 0 < b ∧ b < 1073741824 then some (.int (a / b)) else none
  | _, _ => none
def dMod : D → D → Option D
  | .int a, .int b => if 0 < b then some (.int (a % b)) else none
  | _, _ => none
def dPow : D → D → Option D
  | .int a, .int b => if 0 ≤ b ∧ b ≤ 1000000 ∧ a.natAbs < 2 ^ 64 then some (.int (a ^ b.toNat)) else none
  | _, _ => none
def rPlus (K : PySem.W.Frag) : R2 := fun x y H Q => (rI0 fun i j => .int (i + j)) x y H Q ∨ ((∃ i j, x = .str i ∧ y = .str j ∧ i.length + j.length ≤ sizeLine ∧ Q (.str (i ++ j)) H) ∨ rCatA K x y H Q)
section
variable {X : Cx} {K : PySem.W.Frag}
theorem op_plus : OpR X (binaryOp .Add) (rPlus X.K) := op_add.or (op_add_str.or op_catA)
theorem rb_plus : RB K (rPlus K) dAdd := by
  intro F H x y dx dy d Q ex zx zy e old new
  unfold dAdd at e
  split at e
  · cases e
    rw [zx.int_inv, zy.int_inv]
    exact .inl ⟨_, _, rfl, rfl, old _ (.int _)⟩
  · split at e
    · rename_i c
      cases e
      obtain ⟨rfl, _⟩ := zx.str_inv
      obtain ⟨rfl, _⟩ := zy.str_inv
      exact .inr (.inl ⟨_, _, rfl, rfl, c, old _ (.str _ (by rw [PySem.Str.length_append]; exact c))⟩)
    · cases e
  · split at e
    · rename_i xs ys c
      cases e
      obtain ⟨a, vs, rfl, ha, hs⟩ := zx.node
      obtain ⟨b, ws, rfl, hb, gs⟩ := zy.node ex
      have lv := hs.length
      have lw := gs.length
      have c' : vs.length + ws.length ≤ sizeLine := by omega
      refine .inr (.inr ⟨a, b, vs, ws, rfl, rfl, SqT.of (ex _ _ ha.1), SqT.of hb.1, c', fun hx => ?_, fun hx hy => ?_, fun hx hy p hp => ?_⟩)
      · subst hx
        cases hs
        rw [List.nil_append] at old
        cases zy with
        | fz zy => exact old _ zy
        | cell o h g => cases o
      · subst hy
        cases gs
        rw [List.append_nil] at old
        exact old _ zx
      · exact new p .tup (vs ++ ws) (xs ++ ys) _ rfl hp (if_pos (by rw [List.length_append]; exact c')) (hs.append gs)
    · cases e
  · cases e
end

/-! ### more arithmetic -/
section
variable {X : Cx} {K : PySem.W.Frag}
theorem rn_cat : RN K rCat dCat := by
  intro F H x y dx dy d Q ex zx zy e new
  unfold dCat at e
  split at e
  · split at e
    · rename_i xs ys c
      cases e
      obtain ⟨a, vs, rfl, ha, hs⟩ := zx.node
      obtain ⟨b, ws, rfl, hb, gs⟩ := zy.node ex
      have lv := hs.length
      have lw := gs.length
      have c' : vs.length + ws.length ≤ sizeLine := by omega
      exact ⟨a, b, vs, ws, rfl, rfl, ex _ _ ha.1, hb.1, c', fun p hp => new p .lst (vs ++ ws) (xs ++ ys) _ rfl rfl hp (if_pos (by rw [List.length_append]; exact c')) (hs.append gs)⟩
    · cases e
  · cases e
theorem rb_sub : RB K (rI0 fun i j => .int (i - j)) dSub := by
  intro F H x y dx dy d Q ex zx zy e old new
  unfold dSub at e
  split at e
  · cases e
    rw [zx.int_inv, zy.int_inv]
    exact ⟨_, _, rfl, rfl, old _ (.int _)⟩
  · cases e
theorem rb_mul : RB K (rI CMul fun i j => .int (i * j)) dMul := by
  intro F H x y dx dy d Q ex zx zy e old new
  unfold dMul at e
  split at e
  · split at e
    · rename_i c
      cases e
      rw [zx.int_inv, zy.int_inv]
      exact ⟨_, _, rfl, rfl, c, old _ (.int _)⟩
    · cases e
  · cases e
theorem rb_div : RB K (rI CDiv fun i j => .int (i / j)) dDiv := by
  intro F H x y dx dy d Q ex zx zy e old new
  unfold dDiv at e
  split at e
  · split at e
    · rename_i c
      cases e
      rw [zx.int_inv, zy.int_inv]
      exact ⟨_, _, rfl, rfl, c, old _ (.int _)⟩
    · cases e
  · cases e
theorem rb_mod : RB K (rI (fun _ j => 0 < j) fun i j => .int (i % j)) dMod := by
  intro F H x y dx dy d Q ex zx zy e old new
  unfold dMod at e
  split at e
  · split at e
    · rename_i c
      cases e
      rw [zx.int_inv, zy.int_inv]
      exact ⟨_, _, rfl, rfl, c, old _ (.int _)⟩
    · cases e
  · cases e
theorem rb_pow : RB K (rI CPow fun i j => .int (i ^ j.toNat)) dPow := by
  intro F H x y dx dy d Q ex zx zy e old new
  unfold dPow at e
  split at e
  · split at e
    · rename_i c
      cases e
      rw [zx.int_inv, zy.int_inv]
      exact ⟨_, _, rfl, rfl, c, old _ (.int _)⟩
    · cases e
  · cases e
def dNeg : D → Option D
  | .int a => some (.int (-a))
  | _ => none
theorem d_neg {w : Wd} {a : Expr} {fa : En → R D} {pos : Pos} (ha : PE X a (cF X.K w fa)) : PE X (.UnaryOp .USub a pos) (cF X.K w (s1 dNeg fa)) :=
  peI (pe_un un_neg ha) fun σ H Q h => by
    obtain ⟨F, ρ, fp, s, h⟩ := h
    refine ⟨F, ρ, fp, s, h.bnd fun d ρ1 F1 H1 fp1 t1 h1 => fun v s1 z => ?_⟩
    obtain ⟨d', e, n⟩ := h1.lift
    unfold dNeg at e
    split at e
    · cases e
      rw [z.int_inv]
      exact ⟨_, rfl, n F1 H1 fp1 .refl _ s1 (.int _)⟩
    · cases e

/-! ### comparisons -/
def dEq (x y : D) : Option Bool := if dok x = true ∧ dok y = true then some (PyData.eqv (py x) (py y)) else none
def dNe (x y : D) : Option Bool := if dok x = true ∧ dok y = true then some (!PyData.eqv (py x) (py y)) else none
theorem okD_of {d : D} (h : dok d = true) : okD d = true := ((Bool.and_eq_true _ _).mp h).1
theorem rt_eq : RT K (rEqD K) dEq := by
  intro F H x y dx dy b Q ex zx zy e q
  unfold dEq at e
  split at e
  · rename_i c
    cases e
    exact ⟨_, _, (zx.mono ex).dp (okD_of c.1), zy.dp ex (okD_of c.2), shaped_ok c.1, shaped_ok c.2, q⟩
  · cases e
theorem rt_ne : RT K (rNeD K) dNe := by
  intro F H x y dx dy b Q ex zx zy e q
  unfold dNe at e
  split at e
  · rename_i c
    cases e
    exact ⟨_, _, (zx.mono ex).dp (okD_of c.1), zy.dp ex (okD_of c.2), shaped_ok c.1, shaped_ok c.2, q⟩
  · cases e
def cmpI (p : Int → Int → Bool) : D → D → Option Bool
  | .int a, .int b => some (p a b)
  | _, _ => none
theorem rt_int {p : Int → Int → Bool} : RT K (rI0 fun i j => .bl (p i j)) (cmpI p) := by
  intro F H x y dx dy b Q ex zx zy e q
  unfold cmpI at e
  split at e
  · cases e
    rw [zx.int_inv, zy.int_inv]
    exact ⟨_, _, rfl, rfl, q⟩
  · cases e
abbrev dLe := cmpI fun i j => decide (i ≤ j)
abbrev dGt := cmpI fun i j => decide (j < i)
abbrev dGe := cmpI fun i j => decide (j ≤ i)
theorem rt_le : RT K (rI0 fun i j => .bl (decide (i ≤ j))) dLe := rt_int
theorem rt_gt : RT K (rI0 fun i j => .bl (decide (j < i))) dGt := rt_int
theorem rt_ge : RT K (rI0 fun i j => .bl (decide (j ≤ i))) dGe := rt_int
/-- is: None, truths -/
def dIs : D → D → Option Bool
  | .non, .non => some true
  | _, .non => some false
  | .bl a, .bl b => some (decide (a = b))
  | _, _ => none
def rIs : R2 := fun x y H Q => (y = .non ∧ Q (.bl (decide (x = .non))) H) ∨ rIsB x y H Q
def rIsNot : R2 := fun x y H Q => (y = .non ∧ Q (.bl (!decide (x = .non))) H) ∨ rNotB x y H Q
theorem op_is : OpR X (compareOp .Is) rIs := op_isN.or op_isBl
theorem op_isnot : OpR X (compareOp .IsNot) rIsNot := op_notN.or op_notBl
theorem Fz.non_iff {F : Hp} {v : V} {d : D} (z : Fz K F v d) (h : d ≠ .non) : v ≠ .non := by
  intro e
  subst e
  cases z
  exact h rfl
theorem rt_is : RT K rIs dIs := by
  intro F H x y dx dy b Q ex zx zy e q
  unfold dIs at e
  split at e
  · cases e
    rw [zx.non_inv]
    exact .inl ⟨zy.non_inv, q⟩
  · rename_i h
    cases e
    refine .inl ⟨zy.non_inv, ?_⟩
    rw [decide_eq_false (zx.non_iff (by intro e; exact h (by rw [e])))]
    exact q
  · cases e
    rw [zx.bl_inv, zy.bl_inv]
    exact .inr ⟨_, _, rfl, rfl, q⟩
  · cases e
def dIsNot (x y : D) : Option Bool := (dIs x y).map not
theorem rt_isnot : RT K rIsNot dIsNot := by
  intro F H x y dx dy b Q ex zx zy e q
  unfold dIsNot at e
  obtain ⟨c, e, e2⟩ := Option.map_eq_some_iff.mp e
  unfold dIs at e
  split at e
  · cases Option.some.inj e; cases e2
    rw [zx.non_inv]
    exact .inl ⟨zy.non_inv, q⟩
  · rename_i h _
    cases Option.some.inj e; cases e2
    refine .inl ⟨zy.non_inv, ?_⟩
    rw [decide_eq_false (zx.non_iff (by intro e; exact h (by rw [e])))]
    exact q
  · rw [zx.bl_inv, zy.bl_inv]
    refine .inr ⟨_, _, rfl, rfl, ?_⟩
    rw [Option.some.inj e, e2]
    exact q
  · cases e
/-- < of ints, texts, alike tuples -/
def dLt : D → D → Option Bool
  | .int a, .int b => some (decide (a < b))
  | .str a, .str b => some (decide (a.cps.toList < b.cps.toList))
  | .nd .tup a, .nd .tup b => if dok (.nd .tup a) = true ∧ dok (.nd .tup b) = true ∧ PySem.W.alike (py (.nd .tup a)) (py (.nd .tup b)) = true then some (PySem.W.dataLt (py (.nd .tup a)) (py (.nd .tup b))) else none
  | _, _ => none
def rLtD (K : PySem.W.Frag) : R2 := fun x y H Q => ∃ d e, Dp K H x d ∧ Dp K H y e ∧ SeqAt.shaped d = true ∧ SeqAt.shaped e = true ∧ PySem.W.alike d e = true ∧ d ≠ .none ∧ Q (.bl (PySem.W.dataLt d e)) H
theorem op_ltD (hu : X.A.units + 64 < cLine) : OpR X (compareOp .Lt) (rLtD X.K) := by
  intro pins s σ H x y v u Q I rx ry h
  obtain ⟨d, e, hd, he, sd, se, al, nn, q⟩ := h
  obtain ⟨as, r1⟩ := Dp.reads I d x v hd rx
  obtain ⟨bs, r2⟩ := Dp.reads I e y u he ry
  have h1 := SeqAt.depth_of_shaped sd
  exact PySem.W.rcLt_alike d e X.A s v u as bs r1 r2 al nn (by omega) _ _ _ _ ⟨.bl _, H, I, rfl, q⟩
def rLt (K : PySem.W.Frag) : R2 := fun x y H Q => (rI0 fun i j => .bl (decide (i < j))) x y H Q ∨ ((∃ i j, x = .str i ∧ y = .str j ∧ Q (.bl (decide (i.cps.toList < j.cps.toList))) H) ∨ rLtD K x y H Q)
theorem op_lt' (hu : X.A.units + 64 < cLine) : OpR X (compareOp .Lt) (rLt X.K) := op_lt.or (op_lt_str.or (op_ltD hu))
theorem rt_lt : RT K (rLt K) dLt := by
  intro F H x y dx dy b Q ex zx zy e q
  unfold dLt at e
  split at e
  · cases e
    rw [zx.int_inv, zy.int_inv]
    exact .inl ⟨_, _, rfl, rfl, q⟩
  · cases e
    rw [zx.str_inv.1, zy.str_inv.1]
    exact .inr (.inl ⟨_, _, rfl, rfl, q⟩)
  · split at e
    · rename_i c
      cases e
      exact .inr (.inr ⟨_, _, (zx.mono ex).dp (okD_of c.1), zy.dp ex (okD_of c.2.1), shaped_ok c.1, shaped_ok c.2.1, c.2.2, by simp [py], q⟩)
    · cases e
  · cases e
end
end Y

set_option Elab.async false
set_option linter.all false
set_option maxRecDepth 100000
set_option maxHeartbeats 2000000
/-! Dicts by keys; in; built-ins of one value; subscripts. -/
namespace Y
open PySem L2

/-! ### what stands under a key -/
section
variable {κ : Type} [DecidableEq κ]
def getK (ks : List κ) (ds : List D) (k : κ) : Option D := ((ks.zip ds).find? fun p => decide (p.1 = k)).map (·.2)
def putKs (ks : List κ) (k : κ) : List κ := if k ∈ ks then ks else ks ++ [k]
def putDs (ks : List κ) (ds : List D) (k : κ) (d : D) : List D := if k ∈ ks then List.zipWith (fun k' d' => if k' = k then d else d') ks ds else ds ++ [d]
def RelK (K : PySem.W.Frag) (F : Hp) (o : Option D) (r : Option V) : Prop := match o, r with
  | some d, some v => Fz K F v d
  | none, none => True
  | _, _ => False
theorem getK_rel {K : PySem.W.Frag} {F : Hp} : ∀ {vs : List V} {ds : List D} {ks : List κ} {k : κ}, Fzs K F vs ds → RelK K F (getK ks ds k) (valV (ks.zip vs) k)
  | _, _, [], k, _ => by simp [getK, valV, RelK]
  | _, _, k' :: ks, k, .nil => by simp [getK, valV, RelK]
  | v :: vs, d :: ds, k' :: ks, k, .cons h hs => by
    have ih := getK_rel (ks := ks) (k := k) hs
    by_cases e : k' = k
    · have e1 : getK (k' :: ks) (d :: ds) k = some d := by simp [getK, List.find?_cons, e]
      have e2 : valV ((k' :: ks).zip (v :: vs)) k = some v := by simp [valV, List.find?_cons, e]
      rw [e1, e2]
      exact h
    · have e1 : getK (k' :: ks) (d :: ds) k = getK ks ds k := by simp [getK, List.find?_cons, e]
      have e2 : valV ((k' :: ks).zip (v :: vs)) k = valV (ks.zip vs) k := by simp [valV, List.find?_cons, e]
      rw [e1, e2]
      exact ih
theorem mem_zip_keys : ∀ {ks : List κ} {vs : List V} {k : κ}, ks.length = vs.length → ((ks.zip vs).any fun kv => decide (kv.1 = k)) = decide (k ∈ ks)
  | [], _, k, _ => by simp
  | k' :: ks, [], k, h => by simp at h
  | k' :: ks, v :: vs, k, h => by
    have ih := mem_zip_keys (ks := ks) (vs := vs) (k := k) (by simpa using h)
    rw [List.zip_cons_cons, List.any_cons, ih]
    by_cases e : k' = k
    · simp [e]
    · have e' : ¬ k = k' := fun z => e z.symm
      simp [e, e', List.mem_cons]
theorem zip_map_put : ∀ (ks : List κ) (vs : List V) (k : κ) (v : V), ((ks.zip vs).map fun kv => if kv.1 = k then (kv.1, v) else kv) = ks.zip (List.zipWith (fun k' v' => if k' = k then v else v') ks vs)
  | [], _, _, _ => by simp
  | _ :: _, [], _, _ => by simp
  | k' :: ks, v' :: vs, k, v => by
    simp only [List.zip_cons_cons, List.map_cons, List.zipWith_cons_cons, zip_map_put ks vs k v]
    by_cases e : k' = k <;> simp [e]
theorem fzs_put {K : PySem.W.Frag} {F : Hp} {v : V} {d : D} {k : κ} (h : Fz K F v d) : ∀ {ks : List κ} {vs : List V} {ds : List D}, Fzs K F vs ds → Fzs K F (List.zipWith (fun k' v' => if k' = k then v else v') ks vs) (List.zipWith (fun k' d' => if k' = k then d else d') ks ds)
  | [], _, _, _ => by simpa using Fzs.nil
  | _ :: _, _, _, .nil => by simpa using Fzs.nil
  | k' :: ks, _, _, .cons g gs => by
    simp only [List.zipWith_cons_cons]
    refine .cons ?_ (fzs_put h gs)
    split
    · exact h
    · exact g
def putVs (ks : List κ) (vs : List V) (k : κ) (v : V) : List V := if k ∈ ks then List.zipWith (fun k' v' => if k' = k then v else v') ks vs else vs ++ [v]
theorem putK_zip {ks : List κ} {vs : List V} {k : κ} {v : V} (hl : ks.length = vs.length) : putK (ks.zip vs) k v = (putKs ks k).zip (putVs ks vs k v) := by
  unfold putK putKs putVs
  rw [mem_zip_keys hl]
  by_cases e : k ∈ ks
  · simp only [e, decide_true, if_true]
    exact zip_map_put ks vs k v
  · simp only [e, decide_false, if_false, Bool.false_eq_true]
    rw [List.zip_append hl]
    rfl
theorem putKs_len {ks : List κ} {vs : List V} {k : κ} {v : V} (hl : ks.length = vs.length) : (putKs ks k).length = (putVs ks vs k v).length := by
  unfold putKs putVs
  split
  · simp [hl]
  · simp [hl]
theorem putVs_le {ks : List κ} {vs : List V} {k : κ} {v : V} : (putVs ks vs k v).length ≤ vs.length + 1 := by
  unfold putVs
  split
  · simp; omega
  · simp
theorem fzs_putVs {K : PySem.W.Frag} {F : Hp} {v : V} {d : D} {k : κ} (h : Fz K F v d) {ks : List κ} {vs : List V} {ds : List D} (hs : Fzs K F vs ds) : Fzs K F (putVs ks vs k v) (putDs ks ds k d) := by
  unfold putVs putDs
  split
  · exact fzs_put h hs
  · exact hs.append (.cons h .nil)
end

def keyD : D → Option Key
  | .int i => some (.inl i)
  | .str s => some (.inr s)
  | _ => none
def keysD : List D → Option (List Key)
  | [] => some []
  | d :: ds => match keyD d, keysD ds with
    | some k, some ks => some (k :: ks)
    | _, _ => none
theorem keyD_rel {K : PySem.W.Frag} {F : Hp} {v : V} {d : D} {k : Key} (h : Fz K F v d) (e : keyD d = some k) : v = kV k := by
  unfold keyD at e
  split at e
  · cases e; exact h.int_inv
  · cases e; exact h.str_inv.1
  · cases e
theorem keysD_rel {K : PySem.W.Frag} {F : Hp} : ∀ {vs : List V} {ds : List D} {ks : List Key}, Fzs K F vs ds → keysD ds = some ks → vs = ks.map kV
  | _, _, ks, .nil, e => by simp [keysD] at e; subst e; rfl
  | _, _, ks, .cons (d := d) (ds := ds) h hs, e => by
    unfold keysD at e
    split at e
    · rename_i k ks' e1 e2
      cases e
      rw [keyD_rel h e1, keysD_rel hs e2]
      rfl
    · cases e
/-- look-up in a dict's value: some none: not there -/
def lookD : D → D → Option (Option D)
  | .nd (.dK ks) ds, k => (keyD k).map fun q => getK ks ds q
  | .nd (.dT ks) ds, .nd .tup xs => (keysD xs).map fun q => getK ks ds q
  | _, _ => none
theorem lookD_rel {K : PySem.W.Frag} {F H : Hp} {v y : V} {d dy : D} {o : Option D} (ex : Same F H) (h : Bz K F H v d) (hy : Fz K F y dy) (e : lookD d dy = some o) :
    ∃ a r, v = .ref a ∧ DGet H a y r ∧ RelK K F o r := by
  cases d with
  | nd k ds =>
    cases k with
    | dK ks =>
      simp only [lookD] at e
      obtain ⟨q, e1, rfl⟩ := Option.map_eq_some_iff.mp e
      obtain ⟨a, vs, rfl, hi, hs⟩ := h.node ex
      exact ⟨a, valV (ks.zip vs) q, rfl, .inl ⟨_, q, hi.2.1, keyD_rel hy e1, rfl⟩, getK_rel hs⟩
    | dT ks =>
      cases dy with
      | nd k2 xs =>
        cases k2 with
        | tup =>
          simp only [lookD] at e
          obtain ⟨q, e1, rfl⟩ := Option.map_eq_some_iff.mp e
          obtain ⟨a, vs, rfl, hi, hs⟩ := h.node ex
          obtain ⟨b, ws, rfl, hb, gs⟩ := hy.node
          refine ⟨a, valV (ks.zip vs) q, rfl, .inr ⟨_, q, b, hi.2.1, rfl, ?_, rfl⟩, getK_rel hs⟩
          rw [← keysD_rel gs e1]
          exact ex _ _ hb.1
        | _ => simp [lookD] at e
      | _ => simp [lookD] at e
    | _ => simp [lookD] at e
  | _ => simp [lookD] at e
end Y

set_option Elab.async false
set_option linter.all false
set_option maxRecDepth 100000
set_option maxHeartbeats 2000000
/-! in, built-ins of one value, subscripts, slices. -/
namespace Y
open PySem L2
section
variable {X : Cx} {K : PySem.W.Frag}
/-! ### in -/
def dIn : D → D → Option Bool
  | .str a, .str b => match a.cps.toList with
    | [c] => some (decide (c ∈ b.cps.toList))
    | _ => none
  | x, .nd .lst ds => if dok x = true ∧ dok (.nd .lst ds) = true then some (ds.any fun z => PyData.eqv (py z) (py x)) else none
  | x, .nd .tup ds => if dok x = true ∧ dok (.nd .tup ds) = true then some (ds.any fun z => PyData.eqv (py z) (py x)) else none
  | x, .nd .ktp ds => if dok x = true ∧ dok (.nd .ktp ds) = true then some (ds.any fun z => PyData.eqv (py z) (py x)) else none
  | x, .nd (.dK ks) ds => (lookD (.nd (.dK ks) ds) x).map (·.isSome)
  | x, .nd (.dT ks) ds => (lookD (.nd (.dT ks) ds) x).map (·.isSome)
  | _, _ => none
def rInU (K : PySem.W.Frag) (neg : Bool) : R2 := fun x y H Q => ∃ d ds, Dp K H x d ∧ Dp K H y (.tuple ds) ∧ SeqAt.shaped d = true ∧ SeqAt.shaped (.tuple ds) = true ∧ Q (.bl (if neg then !(ds.any fun z => PyData.eqv z d) else (ds.any fun z => PyData.eqv z d))) H
theorem shaped_lay {ds : List PyData} (h : SeqAt.shaped (.tuple ds) = true) : PyData.canLayAll0 ds = true := by
  have := SeqAt.canLay_of_shaped h
  simpa [PyData.canLay0] using this
theorem op_inU (hu : X.A.units + 65 < cLine) : OpR X (compareOp .In) (rInU X.K false) := by
  intro pins s σ H x y v u Q I rx ry h
  obtain ⟨d, ds, hd, he, sd, se, q⟩ := h
  obtain ⟨as, r1⟩ := Dp.reads I d x v hd rx
  obtain ⟨bs, r2⟩ := Dp.reads I (.tuple ds) y u he ry
  exact SeqAt.in_tuple_reads r2 r1 (shaped_lay se) (SeqAt.canLay_of_shaped sd) (PyProof.Rows.room_in_shaped sd hu) ⟨.bl _, H, I, rfl, q⟩
theorem op_notInU (hu : X.A.units + 65 < cLine) : OpR X (compareOp .NotIn) (rInU X.K true) := by
  intro pins s σ H x y v u Q I rx ry h
  obtain ⟨d, ds, hd, he, sd, se, q⟩ := h
  obtain ⟨as, r1⟩ := Dp.reads I d x v hd rx
  obtain ⟨bs, r2⟩ := Dp.reads I (.tuple ds) y u he ry
  exact SeqAt.notIn_tuple_reads r2 r1 (shaped_lay se) (SeqAt.canLay_of_shaped sd) (PyProof.Rows.room_in_shaped sd hu) ⟨.bl _, H, I, rfl, q⟩
def rInDct (neg : Bool) : R2 := fun x y H Q => ∃ a o, y = .ref a ∧ DGet H a x o ∧ Q (.bl (if neg then !o.isSome else o.isSome)) H
theorem op_inDct (hu : X.A.units + 1 < cLine) : OpR X (compareOp .In) (rInDct false) := by
  intro pins s σ H x y v u Q I rx ry h
  obtain ⟨a, o, rfl, g, q⟩ := h
  cases ry
  exact d_in hu I g rx fun s' I' => ⟨.bl _, H, I', rfl, q⟩
theorem op_notInDct (hu : X.A.units + 1 < cLine) : OpR X (compareOp .NotIn) (rInDct true) := by
  intro pins s σ H x y v u Q I rx ry h
  obtain ⟨a, o, rfl, g, q⟩ := h
  cases ry
  exact d_notIn hu I g rx fun s' I' => ⟨.bl _, H, I', rfl, q⟩
def rInA (K : PySem.W.Frag) : R2 := fun x y H Q => (∃ (c : Nat) (z : Str), x = .str ⟨#[c]⟩ ∧ y = .str z ∧ Q (.bl (decide (c ∈ z.cps.toList))) H) ∨ (rInD K x y H Q ∨ (rInU K false x y H Q ∨ rInDct false x y H Q))
def rNotInA (K : PySem.W.Frag) : R2 := fun x y H Q => (∃ (c : Nat) (z : Str), x = .str ⟨#[c]⟩ ∧ y = .str z ∧ Q (.bl (!decide (c ∈ z.cps.toList))) H) ∨ (rNotInD K x y H Q ∨ (rInU K true x y H Q ∨ rInDct true x y H Q))
theorem op_in' (hu : X.A.units + 65 < cLine) : OpR X (compareOp .In) (rInA X.K) := op_in_sign.or ((op_inD hu).or ((op_inU hu).or (op_inDct (by omega))))
theorem op_notin' (hu : X.A.units + 65 < cLine) : OpR X (compareOp .NotIn) (rNotInA X.K) := op_notIn_sign.or ((op_notInD hu).or ((op_notInU hu).or (op_notInDct (by omega))))
theorem pys_any (ds : List D) (f : PyData → Bool) : (pys ds).any f = ds.any fun z => f (py z) := by
  induction ds with
  | nil => rfl
  | cons d ds ih => simp [pys, ih]
theorem RelK.isSome {F : Hp} {o : Option D} {r : Option V} (h : RelK K F o r) : r.isSome = o.isSome := by
  cases o <;> cases r <;> first | rfl | exact h.elim
theorem dp_nd {F H : Hp} {y : V} {k : Kd} {ds : List D} (ex : Same F H) (zy : Bz K F H y (.nd k ds)) (c : dok (.nd k ds) = true) : Dp K H y (py (.nd k ds)) := zy.dp ex (okD_of c)
theorem one_sign {a : Str} {c : Nat} (h : a.cps.toList = [c]) : a = ⟨#[c]⟩ := by
  cases a with
  | mk cps => exact congrArg Str.mk (by rw [← Array.toArray_toList (xs := cps), h])
theorem in_cases {x d : D} {b : Bool} (e : dIn x d = some b) :
    (∃ c z, x = .str ⟨#[c]⟩ ∧ d = .str z ∧ b = decide (c ∈ z.cps.toList)) ∨ (∃ ds, d = .nd .lst ds ∧ dok x = true ∧ dok (.nd .lst ds) = true ∧ b = ds.any fun z => PyData.eqv (py z) (py x)) ∨
    (∃ k ds, (k = .tup ∨ k = .ktp) ∧ d = .nd k ds ∧ dok x = true ∧ dok (.nd k ds) = true ∧ b = ds.any fun z => PyData.eqv (py z) (py x)) ∨ ∃ o, lookD d x = some o ∧ b = o.isSome := by
  cases d with
  | str z =>
    cases x with
    | str a =>
      simp only [dIn] at e
      split at e
      · rename_i c hc
        cases e
        exact .inl ⟨c, z, by rw [one_sign hc], rfl, rfl⟩
      · cases e
    | _ => simp [dIn] at e
  | nd k ds =>
    cases k with
    | lst =>
      simp only [dIn] at e
      split at e
      · rename_i c
        exact .inr (.inl ⟨ds, rfl, c.1, c.2, (Option.some.inj e).symm⟩)
      · cases e
    | tup =>
      simp only [dIn] at e
      split at e
      · rename_i c
        exact .inr (.inr (.inl ⟨_, ds, .inl rfl, rfl, c.1, c.2, (Option.some.inj e).symm⟩))
      · cases e
    | ktp =>
      simp only [dIn] at e
      split at e
      · rename_i c
        exact .inr (.inr (.inl ⟨_, ds, .inr rfl, rfl, c.1, c.2, (Option.some.inj e).symm⟩))
      · cases e
    | dK ks =>
      simp only [dIn] at e
      obtain ⟨o, e1, e2⟩ := Option.map_eq_some_iff.mp e
      exact .inr (.inr (.inr ⟨o, e1, e2.symm⟩))
    | dT ks =>
      simp only [dIn] at e
      obtain ⟨o, e1, e2⟩ := Option.map_eq_some_iff.mp e
      exact .inr (.inr (.inr ⟨o, e1, e2.symm⟩))
    | scr => simp [dIn] at e
  | _ => simp [dIn] at e
theorem rt_in : RT K (rInA K) dIn := by
  intro F H x y dx dy b Q ex zx zy e q
  rcases in_cases e with ⟨c, z, rfl, rfl, rfl⟩ | ⟨ds, rfl, c1, c2, rfl⟩ | ⟨k, ds, hk, rfl, c1, c2, rfl⟩ | ⟨o, e1, rfl⟩
  · exact .inl ⟨c, z, zx.str_inv.1, zy.str_inv.1, q⟩
  · refine .inr (.inl ⟨_, pys ds, (zx.mono ex).dp (okD_of c1), by simpa [py] using dp_nd ex zy c2, shaped_ok c1, by simpa [py] using shaped_ok c2, ?_⟩)
    rw [pys_any]
    exact q
  · have h1 : py (.nd k ds) = .tuple (pys ds) := by rcases hk with rfl | rfl <;> simp [py]
    have h2 := dp_nd ex zy c2
    have h3 := shaped_ok c2
    rw [h1] at h2 h3
    refine .inr (.inr (.inl ⟨_, pys ds, (zx.mono ex).dp (okD_of c1), h2, shaped_ok c1, h3, ?_⟩))
    rw [if_neg Bool.false_ne_true, pys_any]
    exact q
  · obtain ⟨a, r, rfl, g, rel⟩ := lookD_rel ex zy zx e1
    refine .inr (.inr (.inr ⟨a, r, rfl, g, ?_⟩))
    rw [if_neg Bool.false_ne_true, rel.isSome]
    exact q
def dNotIn (x y : D) : Option Bool := (dIn x y).map not
theorem rt_notin : RT K (rNotInA K) dNotIn := by
  intro F H x y dx dy b' Q ex zx zy e q
  unfold dNotIn at e
  obtain ⟨b, e0, e2⟩ := Option.map_eq_some_iff.mp e
  subst e2
  rcases in_cases e0 with ⟨c, z, rfl, rfl, rfl⟩ | ⟨ds, rfl, c1, c2, rfl⟩ | ⟨k, ds, hk, rfl, c1, c2, rfl⟩ | ⟨o, e1, rfl⟩
  · exact .inl ⟨c, z, zx.str_inv.1, zy.str_inv.1, q⟩
  · refine .inr (.inl ⟨_, pys ds, (zx.mono ex).dp (okD_of c1), by simpa [py] using dp_nd ex zy c2, shaped_ok c1, by simpa [py] using shaped_ok c2, ?_⟩)
    rw [pys_any]
    exact q
  · have h1 : py (.nd k ds) = .tuple (pys ds) := by rcases hk with rfl | rfl <;> simp [py]
    have h2 := dp_nd ex zy c2
    have h3 := shaped_ok c2
    rw [h1] at h2 h3
    refine .inr (.inr (.inl ⟨_, pys ds, (zx.mono ex).dp (okD_of c1), h2, shaped_ok c1, h3, ?_⟩))
    rw [if_pos rfl, pys_any]
    exact q
  · obtain ⟨a, r, rfl, g, rel⟩ := lookD_rel ex zy zx e1
    refine .inr (.inr (.inr ⟨a, r, rfl, g, ?_⟩))
    rw [if_pos rfl, rel.isSome]
    exact q

/-! ### len -/
def dLen : D → Option D
  | .str s => some (.int s.length)
  | .nd _ ds => some (.int ds.length)
  | _ => none
def rLen (K : PySem.W.Frag) : List V → Hp → VK → Prop := fun xs H Q => (∃ x n, xs = [x] ∧ LenV K x H n ∧ Q (.int n) H) ∨ ∃ a kvs, xs = [V.ref a] ∧ Rd H a (.dK kvs) ∧ Q (.int kvs.length) H
theorem call_lenR : CallR X (.builtin "len") (fun xs H Q => ∃ a kvs, xs = [V.ref a] ∧ Rd H a (.dK kvs) ∧ Q (.int kvs.length) H) := by
  intro pins s σ H xs us Q I r h
  obtain ⟨a, kvs, rfl, ha, q⟩ := h
  obtain ⟨u, rfl, ru⟩ := vals1 r
  cases ru
  exact d_len I ha fun t s' I' => ⟨.int kvs.length, H, I', ⟨t, rfl⟩, q⟩
theorem cr_len : CallR X (.builtin "len") (rLen X.K) := call_len.or call_lenR
def dLen' : D → Option D
  | .nd (.dT _) _ => none
  | d => dLen d
theorem c1_len : C1 K (rLen K) dLen' := by
  intro F H x dx d Q ex z e old new
  cases dx with
  | str s =>
    simp only [dLen', dLen] at e
    cases e
    obtain ⟨rfl, hl⟩ := z.str_inv
    exact .inl ⟨_, s.length, rfl, ⟨hl, rfl⟩, old _ (.int _)⟩
  | nd k ds =>
    obtain ⟨a, vs, rfl, hi, hs⟩ := z.node ex
    have hl := hs.length
    cases k <;> simp only [dLen', dLen, Option.some.injEq] at e
    case lst => subst e; exact .inl ⟨_, vs.length, rfl, .inl ⟨vs, SqL.of hi.1, rfl⟩, by rw [hl]; exact old _ (.int _)⟩
    case scr => subst e; exact .inl ⟨_, vs.length, rfl, .inl ⟨vs, hi.1, rfl⟩, by rw [hl]; exact old _ (.int _)⟩
    case tup => subst e; exact .inl ⟨_, vs.length, rfl, .inr ⟨vs, SqT.of hi.1, rfl⟩, by rw [hl]; exact old _ (.int _)⟩
    case ktp => subst e; exact .inl ⟨_, vs.length, rfl, .inr ⟨vs, hi.1, rfl⟩, by rw [hl]; exact old _ (.int _)⟩
    case dK ks =>
      subst e
      refine .inr ⟨a, _, rfl, hi.2.1, ?_⟩
      have : (ks.zip vs).length = ds.length := by rw [List.length_zip, hi.1, hl]; simp
      rw [this]
      exact old _ (.int _)
    case dT ks => cases e
  | _ => simp [dLen', dLen] at e

/-! ### list, tuple -/
def kD : Key → D
  | .inl i => .int i
  | .inr s => .str s
theorem fz_keys {F : Hp} : ∀ {ks : List Key}, keysL ks = true → Fzs K F (ks.map kV) (ks.map kD)
  | [], _ => .nil
  | .inl i :: ks, h => .cons (.int i) (fz_keys (ks := ks) (by simpa [keysL, keyL] using h))
  | .inr s :: ks, h => by
    have h' : s.length ≤ sizeLine ∧ keysL ks = true := by simpa [keysL, keyL] using h
    exact .cons (.str s h'.1) (fz_keys h'.2)
def dList : D → Option D
  | .nd .lst ds => some (.nd .lst ds)
  | .nd .tup ds => some (.nd .lst ds)
  | .nd .scr ds => some (.nd .lst ds)
  | .nd .ktp ds => some (.nd .lst ds)
  | .nd (.dK ks) _ => some (.nd .lst (ks.map kD))
  | _ => none
def rListR : List V → Hp → VK → Prop := fun xs H Q => ∃ p kvs, xs = [.ref p] ∧ Rd H p (.dK kvs) ∧ ∀ q, H q = none → Q (.ref q) (upd H q (.lst (kvs.map fun kv => kV kv.1)))
theorem call_list_rd (hc : X.calm = true) : CallR X (.type "list") rListR := by
  intro pins s σ H xs us Q I r h
  obtain ⟨p, kvs, e, hk, q⟩ := h
  subst e
  obtain ⟨u, eu, rx⟩ := vals1 r
  subst eu
  obtain rfl : u = Value.ref p := rx
  obtain ⟨z, lo, vs, rk, hd⟩ := (show ObjOk X.prog X.w H s.heap p (.dK kvs) from hk.ok I.hok)
  obtain ⟨ep, hat⟩ := hd.dictAt
  have hl : kvs.length = vs.length := Paired.length rk
  refine PySem.W.kdl_call (PySem.W.kdl_dict (knd := mixKind X.prog X.w) (kvs := vs) (ep := ep) lo) (I.ok.hd hc) hat (by rw [← hl]; exact z) fun h' tk acc' c' hkeep hS hacc => ?_
  refine ⟨.ref s.heap.objs.size, upd H s.heap.objs.size (.lst (kvs.map fun kv => kV kv.1)), I.laid hkeep (Nat.le_refl _) (show ObjOk X.prog X.w _ _ _ (.lst (kvs.map fun kv => kV kv.1)) from ⟨?_, acc'.toList, c', ?_, ?_⟩), rfl, q _ (I.hok.fresh (Nat.le_refl _))⟩
  · rw [List.length_map]; exact z
  · have el : acc'.toList.length = acc'.size := by simp
    refine vals_of_at (by rw [List.length_map, el, hacc.1, hl]) fun j x w h1 h2 => ?_
    obtain ⟨k, y, hky, hi⟩ := hacc.2 j w (by rw [← Array.getElem?_toList]; exact h2)
    have e1 : (kvs.map (·.1))[j]? = some k := by
      rw [KV.keys rk, List.getElem?_map, hky] <;> rfl
    have e2 : (kvs.map fun kv => kV kv.1)[j]? = some (kV k) := by
      have e3 : (kvs.map fun kv => kV kv.1) = (kvs.map (·.1)).map kV := by rw [List.map_map] <;> rfl
      rw [e3, List.getElem?_map, e1] <;> rfl
    rw [e2] at h1
    cases h1
    exact keyIs_rel hi
  · rw [Array.toArray_toList]; exact hS
def rList (K : PySem.W.Frag) : List V → Hp → VK → Prop := fun xs H Q => (∃ p ys, xs = [.ref p] ∧ (SqL K H p ys ∨ SqT K H p ys) ∧ ∀ l, H l = none → Q (.ref l) (upd H l (.lst ys))) ∨ rListR xs H Q
theorem cr_list (hc : X.calm = true) : CallR X (.type "list") (rList X.K) := call_list_of.or (call_list_rd hc)
theorem zip_keys {κ : Type} {ks : List κ} {vs : List V} (h : ks.length = vs.length) (f : κ → V) : ((ks.zip vs).map fun kv => f kv.1) = ks.map f := by
  induction ks generalizing vs with
  | nil => simp
  | cons k ks ih => cases vs with
    | nil => simp at h
    | cons v vs => simp [ih (vs := vs) (by simpa using h)]
theorem c1_list : C1N K (rList K) dList := by
  intro F H x dx d Q ex z e new
  cases dx with
  | nd k ds =>
    obtain ⟨a, vs, rfl, hi, hs⟩ := z.node ex
    cases k <;> simp only [dList, Option.some.injEq] at e
    case lst => subst e; exact .inl ⟨a, vs, rfl, .inl (SqL.of hi.1), fun l hl => new l .lst vs ds _ rfl rfl hl (if_pos hi.2) hs⟩
    case scr => subst e; exact .inl ⟨a, vs, rfl, .inl hi.1, fun l hl => new l .lst vs ds _ rfl rfl hl (if_pos hi.2) hs⟩
    case tup => subst e; exact .inl ⟨a, vs, rfl, .inr (SqT.of hi.1), fun l hl => new l .lst vs ds _ rfl rfl hl (if_pos hi.2) hs⟩
    case ktp => subst e; exact .inl ⟨a, vs, rfl, .inr hi.1, fun l hl => new l .lst vs ds _ rfl rfl hl (if_pos hi.2) hs⟩
    case dK ks =>
      subst e
      refine .inr ⟨a, _, rfl, hi.2.1, fun l hl => ?_⟩
      rw [zip_keys hi.1]
      exact new l .lst (ks.map kV) (ks.map kD) _ rfl rfl hl (if_pos (by rw [List.length_map, hi.1]; exact hi.2.2.1)) (fz_keys hi.2.2.2)
    case dT ks => cases e
  | _ => simp [dList] at e
def dTuple : D → Option D
  | .nd .lst ds => some (.nd .tup ds)
  | .nd .scr ds => some (.nd .tup ds)
  | .nd .tup ds => some (.nd .tup ds)
  | .nd .ktp ds => some (.nd .ktp ds)
  | _ => none
theorem c1_tuple : C1 K (fun xs H Q => ∃ p ys, xs = [.ref p] ∧ ((SqL K H p ys ∧ ∀ l, H l = none → Q (.ref l) (upd H l (.tup ys))) ∨ (SqT K H p ys ∧ Q (.ref p) H))) dTuple := by
  intro F H x dx d Q ex z e old new
  cases dx with
  | nd k ds =>
    obtain ⟨a, vs, rfl, hi, hs⟩ := z.node ex
    cases k <;> simp only [dTuple, Option.some.injEq] at e
    case lst => subst e; exact ⟨a, vs, rfl, .inl ⟨SqL.of hi.1, fun l hl => new l .tup vs ds _ rfl hl (if_pos hi.2) hs⟩⟩
    case scr => subst e; exact ⟨a, vs, rfl, .inl ⟨hi.1, fun l hl => new l .tup vs ds _ rfl hl (if_pos hi.2) hs⟩⟩
    case tup =>
      subst e
      cases z with
      | fz z => exact ⟨a, vs, rfl, .inr ⟨SqT.of hi.1, old _ z⟩⟩
      | cell o h g => cases o
    case ktp =>
      subst e
      cases z with
      | fz z => exact ⟨a, vs, rfl, .inr ⟨hi.1, old _ z⟩⟩
      | cell o h g => cases o
    all_goals cases e
  | _ => simp [dTuple] at e

/-! ### all, any, sum -/
def blsD : List D → Option (List Bool)
  | [] => some []
  | .bl b :: ds => (blsD ds).map (b :: ·)
  | _ => none
def intsD : List D → Option (List Int)
  | [] => some []
  | .int b :: ds => (intsD ds).map (b :: ·)
  | _ => none
theorem blsD_rel {F : Hp} : ∀ {ds : List D} {vs : List V} {bs : List Bool}, Fzs K F vs ds → blsD ds = some bs → vs = bs.map V.bl
  | _, _, bs, .nil, e => by simp [blsD] at e; subst e; rfl
  | d :: ds, _, bs, .cons h hs, e => by
    cases d with
    | bl b =>
      simp only [blsD] at e
      obtain ⟨bs', e1, rfl⟩ := Option.map_eq_some_iff.mp e
      rw [h.bl_inv, blsD_rel hs e1]
      rfl
    | _ => simp [blsD] at e
theorem intsD_rel {F : Hp} : ∀ {ds : List D} {vs : List V} {bs : List Int}, Fzs K F vs ds → intsD ds = some bs → vs = bs.map V.int
  | _, _, bs, .nil, e => by simp [intsD] at e; subst e; rfl
  | d :: ds, _, bs, .cons h hs, e => by
    cases d with
    | int b =>
      simp only [intsD] at e
      obtain ⟨bs', e1, rfl⟩ := Option.map_eq_some_iff.mp e
      rw [h.int_inv, intsD_rel hs e1]
      rfl
    | _ => simp [intsD] at e
def dAll : D → Option D
  | .nd .lst ds => (blsD ds).map fun bs => .bl (bs.all id)
  | _ => none
def dAny : D → Option D
  | .nd .lst ds => (blsD ds).map fun bs => .bl (bs.any id)
  | _ => none
def dSum : D → Option D
  | .nd .lst ds => (intsD ds).map fun bs => .int bs.sum
  | _ => none
theorem c1_all : C1 K (rAll K) dAll := by
  intro F H x dx d Q ex z e old new
  unfold dAll at e
  split at e
  · rename_i ds
    obtain ⟨bs, e1, rfl⟩ := Option.map_eq_some_iff.mp e
    obtain ⟨a, vs, rfl, hi, hs⟩ := z.node ex
    exact ⟨a, bs, rfl, by rw [← blsD_rel hs e1]; exact SqL.of hi.1, old _ (.bl _)⟩
  · cases e
theorem c1_any : C1 K (rAny K) dAny := by
  intro F H x dx d Q ex z e old new
  unfold dAny at e
  split at e
  · rename_i ds
    obtain ⟨bs, e1, rfl⟩ := Option.map_eq_some_iff.mp e
    obtain ⟨a, vs, rfl, hi, hs⟩ := z.node ex
    exact ⟨a, bs, rfl, by rw [← blsD_rel hs e1]; exact SqL.of hi.1, old _ (.bl _)⟩
  · cases e
theorem c1_sum : C1 K (rSum K) dSum := by
  intro F H x dx d Q ex z e old new
  unfold dSum at e
  split at e
  · rename_i ds
    obtain ⟨bs, e1, rfl⟩ := Option.map_eq_some_iff.mp e
    obtain ⟨a, vs, rfl, hi, hs⟩ := z.node ex
    exact ⟨a, bs, rfl, by rw [← intsD_rel hs e1]; exact SqL.of hi.1, old _ (.int _)⟩
  · cases e
/-! ### abs, min, max -/
def dAbs : D → Option D
  | .int i => some (.int (if i < 0 then -i else i))
  | _ => none
theorem c1_abs : C1 K (fun xs H Q => ∃ i, xs = [.int i] ∧ Q (.int (if i < 0 then -i else i)) H) dAbs := by
  intro F H x dx d Q ex z e old new
  unfold dAbs at e
  split at e
  · cases e
    rw [z.int_inv]
    exact ⟨_, rfl, old _ (.int _)⟩
  · cases e
def dMax2 : List D → Option D
  | [.int i, .int j] => some (.int (if j > i then j else i))
  | _ => none
def dMin2 : List D → Option D
  | [.int i, .int j] => some (.int (if j < i then j else i))
  | _ => none
theorem fzs2 {F : Hp} {vs : List V} {i j : Int} (h : Fzs K F vs [.int i, .int j]) : vs = [.int i, .int j] := by
  cases h with
  | cons h1 h => cases h with
    | cons h2 h => cases h; rw [h1.int_inv, h2.int_inv]
theorem cn_max2 : CN K (fun xs H Q => ∃ i j, xs = [.int i, .int j] ∧ Q (.int (if j > i then j else i)) H) dMax2 := by
  intro F H xs dxs d Q ex z e old new
  unfold dMax2 at e
  split at e
  · cases e
    exact ⟨_, _, fzs2 z, old _ (.int _)⟩
  · cases e
theorem cn_min2 : CN K (fun xs H Q => ∃ i j, xs = [.int i, .int j] ∧ Q (.int (if j < i then j else i)) H) dMin2 := by
  intro F H xs dxs d Q ex z e old new
  unfold dMin2 at e
  split at e
  · cases e
    exact ⟨_, _, fzs2 z, old _ (.int _)⟩
  · cases e
end
end Y

set_option Elab.async false
set_option linter.all false
set_option maxRecDepth 100000
set_option maxHeartbeats 2000000
/-! isinstance, numbers and texts, subscripts, slices. -/
namespace Y
open PySem L2

/-! ### isinstance -/
def tyN : D → Option String
  | .non => some "NoneType"
  | .bl _ => some "bool"
  | .int _ => some "int"
  | .str _ => some "str"
  | .nd .lst _ => some "list"
  | .nd .scr _ => some "list"
  | .nd .tup _ => some "tuple"
  | .nd .ktp _ => some "tuple"
  | .nd (.dK _) _ => some "dict"
  | _ => none
def isA (t T : String) : Option Bool :=
  if T = "int" then some (t = "int" ∨ t = "bool") else if T = "bool" then some (t = "bool") else if T = "str" then some (t = "str") else if T = "tuple" then some (t = "tuple") else if T = "list" then some (t = "list") else none
theorem isA_kit {d : D} {t T : String} {b : Bool} (h : tyN d = some t) (e : isA t T = some b) : kitB t T = some b := by
  have ht : t ∈ ["NoneType", "bool", "int", "str", "list", "tuple", "dict"] := by
    cases d with
    | nd k ds => cases k <;> simp [tyN] at h <;> subst h <;> simp
    | ty n => simp [tyN] at h
    | _ => simp [tyN] at h <;> subst h <;> simp
  have all : ∀ t ∈ ["NoneType", "bool", "int", "str", "list", "tuple", "dict"], ∀ T ∈ ["int", "bool", "str", "tuple", "list"], kitB t T = isA t T := by decide +kernel
  have hT : T ∈ ["int", "bool", "str", "tuple", "list"] := by
    unfold isA at e
    split at e
    · simp [*]
    · split at e
      · simp [*]
      · split at e
        · simp [*]
        · split at e
          · simp [*]
          · split at e
            · simp [*]
            · cases e
  rw [all t ht T hT]
  exact e
theorem Bz.tyx {K : PySem.W.Frag} {F H : Hp} {v : V} {d : D} {t : String} (ex : Same F H) (z : Bz K F H v d) (h : tyN d = some t) : TyX K H v (.type t) := by
  cases d with
  | non => simp [tyN] at h; subst h; rw [z.non_inv]; exact .base .non
  | bl b => simp [tyN] at h; subst h; rw [z.bl_inv]; exact .base (.bl b)
  | int i => simp [tyN] at h; subst h; rw [z.int_inv]; exact .base (.int i)
  | str s => simp [tyN] at h; subst h; rw [z.str_inv.1]; exact .base (.str s)
  | ty n => simp [tyN] at h
  | nd k ds =>
    obtain ⟨a, vs, rfl, hi, hs⟩ := z.node ex
    cases k <;> simp only [tyN, Option.some.injEq] at h
    case lst => subst h; exact .base (.lst hi.1)
    case tup => subst h; exact .base (.tup hi.1)
    case scr =>
      subst h
      rcases hi.1 with (q | ⟨o, q⟩) | ⟨o, its, n, q1, q2, _⟩
      · exact .base (.lst q)
      · exact .base (.frz q)
      · exact .kList q1 q2
    case ktp =>
      subst h
      rcases hi.1 with (q | ⟨o, q⟩) | ⟨o, its, n, q1, q2, _⟩
      · exact .base (.tup q)
      · exact .fTuple q
      · exact .kTuple q1 q2
    case dK ks =>
      subst h
      rcases hi.2.1 with q | ⟨o, q⟩
      · exact .base (.dK q)
      · exact .fDict q
    case dT => cases h
def isTy (d c : D) : Option Bool := match tyN d, c with
  | some t, .ty T => isA t T
  | _, _ => none
def dIsi : List D → Option D
  | [d, .ty T] => (isTy d (.ty T)).map .bl
  | [d, .nd .tup [.ty S, .ty T]] => match isTy d (.ty S), isTy d (.ty T) with
    | some a, some b => some (.bl (a || b))
    | _, _ => none
  | _ => none
def rIsiA (K : PySem.W.Frag) : List V → Hp → VK → Prop := fun xs H Q => rIsi K xs H Q ∨ rIsiT K xs H Q
theorem cr_isi {X : Cx} : CallR X (.builtin "isinstance") (rIsiA X.K) := call_isi.or call_isiT
theorem cn_isi {K : PySem.W.Frag} : CN K (rIsiA K) dIsi := by
  intro F H xs dxs d Q ex z e old new
  unfold dIsi at e
  split at e
  · rename_i d' T
    obtain ⟨b, e1, rfl⟩ := Option.map_eq_some_iff.mp e
    cases z with
    | cons z1 z => cases z with
      | cons z2 z =>
        cases z
        rw [z2.ty_inv]
        unfold isTy at e1
        split at e1
        · rename_i t T' ht hT
          cases hT
          exact .inl ⟨_, _, _, _, b, rfl, .ty T, (Bz.fz z1).tyx ex ht, kit_ty (isA_kit ht e1), old _ (.bl _)⟩
        · cases e1
  · rename_i d' S T
    split at e
    · rename_i a b e1 e2
      cases e
      cases z with
      | cons z1 z => cases z with
        | cons z2 z =>
          cases z
          obtain ⟨tp, cs, rfl, hi, hs⟩ := z2.node
          unfold isTy at e1 e2
          split at e1
          · rename_i t T' ht hT
            cases hT
            split at e2
            · rename_i t2 T2 ht2 hT2
              cases hT2
              rw [ht] at ht2
              cases ht2
              cases hs with
              | cons h1 hs => cases hs with
                | cons h2 hs =>
                  cases hs
                  have k1 := kit_ty (K := K) (isA_kit ht e1)
                  have k2 := kit_ty (K := K) (isA_kit ht e2)
                  refine .inr ⟨_, tp, _, _, [.type S, .type T], a || b, rfl, ex _ _ hi.1, .cons (by rw [h1.ty_inv]; exact .ty S) (.cons (by rw [h2.ty_inv]; exact .ty T) .nil), (Bz.fz z1).tyx ex ht, ?_, old _ (.bl _)⟩
                  refine kitAny_cons k1 (fun ha => ?_) (fun ha => by rw [ha]; rfl)
                  rw [ha, Bool.false_or]
                  exact kitAny_cons k2 (fun hb => by rw [hb]; exact kitAny_nil) (fun hb => hb)
            · cases e2
          · cases e1
    · cases e
  · cases e
section
variable {X : Cx} {w : Wd} {x : Str} {pos : Pos}
/-- a built-in class as a value -/
theorem d_ty {n : String} (hg : Gl X x) (hm : X.mg x = none) (hv : bootBuiltins x = some (.type n)) (hn : x ≠ "__name__" := by decide) (hd : (x == ("__debug__" : Str)) = false := by decide) : PE X (.Name x pos) (cF X.K w (sC (.ty n))) :=
  d_c (pe_bltn (v := .ty n) hg hm hv rfl hn hd) fun _ => .ty n
end

/-! ### numbers and texts -/
def dInt : D → Option D
  | .int i => some (.int i)
  | .bl b => some (.int (if b then 1 else 0))
  | .str s => if s.length ≤ 640 then (PySem.intText? s).map .int else none
  | _ => none
def rInt : List V → Hp → VK → Prop := fun xs H Q => ((∃ i, xs = [.int i] ∧ Q (.int i) H) ∨ ∃ k, xs = [.bl k] ∧ Q (.int (if k then 1 else 0)) H) ∨ ∃ a n, xs = [.str a] ∧ PySem.intText? a = some n ∧ a.length ≤ 640 ∧ Q (.int n) H
theorem cr_int {X : Cx} : CallR X (.type "int") rInt := call_int1.or call_int_str
theorem c1_int {K : PySem.W.Frag} : C1 K rInt dInt := by
  intro F H x dx d Q ex z e old new
  cases dx with
  | int i => simp only [dInt] at e; cases e; rw [z.int_inv]; exact .inl (.inl ⟨_, rfl, old _ (.int _)⟩)
  | bl b => simp only [dInt] at e; cases e; rw [z.bl_inv]; exact .inl (.inr ⟨_, rfl, old _ (.int _)⟩)
  | str s =>
    simp only [dInt] at e
    split at e
    · rename_i c
      obtain ⟨n, e1, rfl⟩ := Option.map_eq_some_iff.mp e
      rw [z.str_inv.1]
      exact .inr ⟨_, n, rfl, e1, c, old _ (.int _)⟩
    · cases e
  | _ => simp [dInt] at e
def dStr : D → Option D
  | .int i => if i.natAbs.log2 < 1920 ∧ (toString i : Str).length ≤ sizeLine then some (.str (toString i)) else none
  | .str s => some (.str s)
  | _ => none
def rStr : List V → Hp → VK → Prop := fun xs H Q => (∃ i, xs = [.int i] ∧ i.natAbs.log2 < 1920 ∧ Q (.str (toString i)) H) ∨ ∃ a, xs = [.str a] ∧ Q (.str a) H
theorem cr_str {X : Cx} : CallR X (.type "str") rStr := call_str_int.or SkE.call_str_str
theorem c1_str {K : PySem.W.Frag} : C1 K rStr dStr := by
  intro F H x dx d Q ex z e old new
  cases dx with
  | int i =>
    simp only [dStr] at e
    split at e
    · rename_i c
      cases e
      rw [z.int_inv]
      exact .inl ⟨_, rfl, c.1, old _ (.str _ c.2)⟩
    · cases e
  | str s => simp only [dStr] at e; cases e; obtain ⟨rfl, hl⟩ := z.str_inv; exact .inr ⟨_, rfl, old _ (.str _ hl)⟩
  | _ => simp [dStr] at e

/-! ### subscripts -/
def dIx : D → D → Option D
  | .nd .lst ds, .int i => atI ds i
  | .nd .tup ds, .int i => atI ds i
  | .nd .scr ds, .int i => atI ds i
  | .nd .ktp ds, .int i => atI ds i
  | .str s, .int i => (atI s.cps.toList i).map fun c => .str ⟨#[c]⟩
  | .nd (.dK ks) ds, k => (lookD (.nd (.dK ks) ds) k).bind id
  | .nd (.dT ks) ds, k => (lookD (.nd (.dT ks) ds) k).bind id
  | _, _ => none
def isDct : D → Bool
  | .nd (.dK _) _ => true
  | .nd (.dT _) _ => true
  | _ => false
section
variable {K : PySem.W.Frag} {F H : Hp}
theorem fzs_atI {vs : List V} {ds : List D} {i : Int} {d : D} (hs : Fzs K F vs ds) (e : atI ds i = some d) : ∃ v, atI vs i = some v ∧ Fz K F v d := by
  unfold atI at e ⊢
  rw [hs.length]
  cases q : ixN ds.length i with
  | none => rw [q] at e; cases e
  | some j =>
    rw [q] at e
    obtain ⟨v, h1, h2⟩ := hs.get (i := j) (by simpa using e)
    exact ⟨v, by simpa using h1, h2⟩
/-- of a sequence or text -/
theorem ix_seqD {v y : V} {d dy r : D} {Q : VK} (ex : Same F H) (z : Bz K F H v d) (zy : Fz K F y dy) (nd : isDct d = false) (e : dIx d dy = some r) (old : ∀ v, Fz K F v r → Q v H) : rIx K v y H Q := by
  cases d with
  | str s =>
    cases dy with
    | int i =>
      simp only [dIx] at e
      obtain ⟨c, e1, rfl⟩ := Option.map_eq_some_iff.mp e
      obtain ⟨rfl, hl⟩ := z.str_inv
      rw [zy.int_inv]
      exact .inr (.inr ⟨s, i, c, rfl, rfl, hl, e1, old _ (.str _ (by show 1 ≤ sizeLine; decide))⟩)
    | _ => simp [dIx] at e
  | nd k ds =>
    obtain ⟨a, vs, rfl, hi, hs⟩ := z.node ex
    cases k with
    | dK _ => simp [isDct] at nd
    | dT _ => simp [isDct] at nd
    | lst =>
      cases dy with
      | int i =>
        simp only [dIx] at e
        obtain ⟨v', e1, z1⟩ := fzs_atI hs e
        rw [zy.int_inv]
        exact .inl ⟨a, vs, i, v', rfl, rfl, SqL.of hi.1, e1, old _ z1⟩
      | _ => simp [dIx] at e
    | scr =>
      cases dy with
      | int i =>
        simp only [dIx] at e
        obtain ⟨v', e1, z1⟩ := fzs_atI hs e
        rw [zy.int_inv]
        exact .inl ⟨a, vs, i, v', rfl, rfl, hi.1, e1, old _ z1⟩
      | _ => simp [dIx] at e
    | tup =>
      cases dy with
      | int i =>
        simp only [dIx] at e
        obtain ⟨v', e1, z1⟩ := fzs_atI hs e
        rw [zy.int_inv]
        exact .inr (.inl ⟨a, vs, i, v', rfl, rfl, SqT.of hi.1, e1, old _ z1⟩)
      | _ => simp [dIx] at e
    | ktp =>
      cases dy with
      | int i =>
        simp only [dIx] at e
        obtain ⟨v', e1, z1⟩ := fzs_atI hs e
        rw [zy.int_inv]
        exact .inr (.inl ⟨a, vs, i, v', rfl, rfl, hi.1, e1, old _ z1⟩)
      | _ => simp [dIx] at e
  | _ => simp [dIx] at e
theorem ix_dctD {v y : V} {d dy r : D} {Q : VK} (ex : Same F H) (z : Bz K F H v d) (zy : Fz K F y dy) (nd : isDct d = true) (e : dIx d dy = some r) (old : ∀ v, Fz K F v r → Q v H) : ∃ a v', v = .ref a ∧ DGet H a y (some v') ∧ Q v' H := by
  have e1 : (lookD d dy).bind id = some r := by
    cases d with
    | nd k ds => cases k <;> first | (simp [isDct] at nd; done) | (simpa [dIx] using e)
    | _ => simp [isDct] at nd
  cases q : lookD d dy with
  | none => rw [q] at e1; cases e1
  | some o =>
    rw [q] at e1
    have e2 : o = some r := by simpa using e1
    subst e2
    obtain ⟨a, rr, rfl, g, rel⟩ := lookD_rel ex z zy q
    cases rr with
    | none => exact rel.elim
    | some v' => exact ⟨a, v', rfl, g, old _ rel⟩
end
theorem pe_or2 {X : Cx} {e : Expr} {t t' : TE} (h : PE X e t) (h' : PE X e t') : PE X e (fun σ H Q => t σ H Q ∨ t' σ H Q) := ⟨fun pins s σ H Q I q => q.elim (h.run pins s σ H Q I) (h'.run pins s σ H Q I)⟩
section
variable {X : Cx} {w : Wd} {a b : Expr} {fa fb : En → R D} {pos : Pos}
theorem d_sub (hu : X.A.units + 1 < cLine) (ha : PE X a (cF X.K w fa)) (hb : PE X b (cF X.K w fb)) (hs : PlainIx b := by exact fun _ _ => rfl) (hn : NoSl b := by exact fun _ _ => rfl) : PE X (.Subscript a b pos) (cF X.K w (sBin dIx fa fb)) :=
  peI (pe_or2 (pe_ix ix_seq ha hb hs) (pe_dget hu ha hb hn)) fun σ H Q h => by
    obtain ⟨F, ρ, fp, s, h⟩ := h
    by_cases q : (match fa ρ with | .ok d _ => isDct d | _ => false) = true
    · refine .inr ⟨F, ρ, fp, s, ?_⟩
      cases e0 : fa ρ with
      | bad => rw [e0] at q; cases q
      | exc c x ρ1 => rw [e0] at q; cases q
      | ok d ρ1 =>
        rw [e0] at q
        unfold sBin at h
        rw [e0] at h
        intro F1 H1 fp1 t1 v s1 z
        refine ⟨F1, ρ1, fp1, s1, (Pst.tr (r := bnd (fb ρ1) _) h t1).bnd fun dy ρ2 F2 H2 fp2 t2 h2 => fun y s2 zy => ?_⟩
        obtain ⟨r, e, n⟩ := h2.lift
        exact ix_dctD s2.ex (.fz (z.mono t2.ex)) zy q e (fin_new s2 n).1
    · refine .inl ⟨F, ρ, fp, s, ?_⟩
      cases e0 : fa ρ with
      | bad => unfold sBin at h; rw [e0] at h; exact h
      | exc c x ρ1 => unfold sBin at h; rw [e0] at h; exact h
      | ok d ρ1 =>
        rw [e0] at q
        unfold sBin at h
        rw [e0] at h
        intro F1 H1 fp1 t1 v s1 z
        refine ⟨F1, ρ1, fp1, s1, (Pst.tr (r := bnd (fb ρ1) _) h t1).bnd fun dy ρ2 F2 H2 fp2 t2 h2 => fun y s2 zy => ?_⟩
        obtain ⟨r, e, n⟩ := h2.lift
        exact ix_seqD s2.ex (.fz (z.mono t2.ex)) zy (by simpa using q) e (fin_new s2 n).1
/-- x[e], x a name that changes -/
def sIxV (i : Nat) (fb : En → R D) : En → R D := fun ρ => bnd (sBor i ρ) fun _ _ => bnd (fb ρ) fun k ρ1 => bnd (sBor i ρ1) fun x ρ2 => lift (dIx x k) ρ2
def bor (i : Nat) (ρ : En) : Option D := match ρ[i]? with
  | some (some (.f d)) => some d
  | some (some (.o d)) => some d
  | some (some (.b d)) => some d
  | _ => none
theorem sBor_eq (i : Nat) (ρ : En) : sBor i ρ = lift (bor i ρ) ρ := by
  unfold sBor bor
  split <;> simp_all [lift]
theorem bor_rel {K : PySem.W.Frag} {w : Wd} {F H : Hp} {fp : List Addr} {σ : St} {ρ : En} {i : Nat} {d : D} (s : StaW K w F H σ ρ fp) (e : bor i ρ = some d) : ∃ v, σ[i]? = some (some v) ∧ Bz K F H v d := by
  unfold bor at e
  split at e
  · rename_i d e1
    cases e
    exact s.sl.getB e1
  · rename_i d e1
    cases e
    exact s.sl.getB e1
  · rename_i d e1
    cases e
    exact s.sl.getB e1
  · cases e
theorem sBor_ok {K : PySem.W.Frag} {w : Wd} {F H : Hp} {fp : List Addr} {σ : St} {ρ : En} {i : Nat} {β : Type} {g : D → En → R β} {N : β → En → Hp → Hp → List Addr → Prop} (s : StaW K w F H σ ρ fp) (h : Pst K w F H fp σ (bnd (sBor i ρ) g) N) : ∃ d v, bor i ρ = some d ∧ σ[i]? = some (some v) ∧ Bz K F H v d ∧ Pst K w F H fp σ (g d ρ) N := by
  rw [sBor_eq] at h
  cases e : bor i ρ with
  | none => rw [e] at h; exact h.elim
  | some d =>
    rw [e] at h
    obtain ⟨v, e1, z⟩ := bor_rel s e
    exact ⟨d, v, rfl, e1, z, h⟩
theorem d_subV (i : Nat) {x : Str} {p : Pos} (hu : X.A.units + 1 < cLine) (hb : PE X b (cF X.K w fb)) (hN : X.N[i]? = some x := by rfl) (hv : Vis X.env.scope x := by first | exact Or.inl rfl | exact Or.inr (Or.inl rfl) | exact Or.inr (Or.inr rfl)) (hd : (x == ("__debug__" : Str)) = false := by decide)
    (hcd : (x == ("__classdict__" : Str)) = false := by decide) (hs : PlainIx b := by exact fun _ _ => rfl) (hn : NoSl b := by exact fun _ _ => rfl) : PE X (.Subscript (.Name x p) b pos) (cF X.K w (sIxV i fb)) :=
  peI (pe_or2 (pe_ix ix_seq (pe_var hN hv hd hcd) hb hs) (pe_dget hu (pe_var hN hv hd hcd) hb hn)) fun σ H Q h => by
    obtain ⟨F, ρ, fp, s, h⟩ := h
    unfold sIxV at h
    obtain ⟨d0, v, _, ev, z0, h⟩ := sBor_ok s h
    have go : ∀ (F1 H1 : Hp) (fp1 : List Addr) (k : D) (ρ1 : En), Tr F H fp F1 H1 fp1 → Pst X.K w F1 H1 fp1 σ (bnd (sBor i ρ1) fun x ρ2 => lift (dIx x k) ρ2) (nF X.K w σ Q) → StaW X.K w F1 H1 σ ρ1 fp1 →
        ∃ d r, bor i ρ1 = some d ∧ Bz X.K F1 H1 v d ∧ dIx d k = some r ∧ ∀ v, Fz X.K F1 v r → Q v H1 := by
      intro F1 H1 fp1 k ρ1 t1 h1 s1
      obtain ⟨d, v', e0, e1, z, h2⟩ := sBor_ok s1 h1
      rw [ev] at e1
      cases e1
      obtain ⟨r, e, n⟩ := h2.lift
      exact ⟨d, r, e0, z, e, (fin_new s1 n).1⟩
    by_cases q : (match fb ρ with | .ok k ρ1 => (match bor i ρ1 with | some d => isDct d | none => false) | _ => false) = true
    · refine .inr ⟨v, ev, F, ρ, fp, s, ?_⟩
      cases e0 : fb ρ with
      | bad => rw [e0] at h; exact h
      | exc c x ρ1 => rw [e0] at h; exact h
      | ok k ρ1 =>
        rw [e0] at h q
        intro F1 H1 fp1 t1 y s1 zy
        obtain ⟨d, r, e1, z, e, n⟩ := go F1 H1 fp1 k ρ1 t1 (Pst.tr (r := bnd (sBor i ρ1) _) h t1) s1
        simp only [e1] at q
        exact ix_dctD s1.ex z zy q e n
    · refine .inl ⟨v, ev, F, ρ, fp, s, ?_⟩
      cases e0 : fb ρ with
      | bad => rw [e0] at h; exact h
      | exc c x ρ1 => rw [e0] at h; exact h
      | ok k ρ1 =>
        rw [e0] at h q
        intro F1 H1 fp1 t1 y s1 zy
        obtain ⟨d, r, e1, z, e, n⟩ := go F1 H1 fp1 k ρ1 t1 (Pst.tr (r := bnd (sBor i ρ1) _) h t1) s1
        simp only [e1] at q
        exact ix_seqD s1.ex z zy (by simpa using q) e n

/-! ### slices -/
def cutD (ds : List D) (lo hi : Option Int) : List D := (ds.drop (HT.sIx ds.length 0 lo)).take (HT.sIx ds.length ds.length hi - HT.sIx ds.length 0 lo)
theorem fzs_cut {K : PySem.W.Frag} {F : Hp} {vs : List V} {ds : List D} (h : Fzs K F vs ds) (lo hi : Option Int) : Fzs K F (cutV vs lo hi) (cutD ds lo hi) := by
  unfold cutV cutD
  rw [h.length]
  exact (h.drop _).take _
def dSlc : D → Option Int → Option Int → Option D
  | .nd .lst ds, lo, hi => some (.nd .lst (cutD ds lo hi))
  | .nd .scr ds, lo, hi => some (.nd .lst (cutD ds lo hi))
  | .nd .tup ds, lo, hi => some (.nd .tup (cutD ds lo hi))
  | .str s, lo, hi => some (.str (cutS s lo hi))
  | _, _, _ => none
def rSl (K : PySem.W.Frag) : V → Option Int → Option Int → Hp → VK → Prop := fun x lo hi H Q => rSlL K x lo hi H Q ∨ (rSlA K x lo hi H Q ∨ rSlS x lo hi H Q)
theorem sl_any : SlR X (rSl X.K) := sl_list.or (sl_tupA.or sl_str)
theorem cut_whole {α : Type} {xs : List α} {lo hi : Option Int} (h : HT.sIx xs.length 0 lo = 0 ∧ HT.sIx xs.length xs.length hi = xs.length) : (xs.drop (HT.sIx xs.length 0 lo)).take (HT.sIx xs.length xs.length hi - HT.sIx xs.length 0 lo) = xs := by
  rw [h.1, h.2]; simp
theorem rslc {K : PySem.W.Frag} {F H : Hp} {v : V} {d r : D} {lo hi : Option Int} {Q : VK} (ex : Same F H) (z : Bz K F H v d) (e : dSlc d lo hi = some r)
    (old : ∀ v, Fz K F v r → Q v H) (new : ∀ p k vs ds ho, r = .nd k ds → H p = none → mkHO k vs = some ho → Fzs K F vs ds → Q (.ref p) (upd H p ho)) : rSl K v lo hi H Q := by
  cases d with
  | str s =>
    simp only [dSlc] at e
    cases e
    obtain ⟨rfl, hl⟩ := z.str_inv
    exact .inr (.inr ⟨s, rfl, hl, old _ (.str _ (Nat.le_trans (cutS_length s lo hi) hl))⟩)
  | nd k ds =>
    obtain ⟨a, vs, rfl, hi', hs⟩ := z.node ex
    have hc := fzs_cut hs lo hi
    have hl : (cutV vs lo hi).length ≤ vs.length := cutV_length vs lo hi
    cases k with
    | lst =>
      simp only [dSlc] at e; cases e
      exact .inl ⟨a, vs, rfl, SqL.of hi'.1, fun p hp => new p .lst _ _ _ rfl hp (if_pos (Nat.le_trans hl hi'.2)) hc⟩
    | scr =>
      simp only [dSlc] at e; cases e
      exact .inl ⟨a, vs, rfl, hi'.1, fun p hp => new p .lst _ _ _ rfl hp (if_pos (Nat.le_trans hl hi'.2)) hc⟩
    | tup =>
      simp only [dSlc] at e; cases e
      refine .inr (.inl ⟨a, vs, rfl, SqT.of hi'.1, fun hw => ?_, fun hw p hp => new p .tup _ _ _ rfl hp (if_pos (Nat.le_trans hl hi'.2)) hc⟩)
      have hw' := hw
      rw [hs.length] at hw'
      have : cutD ds lo hi = ds := cut_whole hw'
      rw [this] at old
      cases z with
      | fz z => exact old _ z
      | cell o h g => cases o
    | _ => simp [dSlc] at e
  | _ => simp [dSlc] at e
def sPt (f : En → R D) : En → R (Option Int) := fun ρ => bnd (f ρ) fun d ρ1 => lift (match d with | .int i => some (some i) | _ => none) ρ1
def sNoPt : En → R (Option Int) := fun ρ => .ok none ρ
def nP (K : PySem.W.Frag) (w : Wd) (σ : St) (Q : Option Int → Hp → Prop) : Option Int → En → Hp → Hp → List Addr → Prop := fun o ρ F H fp => StaW K w F H σ ρ fp → Q o H
def cP (K : PySem.W.Frag) (w : Wd) (f : En → R (Option Int)) : TO := fun σ H Q => ∃ F ρ fp, StaW K w F H σ ρ fp ∧ Pst K w F H fp σ (f ρ) (nP K w σ Q)
theorem poI {e : Option Expr} {t t' : TO} (h : PO X e t) (k : ∀ σ H Q, t' σ H Q → t σ H Q) : PO X e t' := ⟨fun pins s σ H Q I q => h.run pins s σ H Q I (k σ H Q q)⟩
theorem p_some {e : Expr} {f : En → R D} (h : PE X e (cF X.K w f)) : PO X (some e) (cP X.K w (sPt f)) := poI (po_some h) fun σ H Q h => by
  obtain ⟨F, ρ, fp, s, h⟩ := h
  refine ⟨F, ρ, fp, s, h.bnd fun d ρ1 F1 H1 fp1 t1 h1 => fun v s1 z => ?_⟩
  obtain ⟨o, e, n⟩ := h1.lift
  cases d with
  | int i => cases e; exact ⟨i, z.int_inv, n F1 H1 fp1 .refl s1⟩
  | _ => simp at e
theorem p_none : PO X none (cP X.K w sNoPt) := poI po_none fun σ H Q h => by
  obtain ⟨F, ρ, fp, s, h⟩ := h
  exact h F H fp .refl s
def sSlc (fa : En → R D) (fl fu : En → R (Option Int)) : En → R D := fun ρ => bnd (fa ρ) fun x ρ1 => bnd (fl ρ1) fun l ρ2 => bnd (fu ρ2) fun u ρ3 => lift (dSlc x l u) ρ3
theorem d_slc {lo hi : Option Expr} {fl fu : En → R (Option Int)} {p2 : Pos} (ha : PE X a (cF X.K w fa)) (hl : PO X lo (cP X.K w fl)) (hh : PO X hi (cP X.K w fu)) : PE X (.Subscript a (.Slice lo hi none p2) pos) (cF X.K w (sSlc fa fl fu)) :=
  peI (pe_slice sl_any ha hl hh) fun σ H Q h => by
    obtain ⟨F, ρ, fp, s, h⟩ := h
    refine ⟨F, ρ, fp, s, h.bnd fun d ρ1 F1 H1 fp1 t1 h1 => fun v s1 z => ⟨F1, ρ1, fp1, s1, h1.bnd fun l ρ2 F2 H2 fp2 t2 h2 => fun s2 => ⟨F2, ρ2, fp2, s2, h2.bnd fun u ρ3 F3 H3 fp3 t3 h3 => fun s3 => ?_⟩⟩⟩
    obtain ⟨r, e, n⟩ := h3.lift
    exact rslc s3.ex (.fz ((z.mono t2.ex).mono t3.ex)) e (fin_new s3 n).1 (fin_new s3 n).2
/-- of a list: a new list -/
def dSlcL : D → Option Int → Option Int → Option D
  | .nd .lst ds, lo, hi => some (.nd .lst (cutD ds lo hi))
  | .nd .scr ds, lo, hi => some (.nd .lst (cutD ds lo hi))
  | _, _, _ => none
def sSlcL (fa : En → R D) (fl fu : En → R (Option Int)) : En → R D := fun ρ => bnd (fa ρ) fun x ρ1 => bnd (fl ρ1) fun l ρ2 => bnd (fu ρ2) fun u ρ3 => lift (dSlcL x l u) ρ3
theorem d_slcO {lo hi : Option Expr} {fl fu : En → R (Option Int)} {p2 : Pos} (ha : PE X a (cF X.K w fa)) (hl : PO X lo (cP X.K w fl)) (hh : PO X hi (cP X.K w fu)) : PE X (.Subscript a (.Slice lo hi none p2) pos) (cO X.K w (sSlcL fa fl fu)) :=
  peI (pe_slice sl_list ha hl hh) fun σ H Q h => by
    obtain ⟨F, ρ, fp, s, h⟩ := h
    refine ⟨F, ρ, fp, s, h.bnd fun d ρ1 F1 H1 fp1 t1 h1 => fun v s1 z => ⟨F1, ρ1, fp1, s1, h1.bnd fun l ρ2 F2 H2 fp2 t2 h2 => fun s2 => ⟨F2, ρ2, fp2, s2, h2.bnd fun u ρ3 F3 H3 fp3 t3 h3 => fun s3 => ?_⟩⟩⟩
    obtain ⟨r, e, n⟩ := h3.lift
    have z3 := (z.mono t2.ex).mono t3.ex
    cases d with
    | nd k ds =>
      obtain ⟨a, vs, rfl, hi', hs⟩ := (Bz.fz z3).node s3.ex
      have hl : (cutV vs l u).length ≤ vs.length := cutV_length vs l u
      cases k with
      | lst => simp only [dSlcL] at e; cases e; exact ⟨a, vs, rfl, SqL.of hi'.1, fun p hp => fin_newO s3 n p .lst _ _ _ rfl rfl hp (if_pos (Nat.le_trans hl hi'.2)) (fzs_cut hs l u)⟩
      | scr => simp only [dSlcL] at e; cases e; exact ⟨a, vs, rfl, hi'.1, fun p hp => fin_newO s3 n p .lst _ _ _ rfl rfl hp (if_pos (Nat.le_trans hl hi'.2)) (fzs_cut hs l u)⟩
      | _ => simp [dSlcL] at e
    | _ => simp [dSlcL] at e
/-- xs[::-1] -/
def dRev : D → Option D
  | .nd .lst ds => some (.nd .lst ds.reverse)
  | _ => none
theorem d_rev {k : Nat} {p1 p2 p3 : Pos} (ha : PE X a (cF X.K w fa)) : PE X (.Subscript a (.Slice none none (some (.UnaryOp .USub (.Constant (.int 1) k p1) p2)) p3) pos) (cF X.K w (s1 dRev fa)) :=
  peI (pe_revL ha) fun σ H Q h => by
    obtain ⟨F, ρ, fp, s, h⟩ := h
    refine ⟨F, ρ, fp, s, h.bnd fun d ρ1 F1 H1 fp1 t1 h1 => fun v s1 z => ?_⟩
    obtain ⟨r, e, n⟩ := h1.lift
    cases d with
    | nd k ds =>
      cases k with
      | lst =>
        simp only [dRev] at e; cases e
        obtain ⟨a, vs, rfl, hi, hs⟩ := (Bz.fz z).node s1.ex
        exact ⟨a, vs, rfl, SqL.of hi.1, fun p hp => (fin_new s1 n).2 p .lst _ _ _ rfl hp (if_pos (by rw [List.length_reverse]; exact hi.2)) hs.reverse⟩
      | _ => simp [dRev] at e
    | _ => simp [dRev] at e
end
end Y

set_option Elab.async false
set_option linter.all false
set_option maxRecDepth 100000
set_option maxHeartbeats 2000000
/-! Statements by values. -/
namespace Y
open PySem L2

inductive Fl where
  | nx | ct | bk | rt (d : D) | ro (d : D)
def PstS (K : PySem.W.Frag) (w : Wd) (F H : Hp) (fp : List Addr) (r : R Fl) (D : Ends) : Prop :=
  match r with
  | .ok .nx ρ' => ∀ σ' F' H' fp', Tr F H fp F' H' fp' → StaW K w F' H' σ' ρ' fp' → D.nx σ' H'
  | .ok .ct ρ' => ∀ σ' F' H' fp', Tr F H fp F' H' fp' → StaW K w F' H' σ' ρ' fp' → D.ct σ' H'
  | .ok .bk ρ' => ∀ σ' F' H' fp', Tr F H fp F' H' fp' → StaW K w F' H' σ' ρ' fp' → D.bk σ' H'
  | .ok (.rt d) ρ' => ∀ v σ' F' H' fp', Tr F H fp F' H' fp' → StaW K w F' H' σ' ρ' fp' → Fz K F' v d → D.rt v H'
  | .ok (.ro d) ρ' => ∀ v σ' F' H' fp', Tr F H fp F' H' fp' → StaW K w F' H' (some v :: σ') (some (.o d) :: ρ') fp' → D.rt v H'
  | .exc c x ρ' => ∀ σ' F' H' fp' dd, Tr F H fp F' H' fp' → StaW K w F' H' σ' ρ' fp' → XR K F' H' x dd → w.W (w.cls c) dd σ' H'
  | .bad => False
def cS (K : PySem.W.Frag) (w : Wd) (m : En → R Fl) : TS := fun D σ H => ∃ F ρ fp, StaW K w F H σ ρ fp ∧ PstS K w F H fp (m ρ) D
section
variable {K : PySem.W.Frag} {w : Wd} {F F1 H H1 : Hp} {fp fp1 : List Addr} {σ : St} {r : R Fl} {D D' : Ends}
theorem PstS.tr (h : PstS K w F H fp r D) (t : Tr F H fp F1 H1 fp1) : PstS K w F1 H1 fp1 r D := by
  cases r with
  | ok a ρ =>
    cases a with
    | nx => exact fun σ' F' H' fp' u => h σ' F' H' fp' (t.trans u)
    | ct => exact fun σ' F' H' fp' u => h σ' F' H' fp' (t.trans u)
    | bk => exact fun σ' F' H' fp' u => h σ' F' H' fp' (t.trans u)
    | rt d => exact fun v σ' F' H' fp' u => h v σ' F' H' fp' (t.trans u)
    | ro d => exact fun v σ' F' H' fp' u => h v σ' F' H' fp' (t.trans u)
  | exc c x ρ => exact fun σ' F' H' fp' dd u => h σ' F' H' fp' dd (t.trans u)
  | bad => exact h
/-- an expression first -/
theorem PstS.bnd {α : Type} {e : R α} {g : α → En → R Fl} {N : α → En → Hp → Hp → List Addr → Prop} (h : PstS K w F H fp (bnd e g) D) (k : ∀ a ρ1 F1 H1 fp1, Tr F H fp F1 H1 fp1 → PstS K w F1 H1 fp1 (g a ρ1) D → N a ρ1 F1 H1 fp1) : Pst K w F H fp σ e N := by
  cases e with
  | ok a ρ => exact fun F' H' fp' u => k a ρ F' H' fp' u (PstS.tr (r := g a ρ) h u)
  | exc c x ρ => exact fun F' H' fp' dd => h σ F' H' fp' dd
  | bad => exact h
/-- a statement first -/
def sq (r : R Fl) (g : En → R Fl) : R Fl := match r with
  | .ok .nx ρ => g ρ
  | r => r
theorem PstS.seq {g : En → R Fl} (h : PstS K w F H fp (sq r g) D) : PstS K w F H fp r { D with nx := cS K w g D } := by
  cases r with
  | ok a ρ =>
    cases a with
    | nx => exact fun σ' F' H' fp' u s => ⟨F', ρ, fp', s, PstS.tr (r := g ρ) h u⟩
    | ct => exact h
    | bk => exact h
    | rt d => exact h
    | ro d => exact h
  | exc c x ρ => exact h
  | bad => exact h
theorem StaW.of (s : StaW K w F H σ ρ fp) : Same F H := s.ex
end
section
variable {X : Cx} {w : Wd}
theorem psI {st : Stmt} {t t' : TS} (h : PS X st t) (k : ∀ D σ H, t' D σ H → t D σ H) : PS X st t' := ⟨fun pins s σ H D I q => h.run pins s σ H D I (k D σ H q)⟩
theorem pssI {st : List Stmt} {t t' : TS} (h : PSs X st t) (k : ∀ D σ H, t' D σ H → t D σ H) : PSs X st t' := ⟨fun pins s σ H D I q => h.run pins s σ H D I (k D σ H q)⟩
def sNx : En → R Fl := fun ρ => .ok .nx ρ
def sSeq (a b : En → R Fl) : En → R Fl := fun ρ => sq (a ρ) b
def sDrop (f : En → R D) : En → R Fl := fun ρ => bnd (f ρ) fun _ ρ1 => .ok .nx ρ1
def sRet (f : En → R D) : En → R Fl := fun ρ => bnd (f ρ) fun d ρ1 => .ok (.rt d) ρ1
def sRetO (f : En → R D) : En → R Fl := fun ρ => bnd (f ρ) fun d ρ1 => .ok (.ro d) ρ1
def sIfS (t : En → R Bool) (a b : En → R Fl) : En → R Fl := fun ρ => bnd (t ρ) fun c ρ1 => if c = true then a ρ1 else b ρ1
def sSet (i : Nat) (f : En → R D) : En → R Fl := fun ρ => bnd (f ρ) fun d ρ1 => .ok .nx (ρ1.set i (some (.f d)))
def sSetO (i : Nat) (f : En → R D) : En → R Fl := fun ρ => bnd (f ρ) fun d ρ1 => .ok .nx (ρ1.set i (some (.o d)))
/-- names forgotten -/
def forget : List Nat → En → En
  | [], ρ => ρ
  | i :: is, ρ => forget is (ρ.set i none)
variable {st : Stmt} {rest : List Stmt} {m n : En → R Fl} {e : Expr} {f : En → R D} {pos : Pos}
theorem ss_nil : PSs X [] (cS X.K w sNx) := pssI pss_nil fun D σ H h => by
  obtain ⟨F, ρ, fp, s, h⟩ := h
  exact h σ F H fp .refl s
theorem ss_cons (h1 : PS X st (cS X.K w m)) (h2 : PSs X rest (cS X.K w n)) : PSs X (st :: rest) (cS X.K w (sSeq m n)) := pssI (pss_cons h1 h2) fun D σ H h => by
  obtain ⟨F, ρ, fp, s, h⟩ := h
  exact ⟨F, ρ, fp, s, PstS.seq h⟩
theorem ss_one (h1 : PS X st (cS X.K w m)) : PSs X [st] (cS X.K w m) := pss_one h1
theorem s_expr (he : PE X e (cF X.K w f)) (hs : swapsWith e none pos.line X.env = pure false := by rfl) : PS X (.Expr e pos) (cS X.K w (sDrop f)) := psI (ps_expr he hs) fun D σ H h => by
  obtain ⟨F, ρ, fp, s, h⟩ := h
  exact ⟨F, ρ, fp, s, h.bnd fun d ρ1 F1 H1 fp1 t1 h1 => fun v s1 z => h1 σ F1 H1 fp1 .refl s1⟩
theorem s_doc {x j pos pos'} : PS X (.Expr (.Constant (.str x) j pos) pos') (cS X.K w sNx) := psI ps_doc fun D σ H h => by
  obtain ⟨F, ρ, fp, s, h⟩ := h
  exact h σ F H fp .refl s
theorem s_pass : PS X (.Pass pos) (cS X.K w sNx) := psI ps_pass fun D σ H h => by
  obtain ⟨F, ρ, fp, s, h⟩ := h
  exact h σ F H fp .refl s
theorem s_cont : PS X (.Continue pos) (cS X.K w fun ρ => .ok .ct ρ) := psI ps_continue fun D σ H h => by
  obtain ⟨F, ρ, fp, s, h⟩ := h
  exact h σ F H fp .refl s
theorem s_ret (he : PE X e (cF X.K w f)) : PS X (.Return (some e) pos) (cS X.K w (sRet f)) := psI (ps_ret he) fun D σ H h => by
  obtain ⟨F, ρ, fp, s, h⟩ := h
  exact ⟨F, ρ, fp, s, h.bnd fun d ρ1 F1 H1 fp1 t1 h1 => fun v s1 z => h1 v σ F1 H1 fp1 .refl s1 z⟩
theorem s_retO (he : PE X e (cO X.K w f)) : PS X (.Return (some e) pos) (cS X.K w (sRetO f)) := psI (ps_ret he) fun D σ H h => by
  obtain ⟨F, ρ, fp, s, h⟩ := h
  exact ⟨F, ρ, fp, s, h.bnd fun d ρ1 F1 H1 fp1 t1 h1 => fun v s1 => h1 v σ F1 H1 fp1 .refl s1⟩
theorem s_retN : PS X (.Return none pos) (cS X.K w fun ρ => .ok (.rt .non) ρ) := psI ps_retN fun D σ H h => by
  obtain ⟨F, ρ, fp, s, h⟩ := h
  exact h .non σ F H fp .refl s .non
theorem s_if {c : Expr} {a b : List Stmt} {t : En → R Bool} (hc : PT X c (cT X.K w t)) (ha : PSs X a (cS X.K w m)) (hb : PSs X b (cS X.K w n)) : PS X (.If c a b pos) (cS X.K w (sIfS t m n)) := psI (ps_if hc ha hb) fun D σ H h => by
  obtain ⟨F, ρ, fp, s, h⟩ := h
  refine ⟨F, ρ, fp, s, h.bnd fun c ρ1 F1 H1 fp1 t1 h1 => fun s1 => ?_⟩
  cases c with
  | true => exact iteT ⟨F1, ρ1, fp1, s1, (by simpa using h1)⟩
  | false => exact iteF ⟨F1, ρ1, fp1, s1, (by simpa using h1)⟩
/-- .. where neither branch is taken further than it should: code that never comes -/
theorem ss_never {sts : List Stmt} : PSs X sts (cS X.K w fun _ => .bad) := pssI pss_never fun D σ H h => by
  obtain ⟨F, ρ, fp, s, h⟩ := h
  exact h
theorem Sta.store {K : PySem.W.Frag} {β : V} {lk : Bool} {F H : Hp} {σ : St} {ρ : En} {fp : List Addr} {v : V} {d : D} (s : Sta K β lk F H σ ρ fp) (z : Fz K F v d) (i : Nat) : ∃ fp', Sta K β lk F H (σ.set i (some v)) (ρ.set i (some (.f d))) fp' ∧ Tr F H fp F H fp' := by
  obtain ⟨fp', sl, sub⟩ := s.sl.store z (i := i)
  exact ⟨fp', ⟨s.ex, sl, s.nd.sublist sub, fun a ha => s.own a (sub.subset ha), s.lock⟩, Tr.refl.sub fun a ha => sub.subset ha⟩
theorem Sta.storeO {K : PySem.W.Frag} {β : V} {lk : Bool} {F H : Hp} {σ : St} {ρ : En} {fp : List Addr} {v : V} {d : D} (s : Sta K β lk F H (some v :: σ) (some (.o d) :: ρ) fp) (i : Nat) : ∃ fp', Sta K β lk F H (σ.set i (some v)) (ρ.set i (some (.o d))) fp' ∧ Tr F H fp F H fp' := by
  cases hs : s.sl with
  | @ow a k vs ds σ ρ fp hw hz sl =>
    obtain ⟨fp', sl', h1, h2⟩ := sl.storeO hw hz (i := i)
    exact ⟨fp', ⟨s.ex, sl', h2 s.nd, fun b hb => s.own b (h1 b hb), s.lock⟩, Tr.refl.sub h1⟩
theorem Sta.tail {K : PySem.W.Frag} {β : V} {lk : Bool} {F H : Hp} {σ : St} {ρ : En} {fp : List Addr} (s : Sta K β lk F H σ ρ fp) (i : Nat) (x : Option V) : ∃ fp', Sta K β lk F H (σ.set i x) (ρ.set i none) fp' ∧ Tr F H fp F H fp' := by
  obtain ⟨fp', sl, sub⟩ := s.sl.drop (i := i) x
  exact ⟨fp', ⟨s.ex, sl, s.nd.sublist sub, fun a ha => s.own a (sub.subset ha), s.lock⟩, Tr.refl.sub fun a ha => sub.subset ha⟩
theorem s_set (i : Nat) {x : Str} {pos' : Pos} (he : PE X e (cF X.K w f)) (hN : X.N.Nodup) (hi : X.N[i]? = some x := by rfl) (hx : Loc X.env.scope x := by first | exact Or.inl rfl | exact Or.inr rfl) (hs : swapsWith e (some (.Name x pos')) pos.line X.env = pure false := by rfl)
    (hf : X.fn x = true ∨ X.env.scope.names.lookup x = some .local := by first | exact .inl rfl | exact .inr rfl) : PS X (.Assign [.Name x pos'] e pos) (cS X.K w (sSet i f)) := psI (ps_set hN hi hx he hs hf) fun D σ H h => by
  obtain ⟨F, ρ, fp, s, h⟩ := h
  refine ⟨F, ρ, fp, s, h.bnd fun d ρ1 F1 H1 fp1 t1 h1 => fun v s1 z => ?_⟩
  obtain ⟨fp2, s2, t2⟩ := s1.store z i
  exact h1 _ F1 H1 fp2 t2 s2
theorem s_setO (i : Nat) {x : Str} {pos' : Pos} (he : PE X e (cO X.K w f)) (hN : X.N.Nodup) (hi : X.N[i]? = some x := by rfl) (hx : Loc X.env.scope x := by first | exact Or.inl rfl | exact Or.inr rfl) (hs : swapsWith e (some (.Name x pos')) pos.line X.env = pure false := by rfl)
    (hf : X.fn x = true ∨ X.env.scope.names.lookup x = some .local := by first | exact .inl rfl | exact .inr rfl) : PS X (.Assign [.Name x pos'] e pos) (cS X.K w (sSetO i f)) := psI (ps_set hN hi hx he hs hf) fun D σ H h => by
  obtain ⟨F, ρ, fp, s, h⟩ := h
  refine ⟨F, ρ, fp, s, h.bnd fun d ρ1 F1 H1 fp1 t1 h1 => fun v s1 => ?_⟩
  obtain ⟨fp2, s2, t2⟩ := s1.storeO i
  exact h1 _ F1 H1 fp2 t2 s2

/-! ### targets -/
/-- but for the slots is the same -/
def Only (is : List Nat) (σ σ' : St) : Prop := ∀ vs : List Nat, (∀ i ∈ is, i ∈ vs) → wipe σ' vs = wipe σ vs
theorem only_set (σ : St) (i : Nat) (x : Option V) : Only [i] σ (σ.set i x) := by
  intro vs h
  have hi : i ∈ vs := h i (by simp)
  clear h
  induction vs with
  | nil => cases hi
  | cons v vs ih =>
    unfold wipe
    rcases List.mem_cons.mp hi with rfl | hi
    · by_cases hm : i ∈ vs
      · rw [ih hm]
      · clear ih hi
        have : ∀ vs : List Nat, (wipe (σ.set i x) vs).set i none = (wipe σ vs).set i none := by
          intro vs
          induction vs with
          | nil => unfold wipe; rw [List.set_set]
          | cons v vs ih =>
            unfold wipe
            by_cases e : v = i
            · rw [e, ih]
            · rw [List.set_comm _ _ e, ih, List.set_comm _ _ e]
        exact this vs
    · rw [ih hi]
theorem Only.refl (is : List Nat) (σ : St) : Only is σ σ := fun _ _ => rfl
theorem Only.trans {is js : List Nat} {σ σ1 σ2 : St} (a : Only is σ σ1) (b : Only js σ1 σ2) : Only (is ++ js) σ σ2 := fun vs h =>
  (b vs fun i hi => h i (List.mem_append_right _ hi)).trans (a vs fun i hi => h i (List.mem_append_left _ hi))
def cG (K : PySem.W.Frag) (w : Wd) (is : List Nat) (h : D → En → Option En) : TG := fun v σ H Q => ∃ F ρ fp d ρ', StaW K w F H σ ρ fp ∧ Fz K F v d ∧ h d ρ = some ρ' ∧ ∀ σ' fp', StaW K w F H σ' ρ' fp' → Tr F H fp F H fp' → Only is σ σ' → Q σ' H
def cGs (K : PySem.W.Frag) (w : Wd) (is : List Nat) (h : List D → En → Option En) : TGs := fun vs σ H Q => ∃ F ρ fp ds ρ', StaW K w F H σ ρ fp ∧ Fzs K F vs ds ∧ h ds ρ = some ρ' ∧ ∀ σ' fp', StaW K w F H σ' ρ' fp' → Tr F H fp F H fp' → Only is σ σ' → Q σ' H
theorem pgI {tg : Expr} {t t' : TG} (h : PG X tg t) (k : ∀ v σ H Q, t' v σ H Q → t v σ H Q) : PG X tg t' := ⟨fun pins s σ H v u Q I r q => h.run pins s σ H v u Q I r (k v σ H Q q)⟩
theorem pgsI {tg : List Expr} {t t' : TGs} (h : PGs X tg t) (k : ∀ v σ H Q, t' v σ H Q → t v σ H Q) : PGs X tg t' := ⟨fun pins s σ H v u Q I r q => h.run pins s σ H v u Q I r (k v σ H Q q)⟩
def hName (i : Nat) : D → En → Option En := fun d ρ => some (ρ.set i (some (.f d)))
def hNil : List D → En → Option En := fun ds ρ => match ds with | [] => some ρ | _ => none
def hCons (g : D → En → Option En) (gs : List D → En → Option En) : List D → En → Option En := fun ds ρ => match ds with
  | d :: ds => (g d ρ).bind (gs ds)
  | _ => none
def hTup (n : Nat) (gs : List D → En → Option En) : D → En → Option En := fun d ρ => match d with
  | .nd .tup ds => if ds.length = n then gs ds ρ else none
  | .nd .ktp ds => if ds.length = n then gs ds ρ else none
  | _ => none
theorem g_name (i : Nat) {x : Str} (hN : X.N.Nodup) (hi : X.N[i]? = some x := by rfl) (hx : Loc X.env.scope x := by first | exact Or.inl rfl | exact Or.inr rfl) (hf : X.fn x = true ∨ X.env.scope.names.lookup x = some .local := by first | exact .inl rfl | exact .inr rfl) : PG X (.Name x pos) (cG X.K w [i] (hName i)) :=
  pgI (pg_name hN hi hx hf) fun v σ H Q h => by
    obtain ⟨F, ρ, fp, d, ρ', s, z, e, k⟩ := h
    cases e
    obtain ⟨fp2, s2, t2⟩ := s.store z i
    exact k _ fp2 s2 t2 (only_set _ _ _)
theorem gs_nil : PGs X [] (cGs X.K w [] hNil) := pgsI pgs_nil fun v σ H Q h => by
  obtain ⟨F, ρ, fp, ds, ρ', s, z, e, k⟩ := h
  cases z with
  | nil => simp only [hNil] at e; cases e; exact ⟨rfl, k _ fp s .refl (.refl _ _)⟩
  | cons _ _ => simp [hNil] at e
theorem gs_cons {es : List Expr} {is js : List Nat} {g : D → En → Option En} {gs : List D → En → Option En} (h1 : PG X e (cG X.K w is g)) (h2 : PGs X es (cGs X.K w js gs)) (hs : (assignEach (e :: es) X.env).map (·.2) = assign e X.env :: (assignEach es X.env).map (·.2) := by rfl) : PGs X (e :: es) (cGs X.K w (is ++ js) (hCons g gs)) :=
  pgsI (pgs_cons h1 h2 hs) fun v σ H Q h => by
    obtain ⟨F, ρ, fp, ds, ρ', s, z, e, k⟩ := h
    cases z with
    | nil => simp [hCons] at e
    | cons z zs =>
      simp only [hCons] at e
      obtain ⟨ρ1, e1, e2⟩ := Option.bind_eq_some_iff.mp e
      exact ⟨_, _, rfl, F, ρ, fp, _, ρ1, s, z, e1, fun σ1 fp1 s1 t1 o1 => ⟨F, ρ1, fp1, _, ρ', s1, zs, e2, fun σ2 fp2 s2 t2 o2 => k σ2 fp2 s2 (t1.trans t2) (o1.trans o2)⟩⟩
theorem g_tup {es : List Expr} {k n : Nat} {is : List Nat} {gs : List D → En → Option En} (hc : X.calm = true) (h : PGs X es (cGs X.K w is gs)) (hn : (assignEach es X.env).length = n := by rfl) (hst : (assignEach es X.env).findIdx? (·.1) = none := by rfl) : PG X (.Tuple es k pos) (cG X.K w is (hTup n gs)) :=
  pgI (pg_tup hc h hn hst) fun v σ H Q h => by
    obtain ⟨F, ρ, fp, d, ρ', s, z, e, kk⟩ := h
    cases d with
    | nd kd ds =>
      obtain ⟨a, vs, rfl, hi, hs⟩ := z.node
      have hl := hs.length
      cases kd with
      | tup =>
        simp only [hTup] at e
        split at e
        · exact ⟨a, vs, rfl, SqT.of (s.ex _ _ hi.1), by omega, F, ρ, fp, ds, ρ', s, hs, e, kk⟩
        · cases e
      | ktp =>
        simp only [hTup] at e
        split at e
        · exact ⟨a, vs, rfl, sqT_mono s.ex hi.1, by omega, F, ρ, fp, ds, ρ', s, hs, e, kk⟩
        · cases e
      | _ => simp [hTup] at e
    | _ => simp [hTup] at e
/-- target = value -/
def sAsg (g : D → En → Option En) (f : En → R D) : En → R Fl := fun ρ => bnd (f ρ) fun d ρ1 => match g d ρ1 with | some ρ2 => .ok .nx ρ2 | none => .bad
theorem s_asg {tg : Expr} {is : List Nat} {g : D → En → Option En} (he : PE X e (cF X.K w f)) (hg : PG X tg (cG X.K w is g)) (hs : swapsWithSole [tg] e pos.line X.env = pure false := by rfl) (hw : swappedStores [tg] e X.env = pure none := by rfl)
    (h1 : (assignEach [tg] X.env).map (·.2) = [assign tg X.env] := by rfl) : PS X (.Assign [tg] e pos) (cS X.K w (sAsg g f)) := psI (ps_asg he hg hs hw h1) fun D σ H h => by
  obtain ⟨F, ρ, fp, s, h⟩ := h
  refine ⟨F, ρ, fp, s, h.bnd fun d ρ1 F1 H1 fp1 t1 h1 => fun v s1 z => ?_⟩
  cases q : g d ρ1 with
  | none => rw [q] at h1; exact h1.elim
  | some ρ2 =>
    rw [q] at h1
    exact ⟨F1, ρ1, fp1, d, ρ2, s1, z, q, fun σ2 fp2 s2 t2 _ => h1 σ2 F1 H1 fp2 t2 s2⟩
/-- a, b = x, y -/
def sPar (i j : Nat) (f : En → R (List D)) : En → R Fl := fun ρ => bnd (f ρ) fun ds ρ1 => match ds with | [d, e] => .ok .nx ((ρ1.set i (some (.f d))).set j (some (.f e))) | _ => .bad
theorem s_par (i j : Nat) {x y : Str} {a b : Expr} {fs : En → R (List D)} {px py pt : Pos} {kt k2 pt2} (hc : X.calm = true) (hN : X.N.Nodup) (ha : PA X [a, b] (cA X.K w fs)) (hi : X.N[i]? = some x := by rfl) (hj : X.N[j]? = some y := by rfl) (hij : i ≠ j := by decide)
    (hx : X.env.scope.names.lookup x = some .local := by rfl) (hy : X.env.scope.names.lookup y = some .local := by rfl)
    (hw : swappedStores [.Tuple [.Name x px, .Name y py] kt pt] (.Tuple [a, b] k2 pt2) X.env = pure (some [x, y]) := by rfl)
    (hs : swapsWithSole [.Tuple [.Name x px, .Name y py] kt pt] (.Tuple [a, b] k2 pt2) pos.line X.env = pure false := by rfl) :
    PS X (.Assign [.Tuple [.Name x px, .Name y py] kt pt] (.Tuple [a, b] k2 pt2) pos) (cS X.K w (sPar i j fs)) := psI (ps_par hc hN hi hj hij hx hy ha hw hs) fun D σ H h => by
  obtain ⟨F, ρ, fp, s, h⟩ := h
  refine ⟨F, ρ, fp, s, h.bnd fun ds ρ1 F1 H1 fp1 t1 h1 => fun vs s1 z => ?_⟩
  cases z with
  | nil => exact h1.elim
  | cons z1 z => cases z with
    | nil => exact h1.elim
    | cons z2 z => cases z with
      | nil =>
        obtain ⟨fp2, s2, t2⟩ := s1.store z1 i
        obtain ⟨fp3, s3, t3⟩ := s2.store z2 j
        exact ⟨_, _, rfl, h1 _ F1 H1 fp3 (t2.trans t3) s3⟩
      | cons _ _ => exact h1.elim
/-- name op= e, frozen values -/
def sAug (i : Nat) (g : D → D → Option D) (f : En → R D) : En → R Fl := fun ρ => bnd (sVar i ρ) fun x ρ1 => bnd (f ρ1) fun y ρ2 => bnd (lift (g x y) ρ2) fun d ρ3 => .ok .nx (ρ3.set i (some (.f d)))
theorem sVar_eq {i : Nat} {ρ : En} : sVar i ρ = lift (match ρ[i]? with | some (some (.f d)) => some d | _ => none) ρ := by
  unfold sVar
  split <;> simp_all [lift]
theorem s_aug (i : Nat) {x : Str} {op : Operator} {r : R2} {g : D → D → Option D} {pos' : Pos} (ho : PIp X op r) (hr : RB X.K r g) (he : PE X e (cF X.K w f)) (hN : X.N.Nodup) (hi : X.N[i]? = some x := by rfl) (hx : Loc X.env.scope x := by first | exact Or.inl rfl | exact Or.inr rfl)
    (hf : X.fn x = true ∨ X.env.scope.names.lookup x = some .local := by first | exact .inl rfl | exact .inr rfl) : PS X (.AugAssign (.Name x pos') op e pos) (cS X.K w (sAug i g f)) := psI (ps_aug hN hi hx he ho hf) fun D σ H h => by
  obtain ⟨F, ρ, fp, s, h⟩ := h
  unfold sAug at h
  rw [sVar_eq] at h
  cases e0 : ρ[i]? with
  | none => rw [e0] at h; exact h.elim
  | some o =>
    rw [e0] at h
    cases o with
    | none => exact h.elim
    | some x =>
      cases x with
      | o d => exact h.elim
      | b d => exact h.elim
      | f dx =>
        obtain ⟨v, ev, zx⟩ := s.sl.getF e0
        refine ⟨v, ev, F, ρ, fp, s, PstS.bnd (e := f ρ) h fun dy ρ2 F2 H2 fp2 t2 h2 => fun y s2 zy => ?_⟩
        have h3 : ∃ d, g dx dy = some d ∧ PstS X.K w F2 H2 fp2 (.ok .nx (ρ2.set i (some (.f d)))) D := by
          cases q : g dx dy with
          | none => rw [q] at h2; exact h2.elim
          | some d => rw [q] at h2; exact ⟨d, rfl, h2⟩
        obtain ⟨d, q, h3⟩ := h3
        refine hr F2 H2 v y dx dy d _ s2.ex (zx.mono t2.ex) (.fz zy) q (fun v' z' => ?_) (fun p k vs ds ho' e' hp em hs => ?_)
        · obtain ⟨fp3, s3, t3⟩ := s2.store z' i
          exact h3 _ F2 H2 fp3 t3 s3
        · subst e'
          obtain ⟨s3, t3, z3⟩ := s2.new hp em hs
          obtain ⟨fp4, s4, t4⟩ := s3.store z3 i
          exact h3 _ _ _ fp4 (t3.trans t4) s4
end
end Y

set_option Elab.async false
set_option linter.all false
set_option maxRecDepth 100000
set_option maxHeartbeats 2000000
/-! What changes: owned names; methods, stores. -/
namespace Y
open PySem L2
def ownD (i : Nat) (ρ : En) : Option D := match ρ[i]? with
  | some (some (.o d)) => some d
  | some (some (.b d)) => some d
  | _ => none
def chg (i : Nat) (d : D) (ρ : En) : En := match ρ[i]? with
  | some (some (.b _)) => ρ.set i (some (.b d))
  | _ => ρ.set i (some (.o d))
theorem Sta.change {K : PySem.W.Frag} {β : V} {lk : Bool} {F H : Hp} {σ : St} {ρ : En} {fp : List Addr} {i : Nat} {d : D} (s : Sta K β lk F H σ ρ fp) (e : ownD i ρ = some d) :
    ∃ a k vs ds, d = .nd k ds ∧ σ[i]? = some (some (.ref a)) ∧ ItemW H a k vs ∧ Fzs K F vs ds ∧ a ∈ fp ∧ ∀ k' vs' ds' ho, mkHO k' vs' = some ho → owK k' = true → Fzs K F vs' ds' →
      Sta K β lk F (upd H a ho) σ (chg i (.nd k' ds') ρ) fp ∧ Tr F H fp F (upd H a ho) fp := by
  have main : ∀ mk : D → S, (mk = S.o ∨ mk = S.b) → ρ[i]? = some (some (mk d)) → (∀ d', chg i d' ρ = ρ.set i (some (mk d'))) → ∃ a k vs ds, d = .nd k ds ∧ σ[i]? = some (some (.ref a)) ∧ ItemW H a k vs ∧ Fzs K F vs ds ∧ a ∈ fp ∧ ∀ k' vs' ds' ho, mkHO k' vs' = some ho → owK k' = true → Fzs K F vs' ds' →
      Sta K β lk F (upd H a ho) σ (chg i (.nd k' ds') ρ) fp ∧ Tr F H fp F (upd H a ho) fp := by
    intro mk hm e1 hc
    obtain ⟨a, k, vs, ds, fp1, fp2, h1, h2, h3, h4, h5, h6, h7, h8, h9⟩ := s.sl.own mk hm e1
    subst h2
    obtain ⟨m1, m2, m3⟩ := mid s.nd
    have n2 : F a = none := s.own a (by simp)
    refine ⟨a, k, vs, ds, h1, h3, h4, h5, by simp, fun k' vs' ds' ho em ow hz => ⟨⟨same_updR s.ex n2, ?_, s.nd, s.own, s.lock⟩, ⟨Same.refl _, fun b o q n => ?_, fun b q => q.elim .inl fun ⟨q1, q2, _⟩ => absurd q1 q2⟩⟩⟩
    · rw [hc]
      exact h8 F _ k' vs' ds' (Same.refl _) (fun b hb o q => by rw [upd_ne (fun (z : b = a) => m1 (z ▸ hb))]; exact q) (mkW em ow upd_same) hz
    · rw [upd_ne (fun (z : b = a) => n (by rw [z]; simp))]; exact q
  unfold ownD at e
  split at e
  · rename_i d' e1
    cases e
    exact main S.o (.inl rfl) e1 fun d' => by unfold chg; rw [e1]
  · rename_i d' e1
    cases e
    exact main S.b (.inr rfl) e1 fun d' => by unfold chg; rw [e1]
  · cases e
def isLst : D → Bool
  | .nd .lst _ => true
  | _ => false
def ownL (i : Nat) (ρ : En) : Option D := (ownD i ρ).bind fun d => if isLst d = true then some d else none
/-- a method that changes its receiver -/
def MtO (K : PySem.W.Frag) (r : V → List V → Hp → VK → Prop) (g : D → List D → Option (D × D)) : Prop := ∀ F H a k vs ds args das d' res Q, Same F H → ItemW H a k vs → Fzs K F vs ds → Fzs K F args das → g (.nd k ds) das = some (d', res) →
  (∀ k' vs' ds' ho v, d' = .nd k' ds' → owK k' = true → mkHO k' vs' = some ho → Fzs K F vs' ds' → Fz K F v res → Q v (upd H a ho)) → r (.ref a) args H Q
def sMeth (i : Nat) (g : D → List D → Option (D × D)) (f : En → R (List D)) : En → R D := fun ρ => bnd (lift (ownL i ρ) ρ) fun _ _ => bnd (f ρ) fun ds ρ1 => match ownD i ρ1 with
  | some d0 => match g d0 ds with
    | some (d', res) => .ok res (chg i d' ρ1)
    | none => .bad
  | none => .bad
theorem own_bnd {K : PySem.W.Frag} {w : Wd} {F H : Hp} {fp : List Addr} {σ : St} {ρ : En} {i : Nat} {β : Type} {g : D → En → R β} {N : β → En → Hp → Hp → List Addr → Prop} (h : Pst K w F H fp σ (bnd (lift (ownL i ρ) ρ) g) N) : ∃ ds, ownD i ρ = some (.nd .lst ds) ∧ Pst K w F H fp σ (g (.nd .lst ds) ρ) N := by
  unfold ownL at h
  cases q : ownD i ρ with
  | none => rw [q] at h; exact h.elim
  | some d =>
    rw [q] at h
    cases d with
    | nd k ds =>
      cases k with
      | lst => exact ⟨ds, rfl, h⟩
      | _ => exact h.elim
    | _ => exact h.elim
section
variable {X : Cx} {w : Wd} {e : Expr} {es : List Expr} {fs : En → R (List D)} {x name : Str} {p apos cpos pos : Pos} {id : String} {r : V → List V → Hp → VK → Prop} {g : D → List D → Option (D × D)}
theorem meth_end {K : PySem.W.Frag} {F H : Hp} {fp : List Addr} {σ : St} {ρ1 : En} {a : Addr} {i : Nat} {vs : List V} {ds : List D} {Q : VK} (hr : MtO K r g) (s1 : StaW K w F H σ ρ1 fp) (z : Fzs K F vs ds) (ev : σ[i]? = some (some (.ref a)))
    (h1 : Pst K w F H fp σ (match ownD i ρ1 with | some d0 => (match g d0 ds with | some (d', res) => R.ok res (chg i d' ρ1) | none => R.bad) | none => R.bad) (nF K w σ Q)) : r (.ref a) vs H Q := by
  cases q : ownD i ρ1 with
  | none => rw [q] at h1; exact h1.elim
  | some d0 =>
    rw [q] at h1
    obtain ⟨a2, k2, vs2, ds2, rfl, ev2, hw2, hz2, _, cont⟩ := s1.change q
    rw [ev] at ev2
    cases ev2
    cases q2 : g (.nd k2 ds2) ds with
    | none => simp only [q2] at h1; exact h1.elim
    | some pr =>
      obtain ⟨d', res⟩ := pr
      simp only [q2] at h1
      refine hr F H a k2 vs2 ds2 vs ds d' res Q s1.ex hw2 hz2 z q2 fun k' vs' ds' ho v ed ow em hz zr => ?_
      subst ed
      obtain ⟨s2, t2⟩ := cont k' vs' ds' ho em ow hz
      exact h1 _ _ _ t2 v s2 zr
theorem d_meth (i : Nat) (slot : Slot "list" name id) (hty : typeOf (.builtin id) = pure (.type "method_descriptor")) (hm : MtR X id r) (hr : MtO X.K r g) (ha : PA X (e :: es) (cA X.K w fs))
    (hN : X.N[i]? = some x := by rfl) (hv : Vis X.env.scope x := by first | exact Or.inl rfl | exact Or.inr (Or.inl rfl) | exact Or.inr (Or.inr rfl)) (hd : (x == ("__debug__" : Str)) = false := by decide) (hcd : (x == ("__classdict__" : Str)) = false := by decide)
    (hbase : attributeBase (.Name x p) name X.env (eval (.Name x p) X.env) = eval (.Name x p) X.env := by rfl)
    (hfew : ((backTo cpos (starEach (e :: es) X.env)).all (fun x => !x.1) && (backToKw cpos (keywordEach [] X.env)).all (fun x => x.1.isSome)
      && decide ((e :: es).length + ([] : List Keyword).length + (if ([] : List Keyword).isEmpty then 0 else 1) < 30)) = true := by rfl)
    (hline : (apos.endLine == cpos.line) = true := by rfl) (hs : starEach (e :: es) X.env = (false, eval e X.env) :: starEach es X.env := by rfl) (hplain : (backTo cpos (starEach es X.env)).any (·.1) = false := by rfl) :
    PE X (.Call (.Attribute (.Name x p) name apos) (e :: es) [] cpos) (cF X.K w (sMeth i g fs)) :=
  peI (pe_bm PySem.F.plainAttrs_list slot hty hm (pe_var hN hv hd hcd) ha hbase hfew hline hs hplain) fun σ H Q h => by
    obtain ⟨F, ρ, fp, s, h⟩ := h
    obtain ⟨ds, e0, h⟩ := own_bnd h
    obtain ⟨a, k, vs, ds', ee, ev, hw, hz, _, _⟩ := s.change e0
    cases ee
    exact ⟨.ref a, ev, .inl ⟨rfl, vs, SqL.of hw.1⟩, F, ρ, fp, s, h.bnd fun das ρ1 F1 H1 fp1 t1 h1 => fun avs s1 z => meth_end hr s1 z ev h1⟩
/-- without arguments -/
theorem d_meth0 (i : Nat) (slot : Slot "list" name id) (hty : typeOf (.builtin id) = pure (.type "method_descriptor")) (hm : MtR X id r) (hr : MtO X.K r g)
    (hN : X.N[i]? = some x := by rfl) (hv : Vis X.env.scope x := by first | exact Or.inl rfl | exact Or.inr (Or.inl rfl) | exact Or.inr (Or.inr rfl)) (hd : (x == ("__debug__" : Str)) = false := by decide) (hcd : (x == ("__classdict__" : Str)) = false := by decide)
    (hbase : attributeBase (.Name x p) name X.env (eval (.Name x p) X.env) = eval (.Name x p) X.env := by rfl) (hline : (apos.endLine == cpos.line) = true := by rfl) :
    PE X (.Call (.Attribute (.Name x p) name apos) [] [] cpos) (cF X.K w (sMeth i g sNil)) :=
  peI (pe_bm0 PySem.F.plainAttrs_list slot hty hm (pe_var hN hv hd hcd) hbase hline) fun σ H Q h => by
    obtain ⟨F, ρ, fp, s, h⟩ := h
    obtain ⟨ds, e0, h⟩ := own_bnd h
    obtain ⟨a, k, vs, ds', ee, ev, hw, hz, _, _⟩ := s.change e0
    cases ee
    exact ⟨.ref a, ev, .inl ⟨rfl, vs, SqL.of hw.1⟩, meth_end hr s .nil ev h⟩
/-! ### append, insert, pop -/
def gAppend : D → List D → Option (D × D)
  | .nd .lst ds, [d] => if ds.length < sizeLine then some (.nd .lst (ds ++ [d]), .non) else none
  | _, _ => none
theorem mo_append {K : PySem.W.Frag} : MtO K rAppend gAppend := by
  intro F H a k vs ds args das d' res Q ex hw hz za e q
  cases k with
  | lst =>
    cases za with
    | nil => simp [gAppend] at e
    | cons z1 z => cases z with
      | nil =>
        simp only [gAppend] at e
        split at e
        · rename_i c
          cases e
          have c' : vs.length < sizeLine := by rw [hz.length]; exact c
          exact ⟨a, vs, _, rfl, rfl, hw.1, c', q .lst _ _ _ _ rfl rfl (if_pos (by rw [List.length_append]; exact c')) (hz.append (.cons z1 .nil)) .non⟩
        · cases e
      | cons _ _ => simp [gAppend] at e
  | _ => first | exact hw.elim | simp [gAppend] at e
def gInsert : D → List D → Option (D × D)
  | .nd .lst ds, [.int i, d] => if ds.length < sizeLine ∧ 0 ≤ i ∧ i < 2 ^ 63 then some (.nd .lst (ds.take i.toNat ++ [d] ++ ds.drop i.toNat), .non) else none
  | _, _ => none
def rInsert : V → List V → Hp → VK → Prop := fun x vs H Q => ∃ (l : Addr) (xs : List V) (i : Int) (y : V), x = .ref l ∧ vs = [.int i, y] ∧ H l = some (.lst xs) ∧ xs.length < sizeLine ∧ 0 ≤ i ∧ i < 2 ^ 63 ∧ Q .non (upd H l (.lst (xs.take i.toNat ++ [y] ++ xs.drop i.toNat)))
theorem mo_insert {K : PySem.W.Frag} : MtO K rInsert gInsert := by
  intro F H a k vs ds args das d' res Q ex hw hz za e q
  cases k with
  | lst =>
    cases za with
    | nil => simp [gInsert] at e
    | @cons v1 d1 _ _ z1 z => cases z with
      | nil => cases d1 <;> simp [gInsert] at e
      | cons z2 z => cases z with
        | nil =>
          cases d1 with
          | int i =>
            simp only [gInsert] at e
            split at e
            · rename_i c
              cases e
              have c' : vs.length < sizeLine := by rw [hz.length]; exact c.1
              have hl : ∀ y : V, (vs.take i.toNat ++ [y] ++ vs.drop i.toNat : List V).length ≤ sizeLine := fun y => by
                rw [List.length_append, List.length_append, List.length_take, List.length_drop, List.length_singleton]; omega
              exact ⟨a, vs, i, _, rfl, by rw [z1.int_inv], hw.1, c', c.2.1, c.2.2, q .lst _ _ _ _ rfl rfl (if_pos (hl _)) (((hz.take _).append (.cons z2 .nil)).append (hz.drop _)) .non⟩
            · cases e
          | _ => simp [gInsert] at e
        | cons _ _ => cases d1 <;> simp [gInsert] at e
  | _ => first | exact hw.elim | simp [gInsert] at e
def gPop : D → List D → Option (D × D)
  | .nd .lst ds, [] => match ds[ds.length - 1]? with
    | some d => some (.nd .lst ds.dropLast, d)
    | none => none
  | _, _ => none
theorem Fzs.dropLast {K : PySem.W.Frag} {F : Hp} {vs : List V} {ds : List D} (h : Fzs K F vs ds) : Fzs K F vs.dropLast ds.dropLast := by
  rw [List.dropLast_eq_take, List.dropLast_eq_take, h.length]
  exact h.take _
theorem mo_pop {K : PySem.W.Frag} : MtO K rPop gPop := by
  intro F H a k vs ds args das d' res Q ex hw hz za e q
  cases k with
  | lst =>
    cases za with
    | nil =>
      simp only [gPop] at e
      cases q0 : ds[ds.length - 1]? with
      | none => rw [q0] at e; cases e
      | some d =>
        rw [q0] at e
        cases e
        obtain ⟨v, h1, h2⟩ := hz.get q0
        exact ⟨a, vs, v, rfl, rfl, hw.1, by rw [hz.length]; exact h1, q .lst _ _ _ _ rfl rfl (if_pos (by rw [List.length_dropLast]; exact Nat.le_trans (Nat.sub_le _ _) hw.2)) hz.dropLast h2⟩
    | cons _ _ => simp [gPop] at e
  | _ => first | exact hw.elim | simp [gPop] at e
def gPopAt : D → List D → Option (D × D)
  | .nd .lst ds, [.int i] => if -(2 ^ 63) ≤ i ∧ i < 2 ^ 63 then (match seqIndex? i ds.length with
    | some k => (match ds[k]? with
      | some d => some (.nd .lst (ds.eraseIdx k), d)
      | none => none)
    | none => none) else none
  | _, _ => none
theorem mo_popAt {K : PySem.W.Frag} : MtO K rPopAt gPopAt := by
  intro F H a k vs ds args das d' res Q ex hw hz za e q
  cases k with
  | lst =>
    cases za with
    | nil => simp [gPopAt] at e
    | @cons v1 d1 _ _ z1 z => cases z with
      | cons _ _ => cases d1 <;> simp [gPopAt] at e
      | nil =>
        cases d1 with
        | int i =>
          simp only [gPopAt] at e
          split at e
          · rename_i c
            cases q0 : seqIndex? i ds.length with
            | none => rw [q0] at e; cases e
            | some j =>
              rw [q0] at e
              cases q1 : ds[j]? with
              | none => simp only [q1] at e; cases e
              | some d =>
                simp only [q1] at e
                cases e
                obtain ⟨v, h1, h2⟩ := hz.get q1
                exact ⟨a, vs, i, j, v, rfl, by rw [z1.int_inv], hw.1, c.1, c.2, by rw [hz.length]; exact q0, h1, q .lst _ _ _ _ rfl rfl (if_pos (Nat.le_trans (len_erase _ _) hw.2)) (hz.eraseIdx j) h2⟩
          · cases e
        | _ => simp [gPopAt] at e
  | _ => first | exact hw.elim | simp [gPopAt] at e

/-! ### xs += ys, x[i] = e -/
def sAugL (i : Nat) (f : En → R D) : En → R Fl := fun ρ => bnd (lift (ownL i ρ) ρ) fun _ _ => bnd (f ρ) fun y ρ1 => match ownD i ρ1 with
  | some d0 => match dCat d0 y with
    | some d' => .ok .nx (chg i d' ρ1)
    | none => .bad
  | none => .bad
variable {f : En → R D}
theorem own_bndS {K : PySem.W.Frag} {F H : Hp} {fp : List Addr} {ρ : En} {i : Nat} {g : D → En → R Fl} {D : Ends} (h : PstS K w F H fp (bnd (lift (ownL i ρ) ρ) g) D) : ∃ ds, ownD i ρ = some (.nd .lst ds) ∧ PstS K w F H fp (g (.nd .lst ds) ρ) D := by
  unfold ownL at h
  cases q : ownD i ρ with
  | none => rw [q] at h; exact h.elim
  | some d =>
    rw [q] at h
    cases d with
    | nd k ds =>
      cases k with
      | lst => exact ⟨ds, rfl, h⟩
      | _ => exact h.elim
    | _ => exact h.elim
theorem set_same {σ : St} {i : Nat} {v : V} (h : σ[i]? = some (some v)) : σ.set i (some v) = σ := by
  obtain ⟨hi, e⟩ := List.getElem?_eq_some_iff.mp h
  rw [← e]
  exact List.set_getElem_self hi
theorem s_augL (i : Nat) {pos' : Pos} (he : PE X e (cF X.K w f)) (hN : X.N.Nodup) (hi : X.N[i]? = some x := by rfl) (hx : Loc X.env.scope x := by first | exact Or.inl rfl | exact Or.inr rfl)
    (hf : X.fn x = true ∨ X.env.scope.names.lookup x = some .local := by first | exact .inl rfl | exact .inr rfl) : PS X (.AugAssign (.Name x pos') .Add e pos) (cS X.K w (sAugL i f)) := psI (ps_aug hN hi hx he iop_ext hf) fun D σ H h => by
  obtain ⟨F, ρ, fp, s, h⟩ := h
  obtain ⟨ds0, e0, h⟩ := own_bndS h
  obtain ⟨a, k, vs, ds', ee, ev, hw, hz, _, _⟩ := s.change e0
  cases ee
  refine ⟨.ref a, ev, F, ρ, fp, s, PstS.bnd (e := f ρ) h fun dy ρ1 F1 H1 fp1 t1 h1 => fun y s1 zy => ?_⟩
  cases q : ownD i ρ1 with
  | none => simp only [q] at h1; exact h1.elim
  | some d0 =>
    simp only [q] at h1
    obtain ⟨a2, k2, vs2, ds2, ee2, ev2, hw2, hz2, _, cont⟩ := s1.change q
    subst ee2
    rw [ev] at ev2
    cases ev2
    cases q2 : dCat (.nd k2 ds2) dy with
    | none => simp only [q2] at h1; exact h1.elim
    | some d' =>
      simp only [q2] at h1
      cases k2 with
      | lst =>
        cases dy with
        | nd k3 ds3 =>
          cases k3 with
          | lst =>
            simp only [dCat] at q2
            split at q2
            · rename_i c
              cases q2
              obtain ⟨b, ws, rfl, hb, gs⟩ := zy.node
              have c' : vs2.length + ws.length ≤ sizeLine := by rw [hz2.length, gs.length]; exact c
              obtain ⟨s2, t2⟩ := cont .lst (vs2 ++ ws) (ds2 ++ ds3) _ (if_pos (by rw [List.length_append]; exact c')) rfl (hz2.append gs)
              refine ⟨a, b, vs2, ws, rfl, rfl, hw2.1, s1.ex _ _ hb.1, c', ?_⟩
              show D.nx (σ.set i (some (.ref a))) _
              rw [set_same ev]
              exact h1 σ _ _ _ t2 s2
            · cases q2
          | _ => simp [dCat] at q2
        | _ => simp [dCat] at q2
      | _ => simp [dCat] at q2

/-! ### x[k] = e -/
def gSetL : D → D → D → Option D
  | .nd .lst ds, .int k, d => match ixN ds.length k with
    | some j => some (.nd .lst (ds.set j d))
    | none => none
  | _, _, _ => none
def gSetD : D → D → D → Option D
  | .nd (.dK ks) ds, k, d => match keyD k with
    | some q => if ks.length < sizeLine then some (.nd (.dK (putKs ks q)) (putDs ks ds q d)) else none
    | none => none
  | .nd (.dT ks) ds, .nd .tup xs, d => match keysD xs with
    | some q => if ks.length < sizeLine then some (.nd (.dT (putKs ks q)) (putDs ks ds q d)) else none
    | none => none
  | _, _, _ => none
/-- by g -/
def sPut (i : Nat) (g : D → D → D → Option D) (fk fe : En → R D) : En → R Fl := fun ρ => bnd (fe ρ) fun d ρ1 => bnd (lift (ownD i ρ1) ρ1) fun _ _ => bnd (fk ρ1) fun k ρ2 => match ownD i ρ2 with
  | some d0 => match g d0 k d with
    | some d' => .ok .nx (chg i d' ρ2)
    | none => .bad
  | none => .bad
variable {fk : En → R D} {k : Expr}
theorem keyL_of {K : PySem.W.Frag} {F : Hp} {v : V} {d : D} {q : Key} (z : Fz K F v d) (e : keyD d = some q) : keyL q = true := by
  unfold keyD at e
  split at e
  · cases e; rfl
  · cases e; simpa [keyL] using z.str_inv.2
  · cases e
theorem keysL_of {K : PySem.W.Frag} {F : Hp} : ∀ {vs : List V} {ds : List D} {ks : List Key}, Fzs K F vs ds → keysD ds = some ks → keysL ks = true
  | _, _, ks, .nil, e => by simp [keysD] at e; subst e; rfl
  | _, _, ks, .cons (d := d) (ds := ds) h hs, e => by
    unfold keysD at e
    split at e
    · rename_i k ks' e1 e2
      cases e
      have h1 := keyL_of h e1
      have h2 := keysL_of hs e2
      simp only [keysL] at h2
      simp [keysL, h1, h2]
    · cases e
theorem keysD_len : ∀ {ds : List D} {ks : List Key}, keysD ds = some ks → ds.length = ks.length
  | [], ks, e => by simp [keysD] at e; subst e; rfl
  | d :: ds, ks, e => by
    unfold keysD at e
    split at e
    · rename_i k ks' e1 e2
      cases e
      rw [List.length_cons, List.length_cons, keysD_len e2]
    · cases e
theorem putKs_L {ks : List Key} {q : Key} (h : keysL ks = true) (hq : keyL q = true) : keysL (putKs ks q) = true := by
  unfold putKs
  split
  · exact h
  · simp only [keysL] at h
    simp [keysL, h, hq]
theorem putKss_L {ks : List (List Key)} {q : List Key} (h : keyssL ks = true) (hq : keyLL q = true) : keyssL (putKs ks q) = true := by
  unfold putKs
  split
  · exact h
  · simp only [keyssL] at h
    simp [keyssL, h, hq]
theorem put_mid {K : PySem.W.Frag} {F H : Hp} {fp : List Addr} {ρ1 : En} {d : D} {g : D → D → D → Option D} {D : Ends} {i : Nat} (h : PstS K w F H fp (bnd (lift (ownD i ρ1) ρ1) fun _ _ => bnd (fk ρ1) fun k ρ2 => match ownD i ρ2 with
  | some d0 => (match g d0 k d with
    | some d' => .ok .nx (chg i d' ρ2)
    | none => .bad)
  | none => .bad) D) : ∃ d0, ownD i ρ1 = some d0 ∧ PstS K w F H fp (bnd (fk ρ1) fun k ρ2 => match ownD i ρ2 with
  | some d0 => (match g d0 k d with
    | some d' => .ok .nx (chg i d' ρ2)
    | none => .bad)
  | none => .bad) D := by
  cases q : ownD i ρ1 with
  | none => rw [q] at h; exact h.elim
  | some d0 => rw [q] at h; exact ⟨d0, rfl, h⟩
theorem put_end {K : PySem.W.Frag} {F H : Hp} {fp : List Addr} {σ : St} {ρ2 : En} {d dk : D} {g : D → D → D → Option D} {D : Ends} {i : Nat} {a : Addr} (s : StaW K w F H σ ρ2 fp) (ev : σ[i]? = some (some (.ref a))) (h : PstS K w F H fp (match ownD i ρ2 with
  | some d0 => (match g d0 dk d with
    | some d' => R.ok Fl.nx (chg i d' ρ2)
    | none => .bad)
  | none => .bad) D) : ∃ k vs ds d', ItemW H a k vs ∧ Fzs K F vs ds ∧ g (.nd k ds) dk d = some d' ∧ ∀ k' vs' ds' ho, d' = .nd k' ds' → mkHO k' vs' = some ho → owK k' = true → Fzs K F vs' ds' → D.nx σ (upd H a ho) := by
  cases q : ownD i ρ2 with
  | none => simp only [q] at h; exact h.elim
  | some d0 =>
    simp only [q] at h
    obtain ⟨a2, k2, vs2, ds2, ee2, ev2, hw2, hz2, _, cont⟩ := s.change q
    subst ee2
    rw [ev] at ev2
    cases ev2
    cases q2 : g (.nd k2 ds2) dk d with
    | none => simp only [q2] at h; exact h.elim
    | some d' =>
      simp only [q2] at h
      refine ⟨k2, vs2, ds2, d', hw2, hz2, q2, fun k' vs' ds' ho ed em ow hz => ?_⟩
      subst ed
      obtain ⟨s2, t2⟩ := cont k' vs' ds' ho em ow hz
      exact h σ _ _ _ t2 s2
theorem s_setL (i : Nat) {pos' : Pos} (he : PE X e (cF X.K w f)) (hk : PE X k (cF X.K w fk)) (hN : X.N[i]? = some x := by rfl) (hv : Vis X.env.scope x := by first | exact Or.inl rfl | exact Or.inr (Or.inl rfl) | exact Or.inr (Or.inr rfl)) (hd : (x == ("__debug__" : Str)) = false := by decide) (hcd : (x == ("__classdict__" : Str)) = false := by decide)
    (ha : ∀ v, assign (.Subscript (.Name x p) k pos') X.env v = (do
      let ov ← holding [v] (eval (.Name x p) X.env)
      let iv ← holding [v, ov] (eval k X.env)
      standAt pos'
      holding [v, ov, iv] (setItem ov iv v)
      release [v, ov, iv] []) := by intro _; rfl)
    (hs : swapsWithSole [.Subscript (.Name x p) k pos'] e pos.line X.env = pure false := by rfl) (hw : swappedStores [.Subscript (.Name x p) k pos'] e X.env = pure none := by rfl)
    (h1 : (assignEach [.Subscript (.Name x p) k pos'] X.env).map (·.2) = [assign (.Subscript (.Name x p) k pos') X.env] := by rfl) :
    PS X (.Assign [.Subscript (.Name x p) k pos'] e pos) (cS X.K w (sPut i gSetL fk f)) := psI (ps_asg he (pg_sub (pe_var hN hv hd hcd) hk set_list ha) hs hw h1) fun D σ H h => by
  obtain ⟨F, ρ, fp, s, h⟩ := h
  refine ⟨F, ρ, fp, s, PstS.bnd (e := f ρ) h fun d ρ1 F1 H1 fp1 t1 h1 => fun v s1 zv => ?_⟩
  obtain ⟨d0, e0, h2⟩ := put_mid h1
  obtain ⟨a, _, _, _, _, ev, _, _, _, _⟩ := s1.change e0
  refine ⟨.ref a, ev, F1, ρ1, fp1, s1, PstS.bnd (e := fk ρ1) h2 fun dk ρ2 F2 H2 fp2 t2 h3 => fun y s2 zy => ?_⟩
  obtain ⟨kd, vs, ds, d', hw, hz, ge, cont⟩ := put_end s2 ev h3
  cases kd with
  | lst =>
    cases dk with
    | int n =>
      simp only [gSetL] at ge
      split at ge
      · rename_i j ej
        cases ge
        rw [zy.int_inv]
        refine ⟨a, vs, n, j, rfl, rfl, hw.1, by rw [hz.length]; exact ej, ?_⟩
        exact cont .lst _ _ _ rfl (if_pos (by rw [List.length_set]; exact hw.2)) rfl (hz.set (zv.mono t2.ex) j)
      · cases ge
    | _ => simp [gSetL] at ge
  | _ => simp [gSetL] at ge
theorem s_setD (i : Nat) {pos' : Pos} (hu : X.A.units + 1 < cLine) (he : PE X e (cF X.K w f)) (hk : PE X k (cF X.K w fk)) (hN : X.N[i]? = some x := by rfl) (hv : Vis X.env.scope x := by first | exact Or.inl rfl | exact Or.inr (Or.inl rfl) | exact Or.inr (Or.inr rfl)) (hd : (x == ("__debug__" : Str)) = false := by decide) (hcd : (x == ("__classdict__" : Str)) = false := by decide)
    (hs : swapsWith e (some (.Subscript (.Name x p) k pos')) pos.line X.env = pure false := by rfl) :
    PS X (.Assign [.Subscript (.Name x p) k pos'] e pos) (cS X.K w (sPut i gSetD fk f)) := psI (ps_dput hu (pe_var hN hv hd hcd) hk he hs) fun D σ H h => by
  obtain ⟨F, ρ, fp, s, h⟩ := h
  refine ⟨F, ρ, fp, s, PstS.bnd (e := f ρ) h fun d ρ1 F1 H1 fp1 t1 h1 => fun v s1 zv => ?_⟩
  obtain ⟨d0, e0, h2⟩ := put_mid h1
  obtain ⟨a, _, _, _, _, ev, _, _, _, _⟩ := s1.change e0
  refine ⟨.ref a, ev, F1, ρ1, fp1, s1, PstS.bnd (e := fk ρ1) h2 fun dk ρ2 F2 H2 fp2 t2 h3 => fun y s2 zy => ?_⟩
  obtain ⟨kd, vs, ds, d', hw, hz, ge, cont⟩ := put_end s2 ev h3
  have zv2 := zv.mono t2.ex
  cases kd with
  | dK ks =>
    simp only [gSetD] at ge
    cases q : keyD dk with
    | none => rw [q] at ge; cases ge
    | some kq =>
      simp only [q] at ge
      split at ge
      · rename_i c
        cases ge
        have hl := hw.1
        have c' : (ks.zip vs).length < sizeLine := by rw [List.length_zip, ← hl, Nat.min_self]; exact c
        refine ⟨a, _, rfl, .inl ⟨_, kq, hw.2.1, keyD_rel zy q, c', rfl⟩, ?_⟩
        rw [putK_zip hl]
        refine cont (.dK _) (putVs ks vs kq v) _ _ rfl (if_pos ⟨putKs_len hl, Nat.le_trans putVs_le (by omega), putKs_L hw.2.2.2 (keyL_of zy q)⟩) rfl (fzs_putVs zv2 hz)
      · cases ge
  | dT ks =>
    cases dk with
    | nd k4 xs =>
      cases k4 with
      | tup =>
        simp only [gSetD] at ge
        cases q : keysD xs with
        | none => rw [q] at ge; cases ge
        | some kq =>
          simp only [q] at ge
          split at ge
          · rename_i c
            cases ge
            have hl := hw.1
            have c' : (ks.zip vs).length < sizeLine := by rw [List.length_zip, ← hl, Nat.min_self]; exact c
            obtain ⟨b, ws, rfl, hb, gs⟩ := zy.node
            refine ⟨a, _, rfl, .inr ⟨_, kq, b, hw.2.1, rfl, by rw [← keysD_rel gs q]; exact s2.ex _ _ hb.1, c', rfl⟩, ?_⟩
            rw [putK_zip hl]
            refine cont (.dT _) (putVs ks vs kq v) _ _ rfl (if_pos ⟨putKs_len hl, Nat.le_trans putVs_le (by omega), putKss_L hw.2.2.2 (by unfold keyLL; rw [keysL_of gs q, Bool.true_and, decide_eq_true_eq, ← keysD_len q, ← gs.length]; exact hb.2)⟩) rfl (fzs_putVs zv2 hz)
          · cases ge
      | _ => simp [gSetD] at ge
    | _ => simp [gSetD] at ge
  | _ => simp [gSetD] at ge
end
end Y

set_option Elab.async false
set_option linter.all false
set_option maxRecDepth 100000
set_option maxHeartbeats 2000000
/-! Loops, comprehensions. -/
namespace Y
open PySem L2

/-! ### what is walked -/
structure Itz (K : PySem.W.Frag) (F : Hp) (J : It) (ds : List D) : Prop where
  go : ∀ i H, Same F H → i < ds.length → J.go i H
  stop : ∀ H, Same F H → J.stop ds.length H
  yld : ∀ i H x H', Same F H → i < ds.length → J.yld i H x H' → ∃ d, ds[i]? = some d ∧ ((H' = H ∧ Fz K F x d) ∨ ∃ T vs es, x = .ref T ∧ H T = none ∧ H' = upd H T (.tup vs) ∧ Fzs K F vs es ∧ vs.length ≤ sizeLine ∧ d = .nd .tup es)
def nI (K : PySem.W.Frag) (w : Wd) (σ : St) (R : It → Hp → Prop) : List D → En → Hp → Hp → List Addr → Prop := fun ds ρ F H fp => ∀ J, StaW K w F H σ ρ fp → Itz K F J ds → R J H
def cI (K : PySem.W.Frag) (w : Wd) (f : En → R (List D)) : TI := fun σ H Q => ∃ F ρ fp, StaW K w F H σ ρ fp ∧ Pst K w F H fp σ (f ρ) (nI K w σ Q)
section
variable {X : Cx} {w : Wd} {tg e a b : Expr} {fa fb : En → R D} {fs : En → R (List D)}
theorem piI {wi wi' : TI} (h : PI X tg e wi) (k : ∀ σ H R, wi' σ H R → wi σ H R) : PI X tg e wi' := ⟨fun pins s σ H R I q => h.run pins s σ H R I (k σ H R q)⟩
theorem pi_or2 {wi wi' : TI} (h : PI X tg e wi) (h' : PI X tg e wi') : PI X tg e (fun σ H R => wi σ H R ∨ wi' σ H R) := ⟨fun pins s σ H R I q => q.elim (h.run pins s σ H R I) (h'.run pins s σ H R I)⟩
theorem itz_lst {K : PySem.W.Frag} {F : Hp} {a : Addr} {vs : List V} {ds : List D} (h : SqL K F a vs) (hs : Fzs K F vs ds) : Itz K F (Itl K a) ds := by
  have hl := hs.length
  refine ⟨fun i H ex hi => ?_, fun H ex => ⟨vs, sqL_mono ex h, by omega⟩, fun i H x H' ex hi y => ?_⟩
  · obtain ⟨v, e, _⟩ := hs.get (i := i) (List.getElem?_eq_getElem hi)
    exact ⟨vs, v, sqL_mono ex h, e⟩
  · obtain ⟨rfl, y⟩ := y
    obtain ⟨d, e, z⟩ := hs.getV (y vs (sqL_mono ex h))
    exact ⟨d, e, .inl ⟨rfl, z⟩⟩
theorem itz_tup {K : PySem.W.Frag} {F : Hp} {a : Addr} {vs : List V} {ds : List D} (h : SqT K F a vs) (hs : Fzs K F vs ds) : Itz K F (Itt K a) ds := by
  have hl := hs.length
  refine ⟨fun i H ex hi => ?_, fun H ex => ⟨vs, sqT_mono ex h, by omega⟩, fun i H x H' ex hi y => ?_⟩
  · obtain ⟨v, e, _⟩ := hs.get (i := i) (List.getElem?_eq_getElem hi)
    exact ⟨vs, v, sqT_mono ex h, e⟩
  · obtain ⟨rfl, y⟩ := y
    obtain ⟨d, e, z⟩ := hs.getV (y vs (sqT_mono ex h))
    exact ⟨d, e, .inl ⟨rfl, z⟩⟩
def sgD (c : Nat) : D := .str ⟨#[c]⟩
theorem itz_str {K : PySem.W.Frag} {F : Hp} {s : Str} : Itz K F (Its s) (s.cps.toList.map sgD) := by
  refine ⟨fun i H ex hi => ?_, fun H ex => ?_, fun i H x H' ex hi y => ?_⟩
  · show i < s.cps.size
    simpa using hi
  · show s.cps.size ≤ _
    simp
  · obtain ⟨rfl, c, e, rfl⟩ := y
    refine ⟨sgD c, ?_, .inl ⟨rfl, .str _ (by show 1 ≤ sizeLine; decide)⟩⟩
    rw [List.getElem?_map, Array.getElem?_toList, e]
    rfl
def itD : D → Option (List D)
  | .nd .lst ds => some ds
  | .nd .tup ds => some ds
  | .nd .scr ds => some ds
  | .nd .ktp ds => some ds
  | .str s => some (s.cps.toList.map sgD)
  | _ => none
def sIt (f : En → R D) : En → R (List D) := fun ρ => bnd (f ρ) fun d ρ1 => lift (itD d) ρ1
theorem i_seq (ha : PE X e (cF X.K w fa)) : PI X tg e (cI X.K w (sIt fa)) := piI (pi_or2 (pi_list ha) (pi_or2 (pi_tup ha) (pi_str ha))) fun σ H Q h => by
  obtain ⟨F, ρ, fp, s, h⟩ := h
  cases e0 : fa ρ with
  | bad => unfold sIt at h; rw [e0] at h; exact h.elim
  | exc c x ρ1 =>
    unfold sIt at h
    rw [e0] at h
    exact .inl ⟨F, ρ, fp, s, by rw [e0]; exact h⟩
  | ok d ρ1 =>
    unfold sIt at h
    rw [e0] at h
    have k : ∀ {N : D → En → Hp → Hp → List Addr → Prop}, (∀ F' H' fp', Tr F H fp F' H' fp' → Pst X.K w F' H' fp' σ (lift (itD d) ρ1) (nI X.K w σ Q) → N d ρ1 F' H' fp') → Pst X.K w F H fp σ (fa ρ) N := fun {N} q => by
      rw [e0]
      exact fun F' H' fp' t => q F' H' fp' t (Pst.tr (r := lift (itD d) ρ1) h t)
    cases d with
    | str z =>
      refine .inr (.inr ⟨F, ρ, fp, s, k fun F' H' fp' t h1 => fun v s1 zv => ?_⟩)
      obtain ⟨ds, e1, n⟩ := h1.lift
      simp only [itD] at e1
      cases e1
      exact ⟨z, zv.str_inv.1, n F' H' fp' .refl _ s1 itz_str⟩
    | nd kd ds =>
      cases kd with
      | lst =>
        refine .inl ⟨F, ρ, fp, s, k fun F' H' fp' t h1 => fun v s1 zv => ?_⟩
        obtain ⟨ds', e1, n⟩ := h1.lift
        simp only [itD] at e1
        cases e1
        obtain ⟨a, vs, rfl, hi, hs⟩ := zv.node
        exact ⟨a, rfl, ⟨vs, SqL.of (s1.ex _ _ hi.1)⟩, n F' H' fp' .refl _ s1 (itz_lst (SqL.of hi.1) hs)⟩
      | scr =>
        refine .inl ⟨F, ρ, fp, s, k fun F' H' fp' t h1 => fun v s1 zv => ?_⟩
        obtain ⟨ds', e1, n⟩ := h1.lift
        simp only [itD] at e1
        cases e1
        obtain ⟨a, vs, rfl, hi, hs⟩ := zv.node
        exact ⟨a, rfl, ⟨vs, sqL_mono s1.ex hi.1⟩, n F' H' fp' .refl _ s1 (itz_lst hi.1 hs)⟩
      | tup =>
        refine .inr (.inl ⟨F, ρ, fp, s, k fun F' H' fp' t h1 => fun v s1 zv => ?_⟩)
        obtain ⟨ds', e1, n⟩ := h1.lift
        simp only [itD] at e1
        cases e1
        obtain ⟨a, vs, rfl, hi, hs⟩ := zv.node
        exact ⟨a, rfl, ⟨vs, SqT.of (s1.ex _ _ hi.1)⟩, n F' H' fp' .refl _ s1 (itz_tup (SqT.of hi.1) hs)⟩
      | ktp =>
        refine .inr (.inl ⟨F, ρ, fp, s, k fun F' H' fp' t h1 => fun v s1 zv => ?_⟩)
        obtain ⟨ds', e1, n⟩ := h1.lift
        simp only [itD] at e1
        cases e1
        obtain ⟨a, vs, rfl, hi, hs⟩ := zv.node
        exact ⟨a, rfl, ⟨vs, sqT_mono s1.ex hi.1⟩, n F' H' fp' .refl _ s1 (itz_tup hi.1 hs)⟩
      | dK _ => exact h.elim
      | dT _ => exact h.elim
    | _ => exact h.elim
/-! ranges -/
def rgD (lo hi : Int) : List D := (List.range (hi - lo).toNat).map fun i => D.int (lo + (i : Nat))
theorem itz_rg {K : PySem.W.Frag} {F : Hp} {lo : Int} {n : Nat} : Itz K F (Itr lo n) ((List.range n).map fun i => D.int (lo + (i : Nat))) := by
  refine ⟨fun i H ex hi => ?_, fun H ex => ?_, fun i H x H' ex hi y => ?_⟩
  · show i < n
    simpa using hi
  · show n ≤ _
    simp
  · obtain ⟨rfl, rfl⟩ := y
    refine ⟨.int (lo + i), ?_, .inl ⟨rfl, .int _⟩⟩
    have hi' : i < n := by simpa using hi
    simp [List.getElem?_range hi']
def rg1 : List D → Option (List D)
  | [.int n] => if -(2 ^ 62) ≤ n ∧ n < 2 ^ 62 then some (rgD 0 n) else none
  | _ => none
def rg2 : List D → Option (List D)
  | [.int m, .int n] => if -(2 ^ 62) ≤ m ∧ m < 2 ^ 62 ∧ -(2 ^ 62) ≤ n ∧ n < 2 ^ 62 then some (rgD m n) else none
  | _ => none
def sRg (g : List D → Option (List D)) (f : En → R (List D)) : En → R (List D) := fun ρ => bnd (f ρ) fun ds ρ1 => lift (g ds) ρ1
theorem i_range1 {p pos : Pos} (hg : Gl X "range") (hm : X.mg "range" = none) (ha : PA X [a] (cA X.K w fs)) (hs : starEach [a] X.env = [(false, eval a X.env)] := by rfl) : PI X tg (.Call (.Name "range" p) [a] [] pos) (cI X.K w (sRg rg1 fs)) :=
  piI (pi_range1 hg hm ha hs) fun σ H Q h => by
    obtain ⟨F, ρ, fp, s, h⟩ := h
    refine ⟨F, ρ, fp, s, h.bnd fun ds ρ1 F1 H1 fp1 t1 h1 => fun vs s1 z => ?_⟩
    obtain ⟨es, e, n⟩ := h1.lift
    unfold rg1 at e
    split at e
    · rename_i k
      split at e
      · rename_i c
        cases e
        cases z with
        | cons z1 z =>
          cases z
          refine ⟨k, by rw [z1.int_inv], c.1, c.2, n F1 H1 fp1 .refl _ s1 ?_⟩
          have : (k - 0).toNat = k.toNat := by rw [Int.sub_zero]
          unfold rgD
          rw [this]
          exact itz_rg
      · cases e
    · cases e
theorem i_range2 {p pos : Pos} (hg : Gl X "range") (hm : X.mg "range" = none) (ha : PA X [a, b] (cA X.K w fs)) (hs : starEach [a, b] X.env = [(false, eval a X.env), (false, eval b X.env)] := by rfl) (hs2 : starEach [b] X.env = [(false, eval b X.env)] := by rfl) : PI X tg (.Call (.Name "range" p) [a, b] [] pos) (cI X.K w (sRg rg2 fs)) :=
  piI (pi_range2 hg hm ha hs hs2) fun σ H Q h => by
    obtain ⟨F, ρ, fp, s, h⟩ := h
    refine ⟨F, ρ, fp, s, h.bnd fun ds ρ1 F1 H1 fp1 t1 h1 => fun vs s1 z => ?_⟩
    obtain ⟨es, e, n⟩ := h1.lift
    unfold rg2 at e
    split at e
    · rename_i m k
      split at e
      · rename_i c
        cases e
        cases z with
        | cons z1 z => cases z with
          | cons z2 z =>
            cases z
            exact ⟨m, k, by rw [z1.int_inv, z2.int_inv], c, n F1 H1 fp1 .refl _ s1 itz_rg⟩
      · cases e
    · cases e
/-! enumerate, zip -/
def enD (ds : List D) : List D := ds.zipIdx.map fun p => .nd .tup [.int (p.2 : Nat), p.1]
def zpD (ds es : List D) : List D := (ds.zip es).map fun p => .nd .tup [p.1, p.2]
def en1 : List D → Option (List D)
  | [.nd .lst ds] => some (enD ds)
  | _ => none
def zp2 : List D → Option (List D)
  | [.nd .lst ds, .nd .lst es] => some (zpD ds es)
  | [.nd .tup ds, .nd .tup es] => some (zpD ds es)
  | _ => none
theorem itz_pair {K : PySem.W.Frag} {F : Hp} {J : It} {n : Nat} {G : Hp → Prop} {f g : Nat → Option V} {ds : List D} (W : Walk J n G (YPair f g)) (hG : ∀ H, Same F H → G H) (hl : ds.length = n)
    (hd : ∀ i x y, i < n → f i = some x → g i = some y → ∃ dx dy, ds[i]? = some (.nd .tup [dx, dy]) ∧ Fz K F x dx ∧ Fz K F y dy) : Itz K F J ds := by
  refine ⟨fun i H ex hi => W.goes i H (by omega) (hG H ex), fun H ex => by rw [hl]; exact W.stops H (hG H ex), fun i H x H' ex hi y => ?_⟩
  obtain ⟨T, a, b, rfl, hT, rfl, e1, e2⟩ := W.yields i H x H' (by omega) (hG H ex) y
  obtain ⟨da, db, e3, z1, z2⟩ := hd i a b (by omega) e1 e2
  exact ⟨_, e3, .inr ⟨T, [a, b], [da, db], rfl, hT, rfl, .cons z1 (.cons z2 .nil), by show 2 ≤ sizeLine; decide, rfl⟩⟩
theorem i_enum {p pos tpos : Pos} {elts : List Expr} {kk : Nat} (hg : Gl X "enumerate") (hm : X.mg "enumerate" = none) (ha : PA X [e] (cA X.K w fs)) (hs : starEach [e] X.env = [(false, eval e X.env)] := by rfl) : PI X (.Tuple elts kk tpos) (.Call (.Name "enumerate" p) [e] [] pos) (cI X.K w (sRg en1 fs)) :=
  piI (pi_enum hg hm ha hs) fun σ H Q h => by
    obtain ⟨F, ρ, fp, s, h⟩ := h
    refine ⟨F, ρ, fp, s, h.bnd fun ds ρ1 F1 H1 fp1 t1 h1 => fun vs s1 z => ?_⟩
    obtain ⟨es, e, n⟩ := h1.lift
    unfold en1 at e
    split at e
    · rename_i ds
      cases e
      cases z with
      | cons z1 z =>
        cases z
        obtain ⟨a, xs, rfl, hi, hz⟩ := z1.node
        have hl := hz.length
        refine ⟨a, xs, rfl, SqL.of (s1.ex _ _ hi.1), n F1 H1 fp1 .refl _ s1 (itz_pair (walk_enum (K := X.K) (a := a) (xs := xs)) (fun H ex => SqL.of (ex _ _ hi.1)) (by simp [enD, hl]) fun i x y hlt e1 e2 => ?_)⟩
        cases e1
        obtain ⟨d, e3, z3⟩ := hz.getV e2
        refine ⟨.int (i : Nat), d, ?_, .int _, z3⟩
        simp [enD, List.getElem?_zipIdx, e3]
    · cases e
def rZip : List D → Option (List D) := zp2
theorem i_zip {p pos tpos : Pos} {elts : List Expr} {kk : Nat} (hg : Gl X "zip") (hm : X.mg "zip" = none) (ha : PA X [a, b] (cA X.K w fs)) (hs : starEach [a, b] X.env = (false, eval a X.env) :: starEach [b] X.env := by rfl) (hpl : (backTo pos (starEach [b] X.env)).any (·.1) = false := by rfl) : PI X (.Tuple elts kk tpos) (.Call (.Name "zip" p) [a, b] [] pos) (cI X.K w (sRg zp2 fs)) :=
  piI (RZ.pi_zipA hg hm ha hs hpl) fun σ H Q h => by
    obtain ⟨F, ρ, fp, s, h⟩ := h
    refine ⟨F, ρ, fp, s, h.bnd fun ds ρ1 F1 H1 fp1 t1 h1 => fun vs s1 z => ?_⟩
    obtain ⟨es, e, n⟩ := h1.lift
    unfold zp2 at e
    split at e
    · rename_i ds es
      cases e
      cases z with
      | cons z1 z => cases z with
        | cons z2 z =>
          cases z
          obtain ⟨a, xs, rfl, hi, hz⟩ := z1.node
          obtain ⟨b, ys, rfl, hj, gz⟩ := z2.node
          have hl := hz.length
          have gl := gz.length
          refine ⟨a, b, xs, ys, rfl, .inl ⟨SqL.of (s1.ex _ _ hi.1), SqL.of (s1.ex _ _ hj.1), n F1 H1 fp1 .refl _ s1 (itz_pair (walk_zip (K := X.K) (a := a) (b := b) (xs := xs) (ys := ys) rfl) (fun H ex => ⟨SqL.of (ex _ _ hi.1), SqL.of (ex _ _ hj.1)⟩) (by simp [zpD, hl, gl]) fun i x y hlt e1 e2 => ?_)⟩⟩
          obtain ⟨d, e3, z3⟩ := hz.getV e1
          obtain ⟨d', e4, z4⟩ := gz.getV e2
          refine ⟨d, d', ?_, z3, z4⟩
          have e5 : (ds.zip es)[i]? = some (d, d') := List.getElem?_zip_eq_some.mpr ⟨e3, e4⟩
          simp [zpD, e5]
    · rename_i ds es
      cases e
      cases z with
      | cons z1 z => cases z with
        | cons z2 z =>
          cases z
          obtain ⟨a, xs, rfl, hi, hz⟩ := z1.node
          obtain ⟨b, ys, rfl, hj, gz⟩ := z2.node
          have hl := hz.length
          have gl := gz.length
          have zl : (zpD ds es).length = min xs.length ys.length := by simp [zpD, hl, gl]
          refine ⟨a, b, xs, ys, rfl, .inr ⟨SqT.of (s1.ex _ _ hi.1), SqT.of (s1.ex _ _ hj.1), n F1 H1 fp1 .refl _ s1 ⟨fun i H ex hlt => ?_, fun H ex => ?_, fun i H x H' ex hlt y => ?_⟩⟩⟩
          · rw [zl] at hlt
            exact ⟨xs, ys, xs[i]'(by omega), ys[i]'(by omega), SqT.of (ex _ _ hi.1), SqT.of (ex _ _ hj.1), by simp [show i < xs.length by omega], by simp [show i < ys.length by omega]⟩
          · exact ⟨xs, ys, SqT.of (ex _ _ hi.1), SqT.of (ex _ _ hj.1), by omega⟩
          · obtain ⟨T, x1, y1, rfl, hT, rfl, e1, e2⟩ := y
            obtain ⟨d, e3, z3⟩ := hz.getV (e1 xs (SqT.of (ex _ _ hi.1)))
            obtain ⟨d', e4, z4⟩ := gz.getV (e2 ys (SqT.of (ex _ _ hj.1)))
            have e5 : (ds.zip es)[i]? = some (d, d') := List.getElem?_zip_eq_some.mpr ⟨e3, e4⟩
            exact ⟨.nd .tup [d, d'], by simp [zpD, e5], .inr ⟨T, [x1, y1], [d, d'], rfl, hT, rfl, .cons z3 (.cons z4 .nil), by show 2 ≤ sizeLine; decide, rfl⟩⟩
    · cases e
end

/-! ### for, while -/
def forL (g : D → En → Option En) (b : En → R Fl) : List D → En → R Fl
  | [], ρ => .ok .nx ρ
  | d :: ds, ρ => match g d ρ with
    | none => .bad
    | some ρ1 => match b ρ1 with
      | .ok .nx ρ2 => forL g b ds ρ2
      | .ok .ct ρ2 => forL g b ds ρ2
      | .ok .bk ρ2 => .ok .nx ρ2
      | r => r
def sFor (src : En → R (List D)) (g : D → En → Option En) (b : En → R Fl) : En → R Fl := fun ρ => bnd (src ρ) fun ds ρ1 => forL g b ds ρ1
def whL (t : En → R Bool) (b : En → R Fl) : Nat → En → R Fl
  | 0, _ => .bad
  | n + 1, ρ => bnd (t ρ) fun c ρ1 => if c = true then (match b ρ1 with
      | .ok .nx ρ2 => whL t b n ρ2
      | .ok .ct ρ2 => whL t b n ρ2
      | .ok .bk ρ2 => .ok .nx ρ2
      | r => r) else .ok .nx ρ1
section
variable {K : PySem.W.Frag} {w : Wd} {F H : Hp} {fp : List Addr} {D : Ends}
theorem turn_end {r : R Fl} {k : En → R Fl} {N : St → Hp → Prop} (h : PstS K w F H fp (match r with | .ok .nx ρ2 => k ρ2 | .ok .ct ρ2 => k ρ2 | .ok .bk ρ2 => .ok .nx ρ2 | r => r) D)
    (hN : ∀ σ' F' H' fp' ρ2, Tr F H fp F' H' fp' → StaW K w F' H' σ' ρ2 fp' → PstS K w F' H' fp' (k ρ2) D → N σ' H') : PstS K w F H fp r { D with nx := N, ct := N, bk := D.nx } := by
  cases r with
  | ok a ρ =>
    cases a with
    | nx => exact fun σ' F' H' fp' t s => hN σ' F' H' fp' ρ t s (PstS.tr (r := k ρ) h t)
    | ct => exact fun σ' F' H' fp' t s => hN σ' F' H' fp' ρ t s (PstS.tr (r := k ρ) h t)
    | bk => exact h
    | rt d => exact h
    | ro d => exact h
  | exc c x ρ => exact h
  | bad => exact h
end
section
variable {X : Cx} {w : Wd} {tg iter c : Expr} {body : List Stmt} {is : List Nat} {g : D → En → Option En} {m : En → R Fl} {src : En → R (List D)} {t : En → R Bool} {pos : Pos}
/-- an item is given out -/
theorem given {K : PySem.W.Frag} {F F1 H H' : Hp} {fp : List Addr} {σ : St} {ρ : En} {J : It} {ds : List D} {i : Nat} {x : V} (I : Itz K F1 J ds) (s : StaW K w F H σ ρ fp) (ex : Same F1 F) (hi : i < ds.length) (y : J.yld i H x H') :
    ∃ d F', ds[i]? = some d ∧ StaW K w F' H' σ ρ fp ∧ Tr F H fp F' H' fp ∧ Fz K F' x d := by
  obtain ⟨d, e, ⟨rfl, z⟩ | ⟨T, vs, es, rfl, hT, rfl, zs, hl, rfl⟩⟩ := I.yld i H x H' (ex.trans s.ex) hi y
  · exact ⟨d, F, e, s, .refl, z.mono ex⟩
  · obtain ⟨s1, t1, z1⟩ := s.new (k := .tup) hT (if_pos hl) (zs.mono ex)
    exact ⟨_, _, e, s1, t1, z1⟩
theorem s_for (hp : PassesOwn (model X.prog X.w) X.A X.env X.xe) (hc : X.calm = true) (hi : PI X tg iter (cI X.K w src)) (hg : PG X tg (cG X.K w is g)) (hb : PSs X body (cS X.K w m)) (hs : ∀ x, foldedSetIterable iter X.env x = pure x := by intro _; rfl) :
    PS X (.For tg iter body [] pos) (cS X.K w (sFor src g m)) := psI (ps_for hp hc hi hg hb hs) fun D σ H h => by
  obtain ⟨F, ρ, fp, s, h⟩ := h
  refine ⟨F, ρ, fp, s, PstS.bnd (e := src ρ) h fun ds ρ1 F1 H1 fp1 t1 h1 => fun J s1 I => ?_⟩
  refine ⟨fun i m' σ H => m' = ds.length - i ∧ i ≤ ds.length ∧ ∃ F ρ fp, StaW X.K w F H σ ρ fp ∧ Same F1 F ∧ PstS X.K w F H fp (forL g m (ds.drop i) ρ) D, ⟨ds.length, by simp, Nat.zero_le _, F1, ρ1, fp1, s1, Same.refl _, h1⟩, ?_⟩
  rintro i m' σ H ⟨rfl, hi, F, ρ, fp, s, ex, h⟩
  by_cases hlt : i < ds.length
  · refine .inr ⟨I.go i H (ex.trans s.ex) hlt, fun σ H => ∃ F ρ fp, StaW X.K w F H σ ρ fp ∧ Same F1 F ∧ PstS X.K w F H fp (forL g m (ds.drop (i + 1)) ρ) D, fun σ' H' q => ⟨ds.length - (i + 1), by omega, rfl, hlt, q⟩, fun x H' y => ?_⟩
    obtain ⟨d, F2, e, s2, t2, z⟩ := given I s ex hlt y
    have ed : ds.drop i = d :: ds.drop (i + 1) := by
      obtain ⟨h1, h2⟩ := List.getElem?_eq_some_iff.mp e
      rw [← h2]
      exact List.drop_eq_getElem_cons h1
    rw [ed] at h
    unfold forL at h
    cases q : g d ρ with
    | none => simp only [q] at h; exact h.elim
    | some ρ2 =>
      simp only [q] at h
      refine ⟨F2, ρ, fp, d, ρ2, s2, z, q, fun σ' fp' s3 t3 _ => ⟨F2, ρ2, fp', s3, ?_⟩⟩
      have h2 := PstS.tr h (t2.trans t3)
      exact turn_end (k := forL g m (ds.drop (i + 1))) h2 fun σ4 F4 H4 fp4 ρ4 t4 s4 h4 => ⟨F4, ρ4, fp4, s4, (ex.trans t2.ex).trans t4.ex, h4⟩
  · have e : i = ds.length := by omega
    subst e
    rw [List.drop_length] at h
    exact .inl ⟨I.stop H (ex.trans s.ex), h σ F H fp .refl s⟩
theorem s_while (n : Nat) (hp : PassesOwn (model X.prog X.w) X.A X.env X.xe) (hc : PT X c (cT X.K w t)) (hb : PSs X body (cS X.K w m)) : PS X (.While c body [] pos) (cS X.K w (whL t m n)) := psI (ps_while hp hc hb) fun D σ H h => by
  obtain ⟨F, ρ, fp, s, h⟩ := h
  refine ⟨fun k σ H => ∃ F ρ fp, StaW X.K w F H σ ρ fp ∧ PstS X.K w F H fp (whL t m k ρ) D, ⟨n, F, ρ, fp, s, h⟩, ?_⟩
  rintro k σ H ⟨F, ρ, fp, s, h⟩
  cases k with
  | zero => exact h.elim
  | succ k =>
    unfold whL at h
    refine ⟨F, ρ, fp, s, PstS.bnd (e := t ρ) h fun b ρ1 F1 H1 fp1 t1 h1 => fun s1 => ?_⟩
    cases b with
    | true =>
      refine iteT ⟨fun σ H => ∃ F ρ fp, StaW X.K w F H σ ρ fp ∧ PstS X.K w F H fp (whL t m k ρ) D, fun σ' H' q => ⟨k, Nat.lt_succ_self k, q⟩, F1, ρ1, fp1, s1, ?_⟩
      have h2 : PstS X.K w F1 H1 fp1 (match m ρ1 with | .ok .nx ρ2 => whL t m k ρ2 | .ok .ct ρ2 => whL t m k ρ2 | .ok .bk ρ2 => .ok .nx ρ2 | r => r) D := by simpa using h1
      exact turn_end (k := whL t m k) h2 fun σ4 F4 H4 fp4 ρ4 t4 s4 h4 => ⟨F4, ρ4, fp4, s4, h4⟩
    | false =>
      have h2 : PstS X.K w F1 H1 fp1 (.ok .nx ρ1) D := by simpa using h1
      exact iteF (h2 σ F1 H1 fp1 .refl s1)
end
end Y

set_option Elab.async false
set_option linter.all false
set_option maxRecDepth 100000
set_option maxHeartbeats 2000000
/-! Comprehensions. -/
namespace Y
open PySem L2
def noX {α : Type} : R α → R α
  | .ok a ρ => .ok a ρ
  | _ => .bad
theorem noX_ok {α : Type} (a : α) (ρ : En) : noX (.ok a ρ) = .ok a ρ := rfl
theorem bnd_ok {α β : Type} (a : α) (ρ : En) (g : α → En → R β) : bnd (.ok a ρ) g = g a ρ := rfl
/-- within a block nothing is raised -/
def Wd.in1 (w : Wd) : Wd := { w with W := fun _ _ _ _ => False }
def wipeE (vs : List Nat) (ρ : En) : En := match vs with
  | [] => ρ
  | v :: vs => (wipeE vs ρ).set v none
section
variable {K : PySem.W.Frag} {w : Wd} {F H : Hp} {fp : List Addr} {σ σ' : St} {ρ : En} {α : Type} {r : R α} {N : α → En → Hp → Hp → List Addr → Prop}
theorem Pst.noX (h : Pst K w F H fp σ (noX r) N) : Pst K w.in1 F H fp σ' r N := by
  cases r with
  | ok a ρ => exact h
  | exc c x ρ => exact h.elim
  | bad => exact h
theorem Pst.noX2 {β : Type} {g : α → En → R β} {M : β → En → Hp → Hp → List Addr → Prop} (h : Pst K w F H fp σ (Y.bnd (Y.noX r) g) M) (k : ∀ a ρ1 F1 H1 fp1, Tr F H fp F1 H1 fp1 → Pst K w F1 H1 fp1 σ (g a ρ1) M → N a ρ1 F1 H1 fp1) : Pst K w.in1 F H fp σ' r N := by
  cases r with
  | ok a ρ => exact fun F1 H1 fp1 t => k a ρ F1 H1 fp1 t (Pst.tr (r := g a ρ) h t)
  | exc c x ρ => exact h.elim
  | bad => exact h
theorem wipe_set (i : Nat) (x : Option V) (σ : St) {vs : List Nat} (h : i ∈ vs) : L2.wipe (σ.set i x) vs = L2.wipe σ vs := only_set σ i x vs fun j hj => by
  rw [List.mem_singleton.mp hj]; exact h
theorem wipe_sub : ∀ {ws vs : List Nat}, (∀ i ∈ ws, i ∈ vs) → L2.wipe (L2.wipe σ ws) vs = L2.wipe σ vs
  | [], _, _ => rfl
  | v :: ws, vs, h => by
    show L2.wipe ((L2.wipe σ ws).set v none) vs = _
    rw [wipe_set v none _ (h v List.mem_cons_self)]
    exact wipe_sub fun i hi => h i (List.mem_cons_of_mem _ hi)
theorem Sl.unset {β : V} {i : Nat} : ∀ {σ : St} {ρ : En} {fp : List Addr}, Sl K β F H (σ.set i none) ρ fp → Sl K β F H σ ρ fp := by
  intro σ
  induction σ generalizing i with
  | nil => intro ρ fp h; exact h
  | cons x σ ih =>
    intro ρ fp h
    cases i with
    | zero =>
      cases h with
      | skip t => exact .skip t
    | succ i =>
      cases h with
      | skip t => exact .skip (ih (i := i) t)
      | fr z t => exact .fr z (ih (i := i) t)
      | ow a b t => exact .ow a b (ih (i := i) t)
      | bo e a b t => exact .bo e a b (ih (i := i) t)
theorem StaW.unwipe : ∀ {vs : List Nat} {ρ : En} {fp : List Addr}, StaW K w F H (wipe σ vs) ρ fp → StaW K w F H σ ρ fp
  | [], _, _, s => s
  | v :: vs, _, _, s => StaW.unwipe (vs := vs) ⟨s.ex, s.sl.unset, s.nd, s.own, s.lock⟩
theorem StaW.wipe : ∀ {vs : List Nat} {ρ : En} {fp : List Addr}, StaW K w F H σ ρ fp → ∃ fp', StaW K w F H (L2.wipe σ vs) (wipeE vs ρ) fp' ∧ Tr F H fp F H fp'
  | [], _, fp, s => ⟨fp, s, .refl⟩
  | v :: vs, _, fp, s => by
    obtain ⟨fp1, s1, t1⟩ := StaW.wipe (vs := vs) s
    obtain ⟨fp2, s2, t2⟩ := s1.tail v none
    exact ⟨fp2, s2, t1.trans t2⟩
theorem Tr.cons {F' H' : Hp} {fp' : List Addr} {a : Addr} (t : Tr F H fp F' H' fp') : Tr F H (a :: fp) F' H' (a :: fp') := by
  refine ⟨t.ex, fun b o h n => t.keep b o h fun m => n (List.mem_cons_of_mem _ m), fun b h => ?_⟩
  rcases h with h | h
  · rcases List.mem_cons.mp h with rfl | h
    · exact .inl List.mem_cons_self
    · exact (t.new b (.inl h)).imp (List.mem_cons_of_mem _) id
  · exact (t.new b (.inr h)).imp (List.mem_cons_of_mem _) id
end
/-- the list so far at L -/
def lcL (g : D → En → Option En) (t : En → R Bool) (e : En → R D) (vs : List Nat) : List D → En → List D → R D
  | [], ρ, acc => .ok (.nd .lst acc) ρ
  | d :: ds, ρ, acc => match g d ρ with
    | none => .bad
    | some ρ1 => bnd (noX (t ρ1)) fun b ρ2 => if b = true then bnd (noX (e ρ2)) fun x ρ3 => if acc.length < sizeLine then lcL g t e vs ds (wipeE vs ρ3) (acc ++ [x]) else .bad else lcL g t e vs ds (wipeE vs ρ2) acc
def sLc (src : En → R (List D)) (g : D → En → Option En) (t : En → R Bool) (e : En → R D) (vs : List Nat) : En → R D := fun ρ => bnd (src ρ) fun ds ρ1 => lcL g t e vs ds (wipeE vs ρ1) []
def sYes : En → R Bool := fun ρ => .ok true ρ
/-- the new list at L in the making -/
structure Mk (K : PySem.W.Frag) (w : Wd) (F1 F H : Hp) (L : Addr) (σ : St) (ρ : En) (fp : List Addr) (acc : List D) : Prop where
  s : StaW K w F H σ ρ fp
  ex : Same F1 F
  nf : L ∉ fp
  nF : F L = none
  at_ : ∃ vs, H L = some (.lst vs) ∧ Fzs K F vs acc
section
variable {K : PySem.W.Frag} {w : Wd} {F1 F F' H H' : Hp} {fp fp' : List Addr} {σ σ' : St} {ρ ρ' : En} {L : Addr} {acc : List D} {x : V} {d : D}
theorem Mk.go (m : Mk K w F1 F H L σ ρ fp acc) (t : Tr F H fp F' H' fp') (s : StaW K w F' H' σ' ρ' fp') : Mk K w F1 F' H' L σ' ρ' fp' acc := by
  obtain ⟨vs, h1, h2⟩ := m.at_
  refine ⟨s, m.ex.trans t.ex, fun h => ?_, ?_, vs, t.keep L _ h1 m.nf, h2.mono t.ex⟩
  · rcases t.new L (.inl h) with q | q
    · exact m.nf q
    · rw [h1] at q; cases q
  · cases q : F' L with
    | none => rfl
    | some o =>
      rcases t.new L (.inr ⟨m.nF, by rw [q]; exact (fun z => nomatch z), IsTp.not h1 fun _ e => nomatch e⟩) with r | r
      · exact absurd r m.nf
      · rw [h1] at r; cases r
theorem Mk.app (m : Mk K w F1 F H L σ ρ fp acc) (z : Fz K F x d) (hl : acc.length < sizeLine) : ∃ vs, H L = some (.lst vs) ∧ vs.length < sizeLine ∧ Mk K w F1 F (upd H L (.lst (vs ++ [x]))) L σ ρ fp (acc ++ [d]) ∧ Tr F H (L :: fp) F (upd H L (.lst (vs ++ [x]))) (L :: fp) := by
  obtain ⟨vs, h1, h2⟩ := m.at_
  refine ⟨vs, h1, by rw [h2.length]; exact hl, ⟨⟨same_updR m.s.ex m.nF, m.s.sl.frame (Same.refl _) fun a ha o h => ?_, m.s.nd, m.s.own, m.s.lock⟩, m.ex, m.nf, m.nF, _, upd_same, h2.append (.cons z .nil)⟩, ⟨Same.refl _, fun b o h n => ?_, fun b h => h.elim .inl fun ⟨q1, q2, _⟩ => absurd q1 q2⟩⟩
  · rw [upd_ne (fun (q : a = L) => m.nf (q ▸ ha))]; exact h
  · rw [upd_ne (fun (q : b = L) => n (q ▸ List.mem_cons_self))]; exact h
theorem Mk.start (s : StaW K w F H σ ρ fp) (hL : H L = none) : Mk K w F F (upd H L (.lst [])) L σ ρ fp [] ∧ Tr F H fp F (upd H L (.lst [])) (L :: fp) := by
  obtain ⟨n1, n2⟩ := s.fresh hL
  obtain ⟨s1, t1⟩ := s.newO (k := .lst) (vs := []) (ds := []) hL rfl rfl .nil
  refine ⟨⟨⟨same_updR s.ex n2, s.sl.frame (Same.refl _) fun a ha o h => ?_, s.nd, s.own, s.lock⟩, Same.refl _, n1, n2, [], upd_same, .nil⟩, t1⟩
  rw [upd_ne (ne_of_none h hL)]; exact h
theorem Mk.done (m : Mk K w F1 F H L σ ρ fp acc) (hl : acc.length ≤ sizeLine) : StaW K w F H (some (.ref L) :: σ) (some (.o (.nd .lst acc)) :: ρ) (L :: fp) := by
  obtain ⟨vs, h1, h2⟩ := m.at_
  exact ⟨m.s.ex, .ow (k := .lst) ⟨h1, by rw [h2.length]; exact hl⟩ h2 m.s.sl, List.nodup_cons.mpr ⟨m.nf, m.s.nd⟩, fun a ha => (List.mem_cons.mp ha).elim (fun e => e ▸ m.nF) (m.s.own a), m.s.lock⟩
end
section
variable {K : PySem.W.Frag} {w : Wd} {src : En → R (List D)} {g : D → En → Option En} {t : En → R Bool} {e : En → R D} {vs is : List Nat} {σ : St} {H : Hp} {Q : VK}
/-- the block's turns -/
theorem lc_body {ds : List D} {J : It} {F1 H1 : Hp} {ρ1 : En} {fp1 : List Addr} (his : ∀ i ∈ is, i ∈ vs) (s1 : StaW K w F1 H1 σ ρ1 fp1) (I : Itz K F1 J ds) (h1 : Pst K w F1 H1 fp1 σ (lcL g t e vs ds (wipeE vs ρ1) []) (nO K w σ Q)) : tLc (fun _ H R => R J H) (cG K w.in1 is g) (cT K w.in1 t) (cF K w.in1 e) vs σ H1 Q := fun L hL => by
  obtain ⟨fpw, sw, tw⟩ := StaW.wipe (vs := vs) s1
  obtain ⟨m0, t0⟩ := Mk.start sw hL
  refine ⟨fun i k H => k = ds.length - i ∧ i ≤ ds.length ∧ ∃ F ρ fp acc, Mk K w F1 F H L (wipe σ vs) ρ fp acc ∧ acc.length ≤ sizeLine ∧ Pst K w F H (L :: fp) σ (lcL g t e vs (ds.drop i) ρ acc) (nO K w σ Q), ⟨ds.length, by simp, Nat.zero_le _, F1, _, fpw, [], m0, Nat.zero_le _, Pst.tr h1 (tw.trans t0)⟩, ?_⟩
  rintro i k H ⟨rfl, hi, F, ρ, fp, acc, m, hz, h⟩
  by_cases hlt : i < ds.length
  · refine .inr ⟨I.go i H (m.ex.trans m.s.ex) hlt, fun H => ∃ F ρ fp acc, Mk K w F1 F H L (wipe σ vs) ρ fp acc ∧ acc.length ≤ sizeLine ∧ Pst K w F H (L :: fp) σ (lcL g t e vs (ds.drop (i + 1)) ρ acc) (nO K w σ Q), fun H' q => ⟨ds.length - (i + 1), by omega, rfl, hlt, q⟩, fun x H' y => ?_⟩
    obtain ⟨d, F2, ed, s2, t2, z⟩ := given I m.s m.ex hlt y
    have m2 := m.go t2 s2
    have edr : ds.drop i = d :: ds.drop (i + 1) := by
      obtain ⟨h1, h2⟩ := List.getElem?_eq_some_iff.mp ed
      rw [← h2]
      exact List.drop_eq_getElem_cons h1
    rw [edr] at h
    unfold lcL at h
    cases q : g d ρ with
    | none => simp only [q] at h; exact h.elim
    | some ρ2 =>
      simp only [q] at h
      refine ⟨F2, ρ, fp, d, ρ2, s2, z, q, fun σ3 fp3 s3 t3 o3 => ?_⟩
      have ew : wipe σ3 vs = wipe σ vs := (o3 vs his).trans (wipe_sub fun _ h => h)
      have h3 := Pst.tr h (t2.trans t3).cons
      have m3 := m2.go t3 s3
      have h3' : Pst K w F2 H' (L :: fp3) σ (bnd (noX (t ρ2)) fun b ρ2 => if b = true then bnd (noX (e ρ2)) fun x ρ3 => if acc.length < sizeLine then lcL g t e vs (ds.drop (i + 1)) (wipeE vs ρ3) (acc ++ [x]) else .bad else lcL g t e vs (ds.drop (i + 1)) (wipeE vs ρ2) acc) (nO K w σ Q) := h3
      refine ⟨ew, F2, ρ2, fp3, s3, ?_⟩
      -- the test
      cases q1 : t ρ2 with
      | bad => rw [q1] at h3'; exact h3'.elim
      | exc c x ρ => rw [q1] at h3'; exact h3'.elim
      | ok b ρ4 =>
        rw [q1] at h3'
        intro F4 H4 fp4 t4 s4
        have m4 := m3.go t4 s4
        have h4 := Pst.tr h3' t4.cons
        cases b with
        | false =>
          refine iteF ?_
          obtain ⟨fp5, s5, t5⟩ := StaW.wipe (vs := vs) s4
          rw [ew] at s5
          exact ⟨F4, _, fp5, acc, m4.go t5 s5, hz, by simpa [noX_ok, bnd_ok] using Pst.tr h4 t5.cons⟩
        | true =>
          refine iteT ⟨F4, ρ4, fp4, s4, ?_⟩
          have h4' : Pst K w F4 H4 (L :: fp4) σ (bnd (noX (e ρ4)) fun x ρ3 => if acc.length < sizeLine then lcL g t e vs (ds.drop (i + 1)) (wipeE vs ρ3) (acc ++ [x]) else .bad) (nO K w σ Q) := by simpa [noX_ok, bnd_ok] using h4
          cases q2 : e ρ4 with
          | bad => rw [q2] at h4'; exact h4'.elim
          | exc c x ρ => rw [q2] at h4'; exact h4'.elim
          | ok dx ρ5 =>
            rw [q2] at h4'
            intro F5 H5 fp5 t5 v s5 zv
            have m5 := m4.go t5 s5
            have h5 := Pst.tr h4' t5.cons
            obtain ⟨fp6, s6, t6⟩ := StaW.wipe (vs := vs) s5
            rw [ew] at s6
            have m6 := m5.go t6 s6
            have h6 := Pst.tr h5 t6.cons
            by_cases hl : acc.length < sizeLine
            · obtain ⟨ws, e1, e2, m7, t7⟩ := m6.app zv hl
              refine ⟨ws, e1, e2, F5, _, fp6, _, m7, by rw [List.length_append]; exact hl, ?_⟩
              have h7 := Pst.tr h6 t7
              simpa [bnd, noX, hl] using h7
            · exact (show False by simpa [bnd, noX, hl, Pst] using h6).elim
  · have e : i = ds.length := by omega
    subst e
    rw [List.drop_length] at h
    have mu : Mk K w F1 F H L σ ρ fp acc := ⟨StaW.unwipe m.s, m.ex, m.nf, m.nF, m.at_⟩
    exact .inl ⟨I.stop H (m.ex.trans m.s.ex), h F H (L :: fp) .refl (.ref L) (mu.done hz)⟩
/-- what the block is read as -/
theorem lc_canon (his : ∀ i ∈ is, i ∈ vs) (h : cO K w (sLc src g t e vs) σ H Q) : tLc (cI K w src) (cG K w.in1 is g) (cT K w.in1 t) (cF K w.in1 e) vs σ H Q := by
  obtain ⟨F, ρ, fp, s, h⟩ := h
  exact ⟨F, ρ, fp, s, h.bnd fun ds ρ1 F1 H1 fp1 t1 h1 => fun J s1 I => lc_body his s1 I h1⟩
variable {X : Cx} {elt tg iter : Expr} {ifs : List Expr} {scope : Scope} {own : List (Str × Nat)} {pos : Pos}
theorem ts_nil : PTs X [] (cT X.K w sYes) := ⟨fun pins s σ H Q I h => pts_nil.run pins s σ H Q I (by
  obtain ⟨F, ρ, fp, s, h⟩ := h
  exact h F H fp .refl s)⟩
theorem ts_one {c : Expr} (h : PT X c (cT X.K w t)) : PTs X [c] (cT X.K w t) := pts_one h
theorem d_lc (own : List (Str × Nat)) (hc : X.calm = true) (hN : X.N.Nodup) (hi : PI X tg iter (cI X.K w src)) (ok : BlkOk X.N X.env.scope scope own) (his : ∀ i ∈ is, i ∈ own.map (·.2))
    (hg : ∀ (s : Shared) (H : Hp) (C : Addr) (cl : List (Str × Addr)) (fp : List Addr), PG (X.blk s H scope (compEnvC scope cl C X.env) fp) tg (cG X.K w.in1 is g)) (ht : ∀ (s : Shared) (H : Hp) (C : Addr) (cl : List (Str × Addr)) (fp : List Addr), PTs (X.blk s H scope (compEnvC scope cl C X.env) fp) ifs (cT X.K w.in1 t))
    (he : ∀ (s : Shared) (H : Hp) (C : Addr) (cl : List (Str × Addr)) (fp : List Addr), PE (X.blk s H scope (compEnvC scope cl C X.env) fp) elt (cF X.K w.in1 e)) (hs : ∀ x, foldedSetIterable iter X.env x = pure x := by intro _; rfl) :
    PE X (.ListComp elt [⟨tg, iter, ifs, 0⟩] scope pos) (cO X.K w (sLc src g t e (own.map (·.2)))) := peI (pe_lc hc hN hi ok hg ht he hs) fun σ H Q h => lc_canon his h
theorem s_setLc (i : Nat) (own : List (Str × Nat)) {y : Str} {py spos : Pos} (hc : X.calm = true) (hN : X.N.Nodup) (hi : PI X tg iter (cI X.K w src)) (ok : BlkOk X.N X.env.scope scope own) (his : ∀ i ∈ is, i ∈ own.map (·.2))
    (hg : ∀ (s : Shared) (H : Hp) (C : Addr) (cl : List (Str × Addr)) (fp : List Addr), PG (X.blk s H scope (compEnvC scope cl C X.env) fp) tg (cG X.K w.in1 is g)) (ht : ∀ (s : Shared) (H : Hp) (C : Addr) (cl : List (Str × Addr)) (fp : List Addr), PTs (X.blk s H scope (compEnvC scope cl C X.env) fp) ifs (cT X.K w.in1 t))
    (he : ∀ (s : Shared) (H : Hp) (C : Addr) (cl : List (Str × Addr)) (fp : List Addr), PE (X.blk s H scope (compEnvC scope cl C X.env) fp) elt (cF X.K w.in1 e))
    (hsw : swapsWith (.ListComp elt [⟨tg, iter, ifs, 0⟩] scope pos) (some (.Name y py)) spos.line X.env = pure true)
    (hy : X.N[i]? = some y := by rfl) (hyl : X.env.scope.names.lookup y = some .local := by rfl) (hs : ∀ x, foldedSetIterable iter X.env x = pure x := by intro _; rfl) :
    PS X (.Assign [.Name y py] (.ListComp elt [⟨tg, iter, ifs, 0⟩] scope pos) spos) (cS X.K w (sSetO i (sLc src g t e (own.map (·.2))))) := psI (ps_setLc hc hN hy hyl hsw hi ok hg ht he hs) fun D σ H h => by
  refine lc_canon his (Q := fun x H1 => D.nx (σ.set i (some x)) H1) ?_
  obtain ⟨F, ρ, fp, s, h⟩ := h
  refine ⟨F, ρ, fp, s, h.bnd fun d ρ1 F1 H1 fp1 t1 h1 => fun v s1 => ?_⟩
  obtain ⟨fp2, s2, t2⟩ := s1.storeO i
  exact h1 _ F1 H1 fp2 t2 s2
theorem s_setLcF (i : Nat) (own : List (Str × Nat)) {y : Str} {py spos : Pos} (hc : X.calm = true) (hN : X.N.Nodup) (hi : PI X tg iter (cI X.K w src)) (ok : BlkOk X.N X.env.scope scope own) (his : ∀ i ∈ is, i ∈ own.map (·.2))
    (hg : ∀ (s : Shared) (H : Hp) (C : Addr) (cl : List (Str × Addr)) (fp : List Addr), PG (X.blk s H scope (compEnvC scope cl C X.env) fp) tg (cG X.K w.in1 is g)) (ht : ∀ (s : Shared) (H : Hp) (C : Addr) (cl : List (Str × Addr)) (fp : List Addr), PTs (X.blk s H scope (compEnvC scope cl C X.env) fp) ifs (cT X.K w.in1 t))
    (he : ∀ (s : Shared) (H : Hp) (C : Addr) (cl : List (Str × Addr)) (fp : List Addr), PE (X.blk s H scope (compEnvC scope cl C X.env) fp) elt (cF X.K w.in1 e))
    (hsw : swapsWith (.ListComp elt [⟨tg, iter, ifs, 0⟩] scope pos) (some (.Name y py)) spos.line X.env = pure true)
    (hy : X.N[i]? = some y := by rfl) (hyl : X.env.scope.names.lookup y = some .local := by rfl) (hs : ∀ x, foldedSetIterable iter X.env x = pure x := by intro _; rfl) :
    PS X (.Assign [.Name y py] (.ListComp elt [⟨tg, iter, ifs, 0⟩] scope pos) spos) (cS X.K w (sSet i (sLc src g t e (own.map (·.2))))) := psI (ps_setLc hc hN hy hyl hsw hi ok hg ht he hs) fun D σ H h => by
  refine lc_canon his (Q := fun x H1 => D.nx (σ.set i (some x)) H1) (cF_fz ?_)
  obtain ⟨F, ρ, fp, s, h⟩ := h
  refine ⟨F, ρ, fp, s, h.bnd fun d ρ1 F1 H1 fp1 t1 h1 => fun v s1 z => ?_⟩
  obtain ⟨fp2, s2, t2⟩ := s1.store z i
  exact h1 _ F1 H1 fp2 t2 s2
end
end Y

set_option Elab.async false
set_option linter.all false
set_option maxRecDepth 100000
set_option maxHeartbeats 2000000
/-! Defs by values, their calls. -/
namespace Y
open PySem PySem.Spec PyProof.Rows L2
inductive FO where
  | val (o : Bool) (d : D) (out : Option D) | exc (c : Str) (x : Option (Str × D)) (out : Option D) | bad
def outs (io : Bool) (ρ : En) (k : Option D → FO) : FO := match io with
  | true => match ρ with
    | some (.b d) :: _ => k (some d)
    | _ => .bad
  | false => k none
def finF (io : Bool) : R Fl → FO
  | .ok (.rt d) ρ => outs io ρ (.val false d)
  | .ok (.ro d) ρ => outs io ρ (.val true d)
  | .ok .nx ρ => outs io ρ (.val false .non)
  | .exc c x ρ => outs io ρ (.exc c x)
  | _ => .bad
def argS (io : Bool) (ds : List D) : En := match io, ds with
  | true, d :: ds => some (.b d) :: ds.map fun d => some (.f d)
  | _, ds => ds.map fun d => some (.f d)
/-- np parameters, n names -/
def runF (io : Bool) (np n : Nat) (m : En → R Fl) (ds : List D) : FO := if ds.length = np then finF io (m (argS io ds ++ List.replicate (n - np) none)) else .bad
def outσ (io : Bool) (β : V) : L2.St := match io with | true => [some β] | false => []
def outρ (out : Option D) : En := match out with | some d => [some (.b d)] | none => []
def mkS (o : Bool) (d : D) : S := match o with | true => .o d | false => .f d
def PstF (K : PySem.W.Frag) (cls : Str → Value) (io lk : Bool) (β : V) (F H : Hp) (fp : List Addr) (r : FO) (Q : VK) (E : XK) : Prop :=
  match r with
  | .val o d out => ∀ v F' H' fp', Tr F H fp F' H' fp' → Sta K β lk F' H' (some v :: outσ io β) (some (mkS o d) :: outρ out) fp' → Q v H'
  | .exc c x out => ∀ F' H' fp' dd, Tr F H fp F' H' fp' → Sta K β lk F' H' (outσ io β) (outρ out) fp' → XR K F' H' x dd → E (cls c) dd H'
  | .bad => False
def spF (K : PySem.W.Frag) (cls : Str → Value) (io lk0 : Bool) (np : Nat) (fs : List D → FO) : Sp := fun vs H Q E => vs.length = np ∧ ∃ F fp ds lk β, (lk = true → lk0 = true) ∧ (io = true → vs.head? = some β) ∧ Sta K β lk F H (vs.map some) (argS io ds) fp ∧ PstF K cls io lk β F H fp (fs ds) Q E
/-- the def that the name x stands for -/
structure Def (P : Program) (w : World) (K : PySem.W.Frag) (mg : Str → Option Value) (base : Heap) (CX : CXT) (k : Nat) (x : Str) (cls : Str → Value) (io lk0 : Bool) (np : Nat) (fs : List D → FO) : Prop where
  ex : ∃ f fd ps, FnOk P w K mg base CX k f fd ps (spF K cls io lk0 np fs) ∧ mg x = some (.ref f) ∧ PySem.W.keepIn K (.ref f) = true ∧ Binds K fd ps []
  nb : ∀ ds, ds.length ≠ np → fs ds = .bad
theorem Def.mono {P : Program} {w : World} {K : PySem.W.Frag} {mg : Str → Option Value} {base : Heap} {CX : CXT} {j k : Nat} {x : Str} {cls : Str → Value} {io lk0 : Bool} {np : Nat} {fs : List D → FO} (G : Def P w K mg base CX j x cls io lk0 np fs) (h : j ≤ k) : Def P w K mg base CX k x cls io lk0 np fs := by
  obtain ⟨f, fd, ps, F, r⟩ := G.ex
  exact ⟨⟨f, fd, ps, F.mono h, r⟩, G.nb⟩
theorem runF_nb {io : Bool} {np n : Nat} {m : En → R Fl} : ∀ ds, ds.length ≠ np → runF io np n m ds = .bad := fun ds h => if_neg h
section
variable {K : PySem.W.Frag} {β : V} {F F' H H' : Hp} {fp fp' : List Addr} {σ : L2.St} {ρ : En}
theorem Sl.app : ∀ {n : Nat}, Sl K β F H σ ρ fp → Sl K β F H (σ ++ List.replicate n none) (ρ ++ List.replicate n none) fp := by
  intro n s
  induction s with
  | nil =>
    induction n with
    | zero => exact .nil
    | succ n ih => exact .skip ih
  | skip t ih => exact .skip ih
  | fr z t ih => exact .fr z ih
  | ow a b t ih => exact .ow a b ih
  | bo e a b t ih => exact .bo e a b ih
theorem argS_len {io : Bool} {ds : List D} : (argS io ds).length = ds.length := by
  unfold argS
  split
  · simp
  · simp
/-- what a def hands back of its first parameter -/
theorem outs_out {io : Bool} {ρ : En} {k : Option D → FO} {K : PySem.W.Frag} {cls : Str → Value} {lk : Bool} {β : V} {F H F' H' : Hp} {fp fp' : List Addr} {σ' : L2.St} {Q : VK} {E : XK} (h : PstF K cls io lk β F H fp (outs io ρ k) Q E) (s : Sta K β lk F' H' σ' ρ fp') :
    ∃ out fp2, PstF K cls io lk β F H fp (k out) Q E ∧ Sta K β lk F' H' (outσ io β) (outρ out) fp2 ∧ (∀ a ∈ fp2, a ∈ fp') ∧ Tr F' H' fp' F' H' fp2 := by
  cases io with
  | false => exact ⟨none, [], h, ⟨s.ex, .nil, List.nodup_nil, fun a ha => (by cases ha), s.lock⟩, fun a ha => (by cases ha), Tr.refl.sub fun a ha => (by cases ha)⟩
  | true =>
    cases hs : s.sl with
    | bo e hw hz t =>
      rename_i a k vs ds σ ρ fp2
      clear hs
      subst e
      refine ⟨some _, [a], h, ⟨s.ex, .bo rfl hw hz .nil, by simp, fun b hb => s.own b (by rw [List.mem_singleton.mp hb]; exact List.mem_cons_self), s.lock⟩, fun b hb => by rw [List.mem_singleton.mp hb]; exact List.mem_cons_self, Tr.refl.sub fun b hb => by rw [List.mem_singleton.mp hb]; exact List.mem_cons_self⟩
    | nil => exact h.elim
    | skip t => exact h.elim
    | fr z t => exact h.elim
    | ow a b t => exact h.elim
theorem argS_nil {io : Bool} {β : V} {lk : Bool} {vs : List V} {ds : List D} (s : Sta K β lk F H (vs.map some) (argS io ds) fp) : vs.length = ds.length := by
  have := s.sl.len
  rw [argS_len] at this
  simpa using this
/-- from a body's reading to its def's promise -/
theorem body_ok {w : Wd} {io : Bool} {np n : Nat} {m : En → R Fl} {vs : List V} {Q : VK} {E : XK} {ds : List D} (hW : w.W = fun c dd _ H => E c dd H) (s : Sta K w.β w.lk F H (vs.map some) (argS io ds) fp) (hl : vs.length = np) (h : PstF K w.cls io w.lk w.β F H fp (runF io np n m ds) Q E) :
    cS K w m { nx := fun _ H' => Q .non H', rt := Q } (vs.map some ++ List.replicate (n - vs.length) none) H := by
  have hd : ds.length = np := by rw [← argS_nil s]; exact hl
  unfold runF at h
  rw [if_pos hd] at h
  rw [hl]
  refine ⟨F, _, fp, ⟨s.ex, s.sl.app, s.nd, s.own, s.lock⟩, ?_⟩
  cases q : m (argS io ds ++ List.replicate (n - np) none) with
  | bad => rw [q] at h; exact h
  | exc c x ρ' =>
    rw [q] at h
    intro σ' F' H' fp' dd t s' xr
    obtain ⟨out, fp2, h1, s2, sub, t2⟩ := outs_out (k := .exc c x) h s'
    rw [hW]
    exact h1 F' H' fp2 dd (t.trans t2) s2 xr
  | ok a ρ' =>
    rw [q] at h
    cases a with
    | nx =>
      intro σ' F' H' fp' t s'
      obtain ⟨out, fp2, h1, s2, sub, t2⟩ := outs_out (k := .val false .non) h s'
      exact h1 .non F' H' fp2 (t.trans t2) ⟨s2.ex, .fr .non s2.sl, s2.nd, s2.own, s2.lock⟩
    | rt d =>
      intro v σ' F' H' fp' t s' z
      obtain ⟨out, fp2, h1, s2, sub, t2⟩ := outs_out (k := .val false d) h s'
      exact h1 v F' H' fp2 (t.trans t2) ⟨s2.ex, .fr z s2.sl, s2.nd, s2.own, s2.lock⟩
    | ro d =>
      intro v σ' F' H' fp' t s'
      cases hs : s'.sl with
      | ow hw hz sl =>
        rename_i a k ws es fp3
        have nd := List.nodup_cons.mp s'.nd
        obtain ⟨out, fp2, h1, s2, sub, t2⟩ := outs_out (k := .val true _) h (⟨s'.ex, sl, nd.2, fun b hb => s'.own b (List.mem_cons_of_mem _ hb), s'.lock⟩ : Sta K w.β w.lk F' H' σ' ρ' fp3)
        exact h1 _ F' H' (a :: fp2) (t.trans t2.cons) ⟨s2.ex, .ow hw hz s2.sl, List.nodup_cons.mpr ⟨fun z => nd.1 (sub _ z), s2.nd⟩, fun b hb => (List.mem_cons.mp hb).elim (fun e => e ▸ s'.own a List.mem_cons_self) (s2.own b), s2.lock⟩
    | ct => exact h.elim
    | bk => exact h.elim
end

/-! ### a def that raises nothing -/
section
variable {P : Program} {w : World} {K : PySem.W.Frag} {mg : Str → Option Value} {base : Heap}
theorem mkDef {x : Str} {st : Stmt} {f : Addr} {fd : FuncData} {N ps : List Str} {k np n : Nat} {cls : Str → Value} {io lk0 : Bool} {m : En → R Fl} (F : Fun K x x st f fd) (hm : mg x = some (.ref f)) (b : Binds K fd ps []) (S : FnScope N ps (defScope st)) (hn : N.length = n := by rfl) (hp : ps.length = np := by rfl)
    (body : ∀ (cdv : Value) (A : Around) (outer : List Env) (s : Shared) (H : Hp) (E : XK) (W : Wd), Room k (A.deeper (envOfC x (defScope st) s.heap.objs.size f cdv)) → (W.lk = true → lk0 = true) → W.cls = cls → PSs (cxOf CX0 P w K mg base N x (defScope st) f cdv A outer s H E).nox (defBody st) (cS K W m)) : Def P w K mg base CX0 (k + 1) x cls io lk0 np (runF io np n m) := by
  refine ⟨⟨f, fd, ps, F.ok S (fun vs H Q E h => h.1.trans hp.symm) (fun cdv A outer s H vs Q E hr h => ?_), hm, F.kp, b⟩, runF_nb⟩
  obtain ⟨hl, G, fp, ds, lk, β, hlk, hio, st', h⟩ := h
  refine ⟨_, body cdv A outer s H E ⟨β, lk, cls, fun c dd _ H => E c dd H⟩ hr hlk rfl, ?_⟩
  subst hn
  exact body_ok (w := ⟨β, lk, cls, fun c dd _ H => E c dd H⟩) rfl st' hl h
end

/-! ### calls -/
def sCall (fs : List D → FO) (f : En → R (List D)) : En → R D := fun ρ => bnd (f ρ) fun ds ρ1 => match fs ds with
  | .val _ d _ => .ok d ρ1
  | _ => .bad
def sCallO (fs : List D → FO) (f : En → R (List D)) : En → R D := fun ρ => bnd (f ρ) fun ds ρ1 => match fs ds with
  | .val true d _ => .ok d ρ1
  | _ => .bad
def sCallI (i : Nat) (fs : List D → FO) (f : En → R (List D)) : En → R D := fun ρ => bnd (lift (ownD i ρ) ρ) fun _ _ => bnd (f ρ) fun ds ρ1 => match ownD i ρ1 with
  | some d0 => match fs (d0 :: ds) with
    | .val _ d (some d') => .ok d (chg i d' ρ1)
    | _ => .bad
  | none => .bad
def sCallIO (i : Nat) (fs : List D → FO) (f : En → R (List D)) : En → R D := fun ρ => bnd (lift (ownD i ρ) ρ) fun _ _ => bnd (f ρ) fun ds ρ1 => match ownD i ρ1 with
  | some d0 => match fs (d0 :: ds) with
    | .val true d (some d') => .ok d (chg i d' ρ1)
    | _ => .bad
  | none => .bad
section
variable {K : PySem.W.Frag} {β : V} {lk : Bool} {F F' H H' : Hp} {fp fp' : List Addr} {σ : L2.St} {ρ : En}
theorem fzs_args : ∀ {vs : List V} {ds : List D}, Fzs K F vs ds → Sl K β F H (vs.map some) (ds.map fun d => some (.f d)) []
  | _, _, .nil => .nil
  | _, _, .cons z zs => .fr z (fzs_args zs)
theorem argS_false (ds : List D) : argS false ds = ds.map fun d => some (.f d) := by
  unfold argS
  split <;> first | rfl | contradiction
/-- a name lent to a callee -/
theorem Sta.lend {i : Nat} {d0 : D} (s : Sta K β lk F H σ ρ fp) (e : ownD i ρ = some d0) :
    ∃ a, σ[i]? = some (some (.ref a)) ∧ a ∈ fp ∧ F a = none ∧ Sl K (.ref a) F H [some (.ref a)] [some (.b d0)] [a] ∧
      ∀ F' H' d', Tr F H [a] F' H' [a] → Same F' H' → (lk = false → NoLock F') → Sl K (.ref a) F' H' [some (.ref a)] [some (.b d')] [a] → F' a = none → Sta K β lk F' H' σ (chg i d' ρ) fp ∧ Tr F H fp F' H' fp := by
  have main : ∀ mk : D → S, (mk = S.o ∨ mk = S.b) → ρ[i]? = some (some (mk d0)) → (∀ d', chg i d' ρ = ρ.set i (some (mk d'))) → ∃ a, σ[i]? = some (some (.ref a)) ∧ a ∈ fp ∧ F a = none ∧ Sl K (.ref a) F H [some (.ref a)] [some (.b d0)] [a] ∧
      ∀ F' H' d', Tr F H [a] F' H' [a] → Same F' H' → (lk = false → NoLock F') → Sl K (.ref a) F' H' [some (.ref a)] [some (.b d')] [a] → F' a = none → Sta K β lk F' H' σ (chg i d' ρ) fp ∧ Tr F H fp F' H' fp := by
    intro mk hm e1 hc
    obtain ⟨a, k, vs, ds, fp1, fp2, h1, h2, h3, h4, h5, h6, h7, h8, h9⟩ := s.sl.own mk hm e1
    subst h1 h2
    obtain ⟨m1, m2, m3⟩ := mid s.nd
    refine ⟨a, h3, by simp, s.own a (by simp), .bo rfl h4 h5 .nil, fun F' H' d' t ex lock sl na => ?_⟩
    have keep : ∀ b ∈ fp1 ++ fp2, ∀ o, H b = some o → H' b = some o := fun b hb o q => t.keep b o q fun z => m1 (by rw [← List.mem_singleton.mp z]; exact hb)
    cases sl with
    | bo _ hw hz _ =>
      have tt := t.wide (gp := fp1 ++ a :: fp2) fun b hb => by rw [List.mem_singleton.mp hb]; simp
      refine ⟨⟨ex, ?_, s.nd, fun b hb => ?_, lock⟩, ?_⟩
      · rw [hc]
        exact h8 F' H' _ _ _ t.ex keep hw hz
      · by_cases q : b = a
        · rw [q]; exact na
        · have hb' : b ∈ fp1 ++ fp2 := by
            rcases List.mem_cons.mp (m3.mem_iff.mpr hb) with z | z
            · exact absurd z q
            · exact z
          cases r : F' b with
          | none => rfl
          | some o =>
            rcases t.new b (.inr ⟨s.own b hb, by rw [r]; exact (fun z => nomatch z), s.sl.fpT b hb⟩) with z | z
            · exact absurd (List.mem_singleton.mp z) q
            · obtain ⟨o', ho⟩ := s.sl.fpH b hb
              rw [z] at ho; cases ho
      · refine ⟨tt.ex, tt.keep, fun b q => ?_⟩
        rcases q with q | q
        · exact .inl q
        · exact tt.new b (.inr q)
  unfold ownD at e
  split at e
  · rename_i d' e1
    cases e
    exact main S.o (.inl rfl) e1 fun d' => by unfold chg; rw [e1]
  · rename_i d' e1
    cases e
    exact main S.b (.inr rfl) e1 fun d' => by unfold chg; rw [e1]
  · cases e
end
end Y

set_option Elab.async false
set_option linter.all false
set_option maxRecDepth 100000
set_option maxHeartbeats 2000000
/-! Calls by values. -/
namespace Y
open PySem L2
section
variable {K : PySem.W.Frag} {w : Wd} {F F' H H' : Hp} {fp fp' gp : List Addr} {σ : St} {ρ : En} {d : D} {v : V}
/-- a callee without a borrowed name is back: its result beside ours -/
theorem back_plain {o : Bool} (s : StaW K w F H σ ρ fp) (t : Tr F H [] F' H' gp) (r : Sta K β w.lk F' H' [some v] [some (mkS o d)] gp) :
    StaW K w F' H' (some v :: σ) (some (mkS o d) :: ρ) (gp ++ fp) ∧ Tr F H fp F' H' (gp ++ fp) := by
  obtain ⟨s1, dj⟩ := s.frame t (fun a _ h => by cases h) r.ex r.lock
  have tt : Tr F H fp F' H' (gp ++ fp) := by
    refine ⟨t.ex, fun a q h n => t.keep a q h (by simp), fun a q => ?_⟩
    rcases q with q | q
    · rcases List.mem_append.mp q with q | q
      · exact (t.new a (.inl q)).imp (fun z => by cases z) id
      · exact .inl q
    · exact (t.new a (.inr q)).imp (fun z => by cases z) id
  cases o with
  | false =>
    cases hs : r.sl with
    | fr z tl =>
      cases tl with
      | nil => exact ⟨⟨s1.ex, .fr z s1.sl, s1.nd, s1.own, s1.lock⟩, tt⟩
  | true =>
    cases hs : r.sl with
    | ow hw hz tl =>
      cases tl with
      | nil =>
        refine ⟨⟨s1.ex, .ow hw hz s1.sl, List.nodup_cons.mpr ⟨fun m => dj _ m (by simp), s1.nd⟩, fun a ha => ?_, s1.lock⟩, tt⟩
        rcases List.mem_cons.mp ha with rfl | ha
        · exact r.own _ (by simp)
        · exact s1.own a ha
/-- a callee with a borrowed name is back -/
theorem back_lent {o : Bool} {i : Nat} {a : Addr} {d' : D} (s : StaW K w F H σ ρ fp) (ha : a ∈ fp)
    (ret : ∀ F' H' d', Tr F H [a] F' H' [a] → Same F' H' → (w.lk = false → NoLock F') → Sl K (.ref a) F' H' [some (.ref a)] [some (.b d')] [a] → F' a = none → StaW K w F' H' σ (chg i d' ρ) fp ∧ Tr F H fp F' H' fp)
    (t : Tr F H [a] F' H' gp) (r : Sta K (.ref a) w.lk F' H' [some v, some (.ref a)] [some (mkS o d), some (.b d')] gp) :
    ∃ fp2, StaW K w F' H' (some v :: σ) (some (mkS o d) :: chg i d' ρ) fp2 ∧ Tr F H fp F' H' fp2 := by
  cases o with
  | false =>
    cases hs : r.sl with
    | fr z tl =>
      cases tl with
      | bo e hw hz tl =>
        cases e
        cases tl with
        | nil =>
          obtain ⟨s2, t2⟩ := ret F' H' _ t r.ex r.lock (.bo rfl hw hz .nil) (r.own a (by simp))
          exact ⟨fp, ⟨s2.ex, .fr z s2.sl, s2.nd, s2.own, s2.lock⟩, t2⟩
  | true =>
    cases hs : r.sl with
    | ow hw1 hz1 tl =>
      rename_i b k1 vs1 ds1 gp2
      cases tl with
      | bo e hw hz tl =>
        cases e
        cases tl with
        | nil =>
          have nd := List.nodup_cons.mp r.nd
          obtain ⟨s2, t2⟩ := ret F' H' _ (t.sub fun c hc => List.mem_cons_of_mem _ hc) r.ex r.lock (.bo rfl hw hz .nil) (r.own a (by simp))
          have nb : b ∉ fp := fun hb => by
            rcases t.new b (.inl List.mem_cons_self) with q | q
            · exact nd.1 q
            · obtain ⟨ob, e2⟩ := s.sl.fpH b hb
              rw [q] at e2; cases e2
          refine ⟨b :: fp, ⟨s2.ex, .ow hw1 hz1 s2.sl, List.nodup_cons.mpr ⟨nb, s2.nd⟩, fun c hc => ?_, s2.lock⟩, ⟨t2.ex, t2.keep, fun c q => ?_⟩⟩
          · rcases List.mem_cons.mp hc with rfl | hc
            · exact r.own _ List.mem_cons_self
            · exact s2.own c hc
          · rcases q with q | q
            · rcases List.mem_cons.mp q with rfl | q
              · rcases t.new _ (.inl List.mem_cons_self) with q | q
                · exact absurd q nd.1
                · exact .inr q
              · exact .inl q
            · exact t2.new c (.inr q)
/-- frozen, if it is ours -/
theorem toF {o : Bool} {Q : VK} {ρ' : En} (s : StaW K w F' H' (some v :: σ) (some (mkS o d) :: ρ') fp') (t : Tr F H fp F' H' fp') (h : ∀ F' H' fp', Tr F H fp F' H' fp' → nF K w σ Q d ρ' F' H' fp') : Q v H' := by
  cases o with
  | false =>
    cases hs : s.sl with
    | fr z tl => exact h F' H' fp' t v ⟨s.ex, tl, s.nd, s.own, s.lock⟩ z
  | true =>
    cases hs : s.sl with
    | ow hw hz tl =>
      obtain ⟨F2, s2, t2, z⟩ := Sta.freeze s hw hz tl
      exact h F2 H' _ (t.trans t2) _ s2 z
end
section
variable {X : Cx} {w : Wd} {e : Expr} {es : List Expr} {f : En → R (List D)} {x y : Str} {p p2 pos : Pos} {fs : List D → FO} {k np : Nat} {lk0 : Bool}
theorem call_plain {K : PySem.W.Frag} {Q : VK} {σ : St} {F H : Hp} {fp : List Addr} {ρ1 : En} {vs : List V} {ds : List D} {N : VK → D → En → Hp → Hp → List Addr → Prop} {r : FO → R D} (nb : ∀ ds, ds.length ≠ np → fs ds = .bad) (hlk : w.lk = true → lk0 = true)
    (s1 : StaW K w F H σ ρ1 fp) (z : Fzs K F vs ds) (nbad : fs ds ≠ .bad) (h : PstF K w.cls false w.lk w.β F H [] (fs ds) Q E0) : spF K w.cls false lk0 np fs vs H Q E0 := by
  refine ⟨?_, F, [], ds, w.lk, w.β, hlk, (fun q => nomatch q), ?_, h⟩
  · rw [z.length]
    exact Decidable.byContradiction fun q => nbad (nb ds q)
  · rw [argS_false]
    exact ⟨s1.ex, fzs_args z, List.nodup_nil, fun a h => (by cases h), s1.lock⟩
theorem d_call (G : Def X.prog X.w X.K X.mg X.base CX0 k x w.cls false lk0 np fs) (hlk : w.lk = true → lk0 = true) (hr : Room k X.A) (hg : Gl X x) (ha : PA X (e :: es) (cA X.K w f)) (hdb : (x == ("__debug__" : Str)) = false := by decide)
    (he : starEach (e :: es) X.env = (false, eval e X.env) :: starEach es X.env := by rfl) (hpl : (backTo pos (starEach es X.env)).any (·.1) = false := by rfl) : PE X (.Call (.Name x p) (e :: es) [] pos) (cF X.K w (sCall fs f)) := by
  obtain ⟨⟨fa, fd, ps, F0, hm, hk, hb⟩, nb⟩ := G
  refine peI (pe_call F0 hr hg hm hk hb .nil pass0 ha hdb he hpl) fun σ H Q h => ?_
  obtain ⟨F, ρ, fp, s, h⟩ := h
  refine ⟨F, ρ, fp, s, h.bnd fun ds ρ1 F1 H1 fp1 t1 h1 => fun vs s1 z => ?_⟩
  show spF X.K w.cls false lk0 np fs (vs ++ []) H1 Q E0
  rw [List.append_nil]
  cases q : fs ds with
  | bad => simp only [q] at h1; exact h1.elim
  | exc c x o => simp only [q] at h1; exact h1.elim
  | val o d out =>
    simp only [q] at h1
    refine call_plain (N := fun _ _ _ _ _ _ => True) (r := fun _ => .bad) nb hlk s1 z (by rw [q]; exact fun z => nomatch z) ?_
    rw [q]
    intro v F' H' gp t r
    cases out with
    | none =>
      obtain ⟨s2, t2⟩ := back_plain s1 t r
      exact toF s2 t2 h1
    | some d' => have := r.sl.len; simp [outσ, outρ] at this
theorem d_callO (G : Def X.prog X.w X.K X.mg X.base CX0 k x w.cls false lk0 np fs) (hlk : w.lk = true → lk0 = true) (hr : Room k X.A) (hg : Gl X x) (ha : PA X (e :: es) (cA X.K w f)) (hdb : (x == ("__debug__" : Str)) = false := by decide)
    (he : starEach (e :: es) X.env = (false, eval e X.env) :: starEach es X.env := by rfl) (hpl : (backTo pos (starEach es X.env)).any (·.1) = false := by rfl) : PE X (.Call (.Name x p) (e :: es) [] pos) (cO X.K w (sCallO fs f)) := by
  obtain ⟨⟨fa, fd, ps, F0, hm, hk, hb⟩, nb⟩ := G
  refine peI (pe_call F0 hr hg hm hk hb .nil pass0 ha hdb he hpl) fun σ H Q h => ?_
  obtain ⟨F, ρ, fp, s, h⟩ := h
  refine ⟨F, ρ, fp, s, h.bnd fun ds ρ1 F1 H1 fp1 t1 h1 => fun vs s1 z => ?_⟩
  show spF X.K w.cls false lk0 np fs (vs ++ []) H1 Q E0
  rw [List.append_nil]
  cases q : fs ds with
  | bad => simp only [q] at h1; exact h1.elim
  | exc c x o => simp only [q] at h1; exact h1.elim
  | val o d out =>
    cases o with
    | false => simp only [q] at h1; exact h1.elim
    | true =>
      simp only [q] at h1
      refine call_plain (N := fun _ _ _ _ _ _ => True) (r := fun _ => .bad) nb hlk s1 z (by rw [q]; exact fun z => nomatch z) ?_
      rw [q]
      intro v F' H' gp t r
      cases out with
      | none =>
        obtain ⟨s2, t2⟩ := back_plain s1 t r
        exact h1 F' H' _ t2 v s2
      | some d' => have := r.sl.len; simp [outσ, outρ] at this
theorem call_lent {K : PySem.W.Frag} {Q : VK} {σ : St} {F H : Hp} {fp : List Addr} {ρ1 : En} {vs : List V} {d0 : D} {ds : List D} {a : Addr} (nb : ∀ ds, ds.length ≠ np → fs ds = .bad) (hlk : w.lk = true → lk0 = true)
    (s1 : StaW K w F H σ ρ1 fp) (na : F a = none) (sl : Sl K (.ref a) F H [some (.ref a)] [some (.b d0)] [a]) (z : Fzs K F vs ds) (nbad : fs (d0 :: ds) ≠ .bad) (h : PstF K w.cls true w.lk (.ref a) F H [a] (fs (d0 :: ds)) Q E0) : spF K w.cls true lk0 np fs (.ref a :: vs) H Q E0 := by
  refine ⟨?_, F, [a], d0 :: ds, w.lk, .ref a, hlk, fun _ => rfl, ?_, h⟩
  · have : (V.ref a :: vs).length = (d0 :: ds).length := by simp [z.length]
    rw [this]
    exact Decidable.byContradiction fun q => nbad (nb _ q)
  · refine ⟨s1.ex, ?_, by simp, fun b hb => by rw [List.mem_singleton.mp hb]; exact na, s1.lock⟩
    cases sl with
    | bo e hw hz _ => exact .bo e hw hz (fzs_args z)
theorem d_callI (i : Nat) (G : Def X.prog X.w X.K X.mg X.base CX0 k x w.cls true lk0 np fs) (hlk : w.lk = true → lk0 = true) (hr : Room k X.A) (hg : Gl X x) (ha : PA X es (cA X.K w f))
    (hN : X.N[i]? = some y := by rfl) (hv : Vis X.env.scope y := by first | exact Or.inl rfl | exact Or.inr (Or.inl rfl) | exact Or.inr (Or.inr rfl)) (hd : (y == ("__debug__" : Str)) = false := by decide) (hcd : (y == ("__classdict__" : Str)) = false := by decide) (hdb : (x == ("__debug__" : Str)) = false := by decide)
    (he : starEach ((.Name y p2) :: es) X.env = (false, eval (.Name y p2) X.env) :: starEach es X.env := by rfl) (hpl : (backTo pos (starEach es X.env)).any (·.1) = false := by rfl) : PE X (.Call (.Name x p) (.Name y p2 :: es) [] pos) (cF X.K w (sCallI i fs f)) := by
  obtain ⟨⟨fa, fd, ps, F0, hm, hk, hb⟩, nb⟩ := G
  refine peI (pe_call F0 hr hg hm hk hb .nil pass0 (pa_cons (pe_var hN hv hd hcd) ha he) hdb he hpl) fun σ H Q h => ?_
  obtain ⟨F, ρ, fp, s, h⟩ := h
  cases e0 : ownD i ρ with
  | none => unfold sCallI at h; rw [e0] at h; exact h.elim
  | some d0 =>
    have h : Pst X.K w F H fp σ (bnd (f ρ) fun ds ρ1 => match ownD i ρ1 with
      | some d0 => (match fs (d0 :: ds) with
        | .val _ d (some d') => .ok d (chg i d' ρ1)
        | _ => .bad)
      | none => .bad) (nF X.K w σ Q) := by unfold sCallI at h; rw [e0] at h; exact h
    obtain ⟨a, ev, _, _, _, _⟩ := s.lend e0
    refine ⟨.ref a, ev, F, ρ, fp, s, h.bnd fun ds ρ1 F1 H1 fp1 t1 h1 => fun vs s1 z => ?_⟩
    show spF X.K w.cls true lk0 np fs ((.ref a :: vs) ++ []) H1 Q E0
    rw [List.append_nil]
    cases e1 : ownD i ρ1 with
    | none => simp only [e1] at h1; exact h1.elim
    | some d1 =>
      simp only [e1] at h1
      obtain ⟨b, ev', hb', nb', sl, ret⟩ := s1.lend e1
      rw [ev] at ev'
      cases ev'
      cases q : fs (d1 :: ds) with
      | bad => simp only [q] at h1; exact h1.elim
      | exc c x o => simp only [q] at h1; exact h1.elim
      | val o d out =>
        cases out with
        | none => simp only [q] at h1; exact h1.elim
        | some d' =>
          simp only [q] at h1
          refine call_lent nb hlk s1 nb' sl z (by rw [q]; exact fun z => nomatch z) ?_
          rw [q]
          intro v F' H' gp t r
          obtain ⟨fp2, s2, t2⟩ := back_lent s1 hb' ret t r
          exact toF s2 t2 h1
theorem d_callIO (i : Nat) (G : Def X.prog X.w X.K X.mg X.base CX0 k x w.cls true lk0 np fs) (hlk : w.lk = true → lk0 = true) (hr : Room k X.A) (hg : Gl X x) (ha : PA X es (cA X.K w f))
    (hN : X.N[i]? = some y := by rfl) (hv : Vis X.env.scope y := by first | exact Or.inl rfl | exact Or.inr (Or.inl rfl) | exact Or.inr (Or.inr rfl)) (hd : (y == ("__debug__" : Str)) = false := by decide) (hcd : (y == ("__classdict__" : Str)) = false := by decide) (hdb : (x == ("__debug__" : Str)) = false := by decide)
    (he : starEach ((.Name y p2) :: es) X.env = (false, eval (.Name y p2) X.env) :: starEach es X.env := by rfl) (hpl : (backTo pos (starEach es X.env)).any (·.1) = false := by rfl) : PE X (.Call (.Name x p) (.Name y p2 :: es) [] pos) (cO X.K w (sCallIO i fs f)) := by
  obtain ⟨⟨fa, fd, ps, F0, hm, hk, hb⟩, nb⟩ := G
  refine peI (pe_call F0 hr hg hm hk hb .nil pass0 (pa_cons (pe_var hN hv hd hcd) ha he) hdb he hpl) fun σ H Q h => ?_
  obtain ⟨F, ρ, fp, s, h⟩ := h
  cases e0 : ownD i ρ with
  | none => unfold sCallIO at h; rw [e0] at h; exact h.elim
  | some d0 =>
    have h : Pst X.K w F H fp σ (bnd (f ρ) fun ds ρ1 => match ownD i ρ1 with
      | some d0 => (match fs (d0 :: ds) with
        | .val true d (some d') => .ok d (chg i d' ρ1)
        | _ => .bad)
      | none => .bad) (nO X.K w σ Q) := by unfold sCallIO at h; rw [e0] at h; exact h
    obtain ⟨a, ev, _, _, _, _⟩ := s.lend e0
    refine ⟨.ref a, ev, F, ρ, fp, s, h.bnd fun ds ρ1 F1 H1 fp1 t1 h1 => fun vs s1 z => ?_⟩
    show spF X.K w.cls true lk0 np fs ((.ref a :: vs) ++ []) H1 Q E0
    rw [List.append_nil]
    cases e1 : ownD i ρ1 with
    | none => simp only [e1] at h1; exact h1.elim
    | some d1 =>
      simp only [e1] at h1
      obtain ⟨b, ev', hb', nb', sl, ret⟩ := s1.lend e1
      rw [ev] at ev'
      cases ev'
      cases q : fs (d1 :: ds) with
      | bad => simp only [q] at h1; exact h1.elim
      | exc c x o => simp only [q] at h1; exact h1.elim
      | val o d out =>
        cases o with
        | false => simp only [q] at h1; exact h1.elim
        | true =>
          cases out with
          | none => simp only [q] at h1; exact h1.elim
          | some d' =>
            simp only [q] at h1
            refine call_lent nb hlk s1 nb' sl z (by rw [q]; exact fun z => nomatch z) ?_
            rw [q]
            intro v F' H' gp t r
            obtain ⟨fp2, s2, t2⟩ := back_lent s1 hb' ret t r
            exact h1 F' H' fp2 t2 v s2
end
end Y

set_option Elab.async false
set_option linter.all false
set_option maxRecDepth 100000
set_option maxHeartbeats 2000000
/-! sorted(..). -/
namespace Y
open PySem PySem.Spec PyProof.Rows L2 PySem.W

section
variable {P : Program} {w : World} {A : Around} {E : Value → Shared → Prop} {s : Shared}
theorem collect_tup {l : Addr} {vs : List Value} {Q : List Value → Shared → Prop} (hl : IsTup s.heap l vs.toArray)
    (h : Q vs { s with heap := (s.heap.push (seqObj "list" #[] 0)).update s.heap.objs.size (Obj.mapSeq (· ++ vs.toArray)) }) (hsz : vs.length ≤ sizeLine) :
    wpAny (model P w) A (collect (.ref l)) Q E s := by
  obtain ⟨o, ho, hc, n, hd⟩ := id hl
  unfold collect
  refine wpAny_bind (wpAny_runValue (codeAny_builtin entry_proto_collect' ?_))
  show wpAny _ _ (do again (.builtin "list.__iadd__" ⟨[← newList [], .ref l], []⟩)) _ _ s
  refine wpAny_bind (wpAny_newList (wpAny_pure ⟨Code.quiet_builtin _ (by decide +kernel), codeAny_builtin entry_list_iadd' ?_⟩))
  show wpAny _ _ (Builtin.List.listExtendWith (.ref s.heap.objs.size) (.ref l) (.ref s.heap.objs.size)) _ _ { s with heap := s.heap.push (seqObj "list" #[] 0) }
  unfold Builtin.List.listExtendWith
  have ho' : (s.heap.push (seqObj "list" #[] 0)).get? l = some o := Heap.get?_push_of_some _ ho
  refine wpAny_bind (wpAny_typeOf (T := "tuple") ⟨o, ho', hc⟩ ?_)
  have ht : (Value.type "tuple" == Value.type "tuple") = true := by rfl
  rw [if_pos (by rw [ht]; simp)]
  refine wpAny_bind (listItems_at ho' hd ?_)
  refine wpAny_bind (listItems_at (xs := #[]) (n := 0) (Heap.get?_push_size _ rfl) rfl ?_)
  rw [if_neg (by simp)]
  refine wpAny_bind (listUpdate_at (xs := #[]) (n := 0) (Heap.get?_push_size _ rfl) rfl ?_ (Nat.zero_le _) (by show (#[] ++ vs.toArray).size ≤ sizeLine + 1; simp only [Array.size_append, List.size_toArray, List.length_nil]; omega))
  refine wpAny_pure ?_
  show wpAny (model P w) A (do
      let o ← load s.heap.objs.size
      match o.data with
      | .seq xs _ => pure xs.toList
      | _ => unsupported "internal:collect") Q E { s with heap := (s.heap.push (seqObj "list" #[] 0)).update s.heap.objs.size (Obj.mapSeq (· ++ vs.toArray)) }
  refine wpAny_bind (wpAny_load (get?_update_seq (Heap.get?_push_size _ rfl) _) ?_)
  show wpAny _ _ (pure ((#[] : Array Value) ++ vs.toArray).toList) Q E _
  rw [show ((#[] : Array Value) ++ vs.toArray).toList = vs by simp]
  exact wpAny_pure h
end

abbrev Each (us : List Value) (bs : List (V × D)) : Prop := EachIs (fun u (b : V × D) => RelV b.1 u) us bs
abbrev pyb (b : V × D) : PyData := py b.2
theorem each_vals : ∀ {us : List Value} {bs : List (V × D)}, Each us bs → Vals (bs.map (·.1)) us
  | _, _, .nil => .nil
  | _, _, .cons h t => .cons h (each_vals t)
theorem vals_each : ∀ {vs : List V} {ds : List D} {us : List Value}, Vals vs us → vs.length = ds.length → Each us (vs.zip ds)
  | [], [], _, .nil, _ => .nil
  | v :: vs, d :: ds, _, .cons h t, e => .cons h (vals_each t (by simpa using e))
  | [], _ :: _, _, _, e => by simp at e
  | _ :: _, [], _, _, e => by simp at e
theorem each_reads {h : Heap} : ∀ {us : List Value} {bs : List (V × D)}, Each us bs → (∀ u b, b ∈ bs → RelV b.1 u → ∃ as, Reads h u (pyb b) as) → EachIs (fun v b => ∃ as, Reads h v (pyb b) as) us bs
  | _, _, .nil, _ => .nil
  | _, _, .cons h t, k => .cons (k _ _ List.mem_cons_self h) (each_reads t fun u b m => k u b (List.mem_cons_of_mem _ m))

/-- the items may be sorted -/
structure SortOk (K : PySem.W.Frag) (H : Hp) (bs : List (V × D)) : Prop where
  len : bs.length ≤ sizeLine
  al : AllAlike (bs.map pyb)
  so : PySem.W.Sortable (bs.map pyb)
  dp : ∀ b ∈ bs, Dp K H b.1 (pyb b) ∧ (pyb b).depth ≤ 64
theorem sorted_gath {X : Cx} {pins : List (Addr × Obj)} {σ : L2.St} {H : Hp} {s : Shared} {u : Value} {Q : VK} {E : Value → Shared → Prop} {P : List (V × D) → Prop} (hu : X.A.units + 69 < cLine)
    (G : ∀ (Q' : List Value → Shared → Prop) (E' : Value → Shared → Prop), (∀ s' us bs, Inv X pins σ H s' → Each us bs → P bs → Q' us s') → wpAny (model X.prog X.w) X.A.in1 (collect u) Q' E' s)
    (hP : ∀ bs, P bs → SortOk X.K H bs)
    (q : ∀ bs p, P bs → H p = none → Q (.ref p) (upd H p (.lst ((bs.mergeSort (dataLe false pyb)).map (·.1))))) :
    wpAny (model X.prog X.w) X.A (call (.builtin "sorted") [u]) (fun v s' => ∃ x H', Inv X pins σ H' s' ∧ RelV x v ∧ Q x H') E s := by
  refine Calls.call_function_entry kind_sorted plain_sorted entry_sorted (args_sorted1 _) ?_
  unfold Builtin.«sorted»
  refine wpAny_bind (m := checkCount "sorted" 1 1 _) (wpAny_pure ?_)
  refine wpAny_bind (G _ _ fun s1 us bs I1 e pb => ?_)
  have ok := hP bs pb
  have hl : us.length ≤ sizeLine := by rw [e.length]; exact ok.len
  refine wpAny_bind (wpAny_newList ?_ hl)
  have hoL : (s1.heap.push (seqObj "list" us.toArray 0)).get? s1.heap.objs.size = some (seqObj "list" us.toArray 0) := Heap.get?_push_size _ rfl
  show wpAny _ _ _ _ _ { s1 with heap := s1.heap.push (seqObj "list" us.toArray 0) }
  have er : EachIs (fun v b => ∃ as, Reads (sortingHeap (s1.heap.push (seqObj "list" us.toArray 0)) s1.heap.objs.size us) v (pyb b) as) us bs := each_reads e fun u b m r => by
    obtain ⟨as, h⟩ := Dp.reads I1 (pyb b) b.1 u (ok.dp b m).1 r
    exact ⟨as, PyProof.Rows.Reads.keeps (fun b o h => sortingHeap_old (Nat.ne_of_lt (Heap.lt_size h)) (Heap.get?_push_of_some _ h)) h⟩
  have S : SortsAt X.prog X.w X.A.in1.in1 { s1 with heap := sortingHeap (s1.heap.push (seqObj "list" us.toArray 0)) s1.heap.objs.size us } (dataKind (sortingHeap (s1.heap.push (seqObj "list" us.toArray 0)) s1.heap.objs.size us) (bs.map pyb)) us :=
    SortsAt.data (s := { s1 with heap := sortingHeap (s1.heap.push (seqObj "list" us.toArray 0)) s1.heap.objs.size us }) (each_map (R := fun v d => ∃ as, Reads (sortingHeap (s1.heap.push (seqObj "list" us.toArray 0)) s1.heap.objs.size us) v d as) pyb er) ok.al ok.so fun d hd => by
      obtain ⟨b, hb, rfl⟩ := List.mem_map.mp hd
      have := (ok.dp b hb).2
      show X.A.in1.in1.units + _ < _
      have : X.A.in1.in1.units = X.A.units + 1 + 1 := rfl
      omega
  refine wpAny_bind (wpAny_holding (wpAny_call_entry slot_list_sort ⟨_, hoL, rfl⟩ entry_list_sort
    (list_sort_vals (s := { s1 with heap := s1.heap.push (seqObj "list" us.toArray 0) }) hoL S hl ⟨_, rfl, ?_⟩) (args_list_sort _)))
  have out := sortVals_data (R := fun u (b : V × D) => RelV b.1 u) false e er ok.al
  obtain ⟨c, hc⟩ := sortedHeap_at (vs := us) (out := (sortVals (dataKind (sortingHeap (s1.heap.push (seqObj "list" us.toArray 0)) s1.heap.objs.size us) (bs.map pyb)) false us us).toArray) hoL
  refine wpAny_pure ⟨_, rfl, .ref s1.heap.objs.size, upd H s1.heap.objs.size (.lst ((bs.mergeSort (dataLe false pyb)).map (·.1))), I1.laid (t' := s1.toks) (fun b u e => ?_) (Nat.le_refl _)
    (show ObjOk X.prog X.w _ _ _ (.lst _) from ⟨?_, _, c, each_vals out, hc⟩), rfl, q bs _ pb (I1.hok.fresh (Nat.le_refl _))⟩
  · have hb : b < s1.heap.objs.size := Heap.lt_size e
    rw [sortedHeap_old (Nat.ne_of_lt hb) (by rw [size_push']; exact Nat.lt_succ_of_lt hb)]
    exact Heap.get?_push_of_some _ e
  · rw [List.length_map, List.length_mergeSort]; exact ok.len

/-! ### on data -/
def leD (a b : D) : Bool := dataLe false py a b
def tupC : D → Bool
  | .nd .tup (_ :: _) => true
  | .nd .ktp (_ :: _) => true
  | _ => false
def noTup : D → Bool
  | .non => false
  | .ty _ => false
  | .nd .lst _ => true
  | .nd .scr _ => true
  | .nd _ _ => false
  | _ => true
def likeD (ds : List D) : Bool := (ds.all fun a => ds.all fun b => alike (py a) (py b)) && (ds.all dok && (ds.all tupC || ds.all noTup))
def sortD (ds : List D) : Option D := if likeD ds = true ∧ ds.length ≤ sizeLine then some (.nd .lst (ds.mergeSort leD)) else none
def dSorted : D → Option D
  | .nd .lst ds => sortD ds
  | .nd .tup ds => sortD ds
  | .nd (.dK ks) _ => sortD (ks.map kD)
  | _ => none
theorem sort_snd (bs : List (V × D)) : (bs.mergeSort (dataLe false pyb)).map (·.2) = (bs.map (·.2)).mergeSort leD := sort_maps (r := dataLe false pyb) (s := leD) (fun b : V × D => b.2) fun _ _ _ _ => rfl
theorem fzs_zip {K : PySem.W.Frag} {F : Hp} : ∀ {vs : List V} {ds : List D}, Fzs K F vs ds → ∀ b ∈ vs.zip ds, Fz K F b.1 b.2
  | _, _, .nil, b, h => by simp at h
  | _, _, .cons z t, b, h => by
    rcases List.mem_cons.mp (by simpa using h) with rfl | h
    · exact z
    · exact fzs_zip t b h
theorem fzs_of {K : PySem.W.Frag} {F : Hp} : ∀ {bs : List (V × D)}, (∀ b ∈ bs, Fz K F b.1 b.2) → Fzs K F (bs.map (·.1)) (bs.map (·.2))
  | [], _ => .nil
  | b :: bs, h => .cons (h b List.mem_cons_self) (fzs_of fun c m => h c (List.mem_cons_of_mem _ m))
theorem fzs_sort {K : PySem.W.Frag} {F : Hp} {bs : List (V × D)} (h : ∀ b ∈ bs, Fz K F b.1 b.2) : Fzs K F ((bs.mergeSort (dataLe false pyb)).map (·.1)) ((bs.map (·.2)).mergeSort leD) := by
  rw [← sort_snd]
  exact fzs_of fun b m => h b ((List.mergeSort_perm bs _).mem_iff.mp m)
theorem okD_dok {d : D} (h : dok d = true) : okD d = true ∧ (py d).depth ≤ 64 := by simpa [dok] using h
theorem sortOk {K : PySem.W.Frag} {F H : Hp} (ex : Same F H) {bs : List (V × D)} (h : ∀ b ∈ bs, Fz K F b.1 b.2) (l : likeD (bs.map (·.2)) = true) (hl : bs.length ≤ sizeLine) : SortOk K H bs := by
  unfold likeD at l
  simp only [Bool.and_eq_true, Bool.or_eq_true, List.all_eq_true, List.mem_map] at l
  obtain ⟨l1, l2, l3⟩ := l
  refine ⟨hl, ?_, ?_, fun b m => ?_⟩
  · intro d hd d' hd'
    obtain ⟨b, m, rfl⟩ := List.mem_map.mp hd
    obtain ⟨b', m', rfl⟩ := List.mem_map.mp hd'
    exact l1 _ ⟨b, m, rfl⟩ _ ⟨b', m', rfl⟩
  · rcases l3 with l3 | l3
    · refine .inl fun d hd => ?_
      obtain ⟨b, m, rfl⟩ := List.mem_map.mp hd
      have q := l3 b.2 ⟨b, m, rfl⟩
      unfold tupC at q
      split at q
      · rename_i e; exact ⟨_, _, by unfold pyb; rw [e]; simp only [py, pys]; rfl⟩
      · rename_i e; exact ⟨_, _, by unfold pyb; rw [e]; simp only [py, pys]; rfl⟩
      · cases q
    · refine .inr fun d hd => ?_
      obtain ⟨b, m, rfl⟩ := List.mem_map.mp hd
      have q := l3 b.2 ⟨b, m, rfl⟩
      unfold pyb
      cases e : b.2 with
      | non => rw [e] at q; cases q
      | ty n => rw [e] at q; cases q
      | bl b => simp [py]
      | int b => simp [py]
      | str b => simp [py]
      | nd k xs =>
        rw [e] at q
        cases k <;> first | (cases q; done) | simp [py]
  · obtain ⟨o1, o2⟩ := okD_dok (l2 b.2 ⟨b, m, rfl⟩)
    exact ⟨((h b m).mono ex).dp o1, o2⟩
def rSorted (K : PySem.W.Frag) : List V → Hp → VK → Prop := fun xs H Q => ∃ a bs, xs = [.ref a] ∧ (SqL K H a (bs.map (·.1)) ∨ (SqT K H a (bs.map (·.1)) ∨ ∃ kvs, Rd H a (.dK kvs) ∧ bs.map (·.1) = kvs.map fun kv => kV kv.1)) ∧ SortOk K H bs ∧
  ∀ p, H p = none → Q (.ref p) (upd H p (.lst ((bs.mergeSort (dataLe false pyb)).map (·.1))))
theorem zip_1 : ∀ {vs : List V} {ds : List D}, vs.length = ds.length → (vs.zip ds).map (·.1) = vs
  | [], [], _ => rfl
  | v :: vs, d :: ds, e => by
    show v :: (vs.zip ds).map (·.1) = _
    rw [zip_1 (by simpa using e)]
  | [], _ :: _, e => by simp at e
  | _ :: _, [], e => by simp at e
theorem zip_2 : ∀ {vs : List V} {ds : List D}, vs.length = ds.length → (vs.zip ds).map (·.2) = ds
  | [], [], _ => rfl
  | v :: vs, d :: ds, e => by
    show d :: (vs.zip ds).map (·.2) = _
    rw [zip_2 (by simpa using e)]
  | [], _ :: _, e => by simp at e
  | _ :: _, [], e => by simp at e
theorem unzip_self : ∀ (bs : List (V × D)), (bs.map (·.1)).zip (bs.map (·.2)) = bs
  | [] => rfl
  | b :: bs => by
    show (b.1, b.2) :: (bs.map (·.1)).zip (bs.map (·.2)) = _
    rw [unzip_self bs]
theorem each_of {bs : List (V × D)} {us : List Value} (r : Vals (bs.map (·.1)) us) : Each us bs := by
  have := vals_each (ds := bs.map (·.2)) r (by simp)
  rw [unzip_self] at this
  exact this
theorem cr_sorted {X : Cx} (hc : X.calm = true) (hu : X.A.units + 69 < cLine) : CallR X (.builtin "sorted") (rSorted X.K) := by
  intro pins s σ H xs us Q I r h
  obtain ⟨a, bs, rfl, hs, ok, q⟩ := h
  obtain ⟨u, rfl, rx⟩ := vals1 r
  cases rx
  refine sorted_gath (P := (· = bs)) hu (fun Q' E' g => ?_) (fun b e => e ▸ ok) (fun b p e hp => e ▸ q p hp)
  have grow : ∀ vs : List Value, Inv X pins σ H { s with heap := (s.heap.push (seqObj "list" #[] 0)).update s.heap.objs.size (Obj.mapSeq (· ++ vs.toArray)) } := fun vs => I.kept (t' := s.toks) fun b o e => by
    rw [Heap.get?_update_ne _ _ _ _ (Nat.ne_of_lt (Heap.lt_size e))]
    exact Heap.get?_push_of_some _ e
  rcases hs with hs | hs | ⟨kvs, hs, ek⟩
  · obtain ⟨its, rv, pl, hl⟩ := I.list hs
    exact collect_list pl.isList (g _ _ bs (grow its) (each_of rv) rfl) (by rw [← rv.length]; exact hl)
  · obtain ⟨its, rv, pl, hl⟩ := I.tuple hs
    exact collect_tup pl (g _ _ bs (grow its) (each_of rv) rfl) (by rw [← rv.length]; exact hl)
  · obtain ⟨z, lo, vs, rel, dd⟩ := dk_rd I.hok hs
    obtain ⟨ep, hat⟩ := dd.dictAt
    have h16 : vs.length ≤ sizeLine := by rw [← rel.length]; exact z
    refine PySem.W.kdu_collect (A := X.A.in1) (PySem.W.kdl_dict (knd := mixKind X.prog X.w) (kvs := vs) (ep := ep) lo) (I.ok.hd hc) hat h16 fun h' tk acc hk hacc => ?_
    refine g _ _ bs (I.kept hk) (each_of ?_) rfl
    · rw [ek]
      have hal : acc.toList.length = kvs.length := by rw [Array.length_toList, hacc.1, ← rel.length]
      refine vals_of_at (by rw [List.length_map]; exact hal.symm) fun j x u e1 e2 => ?_
      obtain ⟨k, y, e3, e4⟩ := hacc.2 j u (by rw [← Array.getElem?_toList]; exact e2)
      have e5 : (vs.map (·.1))[j]? = some k := by rw [List.getElem?_map, e3]; rfl
      rw [← rel.keys, List.getElem?_map] at e5
      rw [List.getElem?_map] at e1
      cases e6 : kvs[j]? with
      | none => rw [e6] at e5; cases e5
      | some kv =>
        rw [e6] at e5 e1
        cases e5; cases e1
        exact keyIs_rel e4
theorem fz_key {K : PySem.W.Frag} {F : Hp} {ks : List Key} {k : Key} (h : keysL ks = true) (m : k ∈ ks) : Fz K F (kV k) (kD k) := by
  have q : keyL k = true := List.all_eq_true.mp h k m
  cases k with
  | inl i => exact .int i
  | inr s => exact .str s (by simpa [keyL] using q)
theorem c1_sorted {K : PySem.W.Frag} : C1N K (rSorted K) dSorted := by
  intro F H x dx d Q ex z e new
  have main : ∀ a (bs : List (V × D)), x = .ref a → (SqL K H a (bs.map (·.1)) ∨ (SqT K H a (bs.map (·.1)) ∨ ∃ kvs, Rd H a (.dK kvs) ∧ bs.map (·.1) = kvs.map fun kv => kV kv.1)) → (∀ b ∈ bs, Fz K F b.1 b.2) → sortD (bs.map (·.2)) = some d → rSorted K [x] H Q := by
    intro a bs ea hs hb e
    subst ea
    unfold sortD at e
    split at e
    · rename_i c
      cases e
      have hl : bs.length ≤ sizeLine := by simpa using c.2
      refine ⟨a, bs, rfl, hs, sortOk ex hb c.1 hl, fun p hp => ?_⟩
      exact new p .lst _ _ _ rfl rfl hp (if_pos (by rw [List.length_map, List.length_mergeSort]; exact hl)) (fzs_sort hb)
    · cases e
  have e0 := e
  unfold dSorted at e
  split at e
  · obtain ⟨a, vs, rfl, hi, hs⟩ := z.node ex
    have hl := hs.length
    exact main a (vs.zip _) rfl (.inl (by rw [zip_1 hl]; exact SqL.of hi.1)) (fzs_zip hs) (by rw [zip_2 hl]; exact e)
  · obtain ⟨a, vs, rfl, hi, hs⟩ := z.node ex
    have hl := hs.length
    exact main a (vs.zip _) rfl (.inr (.inl (by rw [zip_1 hl]; exact SqT.of hi.1))) (fzs_zip hs) (by rw [zip_2 hl]; exact e)
  · rename_i ks ds
    obtain ⟨a, vs, rfl, hi, hs⟩ := z.node ex
    refine main a (ks.map fun k => (kV k, kD k)) rfl (.inr (.inr ⟨ks.zip vs, hi.2.1, ?_⟩)) (fun b m => ?_) (by rw [List.map_map]; exact e)
    · rw [List.map_map]
      have : (ks.zip vs).map (fun kv => kV kv.1) = ((ks.zip vs).map (·.1)).map kV := by rw [List.map_map]; rfl
      rw [this, List.map_fst_zip (Nat.le_of_eq hi.1)]
      rfl
    · obtain ⟨k, mk, rfl⟩ := List.mem_map.mp m
      exact fz_key hi.2.2.2 mk
  · cases e
end Y

set_option Elab.async false
set_option linter.all false
set_option maxRecDepth 100000
set_option maxHeartbeats 4000000
/-! Sets of whole numbers and texts, made of a list or a tuple, then sorted or counted. -/
namespace Y
open PySem PySem.Spec PyProof.Rows L2

def inKs (ks : List Key) (k : Key) : Bool := ks.any fun x => decide (x = k)
theorem inKs_iff {ks : List Key} {k : Key} : inKs ks k = true ↔ k ∈ ks := by simp [inKs]
def keyE (e : Int × Value) : Key := match e.2 with | .int k _ => .inl k | .str x _ => .inr x | _ => .inl 0
def GoodK (w : World) (e : Int × Value) : Prop := ∃ k, keyIs k e.2 = true ∧ e.1 = keyH w k
theorem keyE_is {e : Int × Value} {k : Key} (h : keyIs k e.2 = true) : keyE e = k := by
  unfold keyE
  rcases keyIs_shape h with ⟨i, t, rfl, ev⟩ | ⟨x, t, rfl, ev⟩
  · rw [ev]
  · rw [ev]
/-- the set of keys at a -/
def SetG (w : World) (h : Heap) (a : Addr) (S : Key → Bool) (n : Nat) : Prop :=
  ∃ o es ep t, h.get? a = some o ∧ o.ExactSet ∧ o.data = .set es ep t ∧ (∀ e ∈ es.toList, GoodK w e) ∧ (es.toList.map keyE).Nodup ∧ (∀ k, S k = true ↔ k ∈ es.toList.map keyE) ∧
    es.size < scanBound ∧ t.fits es.size = true ∧ es.size = n ∧ Ris t.place.toList ∧ (w.params.followText "set-order" = true ∨ t.led = true)
section
variable {P : Program} {w : World} {h h' : Heap} {a : Addr} {S : Key → Bool} {n : Nat}
theorem SetG.at (R : SetG w h a S n) (k : ∀ o, h.get? a = some o → h'.get? a = some o) : SetG w h' a S n := by
  obtain ⟨o, es, ep, t, ho, r⟩ := R
  exact ⟨o, es, ep, t, k o ho, r⟩
theorem SetG.congr {S' : Key → Bool} (R : SetG w h a S n) (e : ∀ k, S' k = S k) : SetG w h a S' n := by
  have q : S' = S := funext e
  rw [q]; exact R
theorem goodK_elems {l : List (Int × Value)} (g : ∀ e ∈ l, GoodK w e) : ElemsOf (mixKind P w) l := fun e he => by
  obtain ⟨k, h1, h2⟩ := g e he
  refine ⟨⟨k, h1, h2⟩, ?_⟩
  rcases keyIs_shape h1 with ⟨i, t, _, ev⟩ | ⟨x, t, _, ev⟩ <;> rw [ev] <;> rfl
theorem goodK_is {e : Int × Value} (g : GoodK w e) (k : Key) : (mixKind P w).is k e.2 = true ↔ keyE e = k := by
  obtain ⟨k0, h1, _⟩ := g
  rw [keyE_is h1]
  constructor
  · exact fun h2 => (mixKind P w).inj e.2 k0 k h1 h2
  · rintro rfl; exact h1
theorem goodK_mem {l : List (Int × Value)} (g : ∀ e ∈ l, GoodK w e) (k : Key) : k ∈ l.map keyE ↔ ∃ e ∈ l, (mixKind P w).is k e.2 = true := by
  rw [List.mem_map]
  constructor
  · rintro ⟨e, he, q⟩
    exact ⟨e, he, (goodK_is (g e he) k).2 q⟩
  · rintro ⟨e, he, q⟩
    exact ⟨e, he, (goodK_is (g e he) k).1 q⟩
end
section
variable {P : Program} {w : World} {A : Around} {E : Value → Shared → Prop} {s : Shared} {a : Addr} {S : Key → Bool} {n : Nat}
theorem setG_add_tail {g : Bool → Sem Unit} (hg : ∀ (b : Bool) (s₁ : Shared) (Q' : Unit → Shared → Prop), Q' () s₁ → wpAny (model P w) A (g b) Q' E s₁)
    {o : Obj} {es : Array (Int × Value)} {ep : Nat} {t : SetTable} (ho : s.heap.get? a = some o) (hex : o.ExactSet) (hd : o.data = .set es ep t)
    {es1 : Array (Int × Value)} {t2 : SetTable} {S' : Key → Bool} (g1 : ∀ e ∈ es1.toList, GoodK w e) (nd1 : (es1.toList.map keyE).Nodup) (m1 : ∀ k, S' k = true ↔ k ∈ es1.toList.map keyE)
    (hb1 : es1.size < scanBound) (hf2 : t2.fits es1.size = true) (hr : Ris t2.place.toList) (hl : w.params.followText "set-order" = true ∨ t2.led = true) {wasDummy : Bool} {R : Option Bool → Shared → Prop}
    (hR : ∀ h', Heap.SameBut a s.heap h' → SetG w h' a S' es1.size → R (some true) { s with heap := h' }) :
    wpAny (model P w) A (do
        storeSet a es1 t2
        if (!wasDummy && t2.tooFull) = true then do
            g (relayAll t2 es1 (SetTable.grown es1.size)).2.2
            storeSet a (relayAll t2 es1 (SetTable.grown es1.size)).1 (relayAll t2 es1 (SetTable.grown es1.size)).2.1
            pure (some true)
          else pure (some true)) R E s := by
  refine wpAny_bind (wpAny_storeSet_of ho hd ?_ (fits_of_scanBound hb1))
  have ho1 := store_at (es' := es1) (t' := t2) ho hd
  have sb1 := Heap.SameBut.update s.heap a (Obj.putSet es1 t2)
  split
  · have pm := relayAll_perm t2 es1 (SetTable.grown es1.size)
    have hf3 := relayAll_fits t2 es1 (SetTable.grown es1.size)
    have hr3 := relayAll_ris t2 es1 (SetTable.grown es1.size)
    have hl3 := relayAll_led t2 es1 (SetTable.grown es1.size)
    generalize relayAll t2 es1 (SetTable.grown es1.size) = Z at pm hf3 hr3 hl3 ⊢
    obtain ⟨es2, t3, gave⟩ := Z
    dsimp only at pm hf3 hr3 hl3 ⊢
    have hsz : es2.size = es1.size := by rw [← Array.length_toList, pm.length_eq, Array.length_toList]
    have hb2 : es2.size < scanBound := by rw [hsz]; exact hb1
    refine wpAny_bind (hg _ _ _ ?_)
    refine wpAny_bind (wpAny_storeSet_of ho1 rfl ?_ (fits_of_scanBound hb2))
    have ho2 := store_at (es' := es2) (t' := t3) ho1 rfl
    refine wpAny_pure (hR _ (sb1.trans (Heap.SameBut.update _ a _)) ?_)
    exact ⟨_, es2, _, t3, ho2, hex, rfl, fun e he => g1 e (pm.mem_iff.mp he), (pm.map keyE).nodup_iff.mpr nd1, fun k => (m1 k).trans (pm.map keyE).mem_iff.symm, hb2, hf3, hsz, hr3,
      hl.imp id fun z => by rw [hl3]; exact z⟩
  · exact wpAny_pure (hR _ sb1 ⟨_, es1, _, t2, ho1, hex, rfl, g1, nd1, m1, hb1, hf2, rfl, hr, hl⟩)
theorem setG_add_hashed {k : Key} {v : Value} {Q : Bool → Shared → Prop} (R : SetG w s.heap a S n) (hkey : keyIs k v = true) (room : n + 1 < scanBound)
    (hQ : ∀ h', Heap.SameBut a s.heap h' → SetG w h' a (fun j => S j || decide (j = k)) (if S k = true then n else n + 1) → Q (!S k) { s with heap := h' }) :
    wpAny (model P w) A (setAddHashed a v ((mixKind P w).hash k)) Q E s := by
  obtain ⟨o, es, ep, t, ho, hex, hd, g, nd, hm, hb, hf, hn, hr, hl⟩ := R
  have hkey' : (mixKind P w).is k v = true := hkey
  have hsc : v.scannable = true := by rcases keyIs_shape hkey with ⟨i, u, _, rfl⟩ | ⟨x, u, _, rfl⟩ <;> rfl
  have hel : ElemsOf (mixKind P w) es.toList := goodK_elems g
  unfold setAddHashed setAddHashedIn
  refine wpAny_holding (wpAny_bind (wpAny_setState_of ho hd hf ?_))
  dsimp only
  rw [byScan_of hsc hb hel]
  simp only [↓reduceIte]
  unfold setAddByScan
  refine wpAny_bind ?_
  refine wpAny_bind (wpAny_rule ?_)
  refine wpAny_bind (wpAny_setScan_of hkey' ho hd hf hel ?_)
  cases hfi : List.findIdx? (fun e => (mixKind P w).is k e.2) es.toList with
  | some j =>
    dsimp only
    obtain ⟨hj, pj, _⟩ := List.findIdx?_eq_some_iff_getElem.mp hfi
    have hSk : S k = true := (hm k).2 ((goodK_mem (P := P) (w := w) g k).2 ⟨es.toList[j], List.getElem_mem hj, pj⟩)
    refine wpAny_pure (wpAny_pure ?_)
    have q := hQ s.heap (Heap.SameBut.refl a s.heap) ⟨o, es, ep, t, ho, hex, hd, g, nd, fun i => by
      rw [Bool.or_eq_true, decide_eq_true_eq, ← hm i]
      exact ⟨fun z => z.elim id (fun e => e ▸ hSk), .inl⟩, hb, hf, by rw [if_pos hSk]; exact hn, hr, hl⟩
    rw [hSk] at q
    exact q
  | none =>
    dsimp only
    have hnk : k ∉ es.toList.map keyE := fun z => by
      obtain ⟨e, he, q⟩ := (goodK_mem (P := P) (w := w) g k).1 z
      have c := List.findIdx?_eq_none_iff.mp hfi e he
      rw [q] at c
      cases c
    have hSk : S k = false := by
      cases q : S k with
      | false => rfl
      | true => exact absurd ((hm k).1 q) hnk
    have hgw : ∀ (b : Bool) {s₁ : Shared} {Q' : Unit → Shared → Prop}, Q' () s₁ → wpAny (model P w) A (match b with | true => rule "set.scan.the-table-gave-way" | false => pure ()) Q' E s₁ :=
      fun b s₁ Q' q => by cases b <;> first | exact wpAny_pure q | exact wpAny_rule q
    have pm := layNew_perm t es ((mixKind P w).hash k) v
    have hf1 := layNew_fits t es ((mixKind P w).hash k) v
    have hr1 := layNew_ris t es ((mixKind P w).hash k) v hr
    have hl1 := layNew_led t es ((mixKind P w).hash k) v
    generalize layNew t es ((mixKind P w).hash k) v = Z at pm hf1 hr1 hl1 ⊢
    obtain ⟨es1, t1, wasDummy, gave⟩ := Z
    dsimp only at pm hf1 hr1 hl1 ⊢
    rw [Array.toList_push] at pm
    have pc : es1.toList.Perm (((mixKind P w).hash k, v) :: es.toList) := pm.trans (List.perm_append_singleton _ _)
    have pk : (es1.toList.map keyE).Perm (k :: es.toList.map keyE) := by
      have q := pc.map keyE
      rw [List.map_cons, keyE_is (e := ((mixKind P w).hash k, v)) hkey] at q
      exact q
    have g1 : ∀ e ∈ es1.toList, GoodK w e := fun e he => by
      rcases List.mem_cons.mp (pc.mem_iff.mp he) with z | z
      · rw [z]; exact ⟨k, hkey, rfl⟩
      · exact g e z
    have nd1 : (es1.toList.map keyE).Nodup := pk.nodup_iff.mpr (List.nodup_cons.mpr ⟨hnk, nd⟩)
    have m1 : ∀ i, (S i || decide (i = k)) = true ↔ i ∈ es1.toList.map keyE := fun i => by
      rw [Bool.or_eq_true, decide_eq_true_eq, hm i, pk.mem_iff, List.mem_cons]
      exact Or.comm
    have hsz : es1.size = n + 1 := by rw [← Array.length_toList, pc.length_eq, List.length_cons, Array.length_toList, hn]
    have hb1 : es1.size < scanBound := by rw [hsz]; exact room
    have hled : w.params.followText "set-order" = true ∨ t1.led = true := hl.imp id fun z => by rw [hl1]; exact z
    have fin : ∀ h', Heap.SameBut a s.heap h' → SetG w h' a (fun j => S j || decide (j = k)) es1.size → Q true { s with heap := h' } := fun h' sb r => by
      have q := hQ h' sb
      rw [hSk] at q
      rw [hsz] at r
      exact q r
    refine wpAny_bind (hgw _ ?_)
    split
    · refine wpAny_bind ?_
      rw [hashByValue_scannable 8 hsc]
      refine wpAny_pure ?_
      refine setG_add_tail ?_ ho hex hd g1 nd1 m1 hb1 ?_ ?_ ?_ ?_
      · intro b s₁ Q' q; cases b <;> first | exact wpAny_pure q | exact wpAny_rule q
      · first | (split <;> first | exact hf1 | exact SetTable.fits_plain_off hf1) | exact hf1
      · first | (split <;> exact hr1) | exact hr1
      · first | (split <;> exact hled) | exact hled
      · intro h' sb r; dsimp only; exact wpAny_pure (fin h' sb r)
    · refine wpAny_bind (wpAny_pure ?_)
      simp only [↓reduceIte]
      refine setG_add_tail ?_ ho hex hd g1 nd1 m1 hb1 hf1 hr1 hled ?_
      · intro b s₁ Q' q; cases b <;> first | exact wpAny_pure q | exact wpAny_rule q
      · intro h' sb r; dsimp only; exact wpAny_pure (fin h' sb r)
theorem setG_fresh {h : Heap} (w : World) : SetG w (h.push { cls := .type "set", dict := none, data := .set #[] 0 (.fresh 0 0 (!w.params.followText "set-order")) }) h.objs.size (fun _ => false) 0 :=
  ⟨_, #[], 0, _, Heap.get?_push_size _ rfl, ⟨rfl, rfl, rfl⟩, rfl, (fun e he => by simp at he), (by simp), (fun k => by simp), (by decide), (by rfl), rfl, List.Pairwise.nil, by
    show _ ∨ (!w.params.followText "set-order") = true
    cases w.params.followText "set-order"
    · exact .inr rfl
    · exact .inl rfl⟩
end
section
variable {P : Program} {w : World} {A : Around} {R : Result → Shared → Prop} {I : Addr} {fp wr : List Addr} {G : Array GenState → Array GenState → Prop} {n : Nat} {Pv : Nat → Value → Prop} {St : Nat → Shared → Prop}
theorem setG_loop (W : WalksS P w A.in1 I fp wr G n Pv St) (S : Addr) (hSf : S ∉ fp) (ks : List Key) (hl : ks.length = n) (hval : ∀ i v, Pv i v → ∃ k, ks[i]? = some k ∧ keyIs k v = true) (hb : n + 1 < scanBound) :
    ∀ (k i : Nat) (s : Shared), n - i = k → i ≤ n → St i s → (∃ m, m ≤ i ∧ SetG w s.heap S (inKs (ks.take i)) m) →
      (∀ s', Moved (S :: wr) G s s' → (∃ m, m ≤ n ∧ SetG w s'.heap S (inKs ks) m) → R (.ok (.ret .none)) s') →
      codeAny (model P w) A (.builtin "set.update.loop" ⟨[.ref S, .ref I], []⟩) R s := by
  have hSw : S ∉ wr := fun h => hSf (W.sub _ h)
  have hsub : ∀ b ∈ wr, b ∈ S :: wr := fun b hb => List.mem_cons_of_mem _ hb
  intro k
  induction k with
  | zero =>
    intro i s hk hi hst hS hR
    have hin : i = n := by omega
    subst hin
    refine codeAny_builtin F.entry_set_update_loop ?_
    rw [Around.under_plainId F.plain_set_update_loop _]
    show wpAny _ A.in1 (pyNext (.ref I) >>= _) _ _ s
    refine wpAny_bind (W.done s _ _ hst fun s' hm => ?_)
    show wpAny _ A.in1 (ret Value.none) _ _ s'
    obtain ⟨m, h1, h2⟩ := hS
    refine wpAny_pure (hR s' (hm.mono hsub) ⟨m, h1, SetG.at (h := s.heap) ?_ fun o ho => hm.heap S _ hSw ho⟩)
    rw [← hl, List.take_length] at h2
    exact h2
  | succ k ih =>
    intro i s hk hi hst hS hR
    have hlt : i < n := by omega
    refine codeAny_builtin F.entry_set_update_loop ?_
    rw [Around.under_plainId F.plain_set_update_loop _]
    show wpAny _ A.in1 (pyNext (.ref I) >>= _) _ _ s
    refine wpAny_bind (W.item i s _ _ hlt hst fun v s' hP hst' hm => ?_)
    obtain ⟨kk, ek, hkey⟩ := hval i v hP
    obtain ⟨m, hm1, hS⟩ := hS
    have hS' : SetG w s'.heap S (inKs (ks.take i)) m := hS.at fun o ho => hm.heap S _ hSw ho
    show wpAny _ A.in1 (holding [v] (setAdd S v) >>= _) _ _ s'
    refine wpAny_bind (wpAny_holding ?_)
    unfold setAdd
    refine wpAny_holding ?_
    refine wpAny_bind ((mixKind P w).pyHash (k := kk) hkey ?_)
    refine setG_add_hashed (s := { s' with toks := _ }) hS' hkey (by omega) fun h' hsb hS2 => ?_
    have et : ks.take (i + 1) = ks.take i ++ [kk] := by
      rw [List.take_add_one, ek]; rfl
    have hSi : ∃ m, m ≤ i + 1 ∧ SetG w h' S (inKs (ks.take (i + 1))) m := by
      refine ⟨_, ?_, hS2.congr fun j => ?_⟩
      · split <;> omega
      · rw [et]
        unfold inKs
        rw [List.any_append]
        simp only [List.any_cons, List.any_nil, Bool.or_false, eq_comm]
    refine wpAny_pure ⟨plainId_quiet F.plain_set_update_loop _, ih (i + 1) _ (by omega) hlt (W.frame _ s' _ _ hst' (Nat.le_add_right _ _) fun b hb o e => ?_) hSi fun s'' hm'' hS'' => ?_⟩
    · rw [hsb.2 b (fun h : b = S => hSf (by rw [← h]; exact hb))]; exact e
    · refine hR s'' (Moved.trans W.gtrans ((hm.mono hsub).then_heap (Nat.le_add_right _ _) fun b o hb e => ?_) hm'') hS''
      rw [hsb.2 b (fun h : b = S => hb (by rw [h]; exact List.mem_cons_self))]; exact e
end
section
variable {P : Program} {w : World} {A : Around} {E : Value → Shared → Prop} {s : Shared}

set_option maxHeartbeats 6400000 in
theorem call_set_l {l : Addr} {items : Array Value} {ks : List Key} {Q : Value → Shared → Prop} (hh : A.handled = none) (hl : s.heap.IsList l items) (hsz : ks.length = items.size) (hi : ∀ (i : Nat) (v : Value), items[i]? = some v → ∃ k, ks[i]? = some k ∧ keyIs k v = true) (hb : items.size + 1 < scanBound)
    (h : ∀ (h' : Heap) (tk m : Nat), m ≤ items.size → SetG w h' s.heap.objs.size (inKs ks) m → (∀ b o, s.heap.get? b = some o → h'.get? b = some o) → Q (.ref s.heap.objs.size) { s with heap := h', toks := tk }) :
    wpAny (model P w) A (call (.type "set") [.ref l]) Q E s := by
  obtain ⟨c, tl, hmro⟩ := F.called_set.mro
  have hmade := F.called_set.made
  have hsub := F.called_set.sub
  refine wpAny_call (codeAny_of_tree ?_)
  show wpAny _ _ (callAny (.type "set") _) _ _ _
  refine wpAny_pure ⟨Code.quiet_builtin _ (by decide +kernel), codeAny_builtin F.entry_type_call ?_⟩
  rw [Around.under_plain (weight_type_call_type "set" [.ref l] []) rfl]
  have h1 := F.called_set.notType
  have h2 := F.called_set.canCreate
  have hct := F.typeCall_set_1 (.ref l)
  repeat (any_goals (first | assumption | wp_step))
  refine codeAny_mono (code_set_led1 (.ref l) (E := E) (Q₁ := fun obj s₁ => obj = .ref s.heap.objs.size ∧ s₁ = { s with heap := s.heap.push { cls := .type "set", dict := none, data := .set #[] 0 (.fresh 0 0 (!w.params.followText "set-order")) } }) ⟨rfl, rfl⟩) fun r s₁ hr => ?_
  cases r with
  | error e => exact hr
  | ok fl =>
    cases fl with
    | ret obj =>
      obtain ⟨rfl, rfl⟩ := hr
      have hS : (s.heap.push { cls := .type "set", dict := none, data := .set #[] 0 (.fresh 0 0 (!w.params.followText "set-order")) }).get? s.heap.objs.size = some { cls := .type "set", dict := none, data := .set #[] 0 (.fresh 0 0 (!w.params.followText "set-order")) } := Heap.get?_push_size _ rfl
      have hT : Shared.TypeIs { s with heap := s.heap.push { cls := .type "set", dict := none, data := .set #[] 0 (.fresh 0 0 (!w.params.followText "set-order")) } } (.ref s.heap.objs.size) "set" := ⟨_, hS, rfl⟩
      have hli := F.called_set.init.lookup
      have hbi := F.called_set.init.bind (.ref s.heap.objs.size)
      repeat (any_goals (first | assumption | wp_step))
      refine codeAny_mono (codeAny_call_builtin (R := wants (fun r s₂ => r = .none ∧ ∃ h' tk m, s₂ = { s with heap := h', toks := tk } ∧ m ≤ items.size ∧ SetG w h' s.heap.objs.size (inKs ks) m ∧
          (∀ b o, s.heap.get? b = some o → h'.get? b = some o)) E) F.called_set.init.plain F.entry_set_init (check_set_init_1 hT ?_)) fun r₂ s₂ hr₂ => ?_
      · obtain ⟨ol, hol, hcl, nl, hdl⟩ := hl
        obtain ⟨ocls, odict, odata, oslots⟩ := ol
        simp only at hcl hdl
        subst hcl; subst hdl
        have hol' : (s.heap.push { cls := .type "set", dict := none, data := .set #[] 0 (.fresh 0 0 (!w.params.followText "set-order")) }).get? l = some { cls := .type "list", dict := odict, data := .seq items nl, slots := oslots } := Heap.get?_push_of_some _ hol
        have hsls := F.sub_list_set
        have hslf := F.sub_list_frozenset
        have hne : (Value.type "list" == Value.type "dict") = false := by decide
        have hl1 : (s.heap.push { cls := .type "set", dict := none, data := .set #[] 0 (.fresh 0 0 (!w.params.followText "set-order")) }).IsList l items := ⟨_, hol', rfl, nl, rfl⟩
        unfold Builtin.«set.__init__» noKeywords Builtin.Frozenset.updateFrom
        generalize hPI : pyIter = PI
        wp_walk
        subst hPI
        refine wpAny_pyIter_list hl1 ?_
        refine wpAny_bind (wpAny_runValue ?_)
        have hlS : l < s.heap.objs.size := Heap.lt_size hol
        have hh3 : A.in1.in1.in1.handled = none := by simp [hh]
        have hneI : l ≠ (s.heap.push { cls := .type "set", dict := none, data := .set #[] 0 (.fresh 0 0 (!w.params.followText "set-order")) }).objs.size := by
          rw [Heap.size_push]; exact Nat.ne_of_lt (Nat.lt_succ_of_lt hlS)
        have hSf : s.heap.objs.size ∉ [(s.heap.push { cls := .type "set", dict := none, data := .set #[] 0 (.fresh 0 0 (!w.params.followText "set-order")) }).objs.size, l] := by
          rw [Heap.size_push]; simp only [List.mem_cons, List.mem_singleton, List.not_mem_nil, or_false, not_or]
          exact ⟨Nat.ne_of_lt (Nat.lt_succ_self _), Nat.ne_of_gt hlS⟩
        refine setG_loop ((Walks.list hh3 _ l hneI items).toS) s.heap.objs.size hSf ks hsz hi hb (items.size - 0) 0 _ (by omega) (Nat.zero_le _)
          ⟨⟨_, Heap.get?_push_size _ rfl, rfl, rfl⟩, (hl1.push _)⟩ ?hS0 ?hR
        case hS0 =>
          exact ⟨0, Nat.le_refl 0, ((setG_fresh w).at fun o e => Heap.get?_push_of_some _ e).congr fun k => rfl⟩
        case hR =>
          intro s' hm hS'
          obtain ⟨h', g', d', tk', os'⟩ := s'
          have eg : g' = s.gens := hm.gens
          have ed : d' = s.drawn := hm.drawn
          have eo : os' = s.os := hm.os
          subst eg; subst ed; subst eo
          show wpAny _ _ _ _ _ _
          refine wpAny_pure ?_
          show wpAny _ _ (ret Value.none) _ _ _
          obtain ⟨m, hm1, hm2⟩ := hS'
          refine wpAny_pure ⟨rfl, h', tk', m, rfl, hm1, hm2, fun b o e => ?_⟩
          have hb0 : b < s.heap.objs.size := Heap.lt_size e
          have hb1 : b ≠ s.heap.objs.size := Nat.ne_of_lt hb0
          have hb2 : b ≠ (s.heap.push { cls := .type "set", dict := none, data := .set #[] 0 (.fresh 0 0 (!w.params.followText "set-order")) }).objs.size := by
            rw [Heap.size_push]; exact Nat.ne_of_lt (Nat.lt_succ_of_lt hb0)
          exact hm.heap b o (by simp only [List.mem_cons, List.mem_singleton, List.not_mem_nil, or_false, not_or]; exact ⟨hb1, hb2⟩) (Heap.get?_push_of_some _ (Heap.get?_push_of_some _ e))
      · cases r₂ with
        | error e => exact hr₂
        | ok fl₂ =>
          cases fl₂ with
          | ret r =>
            obtain ⟨rfl, h', tk, m, rfl, hm1, hm2, hk'⟩ := hr₂
            repeat (any_goals (first | assumption | wp_step))
            exact h _ _ _ hm1 hm2 hk'
          | _ => exact hr₂.elim
    | _ => exact hr.elim

set_option maxHeartbeats 6400000 in
theorem call_set_t {l : Addr} {items : Array Value} {ks : List Key} {Q : Value → Shared → Prop} (hh : A.handled = none) (hl : s.heap.IsTuple l items) (hsz : ks.length = items.size) (hi : ∀ (i : Nat) (v : Value), items[i]? = some v → ∃ k, ks[i]? = some k ∧ keyIs k v = true) (hb : items.size + 1 < scanBound)
    (h : ∀ (h' : Heap) (tk m : Nat), m ≤ items.size → SetG w h' s.heap.objs.size (inKs ks) m → (∀ b o, s.heap.get? b = some o → h'.get? b = some o) → Q (.ref s.heap.objs.size) { s with heap := h', toks := tk }) :
    wpAny (model P w) A (call (.type "set") [.ref l]) Q E s := by
  obtain ⟨c, tl, hmro⟩ := F.called_set.mro
  have hmade := F.called_set.made
  have hsub := F.called_set.sub
  refine wpAny_call (codeAny_of_tree ?_)
  show wpAny _ _ (callAny (.type "set") _) _ _ _
  refine wpAny_pure ⟨Code.quiet_builtin _ (by decide +kernel), codeAny_builtin F.entry_type_call ?_⟩
  rw [Around.under_plain (weight_type_call_type "set" [.ref l] []) rfl]
  have h1 := F.called_set.notType
  have h2 := F.called_set.canCreate
  have hct := F.typeCall_set_1 (.ref l)
  repeat (any_goals (first | assumption | wp_step))
  refine codeAny_mono (code_set_led1 (.ref l) (E := E) (Q₁ := fun obj s₁ => obj = .ref s.heap.objs.size ∧ s₁ = { s with heap := s.heap.push { cls := .type "set", dict := none, data := .set #[] 0 (.fresh 0 0 (!w.params.followText "set-order")) } }) ⟨rfl, rfl⟩) fun r s₁ hr => ?_
  cases r with
  | error e => exact hr
  | ok fl =>
    cases fl with
    | ret obj =>
      obtain ⟨rfl, rfl⟩ := hr
      have hS : (s.heap.push { cls := .type "set", dict := none, data := .set #[] 0 (.fresh 0 0 (!w.params.followText "set-order")) }).get? s.heap.objs.size = some { cls := .type "set", dict := none, data := .set #[] 0 (.fresh 0 0 (!w.params.followText "set-order")) } := Heap.get?_push_size _ rfl
      have hT : Shared.TypeIs { s with heap := s.heap.push { cls := .type "set", dict := none, data := .set #[] 0 (.fresh 0 0 (!w.params.followText "set-order")) } } (.ref s.heap.objs.size) "set" := ⟨_, hS, rfl⟩
      have hli := F.called_set.init.lookup
      have hbi := F.called_set.init.bind (.ref s.heap.objs.size)
      repeat (any_goals (first | assumption | wp_step))
      refine codeAny_mono (codeAny_call_builtin (R := wants (fun r s₂ => r = .none ∧ ∃ h' tk m, s₂ = { s with heap := h', toks := tk } ∧ m ≤ items.size ∧ SetG w h' s.heap.objs.size (inKs ks) m ∧
          (∀ b o, s.heap.get? b = some o → h'.get? b = some o)) E) F.called_set.init.plain F.entry_set_init (check_set_init_1 hT ?_)) fun r₂ s₂ hr₂ => ?_
      · obtain ⟨ol, hol, hcl, nl, hdl⟩ := hl
        obtain ⟨ocls, odict, odata, oslots⟩ := ol
        simp only at hcl hdl
        subst hcl; subst hdl
        have hol' : (s.heap.push { cls := .type "set", dict := none, data := .set #[] 0 (.fresh 0 0 (!w.params.followText "set-order")) }).get? l = some { cls := .type "tuple", dict := odict, data := .seq items nl, slots := oslots } := Heap.get?_push_of_some _ hol
        have hsls := F.sub_tuple_set
        have hslf := F.sub_tuple_frozenset
        have hne : (Value.type "tuple" == Value.type "dict") = false := by decide
        have hl1 : (s.heap.push { cls := .type "set", dict := none, data := .set #[] 0 (.fresh 0 0 (!w.params.followText "set-order")) }).IsTuple l items := ⟨_, hol', rfl, nl, rfl⟩
        unfold Builtin.«set.__init__» noKeywords Builtin.Frozenset.updateFrom
        generalize hPI : pyIter = PI
        wp_walk
        subst hPI
        refine wpAny_pyIter_tuple hl1 ?_
        refine wpAny_bind (wpAny_runValue ?_)
        have hlS : l < s.heap.objs.size := Heap.lt_size hol
        have hh3 : A.in1.in1.in1.handled = none := by simp [hh]
        have hneI : l ≠ (s.heap.push { cls := .type "set", dict := none, data := .set #[] 0 (.fresh 0 0 (!w.params.followText "set-order")) }).objs.size := by
          rw [Heap.size_push]; exact Nat.ne_of_lt (Nat.lt_succ_of_lt hlS)
        have hSf : s.heap.objs.size ∉ [(s.heap.push { cls := .type "set", dict := none, data := .set #[] 0 (.fresh 0 0 (!w.params.followText "set-order")) }).objs.size, l] := by
          rw [Heap.size_push]; simp only [List.mem_cons, List.mem_singleton, List.not_mem_nil, or_false, not_or]
          exact ⟨Nat.ne_of_lt (Nat.lt_succ_self _), Nat.ne_of_gt hlS⟩
        refine setG_loop ((Walks.tuple hh3 _ l hneI items).toS) s.heap.objs.size hSf ks hsz hi hb (items.size - 0) 0 _ (by omega) (Nat.zero_le _)
          ⟨⟨_, Heap.get?_push_size _ rfl, rfl, rfl⟩, (hl1.push _)⟩ ?hS0 ?hR
        case hS0 =>
          exact ⟨0, Nat.le_refl 0, ((setG_fresh w).at fun o e => Heap.get?_push_of_some _ e).congr fun k => rfl⟩
        case hR =>
          intro s' hm hS'
          obtain ⟨h', g', d', tk', os'⟩ := s'
          have eg : g' = s.gens := hm.gens
          have ed : d' = s.drawn := hm.drawn
          have eo : os' = s.os := hm.os
          subst eg; subst ed; subst eo
          show wpAny _ _ _ _ _ _
          refine wpAny_pure ?_
          show wpAny _ _ (ret Value.none) _ _ _
          obtain ⟨m, hm1, hm2⟩ := hS'
          refine wpAny_pure ⟨rfl, h', tk', m, rfl, hm1, hm2, fun b o e => ?_⟩
          have hb0 : b < s.heap.objs.size := Heap.lt_size e
          have hb1 : b ≠ s.heap.objs.size := Nat.ne_of_lt hb0
          have hb2 : b ≠ (s.heap.push { cls := .type "set", dict := none, data := .set #[] 0 (.fresh 0 0 (!w.params.followText "set-order")) }).objs.size := by
            rw [Heap.size_push]; exact Nat.ne_of_lt (Nat.lt_succ_of_lt hb0)
          exact hm.heap b o (by simp only [List.mem_cons, List.mem_singleton, List.not_mem_nil, or_false, not_or]; exact ⟨hb1, hb2⟩) (Heap.get?_push_of_some _ (Heap.get?_push_of_some _ e))
      · cases r₂ with
        | error e => exact hr₂
        | ok fl₂ =>
          cases fl₂ with
          | ret r =>
            obtain ⟨rfl, h', tk, m, rfl, hm1, hm2, hk'⟩ := hr₂
            repeat (any_goals (first | assumption | wp_step))
            exact h _ _ _ hm1 hm2 hk'
          | _ => exact hr₂.elim
    | _ => exact hr.elim
end
end Y

set_option Elab.async false
set_option linter.all false
set_option maxRecDepth 100000
set_option maxHeartbeats 2000000
/-! sorted(set(..)) by values. -/
namespace Y
open PySem PySem.Spec PyProof.Rows L2 PySem.W
/-! ### plain -/
def dedupK : List Key → List Key
  | [] => []
  | k :: ks => if inKs ks k = true then dedupK ks else k :: dedupK ks
theorem mem_dedup {k : Key} : ∀ {ks : List Key}, k ∈ dedupK ks ↔ k ∈ ks
  | [] => Iff.rfl
  | j :: ks => by
    unfold dedupK
    split
    · rename_i h
      rw [mem_dedup, List.mem_cons]
      exact ⟨.inr, fun z => z.elim (fun e => e ▸ inKs_iff.mp h) id⟩
    · rw [List.mem_cons, List.mem_cons, mem_dedup]
theorem nodup_dedup : ∀ {ks : List Key}, (dedupK ks).Nodup
  | [] => List.nodup_nil
  | j :: ks => by
    unfold dedupK
    split
    · exact nodup_dedup
    · rename_i h
      exact List.nodup_cons.mpr ⟨fun z => h (inKs_iff.mpr (mem_dedup.mp z)), nodup_dedup⟩
theorem length_dedup : ∀ {ks : List Key}, (dedupK ks).length ≤ ks.length
  | [] => Nat.le_refl _
  | j :: ks => by
    unfold dedupK
    have := length_dedup (ks := ks)
    split
    · simp; omega
    · simp; omega
def sortKs (ks : List Key) : D := .nd .lst (((dedupK ks).map kD).mergeSort leD)
theorem leD_int {i j : Int} : leD (.int i) (.int j) = decide (i ≤ j) := by
  show (!dataLt (py (.int j)) (py (.int i))) = _
  simp only [py]
  rw [dataLt_int, not_lt_int]
theorem leD_str {i j : Str} : leD (.str i) (.str j) = decide (i.cps.toList ≤ j.cps.toList) := by
  show (!dataLt (py (.str j)) (py (.str i))) = _
  simp only [py]
  rw [dataLt_str, not_lt_str]
theorem str_ext {i j : Str} (h : i.cps.toList = j.cps.toList) : i = j := by
  obtain ⟨a⟩ := i
  obtain ⟨b⟩ := j
  exact congrArg Str.mk (Array.toList_inj.mp h)
theorem kD_anti {k k' : Key} (al : alike (py (kD k)) (py (kD k')) = true) (h1 : leD (kD k) (kD k') = true) (h2 : leD (kD k') (kD k) = true) : kD k = kD k' := by
  cases k with
  | inl i =>
    cases k' with
    | inl j =>
      simp only [kD, leD_int, decide_eq_true_eq] at h1 h2
      rw [Int.le_antisymm h1 h2]
    | inr j => simp [kD, py, alike] at al
  | inr i =>
    cases k' with
    | inl j => simp [kD, py, alike] at al
    | inr j =>
      simp only [kD, leD_str, decide_eq_true_eq] at h1 h2
      rw [str_ext (List.le_antisymm h1 h2)]
theorem kD_inj {k k' : Key} (h : kD k = kD k') : k = k' := by
  cases k <;> cases k' <;> simp [kD] at h <;> rw [h]
theorem leD_total : TotalLe leD := show TotalLe (sortLe (listOrd itemOrd) false fun b : D => keyToks (py b)) from sortLe_total _ _ _
theorem sort_same {l l' : List D} (p : l.Perm l') (anti : ∀ a ∈ l, ∀ b ∈ l, leD a b = true → leD b a = true → a = b) : l.mergeSort leD = l'.mergeSort leD := by
  have p' : (l.mergeSort leD).Perm (l'.mergeSort leD) := (List.mergeSort_perm l leD).trans (p.trans (List.mergeSort_perm l' leD).symm)
  exact List.Perm.eq_of_pairwise (le := fun a b => leD a b = true) (fun a b ha hb => anti a ((List.mergeSort_perm l leD).mem_iff.mp ha) b (p.mem_iff.mpr ((List.mergeSort_perm l' leD).mem_iff.mp hb))) (sort_pairwise leD_total l) (sort_pairwise leD_total l') p'
theorem likeD_anti {ks : List Key} (h : likeD (ks.map kD) = true) : ∀ a ∈ ks.map kD, ∀ b ∈ ks.map kD, leD a b = true → leD b a = true → a = b := by
  intro a ha b hb h1 h2
  unfold likeD at h
  simp only [Bool.and_eq_true, List.all_eq_true] at h
  have al := h.1 a ha b hb
  obtain ⟨k, _, rfl⟩ := List.mem_map.mp ha
  obtain ⟨k', _, rfl⟩ := List.mem_map.mp hb
  exact kD_anti al h1 h2
theorem likeD_sub {l l' : List D} (h : likeD l = true) (s : ∀ a ∈ l', a ∈ l) : likeD l' = true := by
  unfold likeD at h ⊢
  simp only [Bool.and_eq_true, Bool.or_eq_true, List.all_eq_true] at h ⊢
  exact ⟨fun a ha b hb => h.1 a (s a ha) b (s b hb), fun a ha => h.2.1 a (s a ha), h.2.2.imp (fun z a ha => z a (s a ha)) fun z a ha => z a (s a ha)⟩
/-- whatever the order in which a set gives its members -/
theorem sortKs_any {ks ks' : List Key} (h : likeD (ks.map kD) = true) (nd : ks'.Nodup) (hm : ∀ k, k ∈ ks' ↔ k ∈ ks) : (ks'.map kD).mergeSort leD = ((dedupK ks).map kD).mergeSort leD := by
  have p : ks'.Perm (dedupK ks) := (List.perm_ext_iff_of_nodup nd nodup_dedup).mpr fun k => (hm k).trans mem_dedup.symm
  exact sort_same (p.map kD) (likeD_anti (likeD_sub h fun a ha => by
    obtain ⟨k, m, rfl⟩ := List.mem_map.mp ha
    exact List.mem_map.mpr ⟨k, (hm k).mp m, rfl⟩))

/-! ### the set as a tracked thing -/
def SetGO (w : World) (a : Addr) (S : Key → Bool) (n : Nat) : HO := .ext fun h => SetG w h a S n
theorem setGO_new {w : World} {P : Program} {H : Hp} {h : Heap} {a : Addr} {S : Key → Bool} {n : Nat} (R : SetG w h a S n) : ObjOk P w H h a (SetGO w a S n) := by
  have ⟨o, _, _, _, ho, _⟩ := R
  exact ⟨R, ⟨o, ho⟩, fun h1 h2 p k => SetG.at p k⟩
section
variable {X : Cx}
theorem keyIs_of {k : Key} {u : Value} (h : L2.RelV (kV k) u) : keyIs k u = true := by
  cases k with
  | inl i => obtain ⟨t, rfl⟩ := h; exact keyIs_int i t
  | inr x => obtain ⟨t, rfl⟩ := h; exact keyIs_str x t
def rSetOf (K : PySem.W.Frag) (w : World) : List V → Hp → VK → Prop := fun xs H Q => ∃ a ks, xs = [V.ref a] ∧ (SqL K H a (ks.map kV) ∨ SqT K H a (ks.map kV)) ∧ ks.length + 1 < scanBound ∧ ∀ p n, n ≤ ks.length → H p = none → Q (.ref p) (upd H p (SetGO w p (inKs ks) n))
theorem keys_vals {ks : List Key} {us : List Value} (r : Vals (ks.map kV) us) : ∀ (i : Nat) (v : Value), us.toArray[i]? = some v → ∃ k, ks[i]? = some k ∧ keyIs k v = true := by
  intro i v e
  have e' : us[i]? = some v := by simpa using e
  have hl := r.length
  have hi : i < ks.length := by
    have := (List.getElem?_eq_some_iff.mp e').1
    simp at hl; omega
  have ek : ks[i]? = some ks[i] := List.getElem?_eq_getElem hi
  obtain ⟨u, h1, h2⟩ := r.get (i := i) (x := kV ks[i]) (by rw [List.getElem?_map, ek]; rfl)
  rw [e'] at h1
  cases h1
  exact ⟨_, ek, keyIs_of h2⟩
theorem cr_setOf (hc : X.calm = true) : CallR X (.type "set") (rSetOf X.K X.w) := by
  intro pins s σ H xs us Q I r h
  obtain ⟨a, ks, rfl, hs, hb, q⟩ := h
  obtain ⟨u, rfl, rx⟩ := vals1 r
  cases rx
  have fin : ∀ (h' : Heap) (tk m : Nat), m ≤ ks.length → SetG X.w h' s.heap.objs.size (inKs ks) m → (∀ b o, s.heap.get? b = some o → h'.get? b = some o) → ∃ x H', Inv X pins σ H' { s with heap := h', toks := tk } ∧ RelV x (.ref s.heap.objs.size) ∧ Q x H' := fun h' tk m hm R k =>
    ⟨.ref s.heap.objs.size, _, I.laid (t' := tk) k (Nat.le_refl _) (setGO_new R), rfl, q _ m hm (I.hok.fresh (Nat.le_refl _))⟩
  rcases hs with hs | hs
  · obtain ⟨its, rv, pl, hl⟩ := I.list hs
    have e := rv.length
    rw [List.length_map] at e
    refine call_set_l (I.ok.hd hc) pl.isList (by simpa using e) (keys_vals rv) (by rw [List.size_toArray]; omega) fun h' tk m hm R k => fin h' tk m (by rw [List.size_toArray] at hm; omega) R k
  · obtain ⟨its, rv, pl, hl⟩ := I.tuple hs
    have e := rv.length
    rw [List.length_map] at e
    refine call_set_t (I.ok.hd hc) pl (by simpa using e) (keys_vals rv) (by rw [List.size_toArray]; omega) fun h' tk m hm R k => fin h' tk m (by rw [List.size_toArray] at hm; omega) R k
abbrev kb (k : Key) : V × D := (kV k, kD k)
def rSortSet (K : PySem.W.Frag) (w : World) : List V → Hp → VK → Prop := fun xs H Q => ∃ a ks n, xs = [V.ref a] ∧ H a = some (SetGO w a (inKs ks) n) ∧ (∀ ks' : List Key, ks'.Nodup → (∀ k, k ∈ ks' ↔ k ∈ ks) → SortOk K H (ks'.map kb)) ∧
  ∀ (ks' : List Key) p, ks'.Nodup → (∀ k, k ∈ ks' ↔ k ∈ ks) → H p = none → Q (.ref p) (upd H p (.lst (((ks'.map kb).mergeSort (dataLe false pyb)).map (·.1))))
theorem each_kb : ∀ {es : List (Int × Value)}, (∀ e ∈ es, keyIs (keyE e) e.2 = true) → Each (es.map (·.2)) ((es.map keyE).map kb)
  | [], _ => .nil
  | e :: es, h => .cons (keyIs_rel (h e List.mem_cons_self)) (each_kb fun x m => h x (List.mem_cons_of_mem _ m))
theorem perm_map_inv {α β : Type} (f : α → β) : ∀ {l : List α} {m : List β}, m.Perm (l.map f) → ∃ l' : List α, l'.Perm l ∧ l'.map f = m := by
  intro l m p
  generalize e : l.map f = n at p
  induction p generalizing l with
  | nil => exact ⟨l, .refl _, e⟩
  | @cons x l1 l2 p ih =>
    cases l with
    | nil => cases e
    | cons a l =>
      obtain ⟨e1, e2⟩ := List.cons.inj e
      obtain ⟨l', q1, q2⟩ := ih e2
      exact ⟨a :: l', q1.cons _, by rw [List.map_cons, e1, q2]⟩
  | swap x y l1 =>
    match l, e with
    | a :: b :: l, e =>
      simp only [List.map_cons, List.cons.injEq] at e
      obtain ⟨e1, e2, e3⟩ := e
      exact ⟨b :: a :: l, List.Perm.swap .., by rw [List.map_cons, List.map_cons, e1, e2, e3]⟩
  | trans p1 p2 ih1 ih2 =>
    obtain ⟨l1, q1, q2⟩ := ih2 e
    obtain ⟨l2, q3, q4⟩ := ih1 q2
    exact ⟨l2, q3.trans q1, q4⟩
theorem cr_sortSet (hc : X.calm = true) (hu : X.A.units + 69 < cLine) : CallR X (.builtin "sorted") (rSortSet X.K X.w) := by
  intro pins s σ H xs us Q I r h
  obtain ⟨a, ks, n, rfl, hs, ok, q⟩ := h
  obtain ⟨u, rfl, rx⟩ := vals1 r
  cases rx
  obtain ⟨o, es, ep, t, ho, hex, hd, g, nd, hm, hb, hf, hn, hr, hl⟩ : SetG X.w s.heap a (inKs ks) n := (I.hok a _ hs).1
  refine sorted_gath (P := fun bs => ∃ ks' : List Key, ks'.Nodup ∧ (∀ k, k ∈ ks' ↔ k ∈ ks) ∧ bs = ks'.map kb) hu (fun Q' E' gg => ?_) (fun b ⟨ks', n1, n2, e⟩ => e ▸ ok ks' n1 n2) (fun b p ⟨ks', n1, n2, e⟩ hp => e ▸ q ks' p n1 n2 hp)
  refine collect_set (A := X.A.in1) (I.ok.hd hc) ⟨o, ho, hex.1, hd⟩ hf hb hr hl fun s1 vs k1 hz g1 o1 pm => ?_
  obtain ⟨es', p1, e1⟩ := perm_map_inv (fun x : Int × Value => x.2) pm
  have g' : ∀ e ∈ es', keyIs (keyE e) e.2 = true := fun e m => by
    obtain ⟨k, h1, _⟩ := g e (p1.mem_iff.mp m)
    rw [keyE_is h1]; exact h1
  refine gg s1 vs _ ?_ (e1 ▸ each_kb g') ⟨es'.map keyE, (p1.map keyE).nodup_iff.mpr nd, fun k => ?_, rfl⟩
  · have J : Inv X pins σ H { s with heap := s1.heap, gens := s1.gens, drawn := s1.drawn, toks := s1.toks } := I.call (ch := []) (Un.kept k1) (I.hok.kept k1) (by rw [g1]; exact I.bare) (fun _ z => nomatch z)
    have e : s1 = { s with heap := s1.heap, gens := s1.gens, drawn := s1.drawn, toks := s1.toks } := by
      cases s1
      cases s
      cases o1
      rfl
    rw [e]
    exact J
  · rw [(p1.map keyE).mem_iff, ← hm k, inKs_iff]
/-! by values -/
theorem Sta.ghost {K : PySem.W.Frag} {β : V} {lk : Bool} {F H : Hp} {fp : List Addr} {σ : L2.St} {ρ : En} {p : Addr} {o : HO} (s : Sta K β lk F H σ ρ fp) (hp : H p = none) : Sta K β lk F (upd H p o) σ ρ fp ∧ Tr F H fp F (upd H p o) fp := by
  obtain ⟨n1, n2⟩ := s.fresh hp
  refine ⟨⟨same_updR s.ex n2, s.sl.frame (Same.refl _) fun a ha u h => ?_, s.nd, s.own, s.lock⟩, ⟨Same.refl _, fun a u h n => ?_, fun a h => ?_⟩⟩
  · rw [upd_ne (ne_of_none h hp)]; exact h
  · rw [upd_ne (ne_of_none h hp)]; exact h
  · exact h.elim .inl fun q => absurd q.1 q.2.1
def dSortSet : D → Option D
  | .nd k ds => if (match k with | .lst => true | .tup => true | _ => false) = true then (match keysD ds with
    | some ks => if likeD (ks.map kD) = true ∧ ks.length + 1 < scanBound then some (sortKs ks) else none
    | none => none) else none
  | _ => none
theorem fz_keyD {K : PySem.W.Frag} {F : Hp} : ∀ {vs : List V} {ds : List D} {ks : List Key}, Fzs K F vs ds → keysD ds = some ks → ∀ k ∈ ks, Fz K F (kV k) (kD k)
  | _, _, ks, .nil, e => by simp [keysD] at e; subst e; simp
  | _, _, ks, .cons (d := d) (ds := ds) h hs, e => by
    unfold keysD at e
    split at e
    · rename_i k ks' e1 e2
      cases e
      intro j m
      rcases List.mem_cons.mp m with rfl | m
      · rw [← keyD_rel h e1]
        unfold keyD at e1
        split at e1
        · cases e1; exact h
        · cases e1; exact h
        · cases e1
      · exact fz_keyD hs e2 j m
    · cases e
theorem d_sortedSet {w : Wd} {e : Expr} {fa : En → R D} {x y : Str} {p p2 pos pos2 : Pos} (hc : X.calm = true) (hu : X.A.units + 69 < cLine) (hg : Gl X x) (hm : X.mg x = none) (hv : bootBuiltins x = some (.builtin "sorted")) (hg2 : Gl X y) (hm2 : X.mg y = none) (hv2 : bootBuiltins y = some (.type "set")) (ha : PE X e (cB X.K w fa))
    (hn : x ≠ "__name__" := by decide) (hd : (x == ("__debug__" : Str)) = false := by decide) (hn2 : y ≠ "__name__" := by decide) (hd2 : (y == ("__debug__" : Str)) = false := by decide)
    (hs : starEach [e] X.env = (false, eval e X.env) :: starEach [] X.env := by rfl) (hs2 : starEach [.Call (.Name y p2) [e] [] pos2] X.env = (false, eval (.Call (.Name y p2) [e] [] pos2) X.env) :: starEach [] X.env := by rfl)
    (hpl : (backTo pos (starEach [] X.env)).any (·.1) = false := by rfl) (hpl2 : (backTo pos2 (starEach [] X.env)).any (·.1) = false := by rfl) :
    PE X (.Call (.Name x p) [.Call (.Name y p2) [e] [] pos2] [] pos) (cO X.K w (s1 dSortSet fa)) :=
  peI (pe_callB (cr_sortSet hc hu) hg hm hv (pa_cons (pe_callTy (cr_setOf hc) hg2 hm2 hv2 (pa_cons ha pa_nil hs) hn2 hd2 hs hpl2) pa_nil hs2) hn hd hs2 hpl) fun σ H Q h => by
    have goal : tCons (cB X.K w fa) tNil σ H (fun xs H1 => rSetOf X.K X.w xs H1 fun x H2 => rSortSet X.K X.w [x] H2 Q) := tB1 h fun F H v dx d ρ fp s z e n => by
      have main : ∀ a (ks : List Key) vs ds, v = .ref a → (SqL X.K H a vs ∨ SqT X.K H a vs) → Fzs X.K F vs ds → vs.length ≤ sizeLine → keysD ds = some ks → (if likeD (ks.map kD) = true ∧ ks.length + 1 < scanBound then some (sortKs ks) else none) = some d → rSetOf X.K X.w [v] H fun x H2 => rSortSet X.K X.w [x] H2 Q := by
        intro a ks vs ds ea hs hz hl hk e
        subst ea
        split at e
        · rename_i c
          cases e
          have ek := keysD_rel hz hk
          subst ek
          have fz : ∀ ks' : List Key, (∀ k, k ∈ ks' ↔ k ∈ ks) → ∀ b ∈ ks'.map kb, Fz X.K F b.1 b.2 := fun ks' hm b m => by
            obtain ⟨k, mk, rfl⟩ := List.mem_map.mp m
            exact fz_keyD hz hk k ((hm k).mp mk)
          have len : ∀ ks' : List Key, ks'.Nodup → (∀ k, k ∈ ks' ↔ k ∈ ks) → (ks'.map kb).length ≤ sizeLine := fun ks' nd hm => by
            have p : ks'.Perm (dedupK ks) := (List.perm_ext_iff_of_nodup nd nodup_dedup).mpr fun k => (hm k).trans mem_dedup.symm
            have := p.length_eq
            have := length_dedup (ks := ks)
            rw [List.length_map] at hl ⊢
            omega
          have m2 : ∀ ks' : List Key, (ks'.map kb).map (·.2) = ks'.map kD := fun ks' => by rw [List.map_map]; rfl
          refine ⟨a, ks, rfl, hs, c.2, fun p n' _ hp => ⟨p, ks, n', rfl, upd_same, fun ks' nd hm => ?_, fun ks' q nd hm hq => ?_⟩⟩
          · have lk : likeD ((ks'.map kb).map (·.2)) = true := likeD_sub c.1 fun x m => by
              rw [m2] at m
              obtain ⟨k, mk, rfl⟩ := List.mem_map.mp m
              exact List.mem_map.mpr ⟨k, (hm k).mp mk, rfl⟩
            exact sortOk (same_updR s.ex (s.fresh hp).2) (fz ks' hm) lk (len ks' nd hm)
          · obtain ⟨s1, t1⟩ := Sta.ghost (o := SetGO X.w p (inKs ks) n') s hp
            have z1 := fzs_sort (fz ks' hm)
            rw [m2, sortKs_any c.1 nd hm] at z1
            exact fin_newO s1 (fun F' H' fp' t => n F' H' fp' (t1.trans t)) q .lst _ _ _ rfl rfl hq (if_pos (by rw [List.length_map, List.length_mergeSort]; exact len ks' nd hm)) z1
        · cases e
      cases dx with
      | nd k ds =>
        cases k with
        | lst =>
          obtain ⟨a, vs, rfl, hi, hs⟩ := z.node s.ex
          simp only [dSortSet, if_true] at e
          split at e
          · rename_i ks hk
            exact main a ks vs ds rfl (.inl (SqL.of hi.1)) hs hi.2 hk e
          · cases e
        | tup =>
          obtain ⟨a, vs, rfl, hi, hs⟩ := z.node s.ex
          simp only [dSortSet, if_true] at e
          split at e
          · rename_i ks hk
            exact main a ks vs ds rfl (.inr (SqT.of hi.1)) hs hi.2 hk e
          · cases e
        | _ => simp [dSortSet] at e
      | _ => simp [dSortSet] at e
    exact goal
end
end Y

set_option Elab.async false
set_option linter.all false
set_option maxRecDepth 100000
set_option maxHeartbeats 2000000
/-! Walks over dicts. -/
namespace Y
open PySem L2
/-- as F, but for dicts locked or not -/
def LkR (F G : Hp) : Prop := ∀ a, G a = F a ∨ ∃ kvs o, (F a = some (.dK kvs) ∧ G a = some (.frz o (.dK kvs))) ∨ (F a = some (.frz o (.dK kvs)) ∧ G a = some (.dK kvs))
section
variable {K : PySem.W.Frag} {F G H : Hp} {a : Addr} {k : Kd} {v : V} {d : D} {vs : List V} {ds : List D}
theorem LkR.dK (r : LkR F G) {kvs : List (Key × V)} (h : Rd F a (.dK kvs)) : Rd G a (.dK kvs) := by
  rcases r a with e | ⟨kvs', o, e | e⟩
  · rcases h with h | ⟨o, h⟩
    · exact .inl (e.trans h)
    · exact .inr ⟨o, e.trans h⟩
  · rcases h with h | ⟨o, h⟩
    · rw [e.1] at h; cases h; exact .inr ⟨_, e.2⟩
    · rw [e.1] at h; cases h
  · rcases h with h | ⟨o, h⟩
    · rw [e.1] at h; cases h
    · rw [e.1] at h; cases h; exact .inl e.2
theorem LkR.other (r : LkR F G) {u : HO} (h : F a = some u) (n1 : ∀ kvs, u ≠ .dK kvs) (n2 : ∀ o kvs, u ≠ .frz o (.dK kvs)) : G a = some u := by
  rcases r a with e | ⟨kvs', o, e | e⟩
  · exact e.trans h
  · rw [e.1] at h; cases h; exact absurd rfl (n1 _)
  · rw [e.1] at h; cases h; exact absurd rfl (n2 _ _)
theorem LkR.dT (r : LkR F G) {kvs : List (List Key × V)} (h : Rd F a (.dT kvs)) : Rd G a (.dT kvs) := by
  rcases h with h | ⟨o, h⟩
  · exact .inl (r.other h (fun _ z => by cases z) (fun _ _ z => by cases z))
  · exact .inr ⟨o, r.other h (fun _ z => by cases z) (fun _ _ z => by cases z)⟩
theorem ItemAt.lk (r : LkR F G) (h : ItemAt K F a k vs) : ItemAt K G a k vs := by
  cases k with
  | tup => exact ⟨r.other h.1 (fun _ z => by cases z) (fun _ _ z => by cases z), h.2⟩
  | lst => exact ⟨r.other h.1 (fun _ z => by cases z) (fun _ _ z => by cases z), h.2⟩
  | scr =>
    refine ⟨?_, h.2⟩
    rcases h.1 with q | q
    · refine .inl ?_
      rcases q with q | ⟨o, q⟩
      · exact .inl (r.other q (fun _ z => by cases z) (fun _ _ z => by cases z))
      · exact .inr ⟨o, r.other q (fun _ z => by cases z) (fun _ _ z => by cases z)⟩
    · exact .inr q
  | ktp =>
    refine ⟨?_, h.2⟩
    rcases h.1 with q | q
    · rcases q with q | ⟨o, q⟩
      · exact .inl (.inl (r.other q (fun _ z => by cases z) (fun _ _ z => by cases z)))
      · exact .inl (.inr ⟨o, r.other q (fun _ z => by cases z) (fun _ _ z => by cases z)⟩)
    · exact .inr q
  | dK ks => exact ⟨h.1, r.dK h.2.1, h.2.2⟩
  | dT ks => exact ⟨h.1, r.dT h.2.1, h.2.2⟩
mutual
theorem Fz.lk (r : LkR F G) : ∀ {v : V} {d : D}, Fz K F v d → Fz K G v d
  | _, _, .non => .non
  | _, _, .bl b => .bl b
  | _, _, .int i => .int i
  | _, _, .str s h => .str s h
  | _, _, .ty n => .ty n
  | _, _, .nd h hs => .nd (h.lk r) (hs.lk r)
theorem Fzs.lk (r : LkR F G) : ∀ {vs : List V} {ds : List D}, Fzs K F vs ds → Fzs K G vs ds
  | _, _, .nil => .nil
  | _, _, .cons h hs => .cons (h.lk r) (hs.lk r)
end
theorem lkr_lock {kvs : List (Key × V)} {od : Obj} (h : F a = some (.dK kvs)) : LkR F (upd F a (.frz od (.dK kvs))) := fun b => by
  by_cases e : b = a
  · subst e; exact .inr ⟨kvs, od, .inl ⟨h, upd_same⟩⟩
  · exact .inl (upd_ne e)
theorem lkr_unlock {kvs : List (Key × V)} {od : Obj} (h : F a = some (.frz od (.dK kvs))) : LkR F (upd F a (.dK kvs)) := fun b => by
  by_cases e : b = a
  · subst e; exact .inr ⟨kvs, od, .inr ⟨h, upd_same⟩⟩
  · exact .inl (upd_ne e)
end
section
variable {K : PySem.W.Frag} {β : V} {lk : Bool} {F F' H H' : Hp} {fp fp' : List Addr} {σ σ' : St} {ρ : En} {a : Addr} {u x : HO}
theorem same_both (h : Same F H) : Same (upd F a u) (upd H a u) := fun b o e => by
  by_cases q : b = a
  · subst q; rw [upd_same] at e ⊢; exact e
  · rw [upd_ne q] at e ⊢; exact h b o e
theorem Sl.lkd (s : Sl K β F H σ ρ fp) (r : LkR F F') (k : ∀ b ∈ fp, ∀ o, H b = some o → H' b = some o) : Sl K β F' H' σ ρ fp := by
  induction s with
  | nil => exact .nil
  | skip t ih => exact .skip (ih k)
  | fr h t ih => exact .fr (h.lk r) (ih k)
  | ow h hs t ih => exact .ow (h.keep (k _ List.mem_cons_self)) (hs.lk r) (ih fun b hb => k b (List.mem_cons_of_mem _ hb))
  | bo e h hs t ih => exact .bo e (h.keep (k _ List.mem_cons_self)) (hs.lk r) (ih fun b hb => k b (List.mem_cons_of_mem _ hb))
theorem Sta.lkd (s : Sta K β lk F H σ ρ fp) (h : F a = some x) (r : LkR F (upd F a u)) : Sta K β lk (upd F a u) (upd H a u) σ ρ fp := by
  have nf : ∀ b ∈ fp, b ≠ a := fun b hb e => by rw [e] at hb; rw [s.own a hb] at h; cases h
  refine ⟨same_both s.ex, s.sl.lkd r fun b hb o e => by rw [upd_ne (nf b hb)]; exact e, s.nd, fun b hb => by rw [upd_ne (nf b hb)]; exact s.own b hb, fun _ => trivial⟩
/-- behind the unlocking -/
theorem Tr.lkd {v : HO} (hF : F a = some u) (hH : H a = some u) (n : a ∉ fp) (t : Tr (upd F a v) (upd H a v) fp F' H' fp') : Tr F H fp (upd F' a u) (upd H' a u) fp' := by
  refine ⟨fun b o e => ?_, fun b o e nb => ?_, fun b h => ?_⟩
  · by_cases q : b = a
    · subst q; rw [hF] at e; cases e; exact upd_same
    · rw [upd_ne q]; exact t.ex b o (by rw [upd_ne q]; exact e)
  · by_cases q : b = a
    · subst q; rw [hH] at e; cases e; exact upd_same
    · rw [upd_ne q]; exact t.keep b o (by rw [upd_ne q]; exact e) nb
  · by_cases q : b = a
    · subst q
      rcases h with h | h
      · rcases t.new b (.inl h) with z | z
        · exact .inl z
        · rw [upd_same] at z; cases z
      · rw [hF] at h; cases h.1
    · have h' : b ∈ fp' ∨ (upd F a v b = none ∧ F' b ≠ none ∧ ¬ IsTp (upd H a v) b) := h.imp id fun z => ⟨by rw [upd_ne q]; exact z.1, by have := z.2.1; rw [upd_ne q] at this; exact this, fun ⟨vs, e⟩ => z.2.2 ⟨vs, by rw [upd_ne q] at e; exact e⟩⟩
      exact (t.new b h').imp id fun z => by rw [upd_ne q] at z; exact z
/-- an owned slot is frozen -/
theorem Sta.toF {i : Nat} {d : D} (s : Sta K β lk F H σ ρ fp) (e : ρ[i]? = some (some (.o d))) : ∃ F' fp', Sta K β lk F' H σ (ρ.set i (some (.f d))) fp' ∧ Tr F H fp F' H fp' := by
  obtain ⟨a, k, vs, ds, fp1, fp2, rfl, rfl, e1, hw, hz, _, put, _, _⟩ := s.sl.own .o (.inl rfl) e
  obtain ⟨ho, em, hp⟩ := hw.nf
  obtain ⟨m1, m2, m3⟩ := mid s.nd
  have n2 : F a = none := s.own a (by simp)
  have ex : Same F (upd F a ho) := same_upd n2
  refine ⟨upd F a ho, fp1 ++ fp2, ⟨fun b o q => ?_, put _ H _ ex (fun _ _ _ h => h) (.nd (mkAt em upd_same) (hz.mono ex)), m2, fun b hb => ?_, fun _ => trivial⟩, ⟨ex, fun b o h n => h, fun b q => ?_⟩⟩
  · by_cases z : b = a
    · subst z; rw [upd_same] at q; rw [hp]; exact q
    · rw [upd_ne z] at q; exact s.ex b o q
  · rw [upd_ne (fun (z : b = a) => m1 (z ▸ hb))]; exact s.own b (m3.mem_iff.mp (List.mem_cons_of_mem _ hb))
  · rcases q with q | ⟨q1, q2, _⟩
    · exact .inl (m3.mem_iff.mp (List.mem_cons_of_mem _ q))
    · by_cases z : b = a
      · rw [z]; exact .inl (by simp)
      · rw [upd_ne z] at q2; exact absurd q1 q2
end
/-! ### what is walked -/
def isLk (F : Hp) (σ : St) (i : Nat) (a : Addr) (o : Obj) (kvs : List (Key × V)) : Prop := σ[i]? = some (some (.ref a)) ∧ F a = some (.frz o (.dK kvs))
/-- iter, over the dict in slot i, gives out src of it -/
def WkD (X : Cx) (tg iter : Expr) (i : Nat) (src : List Key → List D → List D) : Prop := ∃ wi, PI X tg iter wi ∧ ∀ σ F H a o ks vs ds R, isLk F σ i a o (ks.zip vs) → ks.length = vs.length → keysL ks = true → Same F H → Fzs X.K F vs ds → (∀ J, Itz X.K F J (src ks ds) → R J H) → wi σ H R
def vaD : List Key → List D → List D := fun _ ds => ds
def kyD : List Key → List D → List D := fun ks _ => ks.map kD
def imD : List Key → List D → List D := fun ks ds => (ks.zip ds).map fun p => .nd .tup [kD p.1, p.2]
section
variable {X : Cx} {tg e : Expr} {x : Str} {p apos cpos : Pos}
theorem zget {κ : Type} {ks : List κ} {vs : List V} {j : Nat} {k : κ} {v : V} (e : (ks.zip vs)[j]? = some (k, v)) : ks[j]? = some k ∧ vs[j]? = some v := List.getElem?_zip_eq_some.mp e
theorem itz_keys {K : PySem.W.Frag} {F : Hp} {a : Addr} {o : Obj} {ks : List Key} {vs : List V} {ds : List D} (h : F a = some (.frz o (.dK (ks.zip vs)))) (hl : ks.length = vs.length) (hk : keysL ks = true) : Itz K F (Itk a o (ks.zip vs)) (kyD ks ds) := by
  have hz : (ks.zip vs).length = ks.length := by rw [List.length_zip]; omega
  refine ⟨fun i H ex hi => ⟨ex _ _ h, by rw [hz]; simpa [kyD] using hi⟩, fun H ex => ⟨ex _ _ h, by rw [hz]; simp [kyD]⟩, fun i H x H' ex hi y => ?_⟩
  obtain ⟨rfl, k, v, e, rfl⟩ := y
  have ek := (zget e).1
  exact ⟨kD k, by simp [kyD, ek], .inl ⟨rfl, fz_key hk (List.mem_of_getElem? ek)⟩⟩
theorem itz_vals {K : PySem.W.Frag} {F : Hp} {a : Addr} {o : Obj} {ks : List Key} {vs : List V} {ds : List D} (h : F a = some (.frz o (.dK (ks.zip vs)))) (hl : ks.length = vs.length) (hs : Fzs K F vs ds) : Itz K F (Itd a o (ks.zip vs)) (vaD ks ds) := by
  have hz : (ks.zip vs).length = ds.length := by rw [List.length_zip, ← hs.length]; omega
  refine ⟨fun i H ex hi => ⟨ex _ _ h, by rw [hz]; exact hi⟩, fun H ex => ⟨ex _ _ h, by rw [hz]; exact Nat.le_refl _⟩, fun i H x H' ex hi y => ?_⟩
  obtain ⟨rfl, k, e⟩ := y
  obtain ⟨d, e3, z3⟩ := hs.getV (zget e).2
  exact ⟨d, e3, .inl ⟨rfl, z3⟩⟩
theorem itz_items {K : PySem.W.Frag} {F : Hp} {a : Addr} {o : Obj} {ks : List Key} {vs : List V} {ds : List D} (h : F a = some (.frz o (.dK (ks.zip vs)))) (hl : ks.length = vs.length) (hk : keysL ks = true) (hs : Fzs K F vs ds) : Itz K F (Iti a o (ks.zip vs)) (imD ks ds) := by
  have hz : (ks.zip vs).length = (imD ks ds).length := by simp [imD, ← hs.length]
  refine ⟨fun i H ex hi => ⟨ex _ _ h, by rw [hz]; exact hi⟩, fun H ex => ⟨ex _ _ h, by rw [hz]; exact Nat.le_refl _⟩, fun i H x H' ex hi y => ?_⟩
  obtain ⟨T, k, v, e, rfl, hT, rfl⟩ := y
  obtain ⟨d, e3, z3⟩ := hs.getV (zget e).2
  have ek := (zget e).1
  have e5 : (ks.zip ds)[i]? = some (k, d) := List.getElem?_zip_eq_some.mpr ⟨ek, e3⟩
  exact ⟨.nd .tup [kD k, d], by simp [imD, e5], .inr ⟨T, [kV k, v], [kD k, d], rfl, hT, rfl, .cons (fz_key hk (List.mem_of_getElem? ek)) (.cons z3 .nil), by show 2 ≤ sizeLine; decide, rfl⟩⟩
theorem k_keys (i : Nat) (hN : X.N[i]? = some x := by rfl) (hv : Vis X.env.scope x := by first | exact Or.inl rfl | exact Or.inr (Or.inl rfl) | exact Or.inr (Or.inr rfl)) (hd : (x == ("__debug__" : Str)) = false := by decide) (hcd : (x == ("__classdict__" : Str)) = false := by decide) : WkD X tg (.Name x p) i kyD :=
  ⟨_, pi_keys (pe_var hN hv hd hcd), fun σ F H a o ks vs ds R h hl hk ex hs q => ⟨.ref a, h.1, a, o, rfl, .inl ⟨_, ex _ _ h.2, q _ (itz_keys h.2 hl hk)⟩⟩⟩
theorem k_vals (i : Nat) (hN : X.N[i]? = some x := by rfl) (hv : Vis X.env.scope x := by first | exact Or.inl rfl | exact Or.inr (Or.inl rfl) | exact Or.inr (Or.inr rfl)) (hd : (x == ("__debug__" : Str)) = false := by decide) (hcd : (x == ("__classdict__" : Str)) = false := by decide)
    (hbase : attributeBase (.Name x p) "values" X.env (eval (.Name x p) X.env) = eval (.Name x p) X.env := by rfl) (hline : (apos.endLine == cpos.line) = true := by rfl) : WkD X tg (.Call (.Attribute (.Name x p) "values" apos) [] [] cpos) i vaD :=
  ⟨_, pi_values (pe_var hN hv hd hcd) hbase hline, fun σ F H a o ks vs ds R h hl hk ex hs q => ⟨.ref a, h.1, a, o, _, rfl, ex _ _ h.2, q _ (itz_vals h.2 hl hs)⟩⟩
theorem k_items (i : Nat) {elts : List Expr} {kk : Nat} {tpos : Pos} (hN : X.N[i]? = some x := by rfl) (hv : Vis X.env.scope x := by first | exact Or.inl rfl | exact Or.inr (Or.inl rfl) | exact Or.inr (Or.inr rfl)) (hd : (x == ("__debug__" : Str)) = false := by decide) (hcd : (x == ("__classdict__" : Str)) = false := by decide)
    (hbase : attributeBase (.Name x p) "items" X.env (eval (.Name x p) X.env) = eval (.Name x p) X.env := by rfl) (hline : (apos.endLine == cpos.line) = true := by rfl) : WkD X (.Tuple elts kk tpos) (.Call (.Attribute (.Name x p) "items" apos) [] [] cpos) i imD :=
  ⟨_, pi_items (pe_var hN hv hd hcd) hbase hline, fun σ F H a o ks vs ds R h hl hk ex hs q => ⟨.ref a, h.1, a, o, _, rfl, ex _ _ h.2, q _ (itz_items h.2 hl hk hs)⟩⟩
end
/-- the dict in slot i, frozen from now on -/
def sDct {α : Type} (i : Nat) (g : List Key → List D → En → R α) : En → R α := fun ρ => match ρ[i]? with
  | some (some (.f (.nd (.dK ks) ds))) => g ks ds ρ
  | some (some (.o (.nd (.dK ks) ds))) => g ks ds (ρ.set i (some (.f (.nd (.dK ks) ds))))
  | _ => .bad
def quiet {α : Type} : R α → Prop
  | .exc _ _ _ => False
  | _ => True
section
variable {K : PySem.W.Frag} {w : Wd} {F H : Hp} {fp : List Addr} {σ : St} {ρ : En} {α : Type} {i : Nat}
/-- a walk over the dict in slot i, as a value: in the locked world, or in this one where it is locked already -/
theorem dct_lock {g : List Key → List D → En → R D} {t : TE} {Q : VK} (s : StaW K w F H σ ρ fp) (h : Pst K w F H fp σ (sDct i g ρ) (nO K w σ Q)) (hq : ∀ ks ds ρ, quiet (g ks ds ρ))
    (run : ∀ F H ρ fp a o ks vs ds Q, StaW K w F H σ ρ fp → isLk F σ i a o (ks.zip vs) → ks.length = vs.length → keysL ks = true → Fzs K F vs ds → Pst K w F H fp σ (g ks ds ρ) (nO K w σ Q) → t σ H Q) :
    tLockE t σ H Q ∨ t σ H Q := by
  have main : ∀ F ρ fp ks ds, StaW K w F H σ ρ fp → ρ[i]? = some (some (.f (.nd (.dK ks) ds))) → Pst K w F H fp σ (g ks ds ρ) (nO K w σ Q) → tLockE t σ H Q ∨ t σ H Q := by
    intro F ρ fp ks ds s e h
    obtain ⟨v, e1, z⟩ := s.sl.getF e
    obtain ⟨a, vs, rfl, hi, hs⟩ := z.node
    rcases hi.2.1 with hu | ⟨o, hu⟩
    · left
      have hH := s.ex _ _ hu
      have na : a ∉ fp := fun m => by rw [s.own a m] at hu; cases hu
      refine ⟨a, _, hH, trivial, fun od => ?_⟩
      refine run (upd F a (.frz od (.dK (ks.zip vs)))) _ ρ fp a od ks vs ds _ (s.lkd hu (lkr_lock hu)) ⟨e1, upd_same⟩ hi.1 hi.2.2.2 (hs.lk (lkr_lock hu)) ?_
      have q := hq ks ds ρ
      cases r : g ks ds ρ with
      | bad => rw [r] at h; exact h
      | exc c x ρ1 => rw [r] at q; exact q.elim
      | ok d ρ1 =>
        rw [r] at h
        intro F1 H1 fp1 t1 v s1
        have k1 : H1 a = some (.frz od (.dK (ks.zip vs))) := t1.keep a _ upd_same na
        have k2 : F1 a = some (.frz od (.dK (ks.zip vs))) := t1.ex a _ upd_same
        exact ⟨k1, h _ _ _ (t1.lkd hu hH na) v (s1.lkd k2 (lkr_unlock k2))⟩
    · right
      exact run F H ρ fp a o ks vs ds Q s ⟨e1, hu⟩ hi.1 hi.2.2.2 hs h
  unfold sDct at h
  split at h
  · rename_i ks ds e
    exact main F ρ fp ks ds s e h
  · rename_i ks ds e
    obtain ⟨F', fp', s1, t1⟩ := s.toF e
    have hi : i < ρ.length := (List.getElem?_eq_some_iff.mp e).1
    exact main F' _ fp' ks ds s1 (by rw [List.getElem?_set_self hi]) (Pst.tr h t1)
  · exact h.elim
theorem lcL_quiet {g : D → En → Option En} {t : En → R Bool} {e : En → R D} {vs : List Nat} : ∀ (ds : List D) (ρ : En) (acc : List D), quiet (lcL g t e vs ds ρ acc)
  | [], ρ, acc => trivial
  | d :: ds, ρ, acc => by
    unfold lcL
    cases g d ρ with
    | none => trivial
    | some ρ1 =>
      dsimp only
      cases h : t ρ1 with
      | bad => trivial
      | exc c x ρ => trivial
      | ok b ρ2 =>
        cases b with
        | false => simpa [noX, bnd] using lcL_quiet ds _ acc
        | true =>
          cases h2 : e ρ2 with
          | bad => simp [noX, bnd, h2, quiet]
          | exc c x ρ => simp [noX, bnd, h2, quiet]
          | ok x ρ3 =>
            simp only [noX, bnd, h2, if_true]
            split
            · exact lcL_quiet ds _ _
            · trivial
end
section
variable {X : Cx} {w : Wd} {tg iter elt : Expr} {ifs : List Expr} {scope : Scope} {is : List Nat} {g : D → En → Option En} {t : En → R Bool} {e : En → R D} {src : List Key → List D → List D} {pos : Pos}
/-- [e for tg in a dict's walk if ..] -/
def sLcD (i : Nat) (src : List Key → List D → List D) (g : D → En → Option En) (t : En → R Bool) (e : En → R D) (vs : List Nat) : En → R D := sDct i fun ks ds ρ => lcL g t e vs (src ks ds) (wipeE vs ρ) []
theorem d_lcD (i : Nat) (own : List (Str × Nat)) (hc : X.calm = true) (hN : X.N.Nodup) (hi : WkD X tg iter i src) (ok : BlkOk X.N X.env.scope scope own) (his : ∀ i ∈ is, i ∈ own.map (·.2))
    (hg : ∀ (s : Shared) (H : Hp) (C : Addr) (cl : List (Str × Addr)) (fp : List Addr), PG (X.blk s H scope (compEnvC scope cl C X.env) fp) tg (cG X.K w.in1 is g)) (ht : ∀ (s : Shared) (H : Hp) (C : Addr) (cl : List (Str × Addr)) (fp : List Addr), PTs (X.blk s H scope (compEnvC scope cl C X.env) fp) ifs (cT X.K w.in1 t))
    (he : ∀ (s : Shared) (H : Hp) (C : Addr) (cl : List (Str × Addr)) (fp : List Addr), PE (X.blk s H scope (compEnvC scope cl C X.env) fp) elt (cF X.K w.in1 e)) (hs : ∀ x, foldedSetIterable iter X.env x = pure x := by intro _; rfl) :
    PE X (.ListComp elt [⟨tg, iter, ifs, 0⟩] scope pos) (cO X.K w (sLcD i src g t e (own.map (·.2)))) := by
  obtain ⟨wi, pw, run⟩ := hi
  have P := pe_lc (pos := pos) hc hN pw ok hg ht he hs
  refine peI (pe_or2 (pe_lock P) P) fun σ H Q h => ?_
  obtain ⟨F, ρ, fp, s, h⟩ := h
  refine dct_lock s h (fun ks ds ρ => lcL_quiet _ _ _) fun F H ρ fp a o ks vs ds Q s hl hlen hk hz h => ?_
  exact run σ F H a o ks vs ds _ hl hlen hk s.ex hz fun J I => lc_body his s I h
end
end Y

set_option Elab.async false
set_option linter.all false
set_option maxRecDepth 100000
set_option maxHeartbeats 2000000
/-! Comprehensions of two fors. -/
namespace Y
open PySem L2
def lc2I (g1 : D → En → Option En) (t1 : En → R Bool) (e : En → R D) (vs1 : List Nat) (k : En → List D → R D) : List D → En → List D → R D
  | [], ρ, acc => k ρ acc
  | d :: ds, ρ, acc => match g1 d ρ with
    | none => .bad
    | some ρ1 => bnd (noX (t1 ρ1)) fun b ρ2 => if b = true then bnd (noX (e ρ2)) fun x ρ3 => if acc.length < sizeLine then lc2I g1 t1 e vs1 k ds (wipeE vs1 ρ3) (acc ++ [x]) else .bad else lc2I g1 t1 e vs1 k ds (wipeE vs1 ρ2) acc
def lc2L (g : D → En → Option En) (t : En → R Bool) (s1 : En → R (List D)) (g1 : D → En → Option En) (t1 : En → R Bool) (e : En → R D) (vs vs1 : List Nat) : List D → En → List D → R D
  | [], ρ, acc => .ok (.nd .lst acc) ρ
  | d :: ds, ρ, acc => match g d ρ with
    | none => .bad
    | some ρ1 => bnd (noX (t ρ1)) fun b ρ2 => if b = true then bnd (noX (s1 ρ2)) fun ds1 ρ3 => lc2I g1 t1 e vs1 (fun ρ acc => lc2L g t s1 g1 t1 e vs vs1 ds (wipeE vs ρ) acc) ds1 (wipeE vs1 ρ3) acc else lc2L g t s1 g1 t1 e vs vs1 ds (wipeE vs ρ2) acc
section
variable {K : PySem.W.Frag} {w : Wd} {g g1 : D → En → Option En} {t t1 : En → R Bool} {e : En → R D} {src1 : En → R (List D)} {vs vs1 is is1 : List Nat} {σ : St} {Q : VK}
theorem lc2_body {ds : List D} {J : It} {F1 H1 : Hp} {ρ1 : En} {fp1 : List Addr} (his : ∀ i ∈ is, i ∈ vs) (his1 : ∀ i ∈ is1, i ∈ vs1) (hv : ∀ i ∈ vs1, i ∈ vs) (s1 : StaW K w F1 H1 σ ρ1 fp1) (I : Itz K F1 J ds) (h1 : Pst K w F1 H1 fp1 σ (lc2L g t src1 g1 t1 e vs vs1 ds (wipeE vs ρ1) []) (nO K w σ Q)) :
    tLc2 (fun _ H R => R J H) (cG K w.in1 is g) (cT K w.in1 t) (cI K w.in1 src1) (cG K w.in1 is1 g1) (cT K w.in1 t1) (cF K w.in1 e) vs vs1 σ H1 Q := fun L hL => by
  obtain ⟨fpw, sw, tw⟩ := StaW.wipe (vs := vs) s1
  obtain ⟨m0, t0⟩ := Mk.start sw hL
  refine ⟨fun i k H => k = ds.length - i ∧ i ≤ ds.length ∧ ∃ F ρ fp acc, Mk K w F1 F H L (wipe σ vs) ρ fp acc ∧ acc.length ≤ sizeLine ∧ Pst K w F H (L :: fp) σ (lc2L g t src1 g1 t1 e vs vs1 (ds.drop i) ρ acc) (nO K w σ Q), ⟨ds.length, by simp, Nat.zero_le _, F1, _, fpw, [], m0, Nat.zero_le _, Pst.tr h1 (tw.trans t0)⟩, ?_⟩
  rintro i k H ⟨rfl, hi, F, ρ, fp, acc, m, hz, h⟩
  by_cases hlt : i < ds.length
  · refine .inr ⟨I.go i H (m.ex.trans m.s.ex) hlt, fun H => ∃ F ρ fp acc, Mk K w F1 F H L (wipe σ vs) ρ fp acc ∧ acc.length ≤ sizeLine ∧ Pst K w F H (L :: fp) σ (lc2L g t src1 g1 t1 e vs vs1 (ds.drop (i + 1)) ρ acc) (nO K w σ Q), fun H' q => ⟨ds.length - (i + 1), by omega, rfl, hlt, q⟩, fun x H' y => ?_⟩
    obtain ⟨d, F2, ed, s2, t2, z⟩ := given I m.s m.ex hlt y
    have m2 := m.go t2 s2
    have edr : ds.drop i = d :: ds.drop (i + 1) := by
      obtain ⟨h1, h2⟩ := List.getElem?_eq_some_iff.mp ed
      rw [← h2]
      exact List.drop_eq_getElem_cons h1
    rw [edr] at h
    unfold lc2L at h
    cases q : g d ρ with
    | none => simp only [q] at h; exact h.elim
    | some ρ2 =>
      simp only [q] at h
      refine ⟨F2, ρ, fp, d, ρ2, s2, z, q, fun σ3 fp3 s3 t3 o3 => ?_⟩
      have ew : wipe σ3 vs = wipe σ vs := (o3 vs his).trans (wipe_sub fun _ h => h)
      have h3 := Pst.tr h (t2.trans t3).cons
      have m3 := m2.go t3 s3
      refine ⟨ew, F2, ρ2, fp3, s3, ?_⟩
      cases q1 : t ρ2 with
      | bad => rw [q1] at h3; exact h3.elim
      | exc c x ρ => rw [q1] at h3; exact h3.elim
      | ok b ρ4 =>
        rw [q1] at h3
        intro F4 H4 fp4 t4 s4
        have m4 := m3.go t4 s4
        have h4 := Pst.tr h3 t4.cons
        cases b with
        | false =>
          refine iteF ?_
          obtain ⟨fp5, s5, t5⟩ := StaW.wipe (vs := vs) s4
          rw [ew] at s5
          exact ⟨F4, _, fp5, acc, m4.go t5 s5, hz, by simpa [noX_ok, bnd_ok] using Pst.tr h4 t5.cons⟩
        | true =>
          refine iteT ⟨F4, ρ4, fp4, s4, ?_⟩
          have h4' : Pst K w F4 H4 (L :: fp4) σ (bnd (noX (src1 ρ4)) fun ds1 ρ3 => lc2I g1 t1 e vs1 (fun ρ acc => lc2L g t src1 g1 t1 e vs vs1 (ds.drop (i + 1)) (wipeE vs ρ) acc) ds1 (wipeE vs1 ρ3) acc) (nO K w σ Q) := by simpa [noX_ok, bnd_ok] using h4
          cases q2 : src1 ρ4 with
          | bad => rw [q2] at h4'; exact h4'.elim
          | exc c x ρ => rw [q2] at h4'; exact h4'.elim
          | ok ds1 ρ5 =>
            rw [q2] at h4'
            intro F5 H5 fp5 t5 J1 s5 I1
            have m5 := m4.go t5 s5
            have h5 := Pst.tr h4' t5.cons
            obtain ⟨fp6, s6, t6⟩ := StaW.wipe (vs := vs1) s5
            have m6 := m5.go t6 s6
            have h6 : Pst K w F5 H5 (L :: fp6) σ (lc2I g1 t1 e vs1 (fun ρ acc => lc2L g t src1 g1 t1 e vs vs1 (ds.drop (i + 1)) (wipeE vs ρ) acc) ds1 (wipeE vs1 ρ5) acc) (nO K w σ Q) := by simpa [noX_ok, bnd_ok] using Pst.tr h5 t6.cons
            refine ⟨fun j k H => k = ds1.length - j ∧ j ≤ ds1.length ∧ ∃ F ρ fp acc, Mk K w F1 F H L (wipe σ3 vs1) ρ fp acc ∧ Same F5 F ∧ acc.length ≤ sizeLine ∧ Pst K w F H (L :: fp) σ (lc2I g1 t1 e vs1 (fun ρ acc => lc2L g t src1 g1 t1 e vs vs1 (ds.drop (i + 1)) (wipeE vs ρ) acc) (ds1.drop j) ρ acc) (nO K w σ Q), ⟨ds1.length, by simp, Nat.zero_le _, F5, _, fp6, acc, m6, Same.refl _, hz, h6⟩, ?_⟩
            rintro j k H7 ⟨rfl, hj, F7, ρ7, fp7, acc7, m7, ex7, hz7, h7⟩
            by_cases hlt1 : j < ds1.length
            · refine .inr ⟨I1.go j H7 (ex7.trans m7.s.ex) hlt1, fun H => ∃ F ρ fp acc, Mk K w F1 F H L (wipe σ3 vs1) ρ fp acc ∧ Same F5 F ∧ acc.length ≤ sizeLine ∧ Pst K w F H (L :: fp) σ (lc2I g1 t1 e vs1 (fun ρ acc => lc2L g t src1 g1 t1 e vs vs1 (ds.drop (i + 1)) (wipeE vs ρ) acc) (ds1.drop (j + 1)) ρ acc) (nO K w σ Q), fun H' q => ⟨ds1.length - (j + 1), by omega, rfl, hlt1, q⟩, fun x H' y => ?_⟩
              obtain ⟨d8, F8, ed8, s8, t8, z8⟩ := given I1 m7.s ex7 hlt1 y
              have m8 := m7.go t8 s8
              have edr8 : ds1.drop j = d8 :: ds1.drop (j + 1) := by
                obtain ⟨h1, h2⟩ := List.getElem?_eq_some_iff.mp ed8
                rw [← h2]
                exact List.drop_eq_getElem_cons h1
              rw [edr8] at h7
              unfold lc2I at h7
              cases q8 : g1 d8 ρ7 with
              | none => simp only [q8] at h7; exact h7.elim
              | some ρ9 =>
                simp only [q8] at h7
                refine ⟨F8, ρ7, fp7, d8, ρ9, s8, z8, q8, fun σ9 fp9 s9 t9 o9 => ?_⟩
                have ew9 : wipe σ9 vs1 = wipe σ3 vs1 := (o9 vs1 his1).trans (wipe_sub fun _ h => h)
                have h9 := Pst.tr h7 (t8.trans t9).cons
                have m9 := m8.go t9 s9
                refine ⟨ew9, F8, ρ9, fp9, s9, ?_⟩
                have ex8 := ex7.trans (t8.trans t9).ex
                cases qa : t1 ρ9 with
                | bad => rw [qa] at h9; exact h9.elim
                | exc c x ρ => rw [qa] at h9; exact h9.elim
                | ok b ρa =>
                  rw [qa] at h9
                  intro Fa Ha fpa ta sa
                  have ma := m9.go ta sa
                  have ha := Pst.tr h9 ta.cons
                  cases b with
                  | false =>
                    refine iteF ?_
                    obtain ⟨fpb, sb, tb⟩ := StaW.wipe (vs := vs1) sa
                    rw [ew9] at sb
                    exact ⟨Fa, _, fpb, acc7, ma.go tb sb, ex8.trans ta.ex, hz7, by simpa [noX_ok, bnd_ok] using Pst.tr ha tb.cons⟩
                  | true =>
                    refine iteT ⟨Fa, ρa, fpa, sa, ?_⟩
                    have ha' : Pst K w Fa Ha (L :: fpa) σ (bnd (noX (e ρa)) fun x ρ3 => if acc7.length < sizeLine then lc2I g1 t1 e vs1 (fun ρ acc => lc2L g t src1 g1 t1 e vs vs1 (ds.drop (i + 1)) (wipeE vs ρ) acc) (ds1.drop (j + 1)) (wipeE vs1 ρ3) (acc7 ++ [x]) else .bad) (nO K w σ Q) := by simpa [noX_ok, bnd_ok] using ha
                    cases qb : e ρa with
                    | bad => rw [qb] at ha'; exact ha'.elim
                    | exc c x ρ => rw [qb] at ha'; exact ha'.elim
                    | ok dx ρb =>
                      rw [qb] at ha'
                      intro Fb Hb fpb tb v sb zv
                      have mb := ma.go tb sb
                      have hb := Pst.tr ha' tb.cons
                      obtain ⟨fpc, sc, tc⟩ := StaW.wipe (vs := vs1) sb
                      rw [ew9] at sc
                      have mc := mb.go tc sc
                      have hc := Pst.tr hb tc.cons
                      by_cases hl : acc7.length < sizeLine
                      · obtain ⟨ws, e1, e2, md, td⟩ := mc.app zv hl
                        refine ⟨ws, e1, e2, Fb, _, fpc, _, md, (ex8.trans ta.ex).trans (tb.trans tc).ex, by rw [List.length_append]; exact hl, ?_⟩
                        have he := Pst.tr hc td
                        simpa [bnd, noX, hl] using he
                      · exact (show False by simpa [bnd, noX, hl, Pst] using hc).elim
            · have ej : j = ds1.length := by omega
              subst ej
              rw [List.drop_length] at h7
              refine .inl ⟨I1.stop H7 (ex7.trans m7.s.ex), ?_⟩
              obtain ⟨fp8, s8, t8⟩ := StaW.wipe (vs := vs) m7.s
              rw [wipe_sub hv, ew] at s8
              exact ⟨F7, _, fp8, acc7, m7.go t8 s8, hz7, Pst.tr h7 t8.cons⟩
  · have e : i = ds.length := by omega
    subst e
    rw [List.drop_length] at h
    have mu : Mk K w F1 F H L σ ρ fp acc := ⟨StaW.unwipe m.s, m.ex, m.nf, m.nF, m.at_⟩
    exact .inl ⟨I.stop H (m.ex.trans m.s.ex), h F H (L :: fp) .refl (.ref L) (mu.done hz)⟩
theorem lc2I_quiet {k : En → List D → R D} (hk : ∀ ρ acc, quiet (k ρ acc)) : ∀ (ds : List D) (ρ : En) (acc : List D), quiet (lc2I g1 t1 e vs1 k ds ρ acc)
  | [], ρ, acc => hk ρ acc
  | d :: ds, ρ, acc => by
    unfold lc2I
    cases g1 d ρ with
    | none => trivial
    | some ρ1 =>
      dsimp only
      cases h : t1 ρ1 with
      | bad => trivial
      | exc c x ρ => trivial
      | ok b ρ2 =>
        cases b with
        | false => simpa [noX, bnd] using lc2I_quiet hk ds _ acc
        | true =>
          cases h2 : e ρ2 with
          | bad => simp [noX, bnd, h2, quiet]
          | exc c x ρ => simp [noX, bnd, h2, quiet]
          | ok x ρ3 =>
            simp only [noX, bnd, h2, if_true]
            split
            · exact lc2I_quiet hk ds _ _
            · trivial
theorem lc2L_quiet : ∀ (ds : List D) (ρ : En) (acc : List D), quiet (lc2L g t src1 g1 t1 e vs vs1 ds ρ acc)
  | [], ρ, acc => trivial
  | d :: ds, ρ, acc => by
    unfold lc2L
    cases g d ρ with
    | none => trivial
    | some ρ1 =>
      dsimp only
      cases h : t ρ1 with
      | bad => trivial
      | exc c x ρ => trivial
      | ok b ρ2 =>
        cases b with
        | false => simpa [noX, bnd] using lc2L_quiet ds _ acc
        | true =>
          cases h2 : src1 ρ2 with
          | bad => simp [noX, bnd, h2, quiet]
          | exc c x ρ => simp [noX, bnd, h2, quiet]
          | ok x ρ3 =>
            simp only [noX, bnd, h2, if_true]
            exact lc2I_quiet (fun ρ acc => lc2L_quiet ds _ acc) _ _ _
end
section
variable {X : Cx} {w : Wd} {tg iter tg1 iter1 elt : Expr} {ifs ifs1 : List Expr} {scope : Scope} {is is1 vs1 : List Nat} {g g1 : D → En → Option En} {t t1 : En → R Bool} {e : En → R D} {src : List Key → List D → List D} {srcL src1 : En → R (List D)} {pos : Pos}
def sLc2 (src : En → R (List D)) (g : D → En → Option En) (t : En → R Bool) (src1 : En → R (List D)) (g1 : D → En → Option En) (t1 : En → R Bool) (e : En → R D) (vs vs1 : List Nat) : En → R D := fun ρ => bnd (src ρ) fun ds ρ1 => lc2L g t src1 g1 t1 e vs vs1 ds (wipeE vs ρ1) []
def sLc2D (i : Nat) (src : List Key → List D → List D) (g : D → En → Option En) (t : En → R Bool) (src1 : En → R (List D)) (g1 : D → En → Option En) (t1 : En → R Bool) (e : En → R D) (vs vs1 : List Nat) : En → R D := sDct i fun ks ds ρ => lc2L g t src1 g1 t1 e vs vs1 (src ks ds) (wipeE vs ρ) []
theorem d_lc2 (own : List (Str × Nat)) (hc : X.calm = true) (hN : X.N.Nodup) (hi : PI X tg iter (cI X.K w srcL)) (ok : BlkOk X.N X.env.scope scope own) (his : ∀ i ∈ is, i ∈ own.map (·.2)) (his1 : ∀ i ∈ is1, i ∈ vs1) (hv : ∀ i ∈ vs1, i ∈ own.map (·.2))
    (hg : ∀ (s : Shared) (H : Hp) (C : Addr) (cl : List (Str × Addr)) (fp : List Addr), PG (X.blk s H scope (compEnvC scope cl C X.env) fp) tg (cG X.K w.in1 is g)) (ht : ∀ (s : Shared) (H : Hp) (C : Addr) (cl : List (Str × Addr)) (fp : List Addr), PTs (X.blk s H scope (compEnvC scope cl C X.env) fp) ifs (cT X.K w.in1 t))
    (hi1 : ∀ (s : Shared) (H : Hp) (C : Addr) (cl : List (Str × Addr)) (fp : List Addr), PI (X.blk s H scope (compEnvC scope cl C X.env) fp) tg1 iter1 (cI X.K w.in1 src1))
    (hg1 : ∀ (s : Shared) (H : Hp) (C : Addr) (cl : List (Str × Addr)) (fp : List Addr), PG (X.blk s H scope (compEnvC scope cl C X.env) fp) tg1 (cG X.K w.in1 is1 g1)) (ht1 : ∀ (s : Shared) (H : Hp) (C : Addr) (cl : List (Str × Addr)) (fp : List Addr), PTs (X.blk s H scope (compEnvC scope cl C X.env) fp) ifs1 (cT X.K w.in1 t1))
    (he : ∀ (s : Shared) (H : Hp) (C : Addr) (cl : List (Str × Addr)) (fp : List Addr), PE (X.blk s H scope (compEnvC scope cl C X.env) fp) elt (cF X.K w.in1 e)) (hs : ∀ x, foldedSetIterable iter X.env x = pure x := by intro _; rfl) (hs1 : ∀ env x, foldedSetIterable iter1 env x = pure x := by intro _ _; rfl) :
    PE X (.ListComp elt [⟨tg, iter, ifs, 0⟩, ⟨tg1, iter1, ifs1, 0⟩] scope pos) (cO X.K w (sLc2 srcL g t src1 g1 t1 e (own.map (·.2)) vs1)) :=
  peI (pe_lc2 hc hN hi ok hv hg ht hi1 hg1 ht1 he hs hs1) fun σ H Q h => by
    obtain ⟨F, ρ, fp, s, h⟩ := h
    exact ⟨F, ρ, fp, s, h.bnd fun ds ρ1 F1 H1 fp1 t1 h1 => fun J s1 I => lc2_body his his1 hv s1 I h1⟩
theorem d_lc2D (i : Nat) (own : List (Str × Nat)) (hc : X.calm = true) (hN : X.N.Nodup) (hi : WkD X tg iter i src) (ok : BlkOk X.N X.env.scope scope own) (his : ∀ i ∈ is, i ∈ own.map (·.2)) (his1 : ∀ i ∈ is1, i ∈ vs1) (hv : ∀ i ∈ vs1, i ∈ own.map (·.2))
    (hg : ∀ (s : Shared) (H : Hp) (C : Addr) (cl : List (Str × Addr)) (fp : List Addr), PG (X.blk s H scope (compEnvC scope cl C X.env) fp) tg (cG X.K w.in1 is g)) (ht : ∀ (s : Shared) (H : Hp) (C : Addr) (cl : List (Str × Addr)) (fp : List Addr), PTs (X.blk s H scope (compEnvC scope cl C X.env) fp) ifs (cT X.K w.in1 t))
    (hi1 : ∀ (s : Shared) (H : Hp) (C : Addr) (cl : List (Str × Addr)) (fp : List Addr), PI (X.blk s H scope (compEnvC scope cl C X.env) fp) tg1 iter1 (cI X.K w.in1 src1))
    (hg1 : ∀ (s : Shared) (H : Hp) (C : Addr) (cl : List (Str × Addr)) (fp : List Addr), PG (X.blk s H scope (compEnvC scope cl C X.env) fp) tg1 (cG X.K w.in1 is1 g1)) (ht1 : ∀ (s : Shared) (H : Hp) (C : Addr) (cl : List (Str × Addr)) (fp : List Addr), PTs (X.blk s H scope (compEnvC scope cl C X.env) fp) ifs1 (cT X.K w.in1 t1))
    (he : ∀ (s : Shared) (H : Hp) (C : Addr) (cl : List (Str × Addr)) (fp : List Addr), PE (X.blk s H scope (compEnvC scope cl C X.env) fp) elt (cF X.K w.in1 e)) (hs : ∀ x, foldedSetIterable iter X.env x = pure x := by intro _; rfl) (hs1 : ∀ env x, foldedSetIterable iter1 env x = pure x := by intro _ _; rfl) :
    PE X (.ListComp elt [⟨tg, iter, ifs, 0⟩, ⟨tg1, iter1, ifs1, 0⟩] scope pos) (cO X.K w (sLc2D i src g t src1 g1 t1 e (own.map (·.2)) vs1)) := by
  obtain ⟨wi, pw, run⟩ := hi
  have P := pe_lc2 (pos := pos) hc hN pw ok hv hg ht hi1 hg1 ht1 he hs hs1
  refine peI (pe_or2 (pe_lock P) P) fun σ H Q h => ?_
  obtain ⟨F, ρ, fp, s, h⟩ := h
  refine dct_lock s h (fun ks ds ρ => lc2L_quiet _ _ _) fun F H ρ fp a o ks vs ds Q s hl hlen hk hz h => ?_
  exact run σ F H a o ks vs ds _ hl hlen hk s.ex hz fun J I => lc2_body his his1 hv s I h
end
end Y

set_option Elab.async false
set_option linter.all false
set_option maxRecDepth 100000
set_option maxHeartbeats 2000000
/-! Parallel stores, slices of a name, dicts of pairs, dict comprehensions. -/
namespace Y
open PySem L2
/-! ### a, b = x, y, some of them ours -/
def nS (K : PySem.W.Frag) (w : Wd) (σ : St) (Q : List V → Hp → Prop) : List S → En → Hp → Hp → List Addr → Prop := fun ss ρ F H fp => ∀ vs, StaW K w F H (vs.map some ++ σ) (ss.map some ++ ρ) fp → vs.length = ss.length → Q vs H
def cS2 (K : PySem.W.Frag) (w : Wd) (f : En → R (List S)) : TA := fun σ H Q => ∃ F ρ fp, StaW K w F H σ ρ fp ∧ Pst K w F H fp σ (f ρ) (nS K w σ Q)
def pNil : En → R (List S) := fun ρ => .ok [] ρ
def pF (a : En → R D) (b : En → R (List S)) : En → R (List S) := fun ρ => bnd (a ρ) fun d ρ1 => bnd (b ρ1) fun ds ρ2 => .ok (.f d :: ds) ρ2
def pO (a : En → R D) (b : En → R (List S)) : En → R (List S) := fun ρ => bnd (a ρ) fun d ρ1 => bnd (b ρ1) fun ds ρ2 => .ok (.o d :: ds) ρ2
section
variable {X : Cx} {w : Wd} {e : Expr} {es : List Expr} {fa : En → R D} {fs : En → R (List S)} {pos : Pos}
theorem z_nil : PA X [] (cS2 X.K w pNil) := paI pa_nil fun σ H Q h => by
  obtain ⟨F, ρ, fp, s, h⟩ := h
  exact h F H fp .refl [] s rfl
theorem z_F (ha : PE X e (cF X.K w fa)) (hr : PA X es (cS2 X.K w fs)) (hs : starEach (e :: es) X.env = (false, eval e X.env) :: starEach es X.env := by rfl) : PA X (e :: es) (cS2 X.K w (pF fa fs)) :=
  paI (pa_cons ha hr hs) fun σ H Q h => by
    obtain ⟨F, ρ, fp, s, h⟩ := h
    refine ⟨F, ρ, fp, s, h.bnd fun d ρ1 F1 H1 fp1 t1 h1 => fun v s1 z => ⟨F1, ρ1, fp1, s1, h1.bnd fun ss ρ2 F2 H2 fp2 t2 h2 => fun vs s2 hl => ?_⟩⟩
    exact h2 F2 H2 fp2 .refl (v :: vs) ⟨s2.ex, .fr (z.mono t2.ex) s2.sl, s2.nd, s2.own, s2.lock⟩ (by simp [hl])
theorem z_O (ha : PE X e (cO X.K w fa)) (hr : PA X es (cS2 X.K w fs)) (hs : starEach (e :: es) X.env = (false, eval e X.env) :: starEach es X.env := by rfl) : PA X (e :: es) (cS2 X.K w (pO fa fs)) :=
  paI (pa_cons ha hr hs) fun σ H Q h => by
    obtain ⟨F, ρ, fp, s, h⟩ := h
    refine ⟨F, ρ, fp, s, h.bnd fun d ρ1 F1 H1 fp1 t1 h1 => fun v s1 => ?_⟩
    cases hsl : s1.sl with
    | @ow a k ws ds σ' ρ' fp0 hw hz sl =>
      have nd := List.nodup_cons.mp s1.nd
      have s0 : StaW X.K w F1 H1 σ ρ1 fp0 := ⟨s1.ex, sl, nd.2, fun b hb => s1.own b (List.mem_cons_of_mem _ hb), s1.lock⟩
      have t0 : Tr F1 H1 (a :: fp0) F1 H1 fp0 := Tr.refl.sub fun b hb => List.mem_cons_of_mem _ hb
      refine ⟨F1, ρ1, fp0, s0, ?_⟩
      cases q : fs ρ1 with
      | bad => rw [q] at h1; exact h1.elim
      | exc c x ρ2 => rw [q] at h1; exact Pst.tr (r := .exc c x ρ2) h1 t0
      | ok ss ρ2 =>
        rw [q] at h1
        intro F2 H2 fp2 t2 vs s2 hl
        obtain ⟨o, ha⟩ := hw.any
        have na : a ∉ fp2 := fun m => by
          rcases t2.new a (.inl m) with z | z
          · exact nd.1 z
          · rw [ha] at z; cases z
        have nF : F2 a = none := by
          cases r : F2 a with
          | none => rfl
          | some o' =>
            rcases t2.new a (.inr ⟨s1.own a List.mem_cons_self, by rw [r]; exact (fun z => nomatch z), hw.nt⟩) with z | z
            · exact absurd z nd.1
            · rw [ha] at z; cases z
        exact h1 F2 H2 (a :: fp2) t2.cons (.ref a :: vs) ⟨s2.ex, .ow (hw.keep fun o e => t2.keep a o e nd.1) (hz.mono t2.ex) s2.sl, List.nodup_cons.mpr ⟨na, s2.nd⟩, fun b hb => (List.mem_cons.mp hb).elim (fun e => e ▸ nF) (s2.own b), s2.lock⟩ (by simp [hl])
/-- the topmost value is stored -/
theorem Sta.storeS {K : PySem.W.Frag} {F H : Hp} {σ : St} {ρ : En} {fp : List Addr} {v : V} {x : S} (s : StaW K w F H (some v :: σ) (some x :: ρ) fp) (nb : ∀ d, x ≠ .b d) (i : Nat) : ∃ fp', StaW K w F H (σ.set i (some v)) (ρ.set i (some x)) fp' ∧ Tr F H fp F H fp' := by
  cases x with
  | f d =>
    cases hs : s.sl with
    | fr z sl => exact Sta.store ⟨s.ex, sl, s.nd, s.own, s.lock⟩ z i
  | o d => exact s.storeO i
  | b d => exact absurd rfl (nb d)
def noB : S → Bool | .b _ => false | _ => true
theorem noB_ne {x : S} (h : noB x = true) : ∀ d, x ≠ .b d := by
  intro d e
  rw [e] at h
  cases h
def sPar2 (i j : Nat) (f : En → R (List S)) : En → R Fl := fun ρ => bnd (f ρ) fun ss ρ1 => match ss with
  | [x, y] => if noB x = true ∧ noB y = true then .ok .nx ((ρ1.set i (some x)).set j (some y)) else .bad
  | _ => .bad
def sPar3 (i j l : Nat) (f : En → R (List S)) : En → R Fl := fun ρ => bnd (f ρ) fun ss ρ1 => match ss with
  | [x, y, z] => if noB x = true ∧ noB y = true ∧ noB z = true then .ok .nx (((ρ1.set i (some x)).set j (some y)).set l (some z)) else .bad
  | _ => .bad
theorem s_par2 (i j : Nat) {x y : Str} {a b : Expr} {px py pt : Pos} {kt k2 pt2} (hc : X.calm = true) (hN : X.N.Nodup) (ha : PA X [a, b] (cS2 X.K w fs)) (hi : X.N[i]? = some x := by rfl) (hj : X.N[j]? = some y := by rfl) (hij : i ≠ j := by decide)
    (hx : X.env.scope.names.lookup x = some .local := by rfl) (hy : X.env.scope.names.lookup y = some .local := by rfl)
    (hw : swappedStores [.Tuple [.Name x px, .Name y py] kt pt] (.Tuple [a, b] k2 pt2) X.env = pure (some [x, y]) := by rfl)
    (hs : swapsWithSole [.Tuple [.Name x px, .Name y py] kt pt] (.Tuple [a, b] k2 pt2) pos.line X.env = pure false := by rfl) :
    PS X (.Assign [.Tuple [.Name x px, .Name y py] kt pt] (.Tuple [a, b] k2 pt2) pos) (cS X.K w (sPar2 i j fs)) := psI (ps_par hc hN hi hj hij hx hy ha hw hs) fun D σ H h => by
  obtain ⟨F, ρ, fp, s, h⟩ := h
  refine ⟨F, ρ, fp, s, PstS.bnd (e := fs ρ) h fun ss ρ1 F1 H1 fp1 t1 h1 => fun vs s1 hl => ?_⟩
  match ss, vs, hl with
  | [x, y], [v, u], _ =>
    dsimp only at h1
    split at h1
    · rename_i c
      obtain ⟨fp2, s2, t2⟩ := Sta.storeS s1 (noB_ne c.1) (i + 1)
      obtain ⟨fp3, s3, t3⟩ := Sta.storeS s2 (noB_ne c.2) j
      exact ⟨v, u, rfl, h1 _ F1 H1 fp3 (t2.trans t3) s3⟩
    · exact h1.elim
  | [], _, _ => exact h1.elim
  | [_], _, _ => exact h1.elim
  | _ :: _ :: _ :: _, _, _ => exact h1.elim
theorem s_par3 (i j l : Nat) {x y z : Str} {a b c : Expr} {px py pz pt : Pos} {kt k2 pt2} (hc : X.calm = true) (hN : X.N.Nodup) (ha : PA X [a, b, c] (cS2 X.K w fs)) (hi : X.N[i]? = some x := by rfl) (hj : X.N[j]? = some y := by rfl) (hl : X.N[l]? = some z := by rfl) (hij : i ≠ j := by decide) (hil : i ≠ l := by decide) (hjl : j ≠ l := by decide)
    (hx : X.env.scope.names.lookup x = some .local := by rfl) (hy : X.env.scope.names.lookup y = some .local := by rfl) (hz : X.env.scope.names.lookup z = some .local := by rfl)
    (hw : swappedStores [.Tuple [.Name x px, .Name y py, .Name z pz] kt pt] (.Tuple [a, b, c] k2 pt2) X.env = pure (some [x, y, z]) := by rfl)
    (hs : swapsWithSole [.Tuple [.Name x px, .Name y py, .Name z pz] kt pt] (.Tuple [a, b, c] k2 pt2) pos.line X.env = pure false := by rfl) :
    PS X (.Assign [.Tuple [.Name x px, .Name y py, .Name z pz] kt pt] (.Tuple [a, b, c] k2 pt2) pos) (cS X.K w (sPar3 i j l fs)) := psI (ps_par3 hc hN hi hj hl hij hil hjl hx hy hz ha hw hs) fun D σ H h => by
  obtain ⟨F, ρ, fp, s, h⟩ := h
  refine ⟨F, ρ, fp, s, PstS.bnd (e := fs ρ) h fun ss ρ1 F1 H1 fp1 t1 h1 => fun vs s1 hl => ?_⟩
  match ss, vs, hl with
  | [x, y, z], [v, u, r], _ =>
    dsimp only at h1
    split at h1
    · rename_i c
      obtain ⟨fp2, s2, t2⟩ := Sta.storeS s1 (noB_ne c.1) (i + 1 + 1)
      obtain ⟨fp3, s3, t3⟩ := Sta.storeS s2 (noB_ne c.2.1) (j + 1)
      obtain ⟨fp4, s4, t4⟩ := Sta.storeS s3 (noB_ne c.2.2) l
      exact ⟨v, u, r, rfl, h1 _ F1 H1 fp4 (t2.trans (t3.trans t4)) s4⟩
    · exact h1.elim
  | [], _, _ => exact h1.elim
  | [_], _, _ => exact h1.elim
  | [_, _], _, _ => exact h1.elim
  | _ :: _ :: _ :: _ :: _, _, _ => exact h1.elim
/-! ### a slice of a name that changes -/
def sSlcV (i : Nat) (fl fu : En → R (Option Int)) : En → R D := fun ρ => bnd (sBor i ρ) fun _ _ => bnd (fl ρ) fun l ρ1 => bnd (fu ρ1) fun u ρ2 => bnd (sBor i ρ2) fun x ρ3 => lift (dSlc x l u) ρ3
theorem d_slcV (i : Nat) {x : Str} {p p2 : Pos} {lo hi : Option Expr} {fl fu : En → R (Option Int)} (hl : PO X lo (cP X.K w fl)) (hh : PO X hi (cP X.K w fu)) (hN : X.N[i]? = some x := by rfl) (hv : Vis X.env.scope x := by first | exact Or.inl rfl | exact Or.inr (Or.inl rfl) | exact Or.inr (Or.inr rfl)) (hd : (x == ("__debug__" : Str)) = false := by decide) (hcd : (x == ("__classdict__" : Str)) = false := by decide) :
    PE X (.Subscript (.Name x p) (.Slice lo hi none p2) pos) (cF X.K w (sSlcV i fl fu)) :=
  peI (pe_slice sl_any (pe_var hN hv hd hcd) hl hh) fun σ H Q h => by
    obtain ⟨F, ρ, fp, s, h⟩ := h
    unfold sSlcV at h
    obtain ⟨d0, v, _, ev, _, h⟩ := sBor_ok s h
    refine ⟨v, ev, F, ρ, fp, s, h.bnd fun l ρ2 F2 H2 fp2 t2 h2 => fun s2 => ⟨F2, ρ2, fp2, s2, h2.bnd fun u ρ3 F3 H3 fp3 t3 h3 => fun s3 => ?_⟩⟩
    obtain ⟨d, v', _, e1, z, h4⟩ := sBor_ok s3 h3
    rw [ev] at e1
    cases e1
    obtain ⟨r, e, n⟩ := h4.lift
    exact rslc s3.ex z e (fin_new s3 n).1 (fin_new s3 n).2
end
/-! ### dict(xs) of pairs; dict(d) -/
def mergeD : List Key → List D → List Key → List D → List Key × List D
  | ks, ds, q :: qs, d :: es => mergeD (putKs ks q) (putDs ks ds q d) qs es
  | ks, ds, _, _ => (ks, ds)
def pairsD : List D → Option (List Key × List D)
  | [] => some ([], [])
  | .nd .tup [k, d] :: ds => match keyD k, pairsD ds with
    | some q, some (qs, es) => some (q :: qs, d :: es)
    | _, _ => none
  | _ => none
def dDict : D → Option D
  | .nd .lst ds => (pairsD ds).map fun p => .nd (.dK (mergeD [] [] p.1 p.2).1) (mergeD [] [] p.1 p.2).2
  | .nd (.dK ks) ds => some (.nd (.dK ks) ds)
  | _ => none
def rDict (K : PySem.W.Frag) : List V → Hp → VK → Prop := fun xs H Q => (∃ (a : Addr) (ps : List Addr) (kvs : List (Key × V)), xs = [.ref a] ∧ SqL K H a (ps.map V.ref) ∧ Paired (fun p kv => SqT K H p [kV kv.1, kv.2]) ps kvs ∧ ∀ p, H p = none → Q (.ref p) (upd H p (.dK (mergeK [] kvs)))) ∨
  ∃ (a : Addr) (kvs : List (Key × V)), xs = [.ref a] ∧ Rd H a (.dK kvs) ∧ ∀ p, H p = none → Q (.ref p) (upd H p (.dK kvs))
theorem cr_dict {X : Cx} (hc : X.calm = true) : CallR X (.type "dict") (rDict X.K) := (call_dictP hc).or call_dictD
theorem keysL_put {ks : List Key} {k : Key} (h : keysL ks = true) (hk : keyL k = true) : keysL (putKs ks k) = true := by
  unfold putKs
  split
  · exact h
  · unfold keysL at h ⊢; rw [List.all_append, h]; simp [hk]
section
variable {K : PySem.W.Frag} {F H : Hp}
theorem merge_rel : ∀ {qs : List Key} {us : List V} {es : List D} {ks : List Key} {vs : List V} {ds : List D}, Fzs K F us es → qs.length = us.length → keysL qs = true → ks.length = vs.length → keysL ks = true → Fzs K F vs ds →
    ∃ vs', mergeK (ks.zip vs) (qs.zip us) = (mergeD ks ds qs es).1.zip vs' ∧ (mergeD ks ds qs es).1.length = vs'.length ∧ keysL (mergeD ks ds qs es).1 = true ∧ Fzs K F vs' (mergeD ks ds qs es).2 ∧ vs'.length ≤ vs.length + us.length
  | [], [], _, ks, vs, ds, .nil, _, _, hl, hk, hz => ⟨vs, by simp [mergeK, mergeD], hl, hk, hz, by simp⟩
  | q :: qs, u :: us, _, ks, vs, ds, .cons (d := d) (ds := es) z zs, e, hq, hl, hk, hz => by
    have hq' : keyL q = true ∧ keysL qs = true := by simpa [keysL] using hq
    obtain ⟨vs', h1, h2, h3, h4, h5⟩ := merge_rel (ks := putKs ks q) (vs := putVs ks vs q u) zs (by simpa using e) hq'.2 (putKs_len hl) (keysL_put hk hq'.1) (fzs_putVs z hz (k := q) (ks := ks))
    refine ⟨vs', ?_, h2, h3, h4, ?_⟩
    · show mergeK (putK (ks.zip vs) q u) (qs.zip us) = _
      rw [putK_zip hl]
      exact h1
    · have := putVs_le (ks := ks) (vs := vs) (k := q) (v := u)
      simp only [List.length_cons]
      omega
  | [], _ :: _, _, _, _, _, _, e, _, _, _, _ => by simp at e
  | _ :: _, [], _, _, _, _, _, e, _, _, _, _ => by simp at e
theorem pairs_rel : ∀ {vs : List V} {ds : List D} {qs : List Key} {es : List D}, Fzs K F vs ds → pairsD ds = some (qs, es) → ∃ ps us, vs = ps.map V.ref ∧ qs.length = us.length ∧ keysL qs = true ∧ Fzs K F us es ∧ Paired (fun p (kv : Key × V) => SqT K F p [kV kv.1, kv.2]) ps (qs.zip us)
  | _, _, qs, es, .nil, e => by
    simp [pairsD] at e
    obtain ⟨rfl, rfl⟩ := e
    exact ⟨[], [], rfl, rfl, rfl, .nil, .nil⟩
  | _, _, qs, es, .cons (d := d) (ds := ds) z zs, e => by
    unfold pairsD at e
    split at e
    · rename_i heq; cases heq
    · rename_i k x rest heq
      cases heq
      split at e
      · rename_i q qs' es' e1 e2
        cases e
        obtain ⟨ps, us, rfl, h2, h3, h4, h5⟩ := pairs_rel zs e2
        obtain ⟨a, ws, rfl, hi, hs⟩ := z.node
        cases hs with
        | cons z1 hs => cases hs with
          | cons z2 hs =>
            cases hs
            rename_i v1 v2
            refine ⟨a :: ps, v2 :: us, rfl, by simp [h2], by simpa [keysL] using ⟨keyL_of z1 e1, by simpa [keysL] using h3⟩, .cons z2 h4, .cons ?_ h5⟩
            rw [keyD_rel z1 e1] at hi
            exact SqT.of hi.1
      · cases e
    · cases e
theorem c1_dict : C1N K (rDict K) dDict := by
  intro F H x dx d Q ex z e new
  unfold dDict at e
  split at e
  · obtain ⟨p, e1, rfl⟩ := Option.map_eq_some_iff.mp e
    obtain ⟨a, vs, rfl, hi, hs⟩ := z.node ex
    obtain ⟨ps, us, rfl, h2, h3, h4, h5⟩ := pairs_rel (qs := p.1) (es := p.2) hs e1
    obtain ⟨vs', q1, q2, q3, q4, q5⟩ := merge_rel (ks := []) (vs := []) (ds := []) h4 h2 h3 rfl rfl .nil
    refine .inl ⟨a, ps, _, rfl, SqL.of hi.1, h5.mono fun p kv h => sqT_mono ex h, fun l hl => ?_⟩
    have e2 : mergeK [] (p.1.zip us) = (mergeD [] [] p.1 p.2).1.zip vs' := q1
    have e3 := h5.length
    have e4 := hi.2
    rw [List.length_zip] at e3
    rw [List.length_map] at e4
    rw [e2]
    exact new l (.dK _) vs' _ _ rfl rfl hl (if_pos ⟨q2, by rw [List.length_nil] at q5; omega, q3⟩) q4
  · cases e
    obtain ⟨a, vs, rfl, hi, hs⟩ := z.node ex
    exact .inr ⟨a, _, rfl, hi.2.1, fun p hp => new p _ vs _ _ rfl rfl hp (if_pos ⟨hi.1, hi.2.2⟩) hs⟩
  · cases e
end
end Y

set_option Elab.async false
set_option linter.all false
set_option maxRecDepth 100000
set_option maxHeartbeats 2000000
/-! Dict comprehensions. -/
namespace Y
open PySem L2
def dcL (g : D → En → Option En) (t : En → R Bool) (ek ev : En → R D) (vs : List Nat) : List D → En → List Key → List D → R D
  | [], ρ, ks, es => .ok (.nd (.dK ks) es) ρ
  | d :: ds, ρ, ks, es => match g d ρ with
    | none => .bad
    | some ρ1 => bnd (noX (t ρ1)) fun b ρ2 => if b = true then bnd (noX (ek ρ2)) fun k ρ3 => bnd (noX (ev ρ3)) fun x ρ4 => match keyD k with
      | some q => if ks.length < sizeLine then dcL g t ek ev vs ds (wipeE vs ρ4) (putKs ks q) (putDs ks es q x) else .bad
      | none => .bad else dcL g t ek ev vs ds (wipeE vs ρ2) ks es
structure MkD (K : PySem.W.Frag) (w : Wd) (F1 F H : Hp) (L : Addr) (σ : St) (ρ : En) (fp : List Addr) (ks : List Key) (es : List D) : Prop where
  s : StaW K w F H σ ρ fp
  ex : Same F1 F
  nf : L ∉ fp
  nF : F L = none
  kl : keysL ks = true
  at_ : ∃ vs, H L = some (.dK (ks.zip vs)) ∧ ks.length = vs.length ∧ Fzs K F vs es
section
variable {K : PySem.W.Frag} {w : Wd} {F1 F F' H H' : Hp} {fp fp' : List Addr} {σ σ' : St} {ρ ρ' : En} {L : Addr} {ks : List Key} {es : List D} {x : V} {d : D}
theorem MkD.go (m : MkD K w F1 F H L σ ρ fp ks es) (t : Tr F H fp F' H' fp') (s : StaW K w F' H' σ' ρ' fp') : MkD K w F1 F' H' L σ' ρ' fp' ks es := by
  obtain ⟨vs, h1, h0, h2⟩ := m.at_
  refine ⟨s, m.ex.trans t.ex, fun h => ?_, ?_, m.kl, vs, t.keep L _ h1 m.nf, h0, h2.mono t.ex⟩
  · rcases t.new L (.inl h) with q | q
    · exact m.nf q
    · rw [h1] at q; cases q
  · cases q : F' L with
    | none => rfl
    | some o =>
      rcases t.new L (.inr ⟨m.nF, by rw [q]; exact (fun z => nomatch z), IsTp.not h1 fun _ e => nomatch e⟩) with r | r
      · exact absurd r m.nf
      · rw [h1] at r; cases r
theorem MkD.app {q : Key} (m : MkD K w F1 F H L σ ρ fp ks es) (z : Fz K F x d) (hq : keyL q = true) : ∃ kvs, H L = some (.dK kvs) ∧ kvs.length = ks.length ∧ MkD K w F1 F (upd H L (.dK (putK kvs q x))) L σ ρ fp (putKs ks q) (putDs ks es q d) ∧ Tr F H (L :: fp) F (upd H L (.dK (putK kvs q x))) (L :: fp) := by
  obtain ⟨vs, h1, h0, h2⟩ := m.at_
  refine ⟨_, h1, by rw [List.length_zip]; omega, ⟨⟨same_updR m.s.ex m.nF, m.s.sl.frame (Same.refl _) fun a ha o h => ?_, m.s.nd, m.s.own, m.s.lock⟩, m.ex, m.nf, m.nF, keysL_put m.kl hq, putVs ks vs q x, ?_, putKs_len h0, fzs_putVs z h2⟩, ⟨Same.refl _, fun b o h n => ?_, fun b h => h.elim .inl fun ⟨q1, q2, _⟩ => absurd q1 q2⟩⟩
  · rw [upd_ne (fun (q : a = L) => m.nf (q ▸ ha))]; exact h
  · rw [upd_same, putK_zip h0]
  · rw [upd_ne (fun (q : b = L) => n (q ▸ List.mem_cons_self))]; exact h
theorem MkD.start (s : StaW K w F H σ ρ fp) (hL : H L = none) : MkD K w F F (upd H L (.dK [])) L σ ρ fp [] [] ∧ Tr F H fp F (upd H L (.dK [])) (L :: fp) := by
  obtain ⟨n1, n2⟩ := s.fresh hL
  obtain ⟨s1, t1⟩ := s.newO (k := .dK []) (vs := []) (ds := []) hL rfl rfl .nil
  refine ⟨⟨⟨same_updR s.ex n2, s.sl.frame (Same.refl _) fun a ha o h => ?_, s.nd, s.own, s.lock⟩, Same.refl _, n1, n2, rfl, [], upd_same, rfl, .nil⟩, t1⟩
  rw [upd_ne (ne_of_none h hL)]; exact h
theorem MkD.done (m : MkD K w F1 F H L σ ρ fp ks es) (hl : ks.length ≤ sizeLine) : StaW K w F H (some (.ref L) :: σ) (some (.o (.nd (.dK ks) es)) :: ρ) (L :: fp) := by
  obtain ⟨vs, h1, h0, h2⟩ := m.at_
  exact ⟨m.s.ex, .ow (k := .dK ks) ⟨h0, h1, by omega, m.kl⟩ h2 m.s.sl, List.nodup_cons.mpr ⟨m.nf, m.s.nd⟩, fun a ha => (List.mem_cons.mp ha).elim (fun e => e ▸ m.nF) (m.s.own a), m.s.lock⟩
end
section
variable {K : PySem.W.Frag} {w : Wd} {src : En → R (List D)} {g : D → En → Option En} {t : En → R Bool} {ek ev : En → R D} {vs is : List Nat} {σ : St} {H : Hp} {Q : VK}
theorem putKs_le {ks : List Key} {q : Key} (h : ks.length < sizeLine) : (putKs ks q).length ≤ sizeLine := by
  unfold putKs
  split
  · omega
  · rw [List.length_append]; exact h
theorem dc_body {ds : List D} {J : It} {F1 H1 : Hp} {ρ1 : En} {fp1 : List Addr} (his : ∀ i ∈ is, i ∈ vs) (s1 : StaW K w F1 H1 σ ρ1 fp1) (I : Itz K F1 J ds) (h1 : Pst K w F1 H1 fp1 σ (dcL g t ek ev vs ds (wipeE vs ρ1) [] []) (nO K w σ Q)) : tDc (fun _ H R => R J H) (cG K w.in1 is g) (cT K w.in1 t) (cF K w.in1 ek) (cF K w.in1 ev) vs σ H1 Q := fun L hL => by
  obtain ⟨fpw, sw, tw⟩ := StaW.wipe (vs := vs) s1
  obtain ⟨m0, t0⟩ := MkD.start sw hL
  refine ⟨fun i k H => k = ds.length - i ∧ i ≤ ds.length ∧ ∃ F ρ fp ks es, MkD K w F1 F H L (wipe σ vs) ρ fp ks es ∧ ks.length ≤ sizeLine ∧ Pst K w F H (L :: fp) σ (dcL g t ek ev vs (ds.drop i) ρ ks es) (nO K w σ Q), ⟨ds.length, by simp, Nat.zero_le _, F1, _, fpw, [], [], m0, Nat.zero_le _, Pst.tr h1 (tw.trans t0)⟩, ?_⟩
  rintro i k H ⟨rfl, hi, F, ρ, fp, ks, es, m, hz, h⟩
  by_cases hlt : i < ds.length
  · refine .inr ⟨I.go i H (m.ex.trans m.s.ex) hlt, fun H => ∃ F ρ fp ks es, MkD K w F1 F H L (wipe σ vs) ρ fp ks es ∧ ks.length ≤ sizeLine ∧ Pst K w F H (L :: fp) σ (dcL g t ek ev vs (ds.drop (i + 1)) ρ ks es) (nO K w σ Q), fun H' q => ⟨ds.length - (i + 1), by omega, rfl, hlt, q⟩, fun x H' y => ?_⟩
    obtain ⟨d, F2, ed, s2, t2, z⟩ := given I m.s m.ex hlt y
    have m2 := m.go t2 s2
    have edr : ds.drop i = d :: ds.drop (i + 1) := by
      obtain ⟨h1, h2⟩ := List.getElem?_eq_some_iff.mp ed
      rw [← h2]
      exact List.drop_eq_getElem_cons h1
    rw [edr] at h
    unfold dcL at h
    cases q : g d ρ with
    | none => simp only [q] at h; exact h.elim
    | some ρ2 =>
      simp only [q] at h
      refine ⟨F2, ρ, fp, d, ρ2, s2, z, q, fun σ3 fp3 s3 t3 o3 => ?_⟩
      have ew : wipe σ3 vs = wipe σ vs := (o3 vs his).trans (wipe_sub fun _ h => h)
      have h3 := Pst.tr h (t2.trans t3).cons
      have m3 := m2.go t3 s3
      refine ⟨ew, F2, ρ2, fp3, s3, ?_⟩
      cases q1 : t ρ2 with
      | bad => rw [q1] at h3; exact h3.elim
      | exc c x ρ => rw [q1] at h3; exact h3.elim
      | ok b ρ4 =>
        rw [q1] at h3
        intro F4 H4 fp4 t4 s4
        have m4 := m3.go t4 s4
        have h4 := Pst.tr h3 t4.cons
        cases b with
        | false =>
          refine iteF ?_
          obtain ⟨fp5, s5, t5⟩ := StaW.wipe (vs := vs) s4
          rw [ew] at s5
          exact ⟨F4, _, fp5, ks, es, m4.go t5 s5, hz, by simpa [noX_ok, bnd_ok] using Pst.tr h4 t5.cons⟩
        | true =>
          refine iteT ⟨F4, ρ4, fp4, s4, ?_⟩
          have h4' : Pst K w F4 H4 (L :: fp4) σ (bnd (noX (ek ρ4)) fun k ρ3 => bnd (noX (ev ρ3)) fun x ρ4 => match keyD k with
            | some q => if ks.length < sizeLine then dcL g t ek ev vs (ds.drop (i + 1)) (wipeE vs ρ4) (putKs ks q) (putDs ks es q x) else .bad
            | none => .bad) (nO K w σ Q) := by simpa [noX_ok, bnd_ok] using h4
          cases q2 : ek ρ4 with
          | bad => rw [q2] at h4'; exact h4'.elim
          | exc c x ρ => rw [q2] at h4'; exact h4'.elim
          | ok dk ρ5 =>
            rw [q2] at h4'
            intro F5 H5 fp5 t5 vk s5 zk
            have m5 := m4.go t5 s5
            have h5 := Pst.tr h4' t5.cons
            refine ⟨F5, ρ5, fp5, s5, ?_⟩
            have h5' : Pst K w F5 H5 (L :: fp5) σ (bnd (noX (ev ρ5)) fun x ρ4 => match keyD dk with
              | some q => if ks.length < sizeLine then dcL g t ek ev vs (ds.drop (i + 1)) (wipeE vs ρ4) (putKs ks q) (putDs ks es q x) else .bad
              | none => .bad) (nO K w σ Q) := by simpa [noX_ok, bnd_ok] using h5
            cases q3 : ev ρ5 with
            | bad => rw [q3] at h5'; exact h5'.elim
            | exc c x ρ => rw [q3] at h5'; exact h5'.elim
            | ok dx ρ6 =>
              rw [q3] at h5'
              intro F6 H6 fp6 t6 vx s6 zx
              have m6 := m5.go t6 s6
              have h6 := Pst.tr h5' t6.cons
              obtain ⟨fp7, s7, t7⟩ := StaW.wipe (vs := vs) s6
              rw [ew] at s7
              have m7 := m6.go t7 s7
              have h7 := Pst.tr h6 t7.cons
              cases q4 : keyD dk with
              | none => exact (show False by simpa [bnd, noX, q4, Pst] using h7).elim
              | some q =>
                by_cases hl : ks.length < sizeLine
                · obtain ⟨kvs, e1, e2, m8, t8⟩ := m7.app (q := q) zx (keyL_of zk q4)
                  refine ⟨kvs, q, keyD_rel zk q4, e1, by rw [e2]; exact hl, F6, _, fp7, _, _, m8, putKs_le hl, ?_⟩
                  have h8 := Pst.tr h7 t8
                  simpa [bnd, noX, q4, hl] using h8
                · exact (show False by simpa [bnd, noX, q4, hl, Pst] using h7).elim
  · have e : i = ds.length := by omega
    subst e
    rw [List.drop_length] at h
    have mu : MkD K w F1 F H L σ ρ fp ks es := ⟨StaW.unwipe m.s, m.ex, m.nf, m.nF, m.kl, m.at_⟩
    exact .inl ⟨I.stop H (m.ex.trans m.s.ex), h F H (L :: fp) .refl (.ref L) (mu.done hz)⟩
theorem dcL_quiet : ∀ (ds : List D) (ρ : En) (ks : List Key) (es : List D), quiet (dcL g t ek ev vs ds ρ ks es)
  | [], ρ, ks, es => trivial
  | d :: ds, ρ, ks, es => by
    unfold dcL
    cases g d ρ with
    | none => trivial
    | some ρ1 =>
      dsimp only
      cases h : t ρ1 with
      | bad => trivial
      | exc c x ρ => trivial
      | ok b ρ2 =>
        cases b with
        | false => simpa [noX, bnd] using dcL_quiet ds _ ks es
        | true =>
          cases h2 : ek ρ2 with
          | bad => simp [noX, bnd, h2, quiet]
          | exc c x ρ => simp [noX, bnd, h2, quiet]
          | ok k ρ3 =>
            cases h3 : ev ρ3 with
            | bad => simp [noX, bnd, h2, h3, quiet]
            | exc c x ρ => simp [noX, bnd, h2, h3, quiet]
            | ok x ρ4 =>
              simp only [noX, bnd, h2, h3, if_true]
              split
              · split
                · exact dcL_quiet ds _ _ _
                · trivial
              · trivial
end
section
variable {X : Cx} {w : Wd} {tg iter kx vx : Expr} {ifs : List Expr} {scope : Scope} {is : List Nat} {g : D → En → Option En} {t : En → R Bool} {ek ev : En → R D} {src : List Key → List D → List D} {srcL : En → R (List D)} {pos : Pos}
def sDc (src : En → R (List D)) (g : D → En → Option En) (t : En → R Bool) (ek ev : En → R D) (vs : List Nat) : En → R D := fun ρ => bnd (src ρ) fun ds ρ1 => dcL g t ek ev vs ds (wipeE vs ρ1) [] []
def sDcD (i : Nat) (src : List Key → List D → List D) (g : D → En → Option En) (t : En → R Bool) (ek ev : En → R D) (vs : List Nat) : En → R D := sDct i fun ks ds ρ => dcL g t ek ev vs (src ks ds) (wipeE vs ρ) [] []
theorem d_dc (own : List (Str × Nat)) (hc : X.calm = true) (hN : X.N.Nodup) (hi : PI X tg iter (cI X.K w srcL)) (ok : BlkOk X.N X.env.scope scope own) (his : ∀ i ∈ is, i ∈ own.map (·.2))
    (hg : ∀ (s : Shared) (H : Hp) (C : Addr) (cl : List (Str × Addr)) (fp : List Addr), PG (X.blk s H scope (compEnvC scope cl C X.env) fp) tg (cG X.K w.in1 is g)) (ht : ∀ (s : Shared) (H : Hp) (C : Addr) (cl : List (Str × Addr)) (fp : List Addr), PTs (X.blk s H scope (compEnvC scope cl C X.env) fp) ifs (cT X.K w.in1 t))
    (hk : ∀ (s : Shared) (H : Hp) (C : Addr) (cl : List (Str × Addr)) (fp : List Addr), PE (X.blk s H scope (compEnvC scope cl C X.env) fp) kx (cF X.K w.in1 ek))
    (he : ∀ (s : Shared) (H : Hp) (C : Addr) (cl : List (Str × Addr)) (fp : List Addr), PE (X.blk s H scope (compEnvC scope cl C X.env) fp) vx (cF X.K w.in1 ev)) (hs : ∀ x, foldedSetIterable iter X.env x = pure x := by intro _; rfl) :
    PE X (.DictComp kx vx [⟨tg, iter, ifs, 0⟩] scope pos) (cO X.K w (sDc srcL g t ek ev (own.map (·.2)))) :=
  peI (pe_dc hc hN hi ok hg ht hk he hs) fun σ H Q h => by
    obtain ⟨F, ρ, fp, s, h⟩ := h
    exact ⟨F, ρ, fp, s, h.bnd fun ds ρ1 F1 H1 fp1 t1 h1 => fun J s1 I => dc_body his s1 I h1⟩
theorem d_dcD (i : Nat) (own : List (Str × Nat)) (hc : X.calm = true) (hN : X.N.Nodup) (hi : WkD X tg iter i src) (ok : BlkOk X.N X.env.scope scope own) (his : ∀ i ∈ is, i ∈ own.map (·.2))
    (hg : ∀ (s : Shared) (H : Hp) (C : Addr) (cl : List (Str × Addr)) (fp : List Addr), PG (X.blk s H scope (compEnvC scope cl C X.env) fp) tg (cG X.K w.in1 is g)) (ht : ∀ (s : Shared) (H : Hp) (C : Addr) (cl : List (Str × Addr)) (fp : List Addr), PTs (X.blk s H scope (compEnvC scope cl C X.env) fp) ifs (cT X.K w.in1 t))
    (hk : ∀ (s : Shared) (H : Hp) (C : Addr) (cl : List (Str × Addr)) (fp : List Addr), PE (X.blk s H scope (compEnvC scope cl C X.env) fp) kx (cF X.K w.in1 ek))
    (he : ∀ (s : Shared) (H : Hp) (C : Addr) (cl : List (Str × Addr)) (fp : List Addr), PE (X.blk s H scope (compEnvC scope cl C X.env) fp) vx (cF X.K w.in1 ev)) (hs : ∀ x, foldedSetIterable iter X.env x = pure x := by intro _; rfl) :
    PE X (.DictComp kx vx [⟨tg, iter, ifs, 0⟩] scope pos) (cO X.K w (sDcD i src g t ek ev (own.map (·.2)))) := by
  obtain ⟨wi, pw, run⟩ := hi
  have P := pe_dc (pos := pos) hc hN pw ok hg ht hk he hs
  refine peI (pe_or2 (pe_lock P) P) fun σ H Q h => ?_
  obtain ⟨F, ρ, fp, s, h⟩ := h
  refine dct_lock s h (fun ks ds ρ => dcL_quiet _ _ _ _) fun F H ρ fp a o ks vs ds Q s hl hlen hk hz h => ?_
  exact run σ F H a o ks vs ds _ hl hlen hk s.ex hz fun J I => dc_body his s I h
end
end Y

set_option Elab.async false
set_option linter.all false
set_option maxRecDepth 100000
set_option maxHeartbeats 2000000
/-! A name that changes, read on the left of ==, !=, by isinstance; room; what calls itself. -/
namespace Y
open PySem PySem.Spec L2
theorem r64 {k : Nat} {A : Around} (r : Room k A) : A.units + 64 < cLine := by have := r.un; omega
theorem r65 {k : Nat} {A : Around} (r : Room k A) : A.units + 65 < cLine := by have := r.un; omega
theorem r69 {k : Nat} {A : Around} (r : Room k A) : A.units + 69 < cLine := by have := r.un; omega
theorem r1 {k : Nat} {A : Around} (r : Room k A) : A.units + 1 < cLine := by have := r.un; omega
def RTB (K : PySem.W.Frag) (r : R2) (g : D → D → Option Bool) : Prop := ∀ F H x y dx dy b Q, Same F H → Bz K F H x dx → Bz K F H y dy → g dx dy = some b → Q (.bl b) H → r x y H Q
section
variable {K : PySem.W.Frag}
theorem rtb_eq : RTB K (rEqD K) dEq := by
  intro F H x y dx dy b Q ex zx zy e q
  unfold dEq at e
  split at e
  · rename_i c
    cases e
    exact ⟨_, _, zx.dp ex (okD_of c.1), zy.dp ex (okD_of c.2), shaped_ok c.1, shaped_ok c.2, q⟩
  · cases e
theorem rtb_ne : RTB K (rNeD K) dNe := by
  intro F H x y dx dy b Q ex zx zy e q
  unfold dNe at e
  split at e
  · rename_i c
    cases e
    exact ⟨_, _, zx.dp ex (okD_of c.1), zy.dp ex (okD_of c.2), shaped_ok c.1, shaped_ok c.2, q⟩
  · cases e
end
section
variable {X : Cx} {w : Wd} {b : Expr} {fb : En → R D} {pos p : Pos} {x : Str} {r : R2} {g : D → D → Option Bool} {op : CmpOp}
/-- x op e, x a name that changes -/
def sCmpV {α : Type} (i : Nat) (g : D → D → Option α) (fb : En → R D) : En → R α := fun ρ => bnd (sBor i ρ) fun _ _ => bnd (fb ρ) fun y ρ1 => bnd (sBor i ρ1) fun x ρ2 => lift (g x y) ρ2
theorem twoV {K : PySem.W.Frag} {r : R2} {α : Type} {g : D → D → Option α} {σ : St} {H : Hp} {Q : VK} {N : α → En → Hp → Hp → List Addr → Prop} (i : Nat) (h : ∃ F ρ fp, StaW K w F H σ ρ fp ∧ Pst K w F H fp σ (sCmpV i g fb ρ) N)
    (k : ∀ F H x y dx dy d ρ fp, StaW K w F H σ ρ fp → Bz K F H x dx → Fz K F y dy → g dx dy = some d → (∀ F' H' fp', Tr F H fp F' H' fp' → N d ρ F' H' fp') → r x y H Q) : tOp r (tVar i) (cF K w fb) σ H Q := by
  obtain ⟨F, ρ, fp, s, h⟩ := h
  unfold sCmpV at h
  obtain ⟨d0, v, _, ev, _, h⟩ := sBor_ok s h
  refine ⟨v, ev, F, ρ, fp, s, h.bnd fun dy ρ1 F1 H1 fp1 t1 h1 => fun y s1 zy => ?_⟩
  obtain ⟨d, v', _, e1, z, h2⟩ := sBor_ok s1 h1
  rw [ev] at e1
  cases e1
  obtain ⟨d', e, n⟩ := h2.lift
  exact k F1 H1 v y d dy d' ρ1 fp1 s1 z zy e n
theorem d_cmpV (i : Nat) (ho : OpR X (compareOp op) r) (hr : RTB X.K r g) (hb : PE X b (cF X.K w fb)) (hm : behindInMarks op b = false) (hN : X.N[i]? = some x := by rfl) (hv : Vis X.env.scope x := by first | exact Or.inl rfl | exact Or.inr (Or.inl rfl) | exact Or.inr (Or.inr rfl)) (hd : (x == ("__debug__" : Str)) = false := by decide) (hcd : (x == ("__classdict__" : Str)) = false := by decide) :
    PE X (.Compare (.Name x p) [op] [b] pos) (cF X.K w (sCmpV i (fun x y => (g x y).map D.bl) fb)) :=
  peI (pe_cmpR ho (pe_var hN hv hd hcd) hb hm) fun σ H Q h => twoV (N := nF X.K w σ Q) i h fun F H x y dx dy d ρ fp s zx zy e n => by
    obtain ⟨b, e1, rfl⟩ := Option.map_eq_some_iff.mp e
    exact hr F H x y dx dy b Q s.ex zx (.fz zy) e1 (n F H fp .refl _ s (.bl b))
theorem t_cmpV (i : Nat) (ho : OpR X (compareOp op) r) (hr : RTB X.K r g) (hb : PE X b (cF X.K w fb)) (hm : behindInMarks op b = false) (hN : X.N[i]? = some x := by rfl) (hv : Vis X.env.scope x := by first | exact Or.inl rfl | exact Or.inr (Or.inl rfl) | exact Or.inr (Or.inr rfl)) (hd : (x == ("__debug__" : Str)) = false := by decide) (hcd : (x == ("__classdict__" : Str)) = false := by decide) :
    PT X (.Compare (.Name x p) [op] [b] pos) (cT X.K w (sCmpV i g fb)) :=
  ptI (pt_cmpR ho (pe_var hN hv hd hcd) hb hm) fun σ H Q h => twoV (N := nT X.K w σ Q) i h fun F H x y dx dy b ρ fp s zx zy e n => hr F H x y dx dy b _ s.ex zx (.fz zy) e ⟨b, rfl, n F H fp .refl s⟩
/-- isinstance(x, T), x a name that changes -/
def sIsiV (i : Nat) (T : String) : En → R D := fun ρ => bnd (sBor i ρ) fun d ρ1 => lift ((isTy d (.ty T)).map D.bl) ρ1
theorem d_isiV (i : Nat) {y z : Str} {T : String} {p1 p2 p3 : Pos} (hg : Gl X y) (hm : X.mg y = none) (hg2 : Gl X z) (hm2 : X.mg z = none) (hv2 : bootBuiltins z = some (.type T)) (hbv : bootBuiltins y = some (.builtin "isinstance")) (hN : X.N[i]? = some x := by rfl) (hv : Vis X.env.scope x := by first | exact Or.inl rfl | exact Or.inr (Or.inl rfl) | exact Or.inr (Or.inr rfl)) (hd : (x == ("__debug__" : Str)) = false := by decide) (hcd : (x == ("__classdict__" : Str)) = false := by decide)
    (hn : y ≠ "__name__" := by decide) (hn2 : z ≠ "__name__" := by decide) (hd1 : (y == ("__debug__" : Str)) = false := by decide) (hd2 : (z == ("__debug__" : Str)) = false := by decide)
    (hs : starEach [.Name x p1, .Name z p2] X.env = (false, eval (.Name x p1) X.env) :: starEach [.Name z p2] X.env := by rfl) (hs2 : starEach [.Name z p2] X.env = (false, eval (.Name z p2) X.env) :: starEach [] X.env := by rfl) (hpl : (backTo pos (starEach [.Name z p2] X.env)).any (·.1) = false := by rfl) :
    PE X (.Call (.Name y p3) [.Name x p1, .Name z p2] [] pos) (cF X.K w (sIsiV i T)) :=
  peI (pe_callB cr_isi hg hm hbv (pa_cons (pe_var hN hv hd hcd) (pa_cons (pe_bltn (v := .ty T) hg2 hm2 hv2 rfl hn2 hd2) pa_nil hs2) hs) hn hd1 hs hpl) fun σ H Q h => by
    obtain ⟨F, ρ, fp, s, h⟩ := h
    unfold sIsiV at h
    obtain ⟨d, v, _, ev, z, h⟩ := sBor_ok s h
    obtain ⟨r, e, n⟩ := h.lift
    obtain ⟨b, e1, rfl⟩ := Option.map_eq_some_iff.mp e
    unfold isTy at e1
    split at e1
    · rename_i t T' ht hT
      cases hT
      exact ⟨v, ev, .inl ⟨_, _, _, _, b, rfl, .ty T, z.tyx s.ex ht, kit_ty (isA_kit ht e1), n F H fp .refl _ s (.bl _)⟩⟩
    · cases e1
end
/-- +, of lists too -/
def dPlus : D → D → Option D
  | .nd .lst a, .nd .lst b => dCat (.nd .lst a) (.nd .lst b)
  | a, b => dAdd a b
def rPlusA (K : PySem.W.Frag) : R2 := fun x y H Q => rPlus K x y H Q ∨ rCat x y H Q
theorem op_plusA {X : Cx} : OpR X (binaryOp .Add) (rPlusA X.K) := op_plus.or op_cat
theorem rb_plusA {K : PySem.W.Frag} : RB K (rPlusA K) dPlus := by
  intro F H x y dx dy d Q ex zx zy e old new
  unfold dPlus at e
  split at e
  · exact .inr (rn_cat F H x y _ _ d Q ex zx zy e fun p k vs ds ho h1 _ h2 h3 h4 => new p k vs ds ho h1 h2 h3 h4)
  · exact .inl (rb_plus F H x y _ _ d Q ex zx zy e old new)
/-- a def of which nothing is asked -/
theorem mkDef0 {P : Program} {w : World} {K : PySem.W.Frag} {mg : Str → Option Value} {base : Heap} {x : Str} {st : Stmt} {f : Addr} {fd : FuncData} {N ps : List Str} {k np n : Nat} {cls : Str → Value} {io lk0 : Bool} {fs : List D → FO} (F : Fun K x x st f fd) (hm : mg x = some (.ref f)) (b : Binds K fd ps []) (S : FnScope N ps (defScope st)) (hf : ∀ ds, fs ds = .bad) (hp : ps.length = np := by rfl) : Def P w K mg base CX0 (k + 1) x cls io lk0 np fs := by
  refine ⟨⟨f, fd, ps, F.ok S (fun vs H Q E h => h.1.trans hp.symm) (fun cdv A outer s H vs Q E hr h => ?_), hm, F.kp, b⟩, fun ds _ => hf ds⟩
  obtain ⟨hl, G, fp, ds, lk, β, hlk, hio, st', h⟩ := h
  rw [hf] at h
  exact h.elim
end Y

set_option Elab.async false
set_option linter.all false
set_option maxRecDepth 100000
set_option maxHeartbeats 2000000
/-! The law's own head. -/
namespace Y
open PySem PySem.Spec PyProof.Rows L2
section
variable {P : Program} {w : World} {K : PySem.W.Frag} {mg : Str → Option Value} {base : Heap}
theorem mkFn {x : Str} {st : Stmt} {f : Addr} {fd : FuncData} {N ps : List Str} {k np n : Nat} {cls : Str → Value} {io lk0 : Bool} {m : En → R Fl} (F : Fun K x x st f fd) (S : FnScope N ps (defScope st)) (hn : N.length = n := by rfl) (hp : ps.length = np := by rfl)
    (body : ∀ (cdv : Value) (A : Around) (outer : List Env) (s : Shared) (H : Hp) (E : XK) (W : Wd), Room k (A.deeper (envOfC x (defScope st) s.heap.objs.size f cdv)) → (W.lk = true → lk0 = true) → W.cls = cls → PSs (cxOf CX0 P w K mg base N x (defScope st) f cdv A outer s H E).nox (defBody st) (cS K W m)) : FnOk P w K mg base CX0 (k + 1) f fd ps (spF K cls io lk0 np (runF io np n m)) := by
  refine F.ok S (fun vs H Q E h => h.1.trans hp.symm) (fun cdv A outer s H vs Q E hr h => ?_)
  obtain ⟨hl, G, fp, ds, lk, β, hlk, hio, st', h⟩ := h
  refine ⟨_, body cdv A outer s H E ⟨β, lk, cls, fun c dd _ H => E c dd H⟩ hr hlk rfl, ?_⟩
  subst hn
  exact body_ok (w := ⟨β, lk, cls, fun c dd _ H => E c dd H⟩) rfl st' hl h
end
theorem fz_ints {K : PySem.W.Frag} {F : Hp} : ∀ ns : List Int, Fzs K F (ns.map V.int) (ns.map D.int)
  | [] => .nil
  | n :: ns => .cons (.int n) (fz_ints ns)
def noCls : Str → Value := fun _ => .none
theorem end_law {K : PySem.W.Frag} {fs : List D → FO} {H : Hp} {a : Addr} {ns : List Int} (hl : ns.length ≤ 63) (hS : SqL K H a (ns.map V.int)) (h : fs [.nd .scr (ns.map D.int)] = .val false (.bl true) none) : spF K noCls false true 1 fs [.ref a] H (fun v _ => v = .bl true) (fun _ _ _ => False) := by
  have z : Fz K H (.ref a) (.nd .scr (ns.map D.int)) := .nd ⟨hS, by rw [List.length_map]; exact Nat.le_trans hl (by decide)⟩ (fz_ints ns)
  refine ⟨rfl, H, [], [.nd .scr (ns.map D.int)], true, .non, fun _ => rfl, (fun q => nomatch q), ⟨Same.refl _, .fr z .nil, List.nodup_nil, fun a ha => (by cases ha), fun _ => trivial⟩, ?_⟩
  rw [h]
  intro v F' H' fp' t s
  cases hs : s.sl with
  | fr z tl => exact z.bl_inv
theorem walk {fs : List D → FO} {k : Nat} {l : PySem.W.OpenLaw} {q : Program} {loose : List Str} {XP : (Str → Option Value) → Heap → Prop} {YP : World → Heap → Prop} {d : DefRec} {K : Params → PySem.W.Frag} (hk : Room k callerA) (hn : l.most = some 63) (hdf : d.params.defaults = [])
    (hfs : ∀ ns : List Int, ns.length ≤ 63 → fs [.nd .scr (ns.map D.int)] = .val false (.bl true) none)
    (hY : ∀ (w : World) (h : Heap), YP w h → (K w.params).In h)
    (F : ∀ (w : World) (mg : Str → Option Value) (fa : Addr) (h : Heap), (K w.params).In h → h.Ns mainGlobals mg → mg d.name = some (.ref fa) →
      ∃ fd : FuncData, (∀ (s : Shared) (u : Value), BindsTo s fd ⟨[u], []⟩ [("script", u)]) ∧ ∀ base : Heap, (K w.params).In base → base.Ns mainGlobals mg → FnOk l.prog w (K w.params) mg base CX0 k fa fd ["script"] (spF (K w.params) noCls false true 1 fs)) :
    PySem.W.WalkO q loose XP YP l.row.toRowW d [] (fun f vs => PySem.call f vs) :=
  L2.walk_ofK (n := 63) (k := k) (x := "script") (CX := CX0) (sp := fun K => spF K noCls false true 1 fs) hn (by decide) hdf hk hY F (fun K H a ns hl _ hS => end_law hl hS (hfs ns hl)) fun _ _ _ _ z => z
end Y

set_option Elab.async false
set_option linter.all false
set_option maxRecDepth 100000
set_option maxHeartbeats 2000000
/-! x += i; lists and tuples repeated; a, b = x, y of names that are used within; dicts with tuple keys: list, sorted. -/
namespace Y
open PySem PySem.Spec PyProof.Rows L2 PySem.W

/-! ### x += e, whole numbers -/
def dPlusI : D → D → Option D
  | .int a, .int b => some (.int (a + b))
  | _, _ => none
section
variable {X : Cx} {w : Wd} {e : Expr} {f : En → R D} {pos pos' : Pos} {x : Str}
theorem s_augI (i : Nat) (he : PE X e (cF X.K w f)) (hN : X.N.Nodup) (hi : X.N[i]? = some x := by rfl) (hx : Loc X.env.scope x := by first | exact Or.inl rfl | exact Or.inr rfl)
    (hf : X.fn x = true ∨ X.env.scope.names.lookup x = some .local := by first | exact .inl rfl | exact .inr rfl) : PS X (.AugAssign (.Name x pos') .Add e pos) (cS X.K w (sSet i (sBin dPlusI (sVar i) f))) := psI (ps_aug hN hi hx he ip_add hf) fun D σ H h => by
  obtain ⟨F, ρ, fp, s, h⟩ := h
  unfold sSet sBin sVar at h
  cases q : ρ[i]? with
  | none => simp only [q, bnd] at h; exact h.elim
  | some o =>
    cases o with
    | none => simp only [q, bnd] at h; exact h.elim
    | some c =>
      cases c with
      | o d => simp only [q, bnd] at h; exact h.elim
      | b d => simp only [q, bnd] at h; exact h.elim
      | f d =>
        obtain ⟨v, e1, z⟩ := s.sl.getF q
        simp only [q] at h
        have h' : PstS X.K w F H fp (bnd (f ρ) fun y ρ2 => bnd (lift (dPlusI d y) ρ2) fun d ρ1 => .ok .nx (ρ1.set i (some (.f d)))) D := by
          cases q2 : f ρ with
          | ok y ρ2 => simp only [bnd, q2] at h ⊢; exact h
          | exc c x ρ2 => simp only [bnd, q2] at h ⊢; exact h
          | bad => simp only [bnd, q2] at h; exact h.elim
        refine ⟨v, e1, F, ρ, fp, s, PstS.bnd (e := f ρ) h' fun y ρ1 F1 H1 fp1 t1 h1 => fun u s1 zu => ?_⟩
        cases q3 : dPlusI d y with
        | none => rw [q3] at h1; exact h1.elim
        | some r =>
          rw [q3] at h1
          unfold dPlusI at q3
          split at q3
          · cases q3
            obtain ⟨fp2, s2, t2⟩ := s1.store (.int _) i
            exact ⟨_, _, z.int_inv, zu.int_inv, h1 _ F1 H1 fp2 t2 s2⟩
          · cases q3
end

/-! ### repeated -/
def dRep : D → D → Option D
  | .nd .lst ds, .int k => if -(2 ^ 63) ≤ k ∧ k < 2 ^ 63 ∧ ds.length * k.toNat ≤ sizeLine then some (.nd .lst (List.replicate k.toNat ds).flatten) else none
  | .nd .tup ds, .int k => if ds ≠ [] ∧ 2 ≤ k ∧ k ≤ 1000 ∧ ds.length ≤ 1000 then some (.nd .tup (List.replicate k.toNat ds).flatten) else none
  | _, _ => none
theorem fzs_rep {K : PySem.W.Frag} {F : Hp} {vs : List V} {ds : List D} (h : Fzs K F vs ds) : ∀ n : Nat, Fzs K F (List.replicate n vs).flatten (List.replicate n ds).flatten
  | 0 => .nil
  | n + 1 => by
    rw [List.replicate_succ, List.replicate_succ, List.flatten_cons, List.flatten_cons]
    exact h.append (fzs_rep h n)
theorem len_rep {α : Type} (l : List α) : ∀ n : Nat, (List.replicate n l).flatten.length = l.length * n
  | 0 => by simp
  | n + 1 => by rw [List.replicate_succ, List.flatten_cons, List.length_append, len_rep l n, Nat.mul_succ, Nat.add_comm]
def rRepA (K : PySem.W.Frag) : R2 := fun x y H Q => rRep x y H Q ∨ rRepT K x y H Q
theorem op_repA {X : Cx} : OpR X (binaryOp .Mult) (rRepA X.K) := op_rep.or op_repT
theorem rb_rep {K : PySem.W.Frag} : RB K (rRepA K) dRep := by
  intro F H x y dx dy d Q ex zx zy e old new
  unfold dRep at e
  split at e
  · split at e
    · rename_i ds k c
      cases e
      obtain ⟨a, vs, rfl, hi, hs⟩ := zx.node
      have hl := hs.length
      have c' : vs.length * k.toNat ≤ sizeLine := by rw [hl]; exact c.2.2
      exact .inl ⟨a, k, vs, rfl, zy.int_inv, ex _ _ hi.1, c.1, c.2.1, c', fun p hp => new p .lst _ _ _ rfl hp (if_pos (by rw [len_rep]; exact c')) (fzs_rep hs _)⟩
    · cases e
  · split at e
    · rename_i ds k c
      cases e
      obtain ⟨a, vs, rfl, hi, hs⟩ := zx.node
      have hl := hs.length
      have hz : (List.replicate k.toNat vs).flatten.length ≤ sizeLine := by
        rw [len_rep]
        have h1 : vs.length ≤ 1000 := by rw [hl]; exact c.2.2.2
        have h2 : k.toNat ≤ 1000 := by omega
        exact Nat.le_trans (Nat.mul_le_mul h1 h2) (by decide)
      exact .inr ⟨a, k, vs, rfl, zy.int_inv, SqT.of (ex _ _ hi.1), fun q => c.1 (List.eq_nil_of_length_eq_zero (by rw [← hl, q]; rfl)), c.2.1, c.2.2.1, by rw [hl]; exact c.2.2.2, fun p hp => new p .tup _ _ _ rfl hp (if_pos hz) (fzs_rep hs _)⟩
    · cases e
  · cases e

/-! ### a, b = x, y, where a, b are used within -/
section
variable {X : Cx} {w : Wd} {fs : En → R (List S)} {pos : Pos}
theorem s_parC2 (i j : Nat) {x y : Str} {a b : Expr} {px py pt : Pos} {kt k2 pt2} (hc : X.calm = true) (hN : X.N.Nodup) (ha : PA X [a, b] (cS2 X.K w fs)) (hi : X.N[i]? = some x := by rfl) (hj : X.N[j]? = some y := by rfl)
    (hx : Loc X.env.scope x := by first | exact Or.inl rfl | exact Or.inr rfl) (hy : Loc X.env.scope y := by first | exact Or.inl rfl | exact Or.inr rfl)
    (fx : X.fn x = true ∨ X.env.scope.names.lookup x = some .local := by first | exact .inl rfl | exact .inr rfl) (fy : X.fn y = true ∨ X.env.scope.names.lookup y = some .local := by first | exact .inl rfl | exact .inr rfl)
    (h2 : (assignEach [.Name y py] X.env).map (·.2) = assign (.Name y py) X.env :: (assignEach [] X.env).map (·.2) := by rfl) (h3 : (assignEach [.Name x px, .Name y py] X.env).map (·.2) = assign (.Name x px) X.env :: (assignEach [.Name y py] X.env).map (·.2) := by rfl)
    (hn : (assignEach [.Name x px, .Name y py] X.env).length = 2 := by rfl) (hst : (assignEach [.Name x px, .Name y py] X.env).findIdx? (·.1) = none := by rfl)
    (hs : swapsWithSole [.Tuple [.Name x px, .Name y py] kt pt] (.Tuple [a, b] k2 pt2) pos.line X.env = pure false := by rfl)
    (hw : swappedStores [.Tuple [.Name x px, .Name y py] kt pt] (.Tuple [a, b] k2 pt2) X.env = pure none := by rfl)
    (h1 : (assignEach [.Tuple [.Name x px, .Name y py] kt pt] X.env).map (·.2) = [assign (.Tuple [.Name x px, .Name y py] kt pt) X.env] := by rfl) :
    PS X (.Assign [.Tuple [.Name x px, .Name y py] kt pt] (.Tuple [a, b] k2 pt2) pos) (cS X.K w (sPar2 i j fs)) :=
  psI (ps_asg (pe_tup ha) (pg_tup hc (pgs_cons (pg_name hN hi hx fx) (pgs_cons (pg_name hN hj hy fy) pgs_nil h2) h3) hn hst) hs hw h1) fun D σ H h => by
  obtain ⟨F, ρ, fp, s, h⟩ := h
  refine ⟨F, ρ, fp, s, PstS.bnd (e := fs ρ) h fun ss ρ1 F1 H1 fp1 t1 h1 => fun vs s1 hl => ?_⟩
  match ss, vs, hl with
  | [x, y], [v, u], _ =>
    dsimp only at h1
    split at h1
    · rename_i c
      refine ⟨show 2 ≤ sizeLine by decide, fun p hp => ⟨p, [v, u], rfl, SqT.of upd_same, rfl, ?_⟩⟩
      obtain ⟨s0, t0⟩ := Sta.ghost (o := .tup [v, u]) s1 hp
      obtain ⟨fp2, s2, t2⟩ := Sta.storeS s0 (noB_ne c.1) (i + 1)
      obtain ⟨fp3, s3, t3⟩ := Sta.storeS s2 (noB_ne c.2) j
      exact ⟨v, [u], rfl, u, [], rfl, rfl, h1 _ F1 _ fp3 (t0.trans (t2.trans t3)) s3⟩
    · exact h1.elim
  | [], _, _ => exact h1.elim
  | [_], _, _ => exact h1.elim
  | _ :: _ :: _ :: _, _, _ => exact h1.elim
end

/-! ### the keys of a dict with tuple keys -/
def kT (k : List Key) : D := .nd .tup (k.map kD)
/-- tuples may be frozen at any time -/
theorem Sta.tups {K : PySem.W.Frag} {β : V} {lk : Bool} {F H : Hp} {fp : List Addr} {σ : L2.St} {ρ : En} (s : Sta K β lk F H σ ρ fp) (bs : List Addr) (h : ∀ b ∈ bs, IsTp H b) :
    ∃ F', Sta K β lk F' H σ ρ fp ∧ Tr F H fp F' H fp ∧ ∀ b ∈ bs, F' b = H b := by
  have ex : Same F fun b => if b ∈ bs then H b else F b := fun b o e => by
    show (if b ∈ bs then H b else F b) = some o
    split
    · exact s.ex b o e
    · exact e
  refine ⟨fun b => if b ∈ bs then H b else F b, ⟨fun b o e => ?_, s.sl.frame ex fun _ _ _ e => e, s.nd, fun a ha => ?_, fun _ => trivial⟩, ⟨ex, fun _ _ e _ => e, fun a q => ?_⟩, fun b m => if_pos m⟩
  · have e' : (if b ∈ bs then H b else F b) = some o := e
    split at e'
    · exact e'
    · exact s.ex b o e'
  · show (if a ∈ bs then H a else F a) = none
    rw [if_neg fun m => s.sl.fpT a ha (h a m)]
    exact s.own a ha
  · rcases q with q | ⟨q1, q2, q3⟩
    · exact .inl q
    · have q2' : (if a ∈ bs then H a else F a) ≠ none := q2
      split at q2'
      · rename_i m; exact absurd (h a m) q3
      · exact absurd q1 q2'
theorem isKeys_tp {H : Hp} : ∀ {kvs : List (List Key × V)} {bs : List Addr}, IsKeys H kvs bs → ∀ b ∈ bs, IsTp H b
  | _, _, .nil, b, m => by cases m
  | _, _, .cons h t, b, m => by
    rcases List.mem_cons.mp m with e | m
    · rw [e]; exact ⟨_, h⟩
    · exact isKeys_tp t b m
theorem isKeys_len {H : Hp} {kvs : List (List Key × V)} {bs : List Addr} (h : IsKeys H kvs bs) : bs.length = kvs.length := (Paired.length h).symm
theorem isKeys_fz {K : PySem.W.Frag} {F H : Hp} : ∀ {kvs : List (List Key × V)} {bs : List Addr}, IsKeys H kvs bs → keyssL (kvs.map (·.1)) = true → (∀ b ∈ bs, F b = H b) → Fzs K F (bs.map V.ref) ((kvs.map (·.1)).map kT)
  | _, _, .nil, _, _ => .nil
  | _, _, .cons (a := p) (b := b) h t, l, e => by
    have l' := (Bool.and_eq_true _ _).mp (show (keyLL p.1 && keyssL (List.map (fun q : List Key × V => q.1) _)) = true from l)
    have l2 : keysL p.1 = true ∧ p.1.length ≤ sizeLine := by simpa [keyLL] using l'.1
    exact .cons (.nd ⟨(e b List.mem_cons_self).trans h, by rw [List.length_map]; exact l2.2⟩ (fz_keys l2.1)) (isKeys_fz t l'.2 fun c m => e c (List.mem_cons_of_mem _ m))
theorem zip_fst {α β : Type} : ∀ {ks : List α} {vs : List β}, ks.length = vs.length → (ks.zip vs).map (·.1) = ks
  | [], [], _ => rfl
  | k :: ks, v :: vs, e => by rw [List.zip_cons_cons, List.map_cons, zip_fst (by simpa using e)]
  | [], _ :: _, e => by simp at e
  | _ :: _, [], e => by simp at e
def dListT : D → Option D
  | .nd (.dT ks) _ => some (.nd .lst (ks.map kT))
  | _ => none
section
variable {X : Cx} {w : Wd} {e : Expr} {fa : En → R D} {x : Str} {p pos : Pos}
theorem d_listT (hc : X.calm = true) (hg : Gl X x) (hm : X.mg x = none) (hv : bootBuiltins x = some (.type "list")) (ha : PE X e (cB X.K w fa)) (hn : x ≠ "__name__" := by decide) (hd : (x == ("__debug__" : Str)) = false := by decide)
    (hs : starEach [e] X.env = (false, eval e X.env) :: starEach [] X.env := by rfl) (hpl : (backTo pos (starEach [] X.env)).any (·.1) = false := by rfl) : PE X (.Call (.Name x p) [e] [] pos) (cO X.K w (s1 dListT fa)) :=
  peI (pe_callTy (call_list_dT hc) hg hm hv (pa_cons ha pa_nil hs) hn hd hs hpl) fun σ H Q h => tB1 h fun F H v dx d ρ fp s z e n => by
    unfold dListT at e
    split at e
    · rename_i ks ds
      cases e
      obtain ⟨a, vs, rfl, hi, hz⟩ := z.node s.ex
      refine ⟨a, _, rfl, hi.2.1, fun p bs hp hk => ?_⟩
      obtain ⟨F', s', t', hb⟩ := s.tups bs (isKeys_tp hk)
      have z1 := isKeys_fz (K := X.K) hk (by rw [zip_fst hi.1]; exact hi.2.2.2) hb
      rw [zip_fst hi.1] at z1
      have hl : (bs.map V.ref).length ≤ sizeLine := by rw [List.length_map, isKeys_len hk, List.length_zip, hi.1, Nat.min_self]; exact hi.2.2.1
      exact fin_newO s' (fun F2 H2 fp2 t2 => n F2 H2 fp2 (t'.trans t2)) p .lst _ _ _ rfl rfl hp (if_pos hl) z1
    · cases e
/-- the keys beside their data -/
abbrev kbT (kvs : List (List Key × V)) (bs : List Addr) : List (V × D) := (bs.map V.ref).zip ((kvs.map (·.1)).map kT)
def rSortedT (K : PySem.W.Frag) : List V → Hp → VK → Prop := fun xs H Q => ∃ a kvs, xs = [V.ref a] ∧ Rd H a (.dT kvs) ∧ (∀ bs, IsKeys H kvs bs → SortOk K H (kbT kvs bs)) ∧
  ∀ bs p, IsKeys H kvs bs → H p = none → Q (.ref p) (upd H p (.lst (((kbT kvs bs).mergeSort (dataLe false pyb)).map (·.1))))
theorem cr_sortedT (hc : X.calm = true) (hu : X.A.units + 69 < cLine) : CallR X (.builtin "sorted") (rSortedT X.K) := by
  intro pins s σ H xs us Q I r h
  obtain ⟨a, kvs, rfl, hd, ok, q⟩ := h
  obtain ⟨u, rfl, rx⟩ := vals1 r
  cases rx
  obtain ⟨z, hs, rows, pr, o, es, ep, ho, hx, hdt, he, hnd⟩ := (show ObjOk X.prog X.w H s.heap a (.dT kvs) from hd.ok I.hok)
  have n1 := size_of_entries he
  have n2 := Paired.length pr
  refine sorted_gath (P := fun l => ∃ bs, IsKeys H kvs bs ∧ l = kbT kvs bs) hu (fun Q' E' gg => ?_) (fun l ⟨bs, k, el⟩ => el ▸ ok bs k) (fun l p ⟨bs, k, el⟩ hp => el ▸ q bs p k hp)
  refine PySem.W.kdu_collect (A := X.A.in1) (kdl_raw hs hx hdt) (I.ok.hd hc) ho (by omega) fun h' tk acc hk hacc => ?_
  have l1 : acc.toList.length = rows.length := by rw [Array.length_toList, hacc.1]; exact n1
  refine gg _ acc.toList _ (I.kept hk) (vals_each (vs := (rows.map fun x => x.2.1).map V.ref) (ds := (kvs.map (·.1)).map kT) (vals_of_at ?_ fun j x u e1 e2 => ?_) ?_) ⟨rows.map fun x => x.2.1, isKeys_of pr, rfl⟩
  · rw [List.length_map, List.length_map]; exact l1.symm
  · obtain ⟨en, g1, g2⟩ := hacc.2 j u (by rw [← Array.getElem?_toList]; exact e2)
    rw [entry_at he j] at g1
    obtain ⟨b, g3, g4⟩ := Option.map_eq_some_iff.mp g1
    rw [List.getElem?_map, List.getElem?_map, g3] at e1
    cases e1
    rw [g2, ← g4]
    rfl
  · simp only [List.length_map]; exact n2.symm
def dSortedT : D → Option D
  | .nd (.dT ks) _ => sortD (ks.map kT)
  | _ => none
theorem d_sortedT (hc : X.calm = true) (hu : X.A.units + 69 < cLine) (hg : Gl X x) (hm : X.mg x = none) (hv : bootBuiltins x = some (.builtin "sorted")) (ha : PE X e (cB X.K w fa)) (hn : x ≠ "__name__" := by decide) (hd : (x == ("__debug__" : Str)) = false := by decide)
    (hs : starEach [e] X.env = (false, eval e X.env) :: starEach [] X.env := by rfl) (hpl : (backTo pos (starEach [] X.env)).any (·.1) = false := by rfl) : PE X (.Call (.Name x p) [e] [] pos) (cO X.K w (s1 dSortedT fa)) :=
  peI (pe_callB (cr_sortedT hc hu) hg hm hv (pa_cons ha pa_nil hs) hn hd hs hpl) fun σ H Q h => tB1 h fun F H v dx d ρ fp s z e n => by
    unfold dSortedT at e
    split at e
    · rename_i ks ds
      unfold sortD at e
      split at e
      · rename_i c
        cases e
        obtain ⟨a, vs, rfl, hi, hz⟩ := z.node s.ex
        have zf := zip_fst hi.1
        have ln : ∀ bs, IsKeys H (ks.zip vs) bs → (bs.map V.ref).length = (((ks.zip vs).map (·.1)).map kT).length := fun bs k => by rw [List.length_map, isKeys_len k, List.length_map, List.length_map]
        have len : ∀ bs, IsKeys H (ks.zip vs) bs → (kbT (ks.zip vs) bs).length ≤ sizeLine := fun bs k => by
          rw [List.length_zip, ln bs k, Nat.min_self, zf]; exact c.2
        have fz : ∀ F' bs, IsKeys H (ks.zip vs) bs → (∀ b ∈ bs, F' b = H b) → ∀ b ∈ kbT (ks.zip vs) bs, Fz X.K F' b.1 b.2 := fun F' bs k hb => fzs_zip (isKeys_fz k (by rw [zf]; exact hi.2.2.2) hb)
        refine ⟨a, _, rfl, hi.2.1, fun bs k => ?_, fun bs p k hp => ?_⟩
        · refine sortOk (Same.refl H) (fz H bs k fun _ _ => rfl) ?_ (len bs k)
          rw [zip_2 (ln bs k), zf]
          exact c.1
        · obtain ⟨F', s', t', hb⟩ := s.tups bs (isKeys_tp k)
          have z1 := fzs_sort (fz F' bs k hb)
          rw [zip_2 (ln bs k), zf] at z1
          exact fin_newO s' (fun F2 H2 fp2 t2 => n F2 H2 fp2 (t'.trans t2)) p .lst _ _ _ rfl rfl hp (if_pos (by rw [List.length_map, List.length_mergeSort]; exact len bs k)) z1
      · cases e
    · cases e
end
end Y

set_option Elab.async false
set_option linter.all false
set_option maxRecDepth 100000
set_option maxHeartbeats 2000000
/-! Dict comprehensions of two fors: one lap of a walk as a step of its own, the two loops from it. -/
namespace Y
open PySem PySem.Spec PyProof.Rows L2
/-- one lap: the next thing, its target, the tests -/
def lap {β : Type} (t : Expr) (ts : List Expr) (it : Value) (ce : Env) (k0 : Sem β) (k : Bool → Sem β) : Sem β := do
  match ← pyNext it with
  | none => k0
  | some u =>
    letOwnedTupleGo t it u
    assign t ce u
    let mut go := true
    for q in ts do
      if go then go ← isTrue q ce (eval q ce)
    k go
abbrev dcx (kx vx t0 i0 : Expr) (ts0 : List Expr) (t1 i1 : Expr) (ts1 : List Expr) (scope : Scope) (pos : Pos) : Expr := .DictComp kx vx [⟨t0, i0, ts0, 0⟩, ⟨t1, i1, ts1, 0⟩] scope pos
section
variable {kx vx t0 i0 t1 i1 : Expr} {ts0 ts1 : List Expr} {scope : Scope} {pos : Pos}
theorem lap_out (it : Value) (L : Addr) (ce : Env) : compTurn (dcx kx vx t0 i0 ts0 t1 i1 ts1 scope pos) 0 it (.ref L) ce = (do
    standAt i0.pos
    lap t0 ts0 it ce (pure (.done .next)) fun go => do
      if go then
        let y ← eval i1 ce
        standAt i1.pos
        let y ← foldedSetIterable i1 ce y
        let _ ← runOwn (.compStart (dcx kx vx t0 i0 ts0 t1 i1 ts1 scope pos) 1 (← holding [y] (pyIter y)) (.ref L) ce) ce
      again (.compLoop (dcx kx vx t0 i0 ts0 t1 i1 ts1 scope pos) 0 it (.ref L) ce)) := by rfl
theorem lap_in (it : Value) (L : Addr) (ce : Env) : compTurn (dcx kx vx t0 i0 ts0 t1 i1 ts1 scope pos) 1 it (.ref L) ce = (do
    standAt i1.pos
    lap t1 ts1 it ce (pure (.done .next)) fun go => do
      if go then
        (do
          let a ← eval kx ce
          let b ← holding [a] (eval vx ce)
          standAt { kx.pos with endLine := vx.pos.endLine, endCol := vx.pos.endCol }
          holding [a, b] (dictSet L a b))
      again (.compLoop (dcx kx vx t0 i0 ts0 t1 i1 ts1 scope pos) 1 it (.ref L) ce)) := by rfl
end
section
variable {X : Cx} {β : Type} {pins : List (Addr × Obj)} {σ : L2.St} {H : Hp} {s : Shared} {t : Expr} {ts : List Expr} {J : It} {fp : List Addr} {it : Addr} {tn : Nat → Heap → Prop} {i : Nat} {k0 : Sem β} {k : Bool → Sem β} {Q : β → Shared → Prop} {E : Value → Shared → Prop}
theorem lap_stop (hc : X.calm = true) (T : Turn X.prog X.w X.K t J fp it tn) (I : Inv X pins σ H s) (fo : ∀ b ∈ fp, FpOk X pins H b) (st : tn i s.heap) (q : J.stop i H) (h : ∀ s', Inv X pins σ H s' → wpAny (model X.prog X.w) X.A k0 Q E s') :
    wpAny (model X.prog X.w) X.A (lap t ts (.ref it) X.env k0 k) Q E s := by
  unfold lap
  refine wpAny_bind (thnF (T.done X rfl rfl rfl hc i pins s σ H (fun _ _ => False) I fo st q) fun r s' ⟨e, I'⟩ => ?_)
  subst e
  exact h s' I'
theorem lap_go {g : TG} {tt : TT} {Z : Bool → L2.St → Hp → Prop} {P : L2.St → Prop} (hc : X.calm = true) (T : Turn X.prog X.w X.K t J fp it tn) (I : Inv X pins σ H s) (fo : ∀ b ∈ fp, FpOk X pins H b) (foN : ∀ (H' : Hp) (s' : Shared), Inv X pins σ H' s' → (∀ b ∈ fp, H' b = none) → ∀ b ∈ fp, FpOk X pins H' b)
    (st : tn i s.heap) (q : J.go i H) (pg : PG X t g) (pt : PTs X ts tt) (hxe : X.xe = fun _ _ => False) (h : ∀ x H', J.yld i H x H' → g x σ H' fun σ2 H2 => P σ2 ∧ tt σ2 H2 fun b H3 => Z b σ2 H3)
    (kk : ∀ b s' σ2 H3 ps, Inv X (pins ++ ps) σ2 H3 s' → P σ2 → Z b σ2 H3 → (∀ σ' H' s'', Inv X (pins ++ ps) σ' H' s'' → Inv X pins σ' H' s'' ∧ tn (i + 1) s''.heap ∧ ∀ b ∈ fp, H' b = none) → wpAny (model X.prog X.w) X.A (k b) Q E s') :
    wpAny (model X.prog X.w) X.A (lap t ts (.ref it) X.env k0 k) Q E s := by
  unfold lap
  refine wpAny_bind (thnF (T.item X rfl rfl rfl hc i pins s σ H (fun _ _ => False) I fo st q) fun r s1 ⟨u, e, h1⟩ => ?_)
  subst e
  refine wpAny_bind (thnF h1 fun _ s2 ⟨x, H2, I2, r2, y2, st2, n2⟩ => ?_)
  have I3 := I2.pinned (foN H2 s2 I2 n2) (T.obj _ _ st2)
  refine wpAny_bind (thnF (hxe ▸ pg.run _ s2 _ H2 x u _ I3 r2 (h x H2 y2)) fun _ s4 ⟨σ4, H4, I4, p4, q4⟩ => ?_)
  refine wpAny_bind (thnF (hxe ▸ pt.run _ s4 σ4 H4 _ I4 q4) fun b s5 ⟨H5, I5, q5⟩ => ?_)
  refine kk b s5 σ4 H5 _ I5 p4 q5 fun σ' H' s'' I' => ?_
  have pin' : ∀ b ∈ fp, ∀ o, s2.heap.get? b = some o → s''.heap.get? b = some o ∧ H' b = none := fun b hb o e =>
    let z := I'.pin (b, o) (List.mem_append_right _ (List.mem_append_right _ (mem_pinsAt hb e)))
    ⟨z.1, z.2.1⟩
  exact ⟨I'.unpinned, T.keep _ _ _ st2 fun b hb o e => (pin' b hb o e).1, fun b hb => let ⟨o, e, _⟩ := T.obj _ _ st2 b hb; (pin' b hb o e).2⟩
end
section
variable {prog : Program} {w : World} {A : Around} {R : Result → Shared → Prop} {s : Shared} {kx vx t0 i0 t1 i1 : Expr} {ts0 ts1 : List Expr} {scope : Scope} {pos : Pos} {it acc : Value} {ce : Env}
/-- the start of the inner walk -/
theorem dcx_start (h0 : codeAny (model prog w) A (.compLoop (dcx kx vx t0 i0 ts0 t1 i1 ts1 scope pos) 1 it acc ce) R s)
    (h : wpAny (model prog w) A (pyIter it) (fun j s' => codeAny (model prog w) A (.compLoop (dcx kx vx t0 i0 ts0 t1 i1 ts1 scope pos) 1 j acc ce) R s') (notedBy (model prog w) A ce fun x s' => R (.error x) s') s) :
    codeAny (model prog w) A (.compStart (dcx kx vx t0 i0 ts0 t1 i1 ts1 scope pos) 1 it acc ce) R s := by
  refine codeAny_of_tree ?_
  show wpAny _ _ ((compStart (dcx kx vx t0 i0 ts0 t1 i1 ts1 scope pos) 1 it acc ce).onRaise (fun x => do noteFrame x ce; standAt theWindowsPlace)) _ _ s
  refine wpAny_notedAt ?_
  unfold compStart
  show wpAny _ _ (ask >>= _) _ _ s
  refine wpAny_bind (wpAny_askSetting (wpAny_ite ?_))
  have last : wpAny (model prog w) A (pyIter it) (fun j s' => codeAny (model prog w) A (.compLoop (dcx kx vx t0 i0 ts0 t1 i1 ts1 scope pos) 1 j acc ce) R s') (notedBy (model prog w) A ce fun x s' => R (.error x) s') s := h
  split
  · first
      | exact wpAny_bind (wpAny_pure (wpAny_pure ⟨rfl, h0⟩))
      | exact wpAny_pure ⟨rfl, h0⟩
  · refine wpAny_bind (wpAny_rule ?_)
    first
      | exact wpAny_bind (wpAny_standAt (wpAny_bind (wpAny_mono last (fun j s' q => wpAny_pure ⟨rfl, q⟩) fun _ _ x => x)))
      | (show wpAny _ _ (standAt i1.pos >>= _) _ _ s; exact wpAny_bind (wpAny_standAt (wpAny_bind (wpAny_mono last (fun j s' q => wpAny_pure ⟨rfl, q⟩) fun _ _ x => x))))
end
section
variable {X : Cx}
/-- {k: v for .. in .. if .. for .. in .. if ..} -/
def tDc2 (wi : TI) (g : TG) (tt : TT) (wi1 : TI) (g1 : TG) (tt1 : TT) (tk tv : TE) (vs vs1 : List Nat) : TE := fun σ H Q => wi σ H fun J H1 => ∀ L, H1 L = none → ∃ W : Nat → Nat → Hp → Prop, (∃ m, W 0 m (upd H1 L (.dK []))) ∧ ∀ i m H, W i m H →
  (J.stop i H ∧ Q (.ref L) H) ∨ (J.go i H ∧ ∃ Nx : Hp → Prop, (∀ H', Nx H' → ∃ m', m' < m ∧ W (i + 1) m' H') ∧ ∀ x H', J.yld i H x H' → g x (wipe σ vs) H' fun σ2 H2 => wipe σ2 vs = wipe σ vs ∧ tt σ2 H2 fun b H3 =>
    if b = true then wi1 σ2 H3 fun J1 H4 => ∃ W1 : Nat → Nat → Hp → Prop, (∃ m, W1 0 m H4) ∧ ∀ j k H, W1 j k H →
      (J1.stop j H ∧ Nx H) ∨ (J1.go j H ∧ ∃ Nx1 : Hp → Prop, (∀ H', Nx1 H' → ∃ k', k' < k ∧ W1 (j + 1) k' H') ∧ ∀ x H', J1.yld j H x H' → g1 x (wipe σ2 vs1) H' fun σ3 H5 => wipe σ3 vs1 = wipe σ2 vs1 ∧ tt1 σ3 H5 fun b H6 =>
        if b = true then tk σ3 H6 fun y H7 => tv σ3 H7 fun z H8 => ∃ kvs k, y = kV k ∧ H8 L = some (.dK kvs) ∧ kvs.length < sizeLine ∧ Nx1 (upd H8 L (.dK (putK kvs k z))) else Nx1 H6)
    else Nx H3)
/-- what a block's step keeps: the slots that the block does not make -/
theorem keeps_wipe {σ σ2 : L2.St} {vs vs1 : List Nat} (e : wipe σ2 vs = wipe σ vs) (hv : ∀ i ∈ vs1, i ∈ vs) : (wipe σ vs).length = σ2.length ∧ (∀ (j : Nat) v, (wipe σ vs)[j]? = some (some v) → σ2[j]? = some (some v)) ∧ ∀ (j : Nat) v, (wipe σ vs)[j]? = some (some v) → (wipe σ2 vs1)[j]? = some (some v) := by
  refine ⟨by rw [← e, wipe_length], fun j v q => ?_, fun j v q => ?_⟩
  · rw [← e] at q; exact (wipe_some q).1
  · rw [← e] at q
    obtain ⟨q1, q2⟩ := wipe_some q
    rw [wipe_out fun z => q2 (hv j z)]
    exact q1
theorem dc2_core {kx vx tg iter tg1 iter1 : Expr} {ifs ifs1 : List Expr} {scope : Scope} {own : List (Str × Nat)} {vs1 : List Nat} {pos pos' : Pos} {wi wi1 : TI} {g g1 : TG} {tt tt1 : TT} {tk tv : TE} (hc : X.calm = true) (hN : X.N.Nodup) (hi : PI X tg iter wi) (ok : BlkOk X.N X.env.scope scope own) (hv : ∀ i ∈ vs1, i ∈ own.map (·.2))
    (hB : ∀ (s : Shared) (H : Hp) (C : Addr) (cl : List (Str × Addr)) (fp : List Addr), PG (X.blk s H scope (compEnvC scope cl C X.env) fp) tg g ∧ PTs (X.blk s H scope (compEnvC scope cl C X.env) fp) ifs tt ∧ PI (X.blk s H scope (compEnvC scope cl C X.env) fp) tg1 iter1 wi1 ∧
      PG (X.blk s H scope (compEnvC scope cl C X.env) fp) tg1 g1 ∧ PTs (X.blk s H scope (compEnvC scope cl C X.env) fp) ifs1 tt1 ∧ PE (X.blk s H scope (compEnvC scope cl C X.env) fp) kx tk ∧ PE (X.blk s H scope (compEnvC scope cl C X.env) fp) vx tv)
    (hs : ∀ x, foldedSetIterable iter X.env x = pure x) (hs1 : ∀ env x, foldedSetIterable iter1 env x = pure x) {pins : List (Addr × Obj)} {s : Shared} {σ : L2.St} {H : Hp} {Q : VK} {use : Option (Value → Sem Unit)} {Qf : Value → Shared → Prop} (I : Inv X pins σ H s)
    (h : tDc2 wi g tt wi1 g1 tt1 tk tv (own.map (·.2)) vs1 σ H Q) (hRR : ∀ L C s' m H', Inv X pins σ H' s' → Q (.ref L) H' → s'.heap.Ns C m → FpOk X pins H' C → compPost (model X.prog X.w) X.A X.xe use Qf (.ref L) C (.ok .next) s') :
    wpAny (model X.prog X.w) X.A (comprehension (dcx kx vx tg iter ifs tg1 iter1 ifs1 scope pos) scope X.env pos' newDict false (eval iter X.env) use) Qf X.xe s := by
  have hfree : ∀ y ∈ scope.names, y.2 = .free → ∃ c, X.env.cells.lookup y.1 = some c := fun y hy e => (ok.free y hy e).elim (fun k => I.ok.has _ (.inl k)) fun k => I.ok.has _ (.inr k)
  refine wpAny_comprehension_free (use := use) rfl hs (closure_ok hfree) ok.kind (fun y hy e => by rw [ok.uniq y hy, e]) (thn (hi.run pins s σ H _ I h) fun xv s1 hx => thn hx fun itv s2 h2 => ?_)
  obtain ⟨it, fp, tn, J, H2, e, I2, T, st2, f2, q⟩ := h2
  subst e
  refine wpAny_newObj_type (newEnv_comp ?_)
  generalize hL : s2.heap.objs.size = L
  obtain ⟨W, ⟨m0, w0⟩, turn⟩ := q L (I2.hok.fresh (Nat.le_of_eq hL))
  -- the new dict
  generalize hs3 : ({ s2 with heap := s2.heap.push { cls := .type "dict", data := .dict #[] } } : Shared) = s3
  have h3 : s3.heap = s2.heap.push { cls := .type "dict", data := .dict #[] } := by rw [← hs3]
  have up : ∀ b o, s2.heap.get? b = some o → s3.heap.get? b = some o := fun b o e => by rw [h3]; exact Heap.get?_push_of_some _ e
  have I3 : Inv X pins σ (upd H2 L (.dK [])) s3 := by
    rw [← hs3]
    refine I2.laid (t' := s2.toks) (fun b o e => Heap.get?_push_of_some _ e) (Nat.le_of_eq hL) ?_
    rw [← hL]
    exact dk_empty s2.heap I2.big
  have f3 : ∀ b ∈ fp, FpOk X pins (upd H2 L (.dK [])) b ∧ b < s3.heap.objs.size := fun b hb => by
    obtain ⟨o, e, _⟩ := T.obj _ _ st2 b hb
    have hlt := Heap.lt_size e
    have ne : b ≠ L := by rw [← hL]; exact Nat.ne_of_lt hlt
    exact ⟨⟨by rw [upd_ne ne]; exact (f2 b hb).1, (f2 b hb).2⟩, Heap.lt_size (up b o e)⟩
  have st3 : tn 0 s3.heap := T.keep _ _ _ st2 fun b _ o e => up b o e
  have I4 := block_start I3 ok hN f3
  obtain ⟨pg, pt, pi1, pg1, pt1, pk, pv⟩ := hB s3 (upd H2 L (.dK [])) s3.heap.objs.size (cellsFrom (s3.heap.objs.size + 1) scope.names (cloFrom X.env.cells scope.names [])) fp
  show codeAny _ _ (.compStart (dcx kx vx tg iter ifs tg1 iter1 ifs1 scope pos) 0 (.ref it) (.ref L) (compEnvC scope (cellsFrom (s3.heap.objs.size + 1) scope.names (cloFrom X.env.cells scope.names [])) s3.heap.objs.size X.env)) (compPost (model X.prog X.w) X.A X.xe use Qf (.ref L) s3.heap.objs.size) { s3 with heap := pushCells (s3.heap.push { cls := .type "dict", data := .dict #[] }) scope.names }
  have nfp : ∀ b ∈ fp, (upd H2 L (.dK [])) b = none := fun b hb => (f3 b hb).1.1
  generalize hce : compEnvC scope (cellsFrom (s3.heap.objs.size + 1) scope.names (cloFrom X.env.cells scope.names [])) s3.heap.objs.size X.env = ce at I4 pg pt pi1 pg1 pt1 pk pv ⊢
  have cL : ce.locals = s3.heap.objs.size := by subst hce; rfl
  generalize hH3 : upd H2 L (.dK []) = H3 at I3 I4 pg pt pi1 pg1 pt1 pk pv w0 nfp f3
  generalize hs4 : ({ s3 with heap := pushCells (s3.heap.push { cls := .type "dict", data := .dict #[] }) scope.names } : Shared) = s4 at I4 ⊢
  have st4 : tn 0 s4.heap := T.keep _ _ _ st3 fun b _ o e => by rw [← hs4]; exact pushCells_keeps _ _ _ _ (Heap.get?_push_of_some _ e)
  generalize hB' : X.blk s3 H3 scope ce fp = B at I4 pg pt pi1 pg1 pt1 pk pv
  have bp : B.prog = X.prog := by subst hB'; rfl
  have bw : B.w = X.w := by subst hB'; rfl
  have bK : B.K = X.K := by subst hB'; rfl
  have bA : B.A = X.A := by subst hB'; rfl
  have be : B.env = ce := by subst hB'; rfl
  have bx : B.xe = fun _ _ => False := by subst hB'; rfl
  have bc : B.calm = true := by subst hB'; exact hc
  have stat : ∀ (H' : Hp) (s' : Shared) σ', Inv B [] σ' H' s' → (∀ b ∈ fp, H' b = none) → ∀ b ∈ fp, FpOk B [] H' b := by
    subst hB'
    exact fun H' s' σ' I' hn b hb => ⟨hn b hb, (I'.ok.exf b hb).1, I'.ok.exfs b hb, .inl hb, fun x c e => (I'.ok.exf b hb).2 x c e, fun p hp => absurd (show p ∈ ([] : List (Addr × Obj)) ++ [] from hp) (by simp)⟩
  have back : ∀ (H' : Hp) (s' : Shared), Inv B [] (wipe σ (own.map (·.2))) H' s' → Q (.ref L) H' → compPost (model X.prog X.w) X.A X.xe use Qf (.ref L) s3.heap.objs.size (.ok .next) s' := by
    subst hB'
    intro H' s' I6 qq
    have I7 : Inv X pins σ H' s' := I3.call' (ch := fp) I6.os I6.base I6.hok I6.bare fun b hb => ⟨(f3 b hb).1.2.2.2.1, (f3 b hb).1.2.1, (f3 b hb).1.2.2.2.2.1, (f3 b hb).1.2.2.2.2.2⟩
    have nC : H' s3.heap.objs.size = none := by
      have z : H' ce.locals = none := I6.free
      rw [cL] at z
      exact z
    obtain ⟨m, hn, _⟩ := I6.loc
    have hn : s'.heap.Ns ce.locals m := hn
    rw [cL] at hn
    exact hRR L _ s' m H' I7 qq hn (I3.fpOk (Nat.le_refl _) nC)
  rw [← bp, ← bw, ← bK] at T
  have pg1' := pg1
  have loop : codeAny (model X.prog X.w) X.A (.compLoop (dcx kx vx tg iter ifs tg1 iter1 ifs1 scope pos) 0 (.ref it) (.ref L) ce) (compPost (model X.prog X.w) X.A X.xe use Qf (.ref L) s3.heap.objs.size) s4 := by
    refine codeAny_loop rfl (fun n s' => ∃ i H', Inv B [] (wipe σ (own.map (·.2))) H' s' ∧ tn i s'.heap ∧ (∀ b ∈ fp, H' b = none) ∧ W i n H') (fun n s5 ⟨i, H5, I5, st5, n5, w5⟩ => ?_) m0 ⟨0, H3, I4, st4, nfp, w0⟩
    show wpAny _ X.A ((compTurn (dcx kx vx tg iter ifs tg1 iter1 ifs1 scope pos) 0 (.ref it) (.ref L) ce).onRaise (fun x => do noteFrame x ce; theTreesLotGoes x)) _ _ s5
    refine wpAny_noted ?_
    rw [lap_out]
    refine wpAny_bind (wpAny_standAt ?_)
    rw [← bp, ← bw, ← bA, ← be]
    rcases turn i n H5 w5 with ⟨stop, qq⟩ | ⟨go, Nx, hNx, step⟩
    · exact lap_stop bc T I5 (stat H5 s5 _ I5 n5) st5 stop fun s6 I6 => wpAny_pure (by rw [bp, bw, bA]; exact back H5 s6 I6 qq)
    · refine lap_go (P := fun σ2 => wipe σ2 (own.map (·.2)) = wipe σ (own.map (·.2))) bc T I5 (stat H5 s5 _ I5 n5) (fun H' s' I' n' => stat H' s' _ I' n') st5 go pg pt bx step fun b s9 σ8 H9 ps I9 w8 q9 fin0 => ?_
      obtain ⟨kl, k1, k2⟩ := keeps_wipe w8 hv
      have fin : ∀ {σ9 : L2.St} {s' : Shared} {H' : Hp}, Inv B ([] ++ ps) σ9 H' s' → (wipe σ (own.map (·.2))).length = σ9.length → (∀ (j : Nat) v, (wipe σ (own.map (·.2)))[j]? = some (some v) → σ9[j]? = some (some v)) → Nx H' →
          ∃ m, m < n ∧ ∃ i H', Inv B [] (wipe σ (own.map (·.2))) H' s' ∧ tn i s'.heap ∧ (∀ b ∈ fp, H' b = none) ∧ W i m H' := fun {σ9 s' H'} I' hl hk nx => by
        obtain ⟨m', hm, w'⟩ := hNx H' nx
        obtain ⟨a1, a2, a3⟩ := fin0 _ _ _ I'
        exact ⟨m', hm, i + 1, H', a1.weak hl hk, a2, a3, w'⟩
      cases b with
      | false =>
        simp only [Bool.false_eq_true, if_false] at q9 ⊢
        exact wpAny_pure ⟨rfl, fin I9 kl k1 q9⟩
      | true =>
        simp only [if_true] at q9 ⊢
        refine wpAny_bind (thnF (bx ▸ pi1.run _ s9 σ8 H9 _ I9 q9) fun xv s10 hx => ?_)
        refine wpAny_bind (wpAny_standAt (wpAny_bind (wpAny_of_eq (hs1 _ xv) (wpAny_bind (wpAny_holding (thnF hx fun itv s11 h11 => ?_))))))
        obtain ⟨it1, fp1, tn1, J1, H11, e1, I11, T1, st11, f11, W1, ⟨m1, w1⟩, turn1⟩ := h11
        subst e1
        refine wpAny_bind (wpAny_runOwn ?_)
        rw [Around.mark_none]
        have inner : codeAny (model B.prog B.w) B.A (.compLoop (dcx kx vx tg iter ifs tg1 iter1 ifs1 scope pos) 1 (.ref it1) (.ref L) B.env) (fun r s' => match r with
            | .ok _ => ∃ m, m < n ∧ ∃ i H', Inv B [] (wipe σ (own.map (·.2))) H' s' ∧ tn i s'.heap ∧ (∀ b ∈ fp, H' b = none) ∧ W i m H'
            | .error _ => False) s11 := by
          refine codeAny_loop rfl (fun k s' => ∃ j H', Inv B ([] ++ ps) (wipe σ8 vs1) H' s' ∧ tn1 j s'.heap ∧ (∀ b ∈ fp1, H' b = none) ∧ W1 j k H') (fun k s12 ⟨j, H12, I12, st12, n12, w12⟩ => ?_) m1 ⟨0, H11, I11.weak (wipe_length _ _) (fun j v e => (wipe_some e).1), st11, fun b hb => (f11 b hb).1, w1⟩
          show wpAny _ B.A ((compTurn (dcx kx vx tg iter ifs tg1 iter1 ifs1 scope pos) 1 (.ref it1) (.ref L) B.env).onRaise (fun x => do noteFrame x B.env; theTreesLotGoes x)) _ _ s12
          refine wpAny_noted ?_
          rw [lap_in]
          refine wpAny_bind (wpAny_standAt ?_)
          have fo1 : ∀ (H' : Hp), (∀ b ∈ fp1, H' b = none) → ∀ b ∈ fp1, FpOk B ([] ++ ps) H' b := fun H' n' b hb => ⟨n' b hb, (f11 b hb).2⟩
          rcases turn1 j k H12 w12 with ⟨stop1, nx1⟩ | ⟨go1, Nx1, hNx1, step1⟩
          · exact lap_stop bc T1 I12 (fo1 H12 n12) st12 stop1 fun s13 I13 => wpAny_pure (fin I13 (kl.trans (wipe_length σ8 vs1).symm) k2 nx1)
          · refine lap_go (P := fun σ3 => wipe σ3 vs1 = wipe σ8 vs1) bc T1 I12 (fo1 H12 n12) (fun H' s' I' n' => fo1 H' n') st12 go1 pg1 pt1 bx step1 fun b1 s16 σ15 H16 ps1 I16 w15 q16 fin1 => ?_
            have again : ∀ {s' : Shared} {H' : Hp}, Inv B (([] ++ ps) ++ ps1) σ15 H' s' → Nx1 H' → ∃ m, m < k ∧ ∃ j H', Inv B ([] ++ ps) (wipe σ8 vs1) H' s' ∧ tn1 j s'.heap ∧ (∀ b ∈ fp1, H' b = none) ∧ W1 j m H' := fun {s' H'} I' nx => by
              obtain ⟨m', hm, w'⟩ := hNx1 H' nx
              obtain ⟨a1, a2, a3⟩ := fin1 _ _ _ I'
              exact ⟨m', hm, j + 1, H', a1.weak (by rw [← w15, wipe_length]) (fun j v e => by rw [← w15] at e; exact (wipe_some e).1), a2, a3, w'⟩
            cases b1 with
            | false =>
              simp only [Bool.false_eq_true, if_false] at q16 ⊢
              exact wpAny_pure ⟨rfl, again I16 q16⟩
            | true =>
              simp only [if_true] at q16 ⊢
              refine wpAny_bind (wpAny_bind (thnF (bx ▸ pk.run _ s16 σ15 H16 _ I16 q16) fun a s17 ⟨yk, H17, I17, r17, q17⟩ => ?_))
              refine wpAny_bind (wpAny_holding (thnF (bx ▸ pv.run _ s17 σ15 H17 _ I17 q17) fun z s18 ⟨yv, H18, I18, r18, kvs, key, ek, hD, hz, nx⟩ => ?_))
              subst ek
              refine wpAny_bind (wpAny_standAt (wpAny_holding ?_))
              exact d_dictSet (X := B) I18 hD hz r17 r18 fun s19 I19 => wpAny_pure ⟨rfl, again I19 nx⟩
        exact codeAny_mono (dcx_start inner (T1.self B.A 0 _ _ _ st11 inner)) fun r s' hr => by
          cases r with
          | ok f => exact wpAny_pure ⟨rfl, hr⟩
          | error e => exact hr.elim
  exact codeAny_compStart_dict loop (by rw [← bp, ← bw]; exact T.self X.A 0 _ _ _ st4 (by rw [bp, bw]; exact loop))
theorem pe_dc2 {kx vx tg iter tg1 iter1 : Expr} {ifs ifs1 : List Expr} {scope : Scope} {own : List (Str × Nat)} {vs1 : List Nat} {pos : Pos} {wi wi1 : TI} {g g1 : TG} {tt tt1 : TT} {tk tv : TE} (hc : X.calm = true) (hN : X.N.Nodup) (hi : PI X tg iter wi) (ok : BlkOk X.N X.env.scope scope own) (hv : ∀ i ∈ vs1, i ∈ own.map (·.2))
    (hB : ∀ (s : Shared) (H : Hp) (C : Addr) (cl : List (Str × Addr)) (fp : List Addr), PG (X.blk s H scope (compEnvC scope cl C X.env) fp) tg g ∧ PTs (X.blk s H scope (compEnvC scope cl C X.env) fp) ifs tt ∧ PI (X.blk s H scope (compEnvC scope cl C X.env) fp) tg1 iter1 wi1 ∧
      PG (X.blk s H scope (compEnvC scope cl C X.env) fp) tg1 g1 ∧ PTs (X.blk s H scope (compEnvC scope cl C X.env) fp) ifs1 tt1 ∧ PE (X.blk s H scope (compEnvC scope cl C X.env) fp) kx tk ∧ PE (X.blk s H scope (compEnvC scope cl C X.env) fp) vx tv)
    (hs : ∀ x, foldedSetIterable iter X.env x = pure x) (hs1 : ∀ env x, foldedSetIterable iter1 env x = pure x) :
    PE X (dcx kx vx tg iter ifs tg1 iter1 ifs1 scope pos) (tDc2 wi g tt wi1 g1 tt1 tk tv (own.map (·.2)) vs1) := by
  refine ⟨fun pins s σ H Q I h => ?_⟩
  rw [arm_eval_DictComp]
  refine dc2_core hc hN hi ok hv hB hs hs1 I h fun L C s' m H' I' q hn f => ⟨m, hn, fun h'' sb => ?_⟩
  obtain ⟨g0, g1, g2, g3, g4, g5⟩ := f
  exact ⟨.ref L, H', I'.turned (t' := s'.toks) (fun b o hb e => (sb.2 b hb).trans e) g0 g1 g3 g4 g5, rfl, q⟩
theorem swD_true {kx vx : Expr} {gs : List Comprehension} {scope : Scope} {pos py : Pos} {y : Str} {l : Nat} {env : Env} (hk : env.scope.kind = .function) (hy : env.scope.names.lookup y = some .local) (hl : (py.line == pos.line) = true)
    (ha : (scope.names.any fun (n, k) => n == y && (k == .local || k == .cell)) = false) : swapsWith (.DictComp kx vx gs scope pos) (some (.Name y py)) l env = pure true := by
  have e1 : env.kindOf y = some .local := hy
  have e2 : env.blockKind = .function := by unfold Env.blockKind; rw [hk]; rfl
  unfold swapsWith
  simp only [e1, e2, ha, Expr.pos, hl]
  rfl
/-- the new dict is a name's -/
theorem ps_setDc2 {i : Nat} {y : Str} {py spos : Pos} {kx vx tg iter tg1 iter1 : Expr} {ifs ifs1 : List Expr} {scope : Scope} {own : List (Str × Nat)} {vs1 : List Nat} {pos : Pos} {wi wi1 : TI} {g g1 : TG} {tt tt1 : TT} {tk tv : TE} (hc : X.calm = true) (hN : X.N.Nodup) (hi : PI X tg iter wi) (ok : BlkOk X.N X.env.scope scope own) (hv : ∀ i ∈ vs1, i ∈ own.map (·.2)) (hy : X.N[i]? = some y) (hyl : X.env.scope.names.lookup y = some .local)
    (hsw : swapsWith (dcx kx vx tg iter ifs tg1 iter1 ifs1 scope pos) (some (.Name y py)) spos.line X.env = pure true)
    (hB : ∀ (s : Shared) (H : Hp) (C : Addr) (cl : List (Str × Addr)) (fp : List Addr), PG (X.blk s H scope (compEnvC scope cl C X.env) fp) tg g ∧ PTs (X.blk s H scope (compEnvC scope cl C X.env) fp) ifs tt ∧ PI (X.blk s H scope (compEnvC scope cl C X.env) fp) tg1 iter1 wi1 ∧
      PG (X.blk s H scope (compEnvC scope cl C X.env) fp) tg1 g1 ∧ PTs (X.blk s H scope (compEnvC scope cl C X.env) fp) ifs1 tt1 ∧ PE (X.blk s H scope (compEnvC scope cl C X.env) fp) kx tk ∧ PE (X.blk s H scope (compEnvC scope cl C X.env) fp) vx tv)
    (hs : ∀ x, foldedSetIterable iter X.env x = pure x) (hs1 : ∀ env x, foldedSetIterable iter1 env x = pure x) :
    PS X (.Assign [.Name y py] (dcx kx vx tg iter ifs tg1 iter1 ifs1 scope pos) spos) (tAsg (tDc2 wi g tt wi1 g1 tt1 tk tv (own.map (·.2)) vs1) (gName i)) := by
  refine ⟨fun pins s σ H D I h => ?_⟩
  rw [exec_Assign_Name_used _ _ _ _ hsw]
  refine wpAny_bind (wpAny_standAt (wpAny_bind ?_))
  have core := dc2_core (pos := pos) (pos' := firstIterPos [⟨tg, iter, ifs, 0⟩, ⟨tg1, iter1, ifs1, 0⟩] pos) (use := some (assign (.Name y py) X.env)) (Qf := fun _ s' => SP X pins D .next s') hc hN hi ok hv hB hs hs1 I (show tDc2 wi g tt wi1 g1 tt1 tk tv (own.map (·.2)) vs1 σ H (fun x H1 => gName i x σ H1 D.nx) from h) fun L C s' m H' I' q hn f => by
    show wpAny _ _ (assign (.Name y py) X.env (.ref L)) _ _ _
    refine wpAny_assign_Name (store_ok2 (v := V.ref L) I' hN hy (.inl hyl) rfl (fun s2 I2 ⟨a, sb, ha⟩ => ?_) (.inr hyl))
    obtain ⟨g0, g1, g2, g3, g4, g5⟩ := f
    have ne : C ≠ a := ha.elim (fun z => by rw [z]; exact g1) fun z e => g4 y a z e.symm
    exact ⟨m, hn.sameBut sb ne, fun h3 sb3 => ⟨_, H', I2.turned (t' := s2.toks) (fun b o hb e => (sb3.2 b hb).trans e) g0 g1 g3 g4 g5, q⟩⟩
  show wpAny _ X.A (do let _ ← comprehension (dcx kx vx tg iter ifs tg1 iter1 ifs1 scope pos) scope X.env (firstIterPos [⟨tg, iter, ifs, 0⟩, ⟨tg1, iter1, ifs1, 0⟩] pos) newDict false (eval iter X.env) (some (assign (.Name y py) X.env))) _ _ s
  exact wpAny_bind (thn core fun _ s' hq => wpAny_pure (wpAny_pure hq))
end
/-! ### by values -/
section
def dc2I (g1 : D → En → Option En) (t1 : En → R Bool) (ek ev : En → R D) (vs1 : List Nat) (k : En → List Key → List D → R D) : List D → En → List Key → List D → R D
  | [], ρ, ks, es => k ρ ks es
  | d :: ds, ρ, ks, es => match g1 d ρ with
    | none => .bad
    | some ρ1 => bnd (noX (t1 ρ1)) fun b ρ2 => if b = true then bnd (noX (ek ρ2)) fun kk ρ3 => bnd (noX (ev ρ3)) fun x ρ4 => match keyD kk with
      | some q => if ks.length < sizeLine then dc2I g1 t1 ek ev vs1 k ds (wipeE vs1 ρ4) (putKs ks q) (putDs ks es q x) else .bad
      | none => .bad else dc2I g1 t1 ek ev vs1 k ds (wipeE vs1 ρ2) ks es
def dc2L (g : D → En → Option En) (t : En → R Bool) (s1 : En → R (List D)) (g1 : D → En → Option En) (t1 : En → R Bool) (ek ev : En → R D) (vs vs1 : List Nat) : List D → En → List Key → List D → R D
  | [], ρ, ks, es => .ok (.nd (.dK ks) es) ρ
  | d :: ds, ρ, ks, es => match g d ρ with
    | none => .bad
    | some ρ1 => bnd (noX (t ρ1)) fun b ρ2 => if b = true then bnd (noX (s1 ρ2)) fun ds1 ρ3 => dc2I g1 t1 ek ev vs1 (fun ρ ks es => dc2L g t s1 g1 t1 ek ev vs vs1 ds (wipeE vs ρ) ks es) ds1 (wipeE vs1 ρ3) ks es else dc2L g t s1 g1 t1 ek ev vs vs1 ds (wipeE vs ρ2) ks es
variable {K : PySem.W.Frag} {w : Wd} {g g1 : D → En → Option En} {t t1 : En → R Bool} {ek ev : En → R D} {src1 : En → R (List D)} {vs vs1 is is1 : List Nat} {σ : L2.St} {Q : VK}
theorem dc2_body {ds : List D} {J : It} {F1 H1 : Hp} {ρ1 : En} {fp1 : List Addr} (his : ∀ i ∈ is, i ∈ vs) (his1 : ∀ i ∈ is1, i ∈ vs1) (hv : ∀ i ∈ vs1, i ∈ vs) (s1 : StaW K w F1 H1 σ ρ1 fp1) (I : Itz K F1 J ds) (h1 : Pst K w F1 H1 fp1 σ (dc2L g t src1 g1 t1 ek ev vs vs1 ds (wipeE vs ρ1) [] []) (nO K w σ Q)) :
    tDc2 (fun _ H R => R J H) (cG K w.in1 is g) (cT K w.in1 t) (cI K w.in1 src1) (cG K w.in1 is1 g1) (cT K w.in1 t1) (cF K w.in1 ek) (cF K w.in1 ev) vs vs1 σ H1 Q := fun L hL => by
  obtain ⟨fpw, sw, tw⟩ := StaW.wipe (vs := vs) s1
  obtain ⟨m0, t0⟩ := MkD.start sw hL
  refine ⟨fun i k H => k = ds.length - i ∧ i ≤ ds.length ∧ ∃ F ρ fp ks es, MkD K w F1 F H L (wipe σ vs) ρ fp ks es ∧ ks.length ≤ sizeLine ∧ Pst K w F H (L :: fp) σ (dc2L g t src1 g1 t1 ek ev vs vs1 (ds.drop i) ρ ks es) (nO K w σ Q), ⟨ds.length, by simp, Nat.zero_le _, F1, _, fpw, [], [], m0, Nat.zero_le _, Pst.tr h1 (tw.trans t0)⟩, ?_⟩
  rintro i k H ⟨rfl, hi, F, ρ, fp, ks, es, m, hz, h⟩
  by_cases hlt : i < ds.length
  · refine .inr ⟨I.go i H (m.ex.trans m.s.ex) hlt, fun H => ∃ F ρ fp ks es, MkD K w F1 F H L (wipe σ vs) ρ fp ks es ∧ ks.length ≤ sizeLine ∧ Pst K w F H (L :: fp) σ (dc2L g t src1 g1 t1 ek ev vs vs1 (ds.drop (i + 1)) ρ ks es) (nO K w σ Q), fun H' q => ⟨ds.length - (i + 1), by omega, rfl, hlt, q⟩, fun x H' y => ?_⟩
    obtain ⟨d, F2, ed, s2, t2, z⟩ := given I m.s m.ex hlt y
    have m2 := m.go t2 s2
    have edr : ds.drop i = d :: ds.drop (i + 1) := by
      obtain ⟨h1, h2⟩ := List.getElem?_eq_some_iff.mp ed
      rw [← h2]
      exact List.drop_eq_getElem_cons h1
    rw [edr] at h
    unfold dc2L at h
    cases q : g d ρ with
    | none => simp only [q] at h; exact h.elim
    | some ρ2 =>
      simp only [q] at h
      refine ⟨F2, ρ, fp, d, ρ2, s2, z, q, fun σ3 fp3 s3 t3 o3 => ?_⟩
      have ew : wipe σ3 vs = wipe σ vs := (o3 vs his).trans (wipe_sub fun _ h => h)
      have h3 := Pst.tr h (t2.trans t3).cons
      have m3 := m2.go t3 s3
      refine ⟨ew, F2, ρ2, fp3, s3, ?_⟩
      cases q1 : t ρ2 with
      | bad => rw [q1] at h3; exact h3.elim
      | exc c x ρ => rw [q1] at h3; exact h3.elim
      | ok b ρ4 =>
        rw [q1] at h3
        intro F4 H4 fp4 t4 s4
        have m4 := m3.go t4 s4
        have h4 := Pst.tr h3 t4.cons
        cases b with
        | false =>
          refine iteF ?_
          obtain ⟨fp5, s5, t5⟩ := StaW.wipe (vs := vs) s4
          rw [ew] at s5
          exact ⟨F4, _, fp5, ks, es, m4.go t5 s5, hz, by simpa [noX_ok, bnd_ok] using Pst.tr h4 t5.cons⟩
        | true =>
          refine iteT ⟨F4, ρ4, fp4, s4, ?_⟩
          have h4' : Pst K w F4 H4 (L :: fp4) σ (bnd (noX (src1 ρ4)) fun ds1 ρ3 => dc2I g1 t1 ek ev vs1 (fun ρ ks es => dc2L g t src1 g1 t1 ek ev vs vs1 (ds.drop (i + 1)) (wipeE vs ρ) ks es) ds1 (wipeE vs1 ρ3) ks es) (nO K w σ Q) := by simpa [noX_ok, bnd_ok] using h4
          cases q2 : src1 ρ4 with
          | bad => rw [q2] at h4'; exact h4'.elim
          | exc c x ρ => rw [q2] at h4'; exact h4'.elim
          | ok ds1 ρ5 =>
            rw [q2] at h4'
            intro F5 H5 fp5 t5 J1 s5 I1
            have m5 := m4.go t5 s5
            have h5 := Pst.tr h4' t5.cons
            obtain ⟨fp6, s6, t6⟩ := StaW.wipe (vs := vs1) s5
            have m6 := m5.go t6 s6
            have h6 : Pst K w F5 H5 (L :: fp6) σ (dc2I g1 t1 ek ev vs1 (fun ρ ks es => dc2L g t src1 g1 t1 ek ev vs vs1 (ds.drop (i + 1)) (wipeE vs ρ) ks es) ds1 (wipeE vs1 ρ5) ks es) (nO K w σ Q) := by simpa [noX_ok, bnd_ok] using Pst.tr h5 t6.cons
            refine ⟨fun j k H => k = ds1.length - j ∧ j ≤ ds1.length ∧ ∃ F ρ fp ks es, MkD K w F1 F H L (wipe σ3 vs1) ρ fp ks es ∧ Same F5 F ∧ ks.length ≤ sizeLine ∧ Pst K w F H (L :: fp) σ (dc2I g1 t1 ek ev vs1 (fun ρ ks es => dc2L g t src1 g1 t1 ek ev vs vs1 (ds.drop (i + 1)) (wipeE vs ρ) ks es) (ds1.drop j) ρ ks es) (nO K w σ Q), ⟨ds1.length, by simp, Nat.zero_le _, F5, _, fp6, ks, es, m6, Same.refl _, hz, h6⟩, ?_⟩
            rintro j k H7 ⟨rfl, hj, F7, ρ7, fp7, ks7, es7, m7, ex7, hz7, h7⟩
            by_cases hlt1 : j < ds1.length
            · refine .inr ⟨I1.go j H7 (ex7.trans m7.s.ex) hlt1, fun H => ∃ F ρ fp ks es, MkD K w F1 F H L (wipe σ3 vs1) ρ fp ks es ∧ Same F5 F ∧ ks.length ≤ sizeLine ∧ Pst K w F H (L :: fp) σ (dc2I g1 t1 ek ev vs1 (fun ρ ks es => dc2L g t src1 g1 t1 ek ev vs vs1 (ds.drop (i + 1)) (wipeE vs ρ) ks es) (ds1.drop (j + 1)) ρ ks es) (nO K w σ Q), fun H' q => ⟨ds1.length - (j + 1), by omega, rfl, hlt1, q⟩, fun x H' y => ?_⟩
              obtain ⟨d8, F8, ed8, s8, t8, z8⟩ := given I1 m7.s ex7 hlt1 y
              have m8 := m7.go t8 s8
              have edr8 : ds1.drop j = d8 :: ds1.drop (j + 1) := by
                obtain ⟨h1, h2⟩ := List.getElem?_eq_some_iff.mp ed8
                rw [← h2]
                exact List.drop_eq_getElem_cons h1
              rw [edr8] at h7
              unfold dc2I at h7
              cases q8 : g1 d8 ρ7 with
              | none => simp only [q8] at h7; exact h7.elim
              | some ρ9 =>
                simp only [q8] at h7
                refine ⟨F8, ρ7, fp7, d8, ρ9, s8, z8, q8, fun σ9 fp9 s9 t9 o9 => ?_⟩
                have ew9 : wipe σ9 vs1 = wipe σ3 vs1 := (o9 vs1 his1).trans (wipe_sub fun _ h => h)
                have h9 := Pst.tr h7 (t8.trans t9).cons
                have m9 := m8.go t9 s9
                refine ⟨ew9, F8, ρ9, fp9, s9, ?_⟩
                have ex8 := ex7.trans (t8.trans t9).ex
                cases qa : t1 ρ9 with
                | bad => rw [qa] at h9; exact h9.elim
                | exc c x ρ => rw [qa] at h9; exact h9.elim
                | ok b ρa =>
                  rw [qa] at h9
                  intro Fa Ha fpa ta sa
                  have ma := m9.go ta sa
                  have ha := Pst.tr h9 ta.cons
                  cases b with
                  | false =>
                    refine iteF ?_
                    obtain ⟨fpb, sb, tb⟩ := StaW.wipe (vs := vs1) sa
                    rw [ew9] at sb
                    exact ⟨Fa, _, fpb, ks7, es7, ma.go tb sb, ex8.trans ta.ex, hz7, by simpa [noX_ok, bnd_ok] using Pst.tr ha tb.cons⟩
                  | true =>
                    refine iteT ⟨Fa, ρa, fpa, sa, ?_⟩
                    have ha' : Pst K w Fa Ha (L :: fpa) σ (bnd (noX (ek ρa)) fun kk ρ3 => bnd (noX (ev ρ3)) fun x ρ4 => match keyD kk with
                      | some q => if ks7.length < sizeLine then dc2I g1 t1 ek ev vs1 (fun ρ ks es => dc2L g t src1 g1 t1 ek ev vs vs1 (ds.drop (i + 1)) (wipeE vs ρ) ks es) (ds1.drop (j + 1)) (wipeE vs1 ρ4) (putKs ks7 q) (putDs ks7 es7 q x) else .bad
                      | none => .bad) (nO K w σ Q) := by simpa [noX_ok, bnd_ok] using ha
                    cases qb : ek ρa with
                    | bad => rw [qb] at ha'; exact ha'.elim
                    | exc c x ρ => rw [qb] at ha'; exact ha'.elim
                    | ok dk ρk =>
                      rw [qb] at ha'
                      intro Fk Hk fpk tk vk sk zk
                      have mk := ma.go tk sk
                      have hk := Pst.tr ha' tk.cons
                      refine ⟨Fk, ρk, fpk, sk, ?_⟩
                      have hk' : Pst K w Fk Hk (L :: fpk) σ (bnd (noX (ev ρk)) fun x ρ4 => match keyD dk with
                        | some q => if ks7.length < sizeLine then dc2I g1 t1 ek ev vs1 (fun ρ ks es => dc2L g t src1 g1 t1 ek ev vs vs1 (ds.drop (i + 1)) (wipeE vs ρ) ks es) (ds1.drop (j + 1)) (wipeE vs1 ρ4) (putKs ks7 q) (putDs ks7 es7 q x) else .bad
                        | none => .bad) (nO K w σ Q) := by simpa [noX_ok, bnd_ok] using hk
                      cases qv : ev ρk with
                      | bad => rw [qv] at hk'; exact hk'.elim
                      | exc c x ρ => rw [qv] at hk'; exact hk'.elim
                      | ok dx ρb =>
                        rw [qv] at hk'
                        intro Fb Hb fpb tb v sb zv
                        have mb := mk.go tb sb
                        have hb := Pst.tr hk' tb.cons
                        obtain ⟨fpc, sc, tc⟩ := StaW.wipe (vs := vs1) sb
                        rw [ew9] at sc
                        have mc := mb.go tc sc
                        have hc := Pst.tr hb tc.cons
                        cases q4 : keyD dk with
                        | none => exact (show False by simpa [bnd, noX, q4, Pst] using hc).elim
                        | some q =>
                          by_cases hl : ks7.length < sizeLine
                          · obtain ⟨kvs, e1, e2, md, td⟩ := mc.app (q := q) zv (keyL_of zk q4)
                            refine ⟨kvs, q, keyD_rel zk q4, e1, by rw [e2]; exact hl, Fb, _, fpc, _, _, md, (ex8.trans ta.ex).trans ((tk.trans tb).trans tc).ex, putKs_le hl, ?_⟩
                            have he := Pst.tr hc td
                            simpa [bnd, noX, q4, hl] using he
                          · exact (show False by simpa [bnd, noX, q4, hl, Pst] using hc).elim
            · have ej : j = ds1.length := by omega
              subst ej
              rw [List.drop_length] at h7
              refine .inl ⟨I1.stop H7 (ex7.trans m7.s.ex), ?_⟩
              obtain ⟨fp8, s8, t8⟩ := StaW.wipe (vs := vs) m7.s
              rw [wipe_sub hv, ew] at s8
              exact ⟨F7, _, fp8, ks7, es7, m7.go t8 s8, hz7, Pst.tr h7 t8.cons⟩
  · have e : i = ds.length := by omega
    subst e
    rw [List.drop_length] at h
    have mu : MkD K w F1 F H L σ ρ fp ks es := ⟨StaW.unwipe m.s, m.ex, m.nf, m.nF, m.kl, m.at_⟩
    exact .inl ⟨I.stop H (m.ex.trans m.s.ex), h F H (L :: fp) .refl (.ref L) (mu.done hz)⟩

end
section
variable {X : Cx} {w : Wd} {tg iter tg1 iter1 kx vx : Expr} {ifs ifs1 : List Expr} {scope : Scope} {is is1 vs1 : List Nat} {g g1 : D → En → Option En} {t t1 : En → R Bool} {ek ev : En → R D} {srcL src1 : En → R (List D)} {pos : Pos}
def sDc2 (src : En → R (List D)) (g : D → En → Option En) (t : En → R Bool) (src1 : En → R (List D)) (g1 : D → En → Option En) (t1 : En → R Bool) (ek ev : En → R D) (vs vs1 : List Nat) : En → R D := fun ρ => bnd (src ρ) fun ds ρ1 => dc2L g t src1 g1 t1 ek ev vs vs1 ds (wipeE vs ρ1) [] []
theorem d_dc2 (own : List (Str × Nat)) (hc : X.calm = true) (hN : X.N.Nodup) (hi : PI X tg iter (cI X.K w srcL)) (ok : BlkOk X.N X.env.scope scope own) (his : ∀ i ∈ is, i ∈ own.map (·.2)) (his1 : ∀ i ∈ is1, i ∈ vs1) (hv : ∀ i ∈ vs1, i ∈ own.map (·.2))
    (hg : ∀ (s : Shared) (H : Hp) (C : Addr) (cl : List (Str × Addr)) (fp : List Addr), PG (X.blk s H scope (compEnvC scope cl C X.env) fp) tg (cG X.K w.in1 is g)) (ht : ∀ (s : Shared) (H : Hp) (C : Addr) (cl : List (Str × Addr)) (fp : List Addr), PTs (X.blk s H scope (compEnvC scope cl C X.env) fp) ifs (cT X.K w.in1 t))
    (hi1 : ∀ (s : Shared) (H : Hp) (C : Addr) (cl : List (Str × Addr)) (fp : List Addr), PI (X.blk s H scope (compEnvC scope cl C X.env) fp) tg1 iter1 (cI X.K w.in1 src1))
    (hg1 : ∀ (s : Shared) (H : Hp) (C : Addr) (cl : List (Str × Addr)) (fp : List Addr), PG (X.blk s H scope (compEnvC scope cl C X.env) fp) tg1 (cG X.K w.in1 is1 g1)) (ht1 : ∀ (s : Shared) (H : Hp) (C : Addr) (cl : List (Str × Addr)) (fp : List Addr), PTs (X.blk s H scope (compEnvC scope cl C X.env) fp) ifs1 (cT X.K w.in1 t1))
    (hk : ∀ (s : Shared) (H : Hp) (C : Addr) (cl : List (Str × Addr)) (fp : List Addr), PE (X.blk s H scope (compEnvC scope cl C X.env) fp) kx (cF X.K w.in1 ek))
    (he : ∀ (s : Shared) (H : Hp) (C : Addr) (cl : List (Str × Addr)) (fp : List Addr), PE (X.blk s H scope (compEnvC scope cl C X.env) fp) vx (cF X.K w.in1 ev)) (hs : ∀ x, foldedSetIterable iter X.env x = pure x := by intro _; rfl) (hs1 : ∀ env x, foldedSetIterable iter1 env x = pure x := by intro _ _; rfl) :
    PE X (.DictComp kx vx [⟨tg, iter, ifs, 0⟩, ⟨tg1, iter1, ifs1, 0⟩] scope pos) (cO X.K w (sDc2 srcL g t src1 g1 t1 ek ev (own.map (·.2)) vs1)) :=
  peI (pe_dc2 hc hN hi ok hv (fun s H C cl fp => ⟨hg s H C cl fp, ht s H C cl fp, hi1 s H C cl fp, hg1 s H C cl fp, ht1 s H C cl fp, hk s H C cl fp, he s H C cl fp⟩) hs hs1) fun σ H Q h => by
    obtain ⟨F, ρ, fp, s, h⟩ := h
    exact ⟨F, ρ, fp, s, h.bnd fun ds ρ1 F1 H1 fp1 t1 h1 => fun J s1 I => dc2_body his his1 hv s1 I h1⟩
theorem s_setDc2 (i : Nat) (own : List (Str × Nat)) {y : Str} {py spos : Pos} (hc : X.calm = true) (hN : X.N.Nodup) (hi : PI X tg iter (cI X.K w srcL)) (ok : BlkOk X.N X.env.scope scope own) (his : ∀ i ∈ is, i ∈ own.map (·.2)) (his1 : ∀ i ∈ is1, i ∈ vs1) (hv : ∀ i ∈ vs1, i ∈ own.map (·.2))
    (hg : ∀ (s : Shared) (H : Hp) (C : Addr) (cl : List (Str × Addr)) (fp : List Addr), PG (X.blk s H scope (compEnvC scope cl C X.env) fp) tg (cG X.K w.in1 is g)) (ht : ∀ (s : Shared) (H : Hp) (C : Addr) (cl : List (Str × Addr)) (fp : List Addr), PTs (X.blk s H scope (compEnvC scope cl C X.env) fp) ifs (cT X.K w.in1 t))
    (hi1 : ∀ (s : Shared) (H : Hp) (C : Addr) (cl : List (Str × Addr)) (fp : List Addr), PI (X.blk s H scope (compEnvC scope cl C X.env) fp) tg1 iter1 (cI X.K w.in1 src1))
    (hg1 : ∀ (s : Shared) (H : Hp) (C : Addr) (cl : List (Str × Addr)) (fp : List Addr), PG (X.blk s H scope (compEnvC scope cl C X.env) fp) tg1 (cG X.K w.in1 is1 g1)) (ht1 : ∀ (s : Shared) (H : Hp) (C : Addr) (cl : List (Str × Addr)) (fp : List Addr), PTs (X.blk s H scope (compEnvC scope cl C X.env) fp) ifs1 (cT X.K w.in1 t1))
    (hk : ∀ (s : Shared) (H : Hp) (C : Addr) (cl : List (Str × Addr)) (fp : List Addr), PE (X.blk s H scope (compEnvC scope cl C X.env) fp) kx (cF X.K w.in1 ek))
    (he : ∀ (s : Shared) (H : Hp) (C : Addr) (cl : List (Str × Addr)) (fp : List Addr), PE (X.blk s H scope (compEnvC scope cl C X.env) fp) vx (cF X.K w.in1 ev))
    (hsw : swapsWith (.DictComp kx vx [⟨tg, iter, ifs, 0⟩, ⟨tg1, iter1, ifs1, 0⟩] scope pos) (some (.Name y py)) spos.line X.env = pure true) (hy : X.N[i]? = some y := by rfl) (hyl : X.env.scope.names.lookup y = some .local := by rfl) (hs : ∀ x, foldedSetIterable iter X.env x = pure x := by intro _; rfl) (hs1 : ∀ env x, foldedSetIterable iter1 env x = pure x := by intro _ _; rfl) :
    PS X (.Assign [.Name y py] (.DictComp kx vx [⟨tg, iter, ifs, 0⟩, ⟨tg1, iter1, ifs1, 0⟩] scope pos) spos) (cS X.K w (sSetO i (sDc2 srcL g t src1 g1 t1 ek ev (own.map (·.2)) vs1))) :=
  psI (ps_setDc2 hc hN hi ok hv hy hyl hsw (fun s H C cl fp => ⟨hg s H C cl fp, ht s H C cl fp, hi1 s H C cl fp, hg1 s H C cl fp, ht1 s H C cl fp, hk s H C cl fp, he s H C cl fp⟩) hs hs1) fun D σ H h => by
    obtain ⟨F, ρ, fp, s, h⟩ := h
    have q : cO X.K w (sDc2 srcL g t src1 g1 t1 ek ev (own.map (·.2)) vs1) σ H (fun x H1 => D.nx (σ.set i (some x)) H1) := ⟨F, ρ, fp, s, h.bnd fun d ρ1 F1 H1 fp1 t1 h1 => fun v s1 => by
      obtain ⟨fp2, s2, t2⟩ := s1.storeO i
      exact h1 _ F1 H1 fp2 t2 s2⟩
    obtain ⟨F, ρ, fp, s, h⟩ := q
    exact ⟨F, ρ, fp, s, h.bnd fun ds ρ1 F1 H1 fp1 t1 h1 => fun J s1 I => dc2_body his his1 hv s1 I h1⟩
theorem s_setDc2F (i : Nat) (own : List (Str × Nat)) {y : Str} {py spos : Pos} (hc : X.calm = true) (hN : X.N.Nodup) (hi : PI X tg iter (cI X.K w srcL)) (ok : BlkOk X.N X.env.scope scope own) (his : ∀ i ∈ is, i ∈ own.map (·.2)) (his1 : ∀ i ∈ is1, i ∈ vs1) (hv : ∀ i ∈ vs1, i ∈ own.map (·.2))
    (hg : ∀ (s : Shared) (H : Hp) (C : Addr) (cl : List (Str × Addr)) (fp : List Addr), PG (X.blk s H scope (compEnvC scope cl C X.env) fp) tg (cG X.K w.in1 is g)) (ht : ∀ (s : Shared) (H : Hp) (C : Addr) (cl : List (Str × Addr)) (fp : List Addr), PTs (X.blk s H scope (compEnvC scope cl C X.env) fp) ifs (cT X.K w.in1 t))
    (hi1 : ∀ (s : Shared) (H : Hp) (C : Addr) (cl : List (Str × Addr)) (fp : List Addr), PI (X.blk s H scope (compEnvC scope cl C X.env) fp) tg1 iter1 (cI X.K w.in1 src1))
    (hg1 : ∀ (s : Shared) (H : Hp) (C : Addr) (cl : List (Str × Addr)) (fp : List Addr), PG (X.blk s H scope (compEnvC scope cl C X.env) fp) tg1 (cG X.K w.in1 is1 g1)) (ht1 : ∀ (s : Shared) (H : Hp) (C : Addr) (cl : List (Str × Addr)) (fp : List Addr), PTs (X.blk s H scope (compEnvC scope cl C X.env) fp) ifs1 (cT X.K w.in1 t1))
    (hk : ∀ (s : Shared) (H : Hp) (C : Addr) (cl : List (Str × Addr)) (fp : List Addr), PE (X.blk s H scope (compEnvC scope cl C X.env) fp) kx (cF X.K w.in1 ek))
    (he : ∀ (s : Shared) (H : Hp) (C : Addr) (cl : List (Str × Addr)) (fp : List Addr), PE (X.blk s H scope (compEnvC scope cl C X.env) fp) vx (cF X.K w.in1 ev))
    (hsw : swapsWith (.DictComp kx vx [⟨tg, iter, ifs, 0⟩, ⟨tg1, iter1, ifs1, 0⟩] scope pos) (some (.Name y py)) spos.line X.env = pure true) (hy : X.N[i]? = some y := by rfl) (hyl : X.env.scope.names.lookup y = some .local := by rfl) (hs : ∀ x, foldedSetIterable iter X.env x = pure x := by intro _; rfl) (hs1 : ∀ env x, foldedSetIterable iter1 env x = pure x := by intro _ _; rfl) :
    PS X (.Assign [.Name y py] (.DictComp kx vx [⟨tg, iter, ifs, 0⟩, ⟨tg1, iter1, ifs1, 0⟩] scope pos) spos) (cS X.K w (sSet i (sDc2 srcL g t src1 g1 t1 ek ev (own.map (·.2)) vs1))) :=
  psI (ps_setDc2 hc hN hi ok hv hy hyl hsw (fun s H C cl fp => ⟨hg s H C cl fp, ht s H C cl fp, hi1 s H C cl fp, hg1 s H C cl fp, ht1 s H C cl fp, hk s H C cl fp, he s H C cl fp⟩) hs hs1) fun D σ H h => by
    obtain ⟨F, ρ, fp, s, h⟩ := h
    have q : cO X.K w (sDc2 srcL g t src1 g1 t1 ek ev (own.map (·.2)) vs1) σ H (fun x H1 => D.nx (σ.set i (some x)) H1) := cF_fz ⟨F, ρ, fp, s, h.bnd fun d ρ1 F1 H1 fp1 t1 h1 => fun v s1 z => by
      obtain ⟨fp2, s2, t2⟩ := s1.store z i
      exact h1 _ F1 H1 fp2 t2 s2⟩
    obtain ⟨F, ρ, fp, s, h⟩ := q
    exact ⟨F, ρ, fp, s, h.bnd fun ds ρ1 F1 H1 fp1 t1 h1 => fun J s1 I => dc2_body his his1 hv s1 I h1⟩
end
/-! ### d.get(k, x) -/
section
variable {X : Cx} {w : Wd} {e f : Expr} {fk fd : En → R D} {x : Str} {p apos cpos : Pos}
def sGet (i : Nat) (fk fd : En → R D) : En → R D := fun ρ => bnd (sBor i ρ) fun x0 _ => if isDct x0 = true then bnd (fk ρ) fun k ρ1 => bnd (fd ρ1) fun z ρ2 => bnd (sBor i ρ2) fun x ρ3 => lift ((lookD x k).map (·.getD z)) ρ3 else .bad
theorem isD_of {K : PySem.W.Frag} {F H : Hp} {v : V} {d : D} (ex : Same F H) (z : Bz K F H v d) (h : isDct d = true) : ∃ a, v = .ref a ∧ IsD H a := by
  cases d with
  | nd k ds =>
    obtain ⟨a, vs, rfl, hi, hs⟩ := z.node ex
    cases k with
    | dK ks => exact ⟨a, rfl, .inl ⟨_, hi.2.1⟩⟩
    | dT ks => exact ⟨a, rfl, .inr ⟨_, hi.2.1⟩⟩
    | _ => simp [isDct] at h
  | _ => simp [isDct] at h
theorem d_get (i : Nat) (hu : X.A.units + 1 < cLine) (ha : PE X e (cF X.K w fk)) (hb : PE X f (cF X.K w fd)) (hN : X.N[i]? = some x := by rfl) (hv : Vis X.env.scope x := by first | exact Or.inl rfl | exact Or.inr (Or.inl rfl) | exact Or.inr (Or.inr rfl)) (hd : (x == ("__debug__" : Str)) = false := by decide) (hcd : (x == ("__classdict__" : Str)) = false := by decide)
    (m : M2 X (.Name x p) "get" apos e f cpos := by exact ⟨rfl, rfl, rfl, rfl⟩) : PE X (.Call (.Attribute (.Name x p) "get" apos) [e, f] [] cpos) (cF X.K w (sGet i fk fd)) :=
  peI (pe_dget2 hu (pe_var hN hv hd hcd) ha hb m) fun σ H Q h => by
    obtain ⟨F, ρ, fp, s, h⟩ := h
    unfold sGet at h
    obtain ⟨d0, v, _, ev, z, h⟩ := sBor_ok s h
    by_cases c : isDct d0 = true
    · rw [if_pos c] at h
      obtain ⟨a, rfl, hD⟩ := isD_of s.ex z c
      refine ⟨.ref a, ev, a, rfl, hD, F, ρ, fp, s, h.bnd fun dk ρ1 F1 H1 fp1 t1 h1 => fun y s1 zy => ⟨F1, ρ1, fp1, s1, h1.bnd fun dz ρ2 F2 H2 fp2 t2 h2 => fun u s2 zu => ?_⟩⟩
      obtain ⟨d, v', _, e1, z', h3⟩ := sBor_ok s2 h2
      rw [ev] at e1
      cases e1
      obtain ⟨r, e3, n⟩ := h3.lift
      obtain ⟨o, e4, rfl⟩ := Option.map_eq_some_iff.mp e3
      obtain ⟨a', r', e5, g, rel⟩ := lookD_rel s2.ex z' (zy.mono t2.ex) e4
      cases e5
      refine ⟨r', g, n F2 H2 fp2 .refl _ s2 ?_⟩
      cases o with
      | none => cases r' with
        | none => exact zu
        | some _ => exact rel.elim
      | some d' => cases r' with
        | none => exact rel.elim
        | some v' => exact rel
    · rw [if_neg c] at h
      exact h.elim
end
/-! ### a, b, c, d = .. -/
section
variable {X : Cx} {w : Wd} {fs : En → R (List S)} {pos : Pos}
def sPar4 (i j k l : Nat) (f : En → R (List S)) : En → R Fl := fun ρ => bnd (f ρ) fun ss ρ1 => match ss with
  | [x, y, z, u] => if noB x = true ∧ noB y = true ∧ noB z = true ∧ noB u = true then .ok .nx ((((ρ1.set i (some x)).set j (some y)).set k (some z)).set l (some u)) else .bad
  | _ => .bad
theorem s_par4 (i j k l : Nat) {x y z u : Str} {a b c d : Expr} {px py pz pu pt : Pos} {kt k2 pt2} (hc : X.calm = true) (hN : X.N.Nodup) (ha : PA X [a, b, c, d] (cS2 X.K w fs)) (hi : X.N[i]? = some x := by rfl) (hj : X.N[j]? = some y := by rfl) (hk : X.N[k]? = some z := by rfl) (hl : X.N[l]? = some u := by rfl)
    (hx : Loc X.env.scope x := by first | exact Or.inl rfl | exact Or.inr rfl) (hy : Loc X.env.scope y := by first | exact Or.inl rfl | exact Or.inr rfl) (hz : Loc X.env.scope z := by first | exact Or.inl rfl | exact Or.inr rfl) (hu : Loc X.env.scope u := by first | exact Or.inl rfl | exact Or.inr rfl)
    (fx : X.fn x = true ∨ X.env.scope.names.lookup x = some .local := by first | exact .inl rfl | exact .inr rfl) (fy : X.fn y = true ∨ X.env.scope.names.lookup y = some .local := by first | exact .inl rfl | exact .inr rfl) (fz : X.fn z = true ∨ X.env.scope.names.lookup z = some .local := by first | exact .inl rfl | exact .inr rfl) (fu : X.fn u = true ∨ X.env.scope.names.lookup u = some .local := by first | exact .inl rfl | exact .inr rfl)
    (hp1 : (assignEach [.Name u pu] X.env).map (·.2) = assign (.Name u pu) X.env :: (assignEach [] X.env).map (·.2) := by rfl) (hp2 : (assignEach [.Name z pz, .Name u pu] X.env).map (·.2) = assign (.Name z pz) X.env :: (assignEach [.Name u pu] X.env).map (·.2) := by rfl)
    (hp3 : (assignEach [.Name y py, .Name z pz, .Name u pu] X.env).map (·.2) = assign (.Name y py) X.env :: (assignEach [.Name z pz, .Name u pu] X.env).map (·.2) := by rfl) (hp4 : (assignEach [.Name x px, .Name y py, .Name z pz, .Name u pu] X.env).map (·.2) = assign (.Name x px) X.env :: (assignEach [.Name y py, .Name z pz, .Name u pu] X.env).map (·.2) := by rfl)
    (hn : (assignEach [.Name x px, .Name y py, .Name z pz, .Name u pu] X.env).length = 4 := by rfl) (hst : (assignEach [.Name x px, .Name y py, .Name z pz, .Name u pu] X.env).findIdx? (·.1) = none := by rfl)
    (hs : swapsWithSole [.Tuple [.Name x px, .Name y py, .Name z pz, .Name u pu] kt pt] (.Tuple [a, b, c, d] k2 pt2) pos.line X.env = pure false := by rfl)
    (hw : swappedStores [.Tuple [.Name x px, .Name y py, .Name z pz, .Name u pu] kt pt] (.Tuple [a, b, c, d] k2 pt2) X.env = pure none := by rfl)
    (h1 : (assignEach [.Tuple [.Name x px, .Name y py, .Name z pz, .Name u pu] kt pt] X.env).map (·.2) = [assign (.Tuple [.Name x px, .Name y py, .Name z pz, .Name u pu] kt pt) X.env] := by rfl) :
    PS X (.Assign [.Tuple [.Name x px, .Name y py, .Name z pz, .Name u pu] kt pt] (.Tuple [a, b, c, d] k2 pt2) pos) (cS X.K w (sPar4 i j k l fs)) :=
  psI (ps_asg (pe_tup ha) (pg_tup hc (pgs_cons (pg_name hN hi hx fx) (pgs_cons (pg_name hN hj hy fy) (pgs_cons (pg_name hN hk hz fz) (pgs_cons (pg_name hN hl hu fu) pgs_nil hp1) hp2) hp3) hp4) hn hst) hs hw h1) fun D σ H h => by
  obtain ⟨F, ρ, fp, s, h⟩ := h
  refine ⟨F, ρ, fp, s, PstS.bnd (e := fs ρ) h fun ss ρ1 F1 H1 fp1 t1 h1 => fun vs s1 hl => ?_⟩
  match ss, vs, hl with
  | [x, y, z, u], [v1, v2, v3, v4], _ =>
    dsimp only at h1
    split at h1
    · rename_i c
      refine ⟨show 4 ≤ sizeLine by decide, fun p hp => ⟨p, [v1, v2, v3, v4], rfl, SqT.of upd_same, rfl, ?_⟩⟩
      obtain ⟨s0, t0⟩ := Sta.ghost (o := .tup [v1, v2, v3, v4]) s1 hp
      obtain ⟨fp2, s2, t2⟩ := Sta.storeS s0 (noB_ne c.1) (i + 3)
      obtain ⟨fp3, s3, t3⟩ := Sta.storeS s2 (noB_ne c.2.1) (j + 2)
      obtain ⟨fp4, s4, t4⟩ := Sta.storeS s3 (noB_ne c.2.2.1) (k + 1)
      obtain ⟨fp5, s5, t5⟩ := Sta.storeS s4 (noB_ne c.2.2.2) l
      exact ⟨v1, [v2, v3, v4], rfl, v2, [v3, v4], rfl, v3, [v4], rfl, v4, [], rfl, rfl, h1 _ F1 _ fp5 (t0.trans (t2.trans (t3.trans (t4.trans t5)))) s5⟩
    · exact h1.elim
  | [], _, _ => exact h1.elim
  | [_], _, _ => exact h1.elim
  | [_, _], _, _ => exact h1.elim
  | [_, _, _], _, _ => exact h1.elim
  | _ :: _ :: _ :: _ :: _ :: _, _, _ => exact h1.elim
end
end Y

set_option Elab.async false
set_option linter.all false
set_option maxRecDepth 100000
set_option maxHeartbeats 4000000
/-! A display of a dict with one key, a tuple. -/
namespace Y
open PySem L2 PyProof.Rows
/-- {k: v}: the dict stands empty while both are made -/
def tDisp1T (tk tv : TE) : TE := fun σ H Q => ∀ p, H p = none → tk σ (upd H p (.dT [])) fun x H1 => tv σ H1 fun y H2 => H2 p = some (.dT []) ∧ ∃ k b, x = .ref b ∧ H2 b = some (.tup (k.map kV)) ∧ Q (.ref p) (upd H2 p (.dT [(k, y)]))
theorem pe_disp1T {X : Cx} {pos : Pos} {k v : Expr} {tk tv : TE} (hu : X.A.units + 1 < cLine) (hk : PE X k tk) (hv : PE X v tv) : PE X (.Dict [some k] [v] pos) (tDisp1T tk tv) := by
  refine ⟨fun pins s σ H Q I q => ?_⟩
  have hn := I.hok.fresh (Nat.le_refl s.heap.objs.size)
  have I1 := I.laid (a := s.heap.objs.size) (o := .dT []) (h' := s.heap.push { cls := .type "dict", data := .dict #[] }) (t' := s.toks) (fun _ _ q => Heap.get?_push_of_some _ q) (Nat.le_refl _) (dt_empty s.heap I.big)
  refine wpAny_Dict_any rfl rfl (by simp) (show 1 ≤ 15 by decide) (pairTrees_cons_walk (thn (hk.run pins _ σ _ _ I1 (q _ hn)) fun u s1 ⟨x, H1, I2, rx, q1⟩ => thn (hv.run pins s1 σ H1 _ I2 q1) fun w2 s2 ⟨y, H2, I3, ry, e, kq, b, ex, eb, q2⟩ => pairTrees_nil_walk ?_))
  subst ex
  cases (show u = Value.ref b from rx)
  obtain ⟨z, hd, xs, rel, dd⟩ := dt_of I3.hok e
  have hz : xs.length ≤ sizeLine := by rw [← Paired.length rel]; exact z
  unfold storeAll
  rw [List.forIn_cons]
  refine wpAny_bind (wpAny_bind (wpAny_dictSet_heap (hsz := hz) (knd := tupleKind (mixKind X.prog X.w)) (show X.A.units < cLine by omega) (key_of I3.hok eb) dd fun h' dd' hs => wpAny_pure ?_))
  show wpAny _ _ (forIn [] _ _) _ _ _
  rw [List.forIn_nil]
  refine wpAny_pure ⟨.ref s.heap.objs.size, upd H2 s.heap.objs.size (.dT [(kq, y)]), ?_, rfl, q2⟩
  obtain ⟨q, es, ep, hq, h2, h3, h4, _, h5⟩ := dd'
  have hl : (putK ([] : List (List Key × V)) kq y).length ≤ sizeLine := by rw [sizeLine_eq]; simp [putK]
  show Inv X pins σ (upd H2 s.heap.objs.size (.dT (putK [] kq y))) _
  refine d_write I3 (by rw [e]; exact True.intro) hs ⟨q, hq⟩ ⟨hl, hd, _, (rel.put kq eb ry).keeps fun c ys ec => ?_, q, es, ep, hq, h2, h3, h4, h5⟩
  rw [upd_ne (ne_of ec e (fun z => nomatch z))]
  exact ec
def sDisp1 (fk fv : En → R D) : En → R D := fun ρ => bnd (fk ρ) fun k ρ1 => bnd (fv ρ1) fun d ρ2 => match k with
  | .nd .tup xs => (match keysD xs with
    | some q => .ok (.nd (.dT [q]) [d]) ρ2
    | none => .bad)
  | _ => .bad
theorem d_disp1T {X : Cx} {w : Wd} {pos : Pos} {k v : Expr} {fk fv : En → R D} (hu : X.A.units + 1 < cLine) (hk : PE X k (cF X.K w fk)) (hv : PE X v (cF X.K w fv)) : PE X (.Dict [some k] [v] pos) (cO X.K w (sDisp1 fk fv)) := peI (pe_disp1T hu hk hv) fun σ H Q h => by
  obtain ⟨F, ρ, fp, s, h⟩ := h
  intro p hp
  have pf : p ∉ fp := fun m => by obtain ⟨o, e⟩ := s.sl.fpH p m; rw [hp] at e; cases e
  have Fp : F p = none := by
    cases q : F p with
    | none => rfl
    | some o => rw [s.ex _ _ q] at hp; cases hp
  have kp : ∀ a o, H a = some o → upd H p (.dT []) a = some o := fun a o e => by
    have n : a ≠ p := fun z => by rw [z, hp] at e; cases e
    rw [upd_ne n]; exact e
  have s0 : StaW X.K w F (upd H p (.dT [])) σ ρ fp := ⟨fun a o e => kp a o (s.ex a o e), s.sl.frame (Same.refl _) fun a _ o e => kp a o e, s.nd, s.own, s.lock⟩
  have t0 : Tr F H fp F (upd H p (.dT [])) (p :: fp) := ⟨Same.refl _, fun a o e _ => kp a o e, fun a z => by
    rcases z with z | ⟨z1, z2, _⟩
    · rcases List.mem_cons.mp z with rfl | z
      · exact .inr hp
      · exact .inl z
    · exact absurd z1 z2⟩
  have t0' : Tr F H fp F (upd H p (.dT [])) fp := t0.sub fun a m => List.mem_cons_of_mem _ m
  have Hp0 : upd H p (.dT []) p = some (.dT []) := upd_same
  have ntp : ¬ IsTp (upd H p (.dT [])) p := IsTp.not Hp0 fun _ e => nomatch e
  refine ⟨F, ρ, fp, s0, ?_⟩
  unfold sDisp1 at h
  cases q : fk ρ with
  | bad => rw [q] at h; exact h.elim
  | exc c x ρ2 => rw [q] at h; exact Pst.tr (r := .exc c x ρ2) h t0'
  | ok dk ρ1 =>
    rw [q] at h
    intro F1 H1 fp1 t1 v s1 zk
    refine ⟨F1, ρ1, fp1, s1, ?_⟩
    have h : Pst X.K w F H fp σ (bnd (fv ρ1) fun d ρ2 => match dk with
      | .nd .tup xs => (match keysD xs with
        | some q => .ok (.nd (.dT [q]) [d]) ρ2
        | none => .bad)
      | _ => .bad) (nO X.K w σ Q) := h
    cases q1 : fv ρ1 with
    | bad => rw [q1] at h; exact h.elim
    | exc c x ρ2 => rw [q1] at h; exact Pst.tr (r := .exc c x ρ2) h (t0'.trans t1)
    | ok d ρ2 =>
      rw [q1] at h
      intro F2 H2 fp2 t2 y s2 zy
      have t12 := t1.trans t2
      have Hp2 : H2 p = some (.dT []) := t12.keep p _ Hp0 pf
      have pf2 : p ∉ fp2 := fun m => by
        rcases t12.new p (.inl m) with z | z
        · exact pf z
        · rw [Hp0] at z; cases z
      have Fp2 : F2 p = none := by
        cases r : F2 p with
        | none => rfl
        | some o =>
          rcases t12.new p (.inr ⟨Fp, by rw [r]; exact (fun z => nomatch z), ntp⟩) with z | z
          · exact absurd z pf
          · rw [Hp0] at z; cases z
      cases dk with
      | nd k4 xs =>
        cases k4 with
        | tup =>
          have h : Pst X.K w F H fp σ (match keysD xs with
            | some q => R.ok (.nd (.dT [q]) [d]) ρ2
            | none => .bad) (nO X.K w σ Q) := h
          cases q2 : keysD xs with
          | none => rw [q2] at h; exact h.elim
          | some kq =>
            rw [q2] at h
            have zk2 := zk.mono t2.ex
            obtain ⟨b, ws, rfl, hb, gs⟩ := zk2.node
            refine ⟨Hp2, kq, b, rfl, by rw [← keysD_rel gs q2]; exact s2.ex _ _ hb.1, ?_⟩
            have kp2 : ∀ a o, H2 a = some o → a ≠ p → upd H2 p (.dT [(kq, y)]) a = some o := fun a o e n => by rw [upd_ne n]; exact e
            have t3 : Tr F2 H2 (p :: fp2) F2 (upd H2 p (.dT [(kq, y)])) (p :: fp2) := ⟨Same.refl _, fun a o e n => kp2 a o e fun z => n (by rw [z]; exact List.mem_cons_self), fun a z => by
              rcases z with z | ⟨z1, z2, _⟩
              · exact .inl z
              · exact absurd z1 z2⟩
            have kl : keyLL kq = true := by unfold keyLL; rw [keysL_of gs q2, Bool.true_and, decide_eq_true_eq, ← keysD_len q2, ← gs.length]; exact hb.2
            refine h F2 _ (p :: fp2) ((t0.trans t12.cons).trans t3) (.ref p) ⟨fun a o e => kp2 a o (s2.ex a o e) (fun z => by rw [z, Fp2] at e; cases e), .ow (k := .dT [kq]) (vs := [y]) ⟨rfl, upd_same, by rw [sizeLine_eq]; simp, by unfold keyssL; simp [kl]⟩ (.cons zy .nil) (s2.sl.frame (Same.refl _) fun a m o e => kp2 a o e fun z => pf2 (z ▸ m)), List.nodup_cons.mpr ⟨pf2, s2.nd⟩, fun a m => (List.mem_cons.mp m).elim (fun z => z ▸ Fp2) (s2.own a), s2.lock⟩
        | _ => exact h.elim
      | _ => exact h.elim
end Y

set_option Elab.async false
set_option linter.all false
set_option maxRecDepth 100000
set_option maxHeartbeats 4000000
/-! A comprehension in a comprehension. -/
namespace Y
open PySem L2
theorem lookup_relabel_in {env : Env} : ∀ {names : List (Str × NameKind)} {x : Str}, names.lookup x = some .cell ∨ names.lookup x = some .free →
    (names.map fun (n, k) => if (k == NameKind.free && env.scope.kind == .function && env.kindOf n == some .cell) then (n, NameKind.cell) else (n, k)).lookup x = some .cell ∨ (names.map fun (n, k) => if (k == NameKind.free && env.scope.kind == .function && env.kindOf n == some .cell) then (n, NameKind.cell) else (n, k)).lookup x = some .free
  | [], _, h => by simp at h
  | (n, k) :: r, x, h => by
    have ih := @lookup_relabel_in env r x
    have e : ((n, k) :: r).map (fun (n, k) => if (k == NameKind.free && env.scope.kind == .function && env.kindOf n == some .cell) then (n, NameKind.cell) else (n, k)) = (if (k == NameKind.free && env.scope.kind == .function && env.kindOf n == some .cell) = true then (n, NameKind.cell) else (n, k)) :: r.map (fun (n, k) => if (k == NameKind.free && env.scope.kind == .function && env.kindOf n == some .cell) then (n, NameKind.cell) else (n, k)) := rfl
    rw [e]
    cases hx : x == n with
    | true =>
      simp only [List.lookup_cons, hx] at h
      by_cases hc : (k == NameKind.free && env.scope.kind == .function && env.kindOf n == some .cell) = true
      · rw [if_pos hc]; simp [List.lookup_cons, hx]
      · rw [if_neg hc]; simpa [List.lookup_cons, hx] using h
    | false =>
      simp only [List.lookup_cons, hx] at h
      by_cases hc : (k == NameKind.free && env.scope.kind == .function && env.kindOf n == some .cell) = true
      · rw [if_pos hc]; simp only [List.lookup_cons, hx]; exact ih h
      · rw [if_neg hc]; simp only [List.lookup_cons, hx]; exact ih h
theorem blkOk_in {N : List Str} {own : List (Str × Nat)} {sc' scope : Scope} {cl : List (Str × Addr)} {C : Addr} {env : Env} (h : blkC N sc' scope own = true) : BlkOk N (compEnvC sc' cl C env).scope scope own :=
  have b : BlkOk N sc' scope own := blkOk_by h
  ⟨b.kind, b.uniq, b.ix, fun y hy e => lookup_relabel_in (b.free y hy e), b.own⟩
end Y

set_option Elab.async false
set_option linter.all false
set_option maxRecDepth 100000
set_option maxHeartbeats 4000000
/-! A comprehension over a list that is ours, read in its place. -/
namespace Y
open PySem L2
def lstAt (i : Nat) (ρ : En) : Option (List D) := match ρ[i]? with
  | some (some (.o (.nd .lst ds))) => some ds
  | _ => none
/-- how many are left: m of n -/
def lcV (i n : Nat) (g : D → En → Option En) (t : En → R Bool) (e : En → R D) (vs : List Nat) : Nat → En → List D → R D
  | 0, ρ, acc => match lstAt i ρ with
    | some ds => if ds.length = n then .ok (.nd .lst acc) ρ else .bad
    | none => .bad
  | m + 1, ρ, acc => match lstAt i ρ with
    | some ds => if ds.length = n then (match ds[n - (m + 1)]? with
      | some d => (match g d ρ with
        | none => .bad
        | some ρ1 => bnd (noX (t ρ1)) fun b ρ2 => if b = true then bnd (noX (e ρ2)) fun x ρ3 => if acc.length < sizeLine then lcV i n g t e vs m (wipeE vs ρ3) (acc ++ [x]) else .bad else lcV i n g t e vs m (wipeE vs ρ2) acc)
      | none => .bad) else .bad
    | none => .bad
def sLcV (i : Nat) (g : D → En → Option En) (t : En → R Bool) (e : En → R D) (vs : List Nat) : En → R D := fun ρ => match lstAt i ρ with
  | some ds => lcV i ds.length g t e vs ds.length (wipeE vs ρ) []
  | none => .bad
section
variable {K : PySem.W.Frag} {w : Wd} {g : D → En → Option En} {t : En → R Bool} {e : En → R D} {vs is : List Nat} {σ : St} {H : Hp} {Q : VK} {i n : Nat} {a : Addr}
theorem lst_get {F : Hp} {ρ : En} {fp : List Addr} {ds : List D} (s : StaW K w F H σ ρ fp) (q : lstAt i ρ = some ds) : ∃ a us, σ[i]? = some (some (.ref a)) ∧ H a = some (.lst us) ∧ Fzs K F us ds := by
  unfold lstAt at q
  split at q
  · rename_i ds' e
    cases q
    obtain ⟨a, k, us, es, fp1, fp2, e0, rfl, e1, hw, hz, _, put, _, _⟩ := s.sl.own .o (.inl rfl) e
    cases e0
    exact ⟨a, us, e1, hw.1, hz⟩
  · cases q
theorem lcV_body {F1 H1 : Hp} {ρ1 : En} {fp1 : List Addr} (his : ∀ i ∈ is, i ∈ vs) (s1 : StaW K w F1 H1 σ ρ1 fp1) (ea : σ[i]? = some (some (.ref a))) (h1 : Pst K w F1 H1 fp1 σ (lcV i n g t e vs n (wipeE vs ρ1) []) (nO K w σ Q)) : tLc (fun _ H R => R (Itl K a) H) (cG K w.in1 is g) (cT K w.in1 t) (cF K w.in1 e) vs σ H1 Q := fun L hL => by
  obtain ⟨fpw, sw, tw⟩ := StaW.wipe (vs := vs) s1
  obtain ⟨m0, t0⟩ := Mk.start sw hL
  have same : ∀ {F H : Hp} {ρ : En} {fp : List Addr} {ds : List D}, StaW K w F H (wipe σ vs) ρ fp → lstAt i ρ = some ds → ∃ us, H a = some (.lst us) ∧ Fzs K F us ds := fun s q => by
    obtain ⟨b, us, e1, e2, e3⟩ := lst_get s q
    have e4 := (wipe_some e1).1
    rw [ea] at e4
    cases e4
    exact ⟨us, e2, e3⟩
  refine ⟨fun j k H => k = n - j ∧ j ≤ n ∧ ∃ F ρ fp acc, Mk K w F1 F H L (wipe σ vs) ρ fp acc ∧ acc.length ≤ sizeLine ∧ Pst K w F H (L :: fp) σ (lcV i n g t e vs (n - j) ρ acc) (nO K w σ Q), ⟨n, by simp, Nat.zero_le _, F1, _, fpw, [], m0, Nat.zero_le _, Pst.tr h1 (tw.trans t0)⟩, ?_⟩
  rintro j k H ⟨rfl, hi, F, ρ, fp, acc, m, hz, h⟩
  by_cases hlt : j < n
  · obtain ⟨mm, em⟩ : ∃ mm, n - j = mm + 1 := ⟨n - j - 1, by omega⟩
    have ej : n - (mm + 1) = j := by omega
    have em2 : n - (j + 1) = mm := by omega
    rw [em] at h
    unfold lcV at h
    rw [ej] at h
    cases q0 : lstAt i ρ with
    | none => rw [q0] at h; exact h.elim
    | some ds =>
    rw [q0] at h
    by_cases hn : ds.length = n
    rotate_left
    · simp only [if_neg hn] at h; exact h.elim
    simp only [if_pos hn] at h
    cases q1 : ds[j]? with
    | none => simp only [q1] at h; exact h.elim
    | some d =>
    simp only [q1] at h
    obtain ⟨us, hH, hfz⟩ := same m.s q0
    obtain ⟨v, ev, _⟩ := hfz.get q1
    refine .inr ⟨⟨us, v, SqL.of hH, ev⟩, fun H => ∃ F ρ fp acc, Mk K w F1 F H L (wipe σ vs) ρ fp acc ∧ acc.length ≤ sizeLine ∧ Pst K w F H (L :: fp) σ (lcV i n g t e vs mm ρ acc) (nO K w σ Q), fun H' q => ⟨n - (j + 1), by omega, rfl, hlt, by rw [em2]; exact q⟩, fun x H' y => ?_⟩
    obtain ⟨rfl, y⟩ := y
    obtain ⟨d', ed', z⟩ := hfz.getV (y us (SqL.of hH))
    rw [q1] at ed'
    cases ed'
    cases q : g d ρ with
    | none => simp only [q] at h; exact h.elim
    | some ρ2 =>
      simp only [q] at h
      refine ⟨F, ρ, fp, d, ρ2, m.s, z, q, fun σ3 fp3 s3 t3 o3 => ?_⟩
      have ew : wipe σ3 vs = wipe σ vs := (o3 vs his).trans (wipe_sub fun _ h => h)
      have h3 := Pst.tr h t3.cons
      have m3 := m.go t3 s3
      have h3' : Pst K w F H' (L :: fp3) σ (bnd (noX (t ρ2)) fun b ρ2 => if b = true then bnd (noX (e ρ2)) fun x ρ3 => if acc.length < sizeLine then lcV i n g t e vs mm (wipeE vs ρ3) (acc ++ [x]) else .bad else lcV i n g t e vs mm (wipeE vs ρ2) acc) (nO K w σ Q) := h3
      refine ⟨ew, F, ρ2, fp3, s3, ?_⟩
      cases q1 : t ρ2 with
      | bad => rw [q1] at h3'; exact h3'.elim
      | exc c x ρ => rw [q1] at h3'; exact h3'.elim
      | ok b ρ4 =>
        rw [q1] at h3'
        intro F4 H4 fp4 t4 s4
        have m4 := m3.go t4 s4
        have h4 := Pst.tr h3' t4.cons
        cases b with
        | false =>
          refine iteF ?_
          obtain ⟨fp5, s5, t5⟩ := StaW.wipe (vs := vs) s4
          rw [ew] at s5
          exact ⟨F4, _, fp5, acc, m4.go t5 s5, hz, by simpa [noX_ok, bnd_ok] using Pst.tr h4 t5.cons⟩
        | true =>
          refine iteT ⟨F4, ρ4, fp4, s4, ?_⟩
          have h4' : Pst K w F4 H4 (L :: fp4) σ (bnd (noX (e ρ4)) fun x ρ3 => if acc.length < sizeLine then lcV i n g t e vs mm (wipeE vs ρ3) (acc ++ [x]) else .bad) (nO K w σ Q) := by simpa [noX_ok, bnd_ok] using h4
          cases q2 : e ρ4 with
          | bad => rw [q2] at h4'; exact h4'.elim
          | exc c x ρ => rw [q2] at h4'; exact h4'.elim
          | ok dx ρ5 =>
            rw [q2] at h4'
            intro F5 H5 fp5 t5 v s5 zv
            have m5 := m4.go t5 s5
            have h5 := Pst.tr h4' t5.cons
            obtain ⟨fp6, s6, t6⟩ := StaW.wipe (vs := vs) s5
            rw [ew] at s6
            have m6 := m5.go t6 s6
            have h6 := Pst.tr h5 t6.cons
            by_cases hl : acc.length < sizeLine
            · obtain ⟨ws, e1, e2, m7, t7⟩ := m6.app zv hl
              refine ⟨ws, e1, e2, F5, _, fp6, _, m7, by rw [List.length_append]; exact hl, ?_⟩
              have h7 := Pst.tr h6 t7
              simpa [bnd, noX, hl] using h7
            · exact (show False by simpa [bnd, noX, hl, Pst] using h6).elim
  · have e : j = n := by omega
    subst e
    rw [Nat.sub_self] at h
    unfold lcV at h
    cases q0 : lstAt i ρ with
    | none => rw [q0] at h; exact h.elim
    | some ds =>
    rw [q0] at h
    by_cases hn : ds.length = j
    rotate_left
    · simp only [if_neg hn] at h; exact h.elim
    simp only [if_pos hn] at h
    obtain ⟨us, hH, hfz⟩ := same m.s q0
    have mu : Mk K w F1 F H L σ ρ fp acc := ⟨StaW.unwipe m.s, m.ex, m.nf, m.nF, m.at_⟩
    exact .inl ⟨⟨us, SqL.of hH, by rw [hfz.length, hn]; exact Nat.le_refl _⟩, h F H (L :: fp) .refl (.ref L) (mu.done hz)⟩
variable {X : Cx} {elt tg : Expr} {ifs : List Expr} {scope : Scope} {pos p : Pos} {x : Str}
theorem d_lcV (i : Nat) (own : List (Str × Nat)) (hc : X.calm = true) (hN : X.N.Nodup) (ok : BlkOk X.N X.env.scope scope own) (his : ∀ i ∈ is, i ∈ own.map (·.2))
    (hg : ∀ (s : Shared) (H : Hp) (C : Addr) (cl : List (Str × Addr)) (fp : List Addr), PG (X.blk s H scope (compEnvC scope cl C X.env) fp) tg (cG X.K w.in1 is g)) (ht : ∀ (s : Shared) (H : Hp) (C : Addr) (cl : List (Str × Addr)) (fp : List Addr), PTs (X.blk s H scope (compEnvC scope cl C X.env) fp) ifs (cT X.K w.in1 t))
    (he : ∀ (s : Shared) (H : Hp) (C : Addr) (cl : List (Str × Addr)) (fp : List Addr), PE (X.blk s H scope (compEnvC scope cl C X.env) fp) elt (cF X.K w.in1 e))
    (hx : X.N[i]? = some x := by rfl) (hv : Vis X.env.scope x := by first | exact Or.inl rfl | exact Or.inr (Or.inl rfl) | exact Or.inr (Or.inr rfl)) (hd : (x == ("__debug__" : Str)) = false := by decide) (hcd : (x == ("__classdict__" : Str)) = false := by decide) (hs : ∀ y, foldedSetIterable (.Name x p) X.env y = pure y := by intro _; rfl) :
    PE X (.ListComp elt [⟨tg, .Name x p, ifs, 0⟩] scope pos) (cO X.K w (sLcV i g t e (own.map (·.2)))) := peI (pe_lc hc hN (pi_list (pe_var hx hv hd hcd)) ok hg ht he hs) fun σ H Q h => by
  obtain ⟨F, ρ, fp, s, h⟩ := h
  unfold sLcV at h
  cases q0 : lstAt i ρ with
  | none => rw [q0] at h; exact h.elim
  | some ds =>
    rw [q0] at h
    obtain ⟨a, us, e1, e2, e3⟩ := lst_get s q0
    exact ⟨.ref a, e1, a, rfl, ⟨us, SqL.of e2⟩, lcV_body his s e1 h⟩
end
end Y

set_option Elab.async false
set_option linter.all false
set_option maxRecDepth 100000
set_option maxHeartbeats 4000000
/-! `for` over a dict. -/
namespace Y
open PySem L2
section
variable {X : Cx} {w : Wd} {tg iter e : Expr} {body : List Stmt} {is : List Nat} {g : D → En → Option En} {m : En → R Fl} {src : List Key → List D → List D} {pos : Pos}
theorem ps_or2 {st : Stmt} {t t' : TS} (h : PS X st t) (h' : PS X st t') : PS X st (fun D σ H => t D σ H ∨ t' D σ H) := ⟨fun pins s σ H D I q => q.elim (h.run pins s σ H D I) (h'.run pins s σ H D I)⟩
theorem for_body {K : PySem.W.Frag} {D : Ends} {ds : List Y.D} {J : It} {F1 H1 : Hp} {ρ1 : En} {fp1 : List Addr} {σ : St} (s1 : StaW K w F1 H1 σ ρ1 fp1) (I : Itz K F1 J ds) (h1 : PstS K w F1 H1 fp1 (forL g m ds ρ1) D) : tFor (fun _ H R => R J H) (cG K w is g) (cS K w m) D σ H1 := by
  refine ⟨fun i m' σ H => m' = ds.length - i ∧ i ≤ ds.length ∧ ∃ F ρ fp, StaW K w F H σ ρ fp ∧ Same F1 F ∧ PstS K w F H fp (forL g m (ds.drop i) ρ) D, ⟨ds.length, by simp, Nat.zero_le _, F1, ρ1, fp1, s1, Same.refl _, h1⟩, ?_⟩
  rintro i m' σ H ⟨rfl, hi, F, ρ, fp, s, ex, h⟩
  by_cases hlt : i < ds.length
  · refine .inr ⟨I.go i H (ex.trans s.ex) hlt, fun σ H => ∃ F ρ fp, StaW K w F H σ ρ fp ∧ Same F1 F ∧ PstS K w F H fp (forL g m (ds.drop (i + 1)) ρ) D, fun σ' H' q => ⟨ds.length - (i + 1), by omega, rfl, hlt, q⟩, fun x H' y => ?_⟩
    obtain ⟨d, F2, e, s2, t2, z⟩ := given I s ex hlt y
    have ed : ds.drop i = d :: ds.drop (i + 1) := by
      obtain ⟨h1, h2⟩ := List.getElem?_eq_some_iff.mp e
      rw [← h2]
      exact List.drop_eq_getElem_cons h1
    rw [ed] at h
    unfold forL at h
    cases q : g d ρ with
    | none => simp only [q] at h; exact h.elim
    | some ρ2 =>
      simp only [q] at h
      refine ⟨F2, ρ, fp, d, ρ2, s2, z, q, fun σ' fp' s3 t3 _ => ⟨F2, ρ2, fp', s3, ?_⟩⟩
      have h2 := PstS.tr h (t2.trans t3)
      exact turn_end (k := forL g m (ds.drop (i + 1))) h2 fun σ4 F4 H4 fp4 ρ4 t4 s4 h4 => ⟨F4, ρ4, fp4, s4, (ex.trans t2.ex).trans t4.ex, h4⟩
  · have e : i = ds.length := by omega
    subst e
    rw [List.drop_length] at h
    exact .inl ⟨I.stop H (ex.trans s.ex), h σ F H fp .refl s⟩
theorem dct_lockS {K : PySem.W.Frag} {F H : Hp} {fp : List Addr} {σ : St} {ρ : En} {i : Nat} {D : Ends} {gg : List Key → List Y.D → En → R Fl} {t : TS} (s : StaW K w F H σ ρ fp) (h : PstS K w F H fp (sDct i (fun ks ds ρ => noX (gg ks ds ρ)) ρ) D)
    (run : ∀ F H ρ fp a o ks vs ds D, StaW K w F H σ ρ fp → isLk F σ i a o (ks.zip vs) → ks.length = vs.length → keysL ks = true → Fzs K F vs ds → PstS K w F H fp (gg ks ds ρ) D → t D σ H) : tLock t D σ H ∨ t D σ H := by
  have main : ∀ F ρ fp ks ds, StaW K w F H σ ρ fp → ρ[i]? = some (some (.f (.nd (.dK ks) ds))) → PstS K w F H fp (noX (gg ks ds ρ)) D → tLock t D σ H ∨ t D σ H := by
    intro F ρ fp ks ds s e h
    obtain ⟨v, e1, z⟩ := s.sl.getF e
    obtain ⟨a, vs, rfl, hi, hs⟩ := z.node
    rcases hi.2.1 with hu | ⟨o, hu⟩
    · left
      have hH := s.ex _ _ hu
      have na : a ∉ fp := fun m => by rw [s.own a m] at hu; cases hu
      refine ⟨a, _, hH, trivial, fun od => ?_⟩
      refine run (upd F a (.frz od (.dK (ks.zip vs)))) _ ρ fp a od ks vs ds _ (s.lkd hu (lkr_lock hu)) ⟨e1, upd_same⟩ hi.1 hi.2.2.2 (hs.lk (lkr_lock hu)) ?_
      cases r : gg ks ds ρ with
      | bad => rw [r] at h; exact h.elim
      | exc c x ρ1 => rw [r] at h; exact h.elim
      | ok fl ρ1 =>
        rw [r] at h
        have lk : ∀ {F1 H1 : Hp} {fp1 : List Addr}, Tr (upd F a (.frz od (.dK (ks.zip vs)))) (upd H a (.frz od (.dK (ks.zip vs)))) fp F1 H1 fp1 → H1 a = some (.frz od (.dK (ks.zip vs))) ∧ F1 a = some (.frz od (.dK (ks.zip vs))) := fun t1 => ⟨t1.keep a _ upd_same na, t1.ex a _ upd_same⟩
        cases fl with
        | nx => exact fun σ' F1 H1 fp1 t1 s1 => ⟨(lk t1).1, h σ' _ _ _ (t1.lkd hu hH na) (s1.lkd (lk t1).2 (lkr_unlock (lk t1).2))⟩
        | ct => exact fun σ' F1 H1 fp1 t1 s1 => ⟨(lk t1).1, h σ' _ _ _ (t1.lkd hu hH na) (s1.lkd (lk t1).2 (lkr_unlock (lk t1).2))⟩
        | bk => exact fun σ' F1 H1 fp1 t1 s1 => ⟨(lk t1).1, h σ' _ _ _ (t1.lkd hu hH na) (s1.lkd (lk t1).2 (lkr_unlock (lk t1).2))⟩
        | rt d => exact fun v σ' F1 H1 fp1 t1 s1 z1 => ⟨(lk t1).1, h v σ' _ _ _ (t1.lkd hu hH na) (s1.lkd (lk t1).2 (lkr_unlock (lk t1).2)) (z1.lk (lkr_unlock (lk t1).2))⟩
        | ro d => exact fun v σ' F1 H1 fp1 t1 s1 => ⟨(lk t1).1, h v σ' _ _ _ (t1.lkd hu hH na) (s1.lkd (lk t1).2 (lkr_unlock (lk t1).2))⟩
    · right
      refine run F H ρ fp a o ks vs ds D s ⟨e1, hu⟩ hi.1 hi.2.2.2 hs ?_
      cases r : gg ks ds ρ with
      | bad => rw [r] at h; exact h
      | exc c x ρ1 => rw [r] at h; exact h.elim
      | ok fl ρ1 => rw [r] at h; exact h
  unfold sDct at h
  split at h
  · rename_i ks ds e
    exact main F ρ fp ks ds s e h
  · rename_i ks ds e
    obtain ⟨F', fp', s1, t1⟩ := s.toF e
    have hi : i < ρ.length := (List.getElem?_eq_some_iff.mp e).1
    exact main F' _ fp' ks ds s1 (by rw [List.getElem?_set_self hi]) (PstS.tr h t1)
  · exact h.elim
def sForD (i : Nat) (src : List Key → List Y.D → List Y.D) (g : Y.D → En → Option En) (m : En → R Fl) : En → R Fl := sDct i fun ks ds ρ => noX (forL g m (src ks ds) ρ)
theorem s_forD (i : Nat) (hp : PassesOwn (model X.prog X.w) X.A X.env X.xe) (hc : X.calm = true) (hi : WkD X tg iter i src) (hg : PG X tg (cG X.K w is g)) (hb : PSs X body (cS X.K w m)) (hs : ∀ x, foldedSetIterable iter X.env x = pure x := by intro _; rfl) :
    PS X (.For tg iter body [] pos) (cS X.K w (sForD i src g m)) := by
  obtain ⟨wi, pw, run⟩ := hi
  have P := ps_for (pos := pos) hp hc pw hg hb hs
  refine psI (ps_or2 (ps_lock P) P) fun D σ H h => ?_
  obtain ⟨F, ρ, fp, s, h⟩ := h
  refine dct_lockS s h fun F H ρ fp a o ks vs ds D s hl hlen hk hz h => ?_
  exact run σ F H a o ks vs ds _ hl hlen hk s.ex hz fun J I => for_body s I h
end
end Y

set_option Elab.async false
set_option linter.all false
set_option maxRecDepth 100000
set_option maxHeartbeats 4000000
/-! sorted() of a dict whose keys are tuples, an empty one among them. -/
namespace Y
open PySem PySem.Spec PyProof.Rows L2 PySem.W PySem.Calls PySem.SeqAt
section
variable {prog : Program} {w : World} {A : Around} {s : Shared} {E : Value → Shared → Prop}
theorem call_tuple_lt {Q : Value → Shared → Prop} {l b : Addr} {items items2 : Array Value} {e r : Nat → Bool} (hl : s.heap.IsTuple l items) (hb : s.heap.IsTuple b items2)
    (he : ∀ j (h1 : j < items.size) (h2 : j < items2.size), EqAt A.in1 s items[j] items2[j] (e j)) (hr : ∀ j (h1 : j < items.size) (h2 : j < items2.size), e j = false → RcLt A.in1 s items[j] items2[j] (r j))
    (h : Q (.bool (firstLt e r (decide (items.size < items2.size)) (List.range (min items.size items2.size)))) s) : wpAny (model prog w) A (call (.builtin "tuple.__lt__") [.ref l, .ref b]) Q E s := by
  obtain ⟨⟨cls, dd, data, sl⟩, ho, hc, n, hd⟩ := id hl
  obtain ⟨⟨cls2, dd2, data2, sl2⟩, ho2, hc2, n2, hd2⟩ := id hb
  simp only at hc hd hc2 hd2
  subst hc hd hc2 hd2
  exact call_meets F.slot_tuple_lt ⟨_, ho, rfl⟩ F.entry_tuple_lt (F.args_tuple_lt_2 _ _) (tuple_ltAt l b items items2 n n2 dd dd2 sl sl2 e r) ⟨ho, ho2, he, hr, h⟩
theorem oneLt_tup {f : Bool} {xs ys : List PyData} {a b : Value} {as bs : List Addr} {Q : Bool → Shared → Prop} (ra : Reads s.heap a (.tuple xs) as) (rb : Reads s.heap b (.tuple ys) bs) (h : alike (.tuple xs) (.tuple ys) = true)
    (hu : A.units + min (PyData.tuple xs).depth (PyData.tuple ys).depth < cLine) (hq : Q (dataLt (.tuple xs) (.tuple ys)) s) : wpAny (model prog w) A (oneLt' f a b) Q E s := by
  cases f with
  | false => exact oneLt_alike (fun z => by cases z) ra rb h (fun z => by cases z) hu hq
  | true =>
    have hal : alikeAll xs ys = true := by simpa [alike] using h
    cases ra with
    | @tuple l o vs n _ as₁ h1 h2 h3 h4 =>
      cases rb with
      | @tuple l' o' vs' n' _ bs₁ k1 k2 k3 k4 =>
        have n1 : vs.size = xs.length := by simpa using ReadsAll.length _ _ _ h4
        have n2 : vs'.size = ys.length := by simpa using ReadsAll.length _ _ _ k4
        rw [dataLt_tuple, ← firstLt_toks xs ys hal, ← n1, ← n2] at hq
        rw [oneLt'_eq]
        simp only [if_true]
        refine wpAny_bind (wpAny_cRoomFor (room_here hu) ?_)
        refine wpAny_bind (wpAny_callSpecialIfBound?_slot (T := "tuple") ⟨_, h1, h2⟩ F.slot_tuple_lt (call_tuple_lt (e := pairEq xs ys) (r := fun j => dataLt (xs.getD j .none) (ys.getD j .none)) ⟨_, h1, h2, _, h3⟩ ⟨_, k1, k2, _, k3⟩ (fun j j1 j2 => ?_) (fun j j1 j2 hj => ?_) ?_))
        · have := eqAt_alikeAll xs ys A.in1 s vs.toList vs'.toList _ _ h4 k4 hal (room_in hu) j (by simpa using j1) (by simpa using j2)
          simpa using this
        · have := rcLt_alikeAll xs ys A.in1 s vs.toList vs'.toList _ _ h4 k4 hal (room_in hu) j (by simpa using j1) (by simpa using j2) hj
          simpa using this
        · exact wpAny_truthy_bool hq
/-- the first item of each, where there is one -/
theorem tup_firsts {M : Model} : ∀ {vs : List Value} {ds : List PyData}, EachIs (fun v d => ∃ as, Reads s.heap v d as) vs ds → (∀ d ∈ ds, ∃ xs, d = .tuple xs) → ∃ fs : List (Option Value), fs.length = vs.length ∧ ((∃ d ∈ ds, d = .tuple []) → fs.all (·.isSome) = false) ∧ ∀ {Q : List (Option Value) → Shared → Prop}, Q fs s → wpAny M A (vs.mapM firstOfTuple') Q E s
  | _, _, .nil, _ => ⟨[], rfl, (fun ⟨d, hd, _⟩ => by cases hd), fun h => by rw [List.mapM_nil]; exact wpAny_pure h⟩
  | _, _, .cons (b := d) (as := vs) (bs := ds) ⟨as, r⟩ t, ht => by
    obtain ⟨fs, l, hall, hw⟩ := tup_firsts (M := M) t fun d hd => ht d (List.mem_cons_of_mem _ hd)
    obtain ⟨xs, rfl⟩ := ht d List.mem_cons_self
    cases r with
    | @tuple a o us n _ _ ho hc hd hr =>
      refine ⟨us[0]? :: fs, by rw [List.length_cons, List.length_cons, l], ?_, fun {Q} hq => ?_⟩
      · rintro ⟨d, hd', rfl⟩
        rcases List.mem_cons.mp hd' with e | hd'
        · cases e
          have : us.size = 0 := by simpa using ReadsAll.length _ _ _ hr
          have e2 : us[0]? = none := by rw [Array.getElem?_eq_none]; omega
          rw [List.all_cons, e2]
          rfl
        · rw [List.all_cons, hall ⟨_, hd', rfl⟩, Bool.and_false]
      · rw [List.mapM_cons]
        refine wpAny_bind ?_
        rw [kas_first_eq]
        refine wpAny_bind (Looks.here (show Looks M s.heap (typeOf (.ref a)) o.cls from (Looks.ld ho).andThen .now) ?_)
        rw [hc, if_neg (by first | decide | simp)]
        refine wpAny_bind (listItems_at ho hd (wpAny_pure ?_))
        exact wpAny_bind (hw (Q := fun bs s' => wpAny M A (pure (us[0]? :: bs)) Q E s') (wpAny_pure hq))
theorem tup_kind {vs : List Value} {ds : List PyData} (e : EachIs (fun v d => ∃ as, Reads s.heap v d as) vs ds) (ht : ∀ d ∈ ds, ∃ xs, d = .tuple xs) (hem : ∃ d ∈ ds, d = .tuple []) : ∃ kd : SortKind, (kd = general' ∨ kd = oneType') ∧ ∀ (E : Value → Shared → Prop) {Q : SortKind → Shared → Prop}, Q kd s → wpAny (model prog w) A (keyKind' vs.toArray) Q E s := by
  have hT : ∀ v ∈ vs, Looks (model prog w) s.heap (typeOf v) (Value.type "tuple") := fun v hv => by
    obtain ⟨d, hd, as, r⟩ := e.left v hv
    obtain ⟨xs, rfl⟩ := ht d hd
    exact looks_reads r
  obtain ⟨fs, l, hall, hw⟩ := tup_firsts (s := s) (A := A) (E := fun _ _ => False) (M := model prog w) e ht
  have hall := hall hem
  have na : (fs.toArray.all fun x => x.isSome) = false := by simpa using hall
  by_cases c : (fs.toArray[0]?.bind id).isSome = true
  · refine ⟨general', .inl rfl, fun E Q hq => ?_⟩
    rw [keyKind'_eq, List.mapM_toArray, map_eq_pure_bind]
    obtain ⟨fs', l', hall', hw'⟩ := tup_firsts (s := s) (A := A) (E := E) (M := model prog w) e ht
    refine wpAny_bind (wpAny_bind (wpAny_mono (hw (Q := fun x s' => x = fs ∧ s' = s) ⟨rfl, rfl⟩) (fun x s' ⟨e1, e2⟩ => ?_) fun _ _ z => z.elim))
    subst e1 e2
    refine wpAny_pure ?_
    rw [if_neg (by rw [na]; exact Bool.false_ne_true), if_pos c]
    exact wpAny_pure hq
  · refine ⟨oneType', .inr rfl, fun E Q hq => ?_⟩
    rw [keyKind'_eq, List.mapM_toArray, map_eq_pure_bind]
    refine wpAny_bind (wpAny_bind (wpAny_mono (hw (Q := fun x s' => x = fs ∧ s' = s) ⟨rfl, rfl⟩) (fun x s' ⟨e1, e2⟩ => ?_) fun _ _ z => z.elim))
    subst e1 e2
    refine wpAny_pure ?_
    rw [if_neg (by rw [na]; exact Bool.false_ne_true), if_neg c]
    rw [oneTypeOnly'_eq, List.mapM_toArray, map_eq_pure_bind]
    refine wpAny_bind (wpAny_bind (wpAny_bind (kas_mapM (r := Value.type "tuple") _ (fun v hv Q' hq => (hT v hv).here hq) (wpAny_pure ?_))))
    obtain ⟨v, vs', rfl⟩ : ∃ v vs', vs = v :: vs' := by
      obtain ⟨d, hd, _⟩ := hem
      cases e with
      | nil => cases hd
      | cons _ _ => exact ⟨_, _, rfl⟩
    have hall2 : ((List.map (fun _ => Value.type "tuple") (v :: vs')).toArray.all fun x => x == Value.type "tuple") = true := by
      simp only [List.all_toArray, List.all_map, List.all_eq_true]
      intro _ _
      exact beq_self_eq_true _
    have h0 : (List.map (fun _ => Value.type "tuple") (v :: vs')).toArray[0]? = some (Value.type "tuple") := by simp
    rw [h0]
    simp only [hall2, if_true]
    exact wpAny_pure (wpAny_pure hq)
theorem sortsAt_tups {vs : List Value} {ds : List PyData} (e : EachIs (fun v d => ∃ as, Reads s.heap v d as) vs ds) (hal : AllAlike ds) (ht : ∀ d ∈ ds, ∃ xs, d = .tuple xs) (hu : ∀ d, d ∈ ds → A.units + d.depth < cLine) : SortsAt prog w A s (dataKind s.heap ds) vs := by
  have room : ∀ {d d' : PyData}, d ∈ ds → A.units + min d.depth d'.depth < cLine := fun {d d'} hd => Nat.lt_of_le_of_lt (Nat.add_le_add_left (Nat.min_le_left _ _) _) (hu d hd)
  by_cases hem : ∃ d ∈ ds, d = .tuple []
  · refine ⟨fun v hv => ?_, ?_⟩
    · obtain ⟨d, hd, as, r⟩ := e.left v hv
      exact ⟨_, dataKind_some hal hd r⟩
    · obtain ⟨kd, hk, hw⟩ := tup_kind (prog := prog) (w := w) (A := A) e ht hem
      refine ⟨kd, fun E x y a b Q ha hb hq => ?_, fun _ E Q hq => hw E hq⟩
      obtain ⟨d, as, hd, ra, rfl⟩ := dataKind_inv ha
      obtain ⟨d', as', hd', rb, rfl⟩ := dataKind_inv hb
      obtain ⟨xs, rfl⟩ := ht d hd
      obtain ⟨ys, rfl⟩ := ht d' hd'
      rcases hk with rfl | rfl
      · exact (show wpAny (model prog w) A (oneLt' false x y) Q E s from oneLt_tup ra rb (hal _ hd _ hd') (room hd) hq)
      · rw [keyLt'_oneType]
        exact oneLt_tup ra rb (hal _ hd _ hd') (room hd) hq
  · refine SortsAt.data e hal (.inl fun d hd => ?_) hu
    obtain ⟨xs, rfl⟩ := ht d hd
    cases xs with
    | nil => exact absurd ⟨_, hd, rfl⟩ hem
    | cons x r => exact ⟨x, r, rfl⟩
end
/-- the items may be sorted -/
structure SortOkE (K : PySem.W.Frag) (H : Hp) (bs : List (V × D)) : Prop where
  len : bs.length ≤ sizeLine
  al : AllAlike (bs.map pyb)
  so : ∀ d ∈ bs.map pyb, ∃ xs, d = .tuple xs
  dp : ∀ b ∈ bs, Dp K H b.1 (pyb b) ∧ (pyb b).depth ≤ 64
theorem sorted_gathE {X : Cx} {pins : List (Addr × Obj)} {σ : L2.St} {H : Hp} {s : Shared} {u : Value} {Q : VK} {E : Value → Shared → Prop} {P : List (V × D) → Prop} (hu : X.A.units + 69 < cLine)
    (G : ∀ (Q' : List Value → Shared → Prop) (E' : Value → Shared → Prop), (∀ s' us bs, Inv X pins σ H s' → Each us bs → P bs → Q' us s') → wpAny (model X.prog X.w) X.A.in1 (collect u) Q' E' s)
    (hP : ∀ bs, P bs → SortOkE X.K H bs)
    (q : ∀ bs p, P bs → H p = none → Q (.ref p) (upd H p (.lst ((bs.mergeSort (dataLe false pyb)).map (·.1))))) :
    wpAny (model X.prog X.w) X.A (call (.builtin "sorted") [u]) (fun v s' => ∃ x H', Inv X pins σ H' s' ∧ RelV x v ∧ Q x H') E s := by
  refine Calls.call_function_entry kind_sorted plain_sorted entry_sorted (args_sorted1 _) ?_
  unfold Builtin.«sorted»
  refine wpAny_bind (m := checkCount "sorted" 1 1 _) (wpAny_pure ?_)
  refine wpAny_bind (G _ _ fun s1 us bs I1 e pb => ?_)
  have ok := hP bs pb
  have hl : us.length ≤ sizeLine := by rw [e.length]; exact ok.len
  refine wpAny_bind (wpAny_newList ?_ hl)
  have hoL : (s1.heap.push (seqObj "list" us.toArray 0)).get? s1.heap.objs.size = some (seqObj "list" us.toArray 0) := Heap.get?_push_size _ rfl
  show wpAny _ _ _ _ _ { s1 with heap := s1.heap.push (seqObj "list" us.toArray 0) }
  have er : EachIs (fun v b => ∃ as, Reads (sortingHeap (s1.heap.push (seqObj "list" us.toArray 0)) s1.heap.objs.size us) v (pyb b) as) us bs := each_reads e fun u b m r => by
    obtain ⟨as, h⟩ := Dp.reads I1 (pyb b) b.1 u (ok.dp b m).1 r
    exact ⟨as, PyProof.Rows.Reads.keeps (fun b o h => sortingHeap_old (Nat.ne_of_lt (Heap.lt_size h)) (Heap.get?_push_of_some _ h)) h⟩
  have S : SortsAt X.prog X.w X.A.in1.in1 { s1 with heap := sortingHeap (s1.heap.push (seqObj "list" us.toArray 0)) s1.heap.objs.size us } (dataKind (sortingHeap (s1.heap.push (seqObj "list" us.toArray 0)) s1.heap.objs.size us) (bs.map pyb)) us :=
    sortsAt_tups (s := { s1 with heap := sortingHeap (s1.heap.push (seqObj "list" us.toArray 0)) s1.heap.objs.size us }) (each_map (R := fun v d => ∃ as, Reads (sortingHeap (s1.heap.push (seqObj "list" us.toArray 0)) s1.heap.objs.size us) v d as) pyb er) ok.al ok.so fun d hd => by
      obtain ⟨b, hb, rfl⟩ := List.mem_map.mp hd
      have := (ok.dp b hb).2
      show X.A.in1.in1.units + _ < _
      have : X.A.in1.in1.units = X.A.units + 1 + 1 := rfl
      omega
  refine wpAny_bind (wpAny_holding (wpAny_call_entry slot_list_sort ⟨_, hoL, rfl⟩ entry_list_sort
    (list_sort_vals (s := { s1 with heap := s1.heap.push (seqObj "list" us.toArray 0) }) hoL S hl ⟨_, rfl, ?_⟩) (args_list_sort _)))
  have out := sortVals_data (R := fun u (b : V × D) => RelV b.1 u) false e er ok.al
  obtain ⟨c, hc⟩ := sortedHeap_at (vs := us) (out := (sortVals (dataKind (sortingHeap (s1.heap.push (seqObj "list" us.toArray 0)) s1.heap.objs.size us) (bs.map pyb)) false us us).toArray) hoL
  refine wpAny_pure ⟨_, rfl, .ref s1.heap.objs.size, upd H s1.heap.objs.size (.lst ((bs.mergeSort (dataLe false pyb)).map (·.1))), I1.laid (t' := s1.toks) (fun b u e => ?_) (Nat.le_refl _)
    (show ObjOk X.prog X.w _ _ _ (.lst _) from ⟨?_, _, c, each_vals out, hc⟩), rfl, q bs _ pb (I1.hok.fresh (Nat.le_refl _))⟩
  · have hb : b < s1.heap.objs.size := Heap.lt_size e
    rw [sortedHeap_old (Nat.ne_of_lt hb) (by rw [size_push']; exact Nat.lt_succ_of_lt hb)]
    exact Heap.get?_push_of_some _ e
  · rw [List.length_map, List.length_mergeSort]; exact ok.len

def likeTE (ks : List (List Key)) : Bool := ((ks.map kT).all fun a => (ks.map kT).all fun b => alike (py a) (py b)) && (ks.map kT).all dok
def sortTE (ks : List (List Key)) : Option D := if likeTE ks = true ∧ (ks.map kT).length ≤ sizeLine then some (.nd .lst ((ks.map kT).mergeSort leD)) else none
theorem sortOkE {K : PySem.W.Frag} {F H : Hp} (ex : Same F H) {bs : List (V × D)} {ks : List (List Key)} (h : ∀ b ∈ bs, Fz K F b.1 b.2) (l : bs.map (·.2) = ks.map kT ∧ likeTE ks = true) (hl : bs.length ≤ sizeLine) : SortOkE K H bs := by
  obtain ⟨e0, l⟩ := l
  unfold likeTE at l
  rw [← e0] at l
  simp only [Bool.and_eq_true, List.all_eq_true, List.mem_map] at l
  obtain ⟨l1, l2⟩ := l
  refine ⟨hl, ?_, ?_, fun b m => ?_⟩
  · intro d hd d' hd'
    obtain ⟨b, m, rfl⟩ := List.mem_map.mp hd
    obtain ⟨b', m', rfl⟩ := List.mem_map.mp hd'
    exact l1 _ ⟨b, m, rfl⟩ _ ⟨b', m', rfl⟩
  · intro d hd
    obtain ⟨b, m, rfl⟩ := List.mem_map.mp hd
    have : b.2 ∈ ks.map kT := by rw [← e0]; exact List.mem_map.mpr ⟨b, m, rfl⟩
    obtain ⟨k, _, e⟩ := List.mem_map.mp this
    refine ⟨pys (k.map kD), ?_⟩
    show py b.2 = _
    rw [← e]
    simp [kT, py]
  · obtain ⟨o1, o2⟩ := okD_dok (l2 b.2 ⟨b, m, rfl⟩)
    exact ⟨((h b m).mono ex).dp o1, o2⟩
section
variable {X : Cx} {w : Wd} {e : Expr} {fa : En → R D} {x : Str} {p pos : Pos}
def rSortedTE (K : PySem.W.Frag) : List V → Hp → VK → Prop := fun xs H Q => ∃ a kvs, xs = [V.ref a] ∧ Rd H a (.dT kvs) ∧ (∀ bs, IsKeys H kvs bs → SortOkE K H (kbT kvs bs)) ∧
  ∀ bs p, IsKeys H kvs bs → H p = none → Q (.ref p) (upd H p (.lst (((kbT kvs bs).mergeSort (dataLe false pyb)).map (·.1))))
theorem cr_sortedTE (hc : X.calm = true) (hu : X.A.units + 69 < cLine) : CallR X (.builtin "sorted") (rSortedTE X.K) := by
  intro pins s σ H xs us Q I r h
  obtain ⟨a, kvs, rfl, hd, ok, q⟩ := h
  obtain ⟨u, rfl, rx⟩ := vals1 r
  cases rx
  obtain ⟨z, hs, rows, pr, o, es, ep, ho, hx, hdt, he, hnd⟩ := (show ObjOk X.prog X.w H s.heap a (.dT kvs) from hd.ok I.hok)
  have n1 := size_of_entries he
  have n2 := Paired.length pr
  refine sorted_gathE (P := fun l => ∃ bs, IsKeys H kvs bs ∧ l = kbT kvs bs) hu (fun Q' E' gg => ?_) (fun l ⟨bs, k, el⟩ => el ▸ ok bs k) (fun l p ⟨bs, k, el⟩ hp => el ▸ q bs p k hp)
  refine PySem.W.kdu_collect (A := X.A.in1) (kdl_raw hs hx hdt) (I.ok.hd hc) ho (by omega) fun h' tk acc hk hacc => ?_
  have l1 : acc.toList.length = rows.length := by rw [Array.length_toList, hacc.1]; exact n1
  refine gg _ acc.toList _ (I.kept hk) (vals_each (vs := (rows.map fun x => x.2.1).map V.ref) (ds := (kvs.map (·.1)).map kT) (vals_of_at ?_ fun j x u e1 e2 => ?_) ?_) ⟨rows.map fun x => x.2.1, isKeys_of pr, rfl⟩
  · rw [List.length_map, List.length_map]; exact l1.symm
  · obtain ⟨en, g1, g2⟩ := hacc.2 j u (by rw [← Array.getElem?_toList]; exact e2)
    rw [entry_at he j] at g1
    obtain ⟨b, g3, g4⟩ := Option.map_eq_some_iff.mp g1
    rw [List.getElem?_map, List.getElem?_map, g3] at e1
    cases e1
    rw [g2, ← g4]
    rfl
  · simp only [List.length_map]; exact n2.symm
def dSortedTE : D → Option D
  | .nd (.dT ks) _ => sortTE ks
  | _ => none
theorem d_sortedTE (hc : X.calm = true) (hu : X.A.units + 69 < cLine) (hg : Gl X x) (hm : X.mg x = none) (hv : bootBuiltins x = some (.builtin "sorted")) (ha : PE X e (cB X.K w fa)) (hn : x ≠ "__name__" := by decide) (hd : (x == ("__debug__" : Str)) = false := by decide)
    (hs : starEach [e] X.env = (false, eval e X.env) :: starEach [] X.env := by rfl) (hpl : (backTo pos (starEach [] X.env)).any (·.1) = false := by rfl) : PE X (.Call (.Name x p) [e] [] pos) (cO X.K w (s1 dSortedTE fa)) :=
  peI (pe_callB (cr_sortedTE hc hu) hg hm hv (pa_cons ha pa_nil hs) hn hd hs hpl) fun σ H Q h => tB1 h fun F H v dx d ρ fp s z e n => by
    unfold dSortedTE at e
    split at e
    · rename_i ks ds
      unfold sortTE at e
      split at e
      · rename_i c
        cases e
        obtain ⟨a, vs, rfl, hi, hz⟩ := z.node s.ex
        have zf := zip_fst hi.1
        have ln : ∀ bs, IsKeys H (ks.zip vs) bs → (bs.map V.ref).length = (((ks.zip vs).map (·.1)).map kT).length := fun bs k => by rw [List.length_map, isKeys_len k, List.length_map, List.length_map]
        have len : ∀ bs, IsKeys H (ks.zip vs) bs → (kbT (ks.zip vs) bs).length ≤ sizeLine := fun bs k => by
          rw [List.length_zip, ln bs k, Nat.min_self, zf]; exact c.2
        have fz : ∀ F' bs, IsKeys H (ks.zip vs) bs → (∀ b ∈ bs, F' b = H b) → ∀ b ∈ kbT (ks.zip vs) bs, Fz X.K F' b.1 b.2 := fun F' bs k hb => fzs_zip (isKeys_fz k (by rw [zf]; exact hi.2.2.2) hb)
        refine ⟨a, _, rfl, hi.2.1, fun bs k => ?_, fun bs p k hp => ?_⟩
        · refine sortOkE (ks := ks) (Same.refl H) (fz H bs k fun _ _ => rfl) ?_ (len bs k)
          exact ⟨by rw [zip_2 (ln bs k), zf], c.1⟩
        · obtain ⟨F', s', t', hb⟩ := s.tups bs (isKeys_tp k)
          have z1 := fzs_sort (fz F' bs k hb)
          rw [zip_2 (ln bs k), zf] at z1
          exact fin_newO s' (fun F2 H2 fp2 t2 => n F2 H2 fp2 (t'.trans t2)) p .lst _ _ _ rfl rfl hp (if_pos (by rw [List.length_map, List.length_mergeSort]; exact len bs k)) z1
      · cases e
    · cases e
end
end Y

set_option Elab.async false
set_option linter.all false
set_option maxRecDepth 100000
set_option maxHeartbeats 4000000
/-! max(xs) of whole numbers -/
namespace Y
open PySem PySem.Spec PyProof.Rows L2 PySem.W
def maxL : List Int → Int
  | [] => 0
  | [a] => a
  | a :: b :: l => if a ≤ maxL (b :: l) then maxL (b :: l) else a
theorem maxL_mem : ∀ {l : List Int}, l ≠ [] → maxL l ∈ l
  | [], h => absurd rfl h
  | [a], _ => List.mem_cons_self
  | a :: b :: l, _ => by
    have ih := maxL_mem (l := b :: l) (by simp)
    unfold maxL
    split
    · exact List.mem_cons_of_mem _ ih
    · exact List.mem_cons_self
theorem maxL_ge : ∀ {l : List Int} {x : Int}, x ∈ l → x ≤ maxL l
  | [a], x, h => by rw [List.mem_singleton.mp h]; exact Int.le_refl _
  | a :: b :: l, x, h => by
    have ih := fun y (hy : y ∈ b :: l) => maxL_ge (l := b :: l) hy
    unfold maxL
    rcases List.mem_cons.mp h with rfl | h
    · split
      · assumption
      · exact Int.le_refl _
    · have := ih x h
      split
      · exact this
      · omega
def dMaxL : D → Option D
  | .nd .lst ds => match intsD ds with
    | some bs => if bs = [] then none else some (.int (maxL bs))
    | none => none
  | _ => none
theorem c1_max {K : PySem.W.Frag} : C1 K (rMax K) dMaxL := by
  intro F H x dx d Q ex z e old new
  unfold dMaxL at e
  split at e
  · rename_i ds
    split at e
    · rename_i bs e1
      split at e
      · cases e
      · rename_i hne
        cases e
        obtain ⟨a, vs, rfl, hi, hs⟩ := z.node ex
        refine ⟨a, bs, rfl, by rw [← intsD_rel hs e1]; exact SqL.of hi.1, List.length_pos_iff.mpr hne, fun m hm hge => ?_⟩
        have : m = maxL bs := Int.le_antisymm (maxL_ge hm) (hge _ (maxL_mem hne))
        subst this
        exact old _ (.int _)
    · cases e
  · cases e
end Y

set_option maxHeartbeats 4000000
namespace Y
open PySem PySem.Spec PyProof.Rows L2
def m_rises : En → R Fl := (sRet (s1 dAll (sLc (sRg zp2 (sCons (sVar 0) (sCons (sSlc (sVar 0) (sPt (sC (.int 1))) sNoPt) sNil))) (hTup 2 (hCons (hName 1) (hCons (hName 2) hNil))) sYes (sCmp dLt (sVar 1) (sBor 2)) [1, 2])))
def fs_rises : List D → FO := runF false 1 3 m_rises
def m_needs_of : En → R Fl := (sRetO (sDc (sIt (sVar 0)) (hTup 3 (hCons (hName 1) (hCons (hName 2) (hCons (hName 3) hNil)))) sYes (sVar 1) (sVar 3) [1, 2, 3]))
def fs_needs_of : List D → FO := runF false 1 4 m_needs_of
def m_weights_of : En → R Fl := (sRetO (sDc (sIt (sVar 0)) (hTup 3 (hCons (hName 1) (hCons (hName 2) (hCons (hName 3) hNil)))) sYes (sVar 1) (sVar 2) [1, 2, 3]))
def fs_weights_of : List D → FO := runF false 1 4 m_weights_of
def m_all_ahead : En → R Fl := (sSeq (sPar2 2 3 (pO (sC (.nd (.dK []) [])) (pO (s1 dList (sBin dIx (sVar 0) (sVar 1))) pNil)))
  (sSeq (whL (sTru (sBor 3))
  (sSeq (sSet 4 (sMeth 3 gPop sNil))
  (sIfS (sBin dNotIn (sVar 4) (sBor 2))
  (sSeq (sPut 2 gSetD (sVar 4) (sC (.bl true)))
  (sAugL 3 (s1 dList (sBin dIx (sVar 0) (sVar 4)))))
  sNx)) 1000)
  (sRetO (s1 dSorted (s1 dList (sBor 2))))))
def fs_all_ahead : List D → FO := runF false 2 5 m_all_ahead
def m_ahead : En → R Fl := (sRetO (sCallO fs_all_ahead (sCons (sCall fs_needs_of (sCons (sVar 0) sNil)) (sCons (sVar 1) sNil))))
def fs_ahead : List D → FO := runF false 2 2 m_ahead
def m_wanted : En → R Fl := (sSeq (sSet 2 (sCall fs_needs_of (sCons (sVar 0) sNil)))
  (sSeq (sSet 3 (sDc2 (sIt (sVar 1)) (hName 4) sYes (sIt (sBin dPlus (sMk .lst (sCons (sVar 4) sNil)) (sCall fs_all_ahead (sCons (sVar 2) (sCons (sVar 4) sNil))))) (hName 5) sYes (sVar 5) (sC (.bl true)) [4, 5] [5]))
  (sRetO (s1 dSorted (s1 dList (sBor 3))))))
def fs_wanted : List D → FO := runF false 2 6 m_wanted
def m_lots : En → R Fl := (sSeq (sSetO 3 (sMk .lst (sCons (sMk .tup (sCons (sMk .lst sNil) (sCons (sC (.int 0)) sNil))) sNil)))
  (sSeq (sFor (sIt (sVar 0)) (hName 4)
  (sAugL 3 (sLcV 3 (hTup 2 (hCons (hName 5) (hCons (hName 6) hNil))) (sBin dLe (sBin dPlus (sVar 6) (sBin dIx (sVar 1) (sVar 4))) (sBor 2)) (sMk .tup (sCons (sBin dPlus (sVar 5) (sMk .lst (sCons (sVar 4) sNil))) (sCons (sBin dPlus (sVar 6) (sBin dIx (sVar 1) (sVar 4))) sNil))) [5, 6])))
  (sRetO (sLc (sIt (sFrz 3)) (hTup 2 (hCons (hName 5) (hCons (hName 6) hNil))) (sTru (sBor 5)) (sVar 5) [5, 6]))))
def fs_lots : List D → FO := runF false 3 7 m_lots
def m_plan : En → R Fl := (sSeq (sAsg (hTup 3 (hCons (hName 5) (hCons (hName 6) (hCons (hName 7) hNil)))) (sMk .tup (sCons (sCall fs_wanted (sCons (sVar 0) (sCons (sVar 1) sNil))) (sCons (sCall fs_needs_of (sCons (sVar 0) sNil)) (sCons (sCall fs_weights_of (sCons (sVar 0) sNil)) sNil)))))
  (sSeq (sSetO 3 (sDisp1 (sMk .tup sNil) (sMk .lst sNil)))
  (sSeq (sSetO 4 (sMk .lst (sCons (sMk .tup sNil) sNil)))
  (sSeq (whL (sAndT (sTru (sBor 4)) (sBin dNotIn (s1 dTuple (sBor 5)) (sBor 3)))
  (sSeq (sSet 8 (sMeth 4 gPopAt (sCons (sC (.int 0)) sNil)))
  (sSeq (sSet 9 (sLc (sIt (sVar 5)) (hName 12) (sAndT (sBin dNotIn (sVar 12) (sBor 8)) (sTru (s1 dAll (sLc (sIt (sBin dIx (sVar 6) (sVar 12))) (hName 13) sYes (sCmp dIn (sVar 13) (sBor 8)) [13])))) (sVar 12) [12]))
  (sFor (sIt (sCall fs_lots (sCons (sVar 9) (sCons (sVar 7) (sCons (sVar 2) sNil))))) (hName 10)
  (sSeq (sSet 11 (s1 dTuple (s1 dSorted (sBin dPlus (s1 dList (sBor 8)) (sBor 10)))))
  (sIfS (sBin dNotIn (sVar 11) (sBor 3))
  (sSeq (sPut 3 gSetD (sVar 11) (sBin dPlus (sIxV 3 (sVar 8)) (sMk .lst (sCons (sVar 10) sNil))))
  (sDrop (sMeth 4 gAppend (sCons (sVar 11) sNil))))
  sNx))))) 1000)
  (sRet (sGet 3 (s1 dTuple (sBor 5)) (sC .non)))))))
def fs_plan : List D → FO := runF false 3 14 m_plan
def m_is_plan : En → R Fl := (sSeq (sAsg (hTup 3 (hCons (hName 6) (hCons (hName 7) (hCons (hName 8) hNil)))) (sMk .tup (sCons (sCall fs_needs_of (sCons (sVar 0) sNil)) (sCons (sCall fs_weights_of (sCons (sVar 0) sNil)) (sCons (sCall fs_wanted (sCons (sVar 0) (sCons (sVar 1) sNil))) sNil)))))
  (sSeq (sIfS (sOrT (sNotT (sTru (sN dIsi (sCons (sVar 3) (sCons (sC (.ty "list")) sNil))))) (sNotT (sTru (s1 dAll (sLc (sIt (sVar 3)) (hName 5) sYes (sAndV (sN dIsi (sCons (sVar 5) (sCons (sC (.ty "list")) sNil))) (sCmp dGt (s1 dLen' (sBor 5)) (sC (.int 0)))) [5])))))
  (sRet (sC (.bl false)))
  sNx)
  (sSeq (sIfS (sNotT (sTru (s1 dAll (sLc2 (sIt (sVar 3)) (hName 5) sYes (sIt (sVar 5)) (hName 9) sYes (sAndV (sN dIsi (sCons (sVar 9) (sCons (sC (.ty "str")) sNil))) (sCmp dIn (sVar 9) (sBor 8))) [5, 9] [9]))))
  (sRet (sC (.bl false)))
  sNx)
  (sSeq (sSetO 4 (sMk .lst sNil))
  (sSeq (sFor (sIt (sVar 3)) (hName 5)
  (sSeq (sIfS (sOrT (sNotT (sTru (sCall fs_rises (sCons (sVar 5) sNil)))) (sBin dGt (s1 dSum (sLc (sIt (sVar 5)) (hName 9) sYes (sBin dIx (sVar 7) (sVar 9)) [9])) (sBor 2)))
  (sRet (sC (.bl false)))
  sNx)
  (sSeq (sIfS (sTru (s1 dAny (sLc (sIt (sVar 5)) (hName 9) sYes (sOrV (sCmp dIn (sVar 9) (sBor 4)) (sNotV (s1 dAll (sLc (sIt (sBin dIx (sVar 6) (sVar 9))) (hName 10) sYes (sCmp dIn (sVar 10) (sBor 4)) [10])))) [9])))
  (sRet (sC (.bl false)))
  sNx)
  (sAugL 4 (sVar 5)))))
  (sRet (sCmp dEq (s1 dLen' (sBor 4)) (s1 dLen' (sBor 8)))))))))
def fs_is_plan : List D → FO := runF false 4 11 m_is_plan
def m__law_bag : En → R Fl := (sSeq (sSet 2 (sC (.int 0)))
  (sSeq (sIfS (sBin dLt (sVar 1) (s1 dLen' (sBor 0)))
  (sSet 2 (sBin dMod (sBin dIx (sVar 0) (sVar 1)) (sBin dPow (sC (.int 10)) (sC (.int 60)))))
  sNx)
  (sSeq (sSet 3 (sBin dPlus (sC (.int 1)) (sBin dMod (sBin dPlus (sBin dPlus (sBin dPlus (sBin dMul (sBin dMod (sVar 2) (sC (.int 2147483629))) (sC (.int 16807))) (sBin dMul (sBin dMul (sC (.int 40009)) (sBor 1)) (sBor 1))) (sBin dMul (sC (.int 7919)) (sBor 1))) (sC (.int 1009))) (sC (.int 2147483645)))))
  (sSeq (sIfS (sBin dLt (sVar 2) (sBin dPow (sC (.int 10)) (sC (.int 18))))
  (sRetO (sMk .lst (sCons (sC (.int 0)) (sCons (sVar 3) sNil))))
  sNx)
  (sRetO (sMk .lst (sCons (sVar 2) (sCons (sVar 3) sNil))))))))
def fs__law_bag : List D → FO := runF false 2 4 m__law_bag
def m__law_take : En → R Fl := (sSeq (sIfS (sBin dGt (sIxV 0 (sC (.int 0))) (sC (.int 0)))
  (sSeq (sSet 2 (sBin dMod (sIxV 0 (sC (.int 0))) (sBor 1)))
  (sSeq (sPut 0 gSetL (sC (.int 0)) (sBin dDiv (sIxV 0 (sC (.int 0))) (sBor 1)))
  (sRet (sVar 2))))
  sNx)
  (sSeq (sPut 0 gSetL (sC (.int 1)) (sBin dMod (sBin dMul (sIxV 0 (sC (.int 1))) (sC (.int 48271))) (sC (.int 2147483647))))
  (sRet (sBin dMod (sBin dDiv (sBin dMod (sBin dMul (sBin dDiv (sIxV 0 (sC (.int 1))) (sC (.int 13))) (sBin dPlus (sBin dMod (sIxV 0 (sC (.int 1))) (sC (.int 32749))) (sC (.int 17)))) (sC (.int 2147483629))) (sC (.int 32))) (sBor 1)))))
def fs__law_take : List D → FO := runF true 2 3 m__law_take
def m__law_of : En → R Fl := (sRet (sBin dIx (sVar 1) (sCallI 0 fs__law_take (sCons (s1 dLen' (sBor 1)) sNil))))
def fs__law_of : List D → FO := runF true 2 2 m__law_of
def m__law_courses : En → R Fl := (sSeq (sSet 2 (sSlc (sMk .lst (sCons (sC (.str "art")) (sCons (sC (.str "bio")) (sCons (sC (.str "chem")) (sCons (sC (.str "dutch")) (sCons (sC (.str "eng")) (sCons (sC (.str "fin")) (sCons (sC (.str "geo")) (sCons (sC (.str "hist")) (sCons (sC (.str "ital")) (sCons (sC (.str "jazz")) sNil))))))))))) sNoPt (sPt (sCallI 0 fs__law_take (sCons (sBin dPlus (sVar 1) (sC (.int 1))) sNil)))))
  (sSeq (sPar2 5 6 (pO (sMk .lst sNil) (pO (sMk .lst sNil) pNil)))
  (sSeq (sFor (sIt (sVar 2)) (hName 3)
  (sDrop (sMeth 5 gInsert (sCons (sCallI 0 fs__law_take (sCons (sBin dPlus (s1 dLen' (sBor 5)) (sC (.int 1))) sNil)) (sCons (sVar 3) sNil)))))
  (sSeq (sFor (sRg rg1 (sCons (s1 dLen' (sBor 5)) sNil)) (hName 4)
  (sSeq (sSet 7 (sLc (sIt (sSlcV 5 sNoPt (sPt (sVar 4)))) (hName 3) (sBin dEq (sCallI 0 fs__law_take (sCons (sC (.int 4)) sNil)) (sC (.int 0))) (sVar 3) [3]))
  (sDrop (sMeth 6 gAppend (sCons (sMk .tup (sCons (sIxV 5 (sVar 4)) (sCons (sCallI 0 fs__law_of (sCons (sMk .lst (sCons (sC (.int 1)) (sCons (sC (.int 2)) (sCons (sC (.int 3)) (sCons (sC (.int 5)) (sCons (sC (.int 9)) sNil)))))) sNil)) (sCons (s1 dTuple (s1 dSorted (sBor 7))) sNil)))) sNil)))))
  (sRet (s1 dTuple (s1 dSorted (sBor 6))))))))
def fs__law_courses : List D → FO := runF true 2 8 m__law_courses
def m__law_depths : En → R Fl := (sSeq (sSet 1 (s1 dDict (sLc (sIt (sVar 0)) (hName 5) sYes (sMk .tup (sCons (sBin dIx (sVar 5) (sC (.int 0))) (sCons (sBin dIx (sVar 5) (sC (.int 2))) sNil))) [5])))
  (sSeq (sSetO 2 (s1 dDict (sLcD 1 kyD (hName 4) sYes (sMk .tup (sCons (sVar 4) (sCons (sC (.int 1)) sNil))) [4])))
  (sSeq (sFor (sRg rg1 (sCons (s1 dLen' (sBor 0)) sNil)) (hName 3)
  (sForD 1 kyD (hName 4)
  (sPut 2 gSetD (sVar 4) (s1 dMaxL (sBin dPlus (sMk .lst (sCons (sC (.int 1)) sNil)) (sLc (sIt (sBin dIx (sVar 1) (sVar 4))) (hName 5) sYes (sBin dPlus (sC (.int 1)) (sIxV 2 (sVar 5))) [5]))))))
  (sRetO (sMov 2)))))
def fs__law_depths : List D → FO := runF false 1 6 m__law_depths
def m__law_years : En → R Fl := (sSeq (sSet 3 (sCall fs_plan (sCons (sVar 0) (sCons (sVar 1) (sCons (sVar 2) sNil)))))
  (sRet (sIf (sBin dIs (sVar 3) (sC .non)) (sC (.int 99)) (s1 dLen' (sBor 3)))))
def fs__law_years : List D → FO := runF false 3 4 m__law_years
def m__law_bounds_right : En → R Fl := (sSeq (sSet 3 (s1 dList (sBor 1)))
  (sSeq (sFor (sIt (sVar 1)) (hName 4)
  (sSet 3 (sBin dPlus (sVar 3) (sCall fs_ahead (sCons (sVar 0) (sCons (sVar 4) sNil))))))
  (sSeq (sSet 5 (sLc (sIt (sVar 0)) (hName 11) (sBin dIn (sBin dIx (sVar 11) (sC (.int 0))) (sBor 3)) (sBin dIx (sVar 11) (sC (.int 1))) [11]))
  (sSeq (sSet 6 (sCall fs_plan (sCons (sVar 0) (sCons (sVar 1) (sCons (sVar 2) sNil)))))
  (sSeq (sIfS (sBin dNe (sCmp dIs (sVar 6) (sC .non)) (sAndV (sCmp dNe (sVar 5) (sMk .lst sNil)) (sCmp dGt (s1 dMaxL (sBor 5)) (sBor 2))))
  (sRet (sC (.bl false)))
  sNx)
  (sSeq (sIfS (sBin dIs (sVar 6) (sC .non))
  (sRet (sC (.bl true)))
  sNx)
  (sSeq (sSet 7 (sCall fs__law_depths (sCons (sVar 0) sNil)))
  (sSeq (sSet 8 (s1 dMaxL (sBin dPlus (sMk .lst (sCons (sC (.int 0)) sNil)) (sLc (sIt (sVar 1)) (hName 12) sYes (sBin dIx (sVar 7) (sVar 12)) [12]))))
  (sSeq (sIfS (sOrT (sNotT (sChain dLe dLe id (sVar 8) (s1 dLen' (sBor 6)) (s1 dLen' (sBor 5)))) (sBin dLt (sBin dMul (s1 dLen' (sBor 6)) (sBor 2)) (s1 dSum (sBor 5))))
  (sRet (sC (.bl false)))
  sNx)
  (sSeq (sSet 9 (sMk .lst sNil))
  (sSeq (sFor (sIt (sVar 6)) (hName 10)
  (sSet 9 (sBin dPlus (sVar 9) (sBor 10))))
  (sRet (sAndV (sCmp dIs (sCall fs_is_plan (sCons (sVar 0) (sCons (sVar 1) (sCons (sVar 2) (sCons (sVar 6) sNil))))) (sC (.bl true))) (sCmp dEq (s1 dSorted (sBor 9)) (s1 dSortSet (sBor 3))))))))))))))))
def fs__law_bounds_right : List D → FO := runF false 3 13 m__law_bounds_right
def m_law : En → R Fl := (sSeq (sFor (sRg rg1 (sCons (sBin dPlus (sN dMin2 (sCons (s1 dLen' (sBor 0)) (sCons (sC (.int 6)) sNil))) (sC (.int 2))) sNil)) (hName 1)
  (sSeq (sSetO 2 (sCallO fs__law_bag (sCons (sVar 0) (sCons (sVar 1) sNil))))
  (sSeq (sSet 3 (sCallI 2 fs__law_courses (sCons (sC (.int 8)) sNil)))
  (sSeq (sSet 4 (sLc (sIt (sVar 3)) (hName 14) sYes (sBin dIx (sVar 14) (sC (.int 0))) [14]))
  (sSeq (sSet 5 (sLc (sIt (sVar 4)) (hName 11) (sBin dEq (sCallI 2 fs__law_take (sCons (sC (.int 3)) sNil)) (sC (.int 0))) (sVar 11) [11]))
  (sSeq (sSet 6 (sBin dPlus (sC (.int 1)) (sCallI 2 fs__law_take (sCons (sC (.int 16)) sNil))))
  (sSeq (sIfS (sOrT (sNotT (sTru (sCall fs__law_bounds_right (sCons (sVar 3) (sCons (sVar 5) (sCons (sVar 6) sNil)))))) (sNotT (sTru (sCall fs__law_bounds_right (sCons (sVar 3) (sCons (sVar 4) (sCons (sC (.int 40)) sNil)))))))
  (sRet (sC (.bl false)))
  sNx)
  (sSeq (sSet 7 (sCall fs__law_years (sCons (sVar 3) (sCons (sVar 5) (sCons (sVar 6) sNil)))))
  (sSeq (sIfS (sOrT (sBin dLt (sCall fs__law_years (sCons (sVar 3) (sCons (sVar 4) (sCons (sVar 6) sNil)))) (sBor 7)) (sBin dGt (sCall fs__law_years (sCons (sVar 3) (sCons (sVar 5) (sCons (sBin dPlus (sVar 6) (sC (.int 1))) sNil)))) (sBor 7)))
  (sRet (sC (.bl false)))
  sNx)
  (sIfS (sBin dNe (sVar 4) (sMk .lst sNil))
  (sSeq (sSet 8 (sCallI 2 fs__law_take (sCons (s1 dLen' (sBor 4)) sNil)))
  (sSeq (sAsg (hTup 3 (hCons (hName 11) (hCons (hName 12) (hCons (hName 13) hNil)))) (sBin dIx (sVar 3) (sVar 8)))
  (sSeq (sSet 9 (sBin dPlus (sBin dPlus (sSlc (sVar 3) sNoPt (sPt (sVar 8))) (sMk .tup (sCons (sMk .tup (sCons (sVar 11) (sCons (sC (.int 1)) (sCons (sVar 13) sNil)))) sNil))) (sSlc (sVar 3) (sPt (sBin dPlus (sVar 8) (sC (.int 1)))) sNoPt)))
  (sSeq (sSet 10 (sBin dPlus (sBin dPlus (sSlc (sVar 3) sNoPt (sPt (sVar 8))) (sMk .tup (sCons (sMk .tup (sCons (sVar 11) (sCons (sVar 12) (sCons (sSlc (sVar 13) (sPt (sC (.int 1))) sNoPt) sNil)))) sNil))) (sSlc (sVar 3) (sPt (sBin dPlus (sVar 8) (sC (.int 1)))) sNoPt)))
  (sIfS (sOrT (sBin dGt (sCall fs__law_years (sCons (sVar 9) (sCons (sVar 5) (sCons (sVar 6) sNil)))) (sBor 7)) (sBin dGt (sCall fs__law_years (sCons (sVar 10) (sCons (sVar 5) (sCons (sVar 6) sNil)))) (sBor 7)))
  (sRet (sC (.bl false)))
  sNx)))))
  sNx))))))))))
  (sRet (sC (.bl true))))
def fs_law : List D → FO := runF false 1 15 m_law
def top (i : Nat) : Stmt := PySem.Challenge.pw_schoolbook_k32_whole_plans_between_bound.main.body.getD i (.Pass ⟨0, 0, 0, 0⟩)
structure TX (mg : Str → Option Value) : Prop where
  n_all : mg "all" = none
  n_any : mg "any" = none
  n_dict : mg "dict" = none
  n_isinstance : mg "isinstance" = none
  n_len : mg "len" = none
  n_list : mg "list" = none
  n_max : mg "max" = none
  n_min : mg "min" = none
  n_range : mg "range" = none
  n_set : mg "set" = none
  n_sorted : mg "sorted" = none
  n_str : mg "str" = none
  n_sum : mg "sum" = none
  n_tuple : mg "tuple" = none
  n_zip : mg "zip" = none
theorem boot_all' : bootBuiltins "all" = some (.builtin "all") := by decide +kernel
theorem boot_any' : bootBuiltins "any" = some (.builtin "any") := by decide +kernel
theorem boot_dict' : bootBuiltins "dict" = some (.type "dict") := by decide +kernel
theorem boot_isinstance' : bootBuiltins "isinstance" = some (.builtin "isinstance") := by decide +kernel
theorem boot_len' : bootBuiltins "len" = some (.builtin "len") := by decide +kernel
theorem boot_list' : bootBuiltins "list" = some (.type "list") := by decide +kernel
theorem boot_max' : bootBuiltins "max" = some (.builtin "max") := by decide +kernel
theorem boot_min' : bootBuiltins "min" = some (.builtin "min") := by decide +kernel
theorem boot_range' : bootBuiltins "range" = some (.type "range") := by decide +kernel
theorem boot_set' : bootBuiltins "set" = some (.type "set") := by decide +kernel
theorem boot_sorted' : bootBuiltins "sorted" = some (.builtin "sorted") := by decide +kernel
theorem boot_str' : bootBuiltins "str" = some (.type "str") := by decide +kernel
theorem boot_sum' : bootBuiltins "sum" = some (.builtin "sum") := by decide +kernel
theorem boot_tuple' : bootBuiltins "tuple" = some (.type "tuple") := by decide +kernel
theorem boot_zip' : bootBuiltins "zip" = some (.type "zip") := by decide +kernel
abbrev st_rises : Stmt := top 1
theorem sc_rises : FnScope ["some", "one", "other"] ["some"] (defScope st_rises) := ⟨rfl, rfl, rfl, by decide +kernel, rfl, by decide +kernel, by decide +kernel⟩
theorem D_rises {P : Program} {w : World} {K : PySem.W.Frag} {mg : Str → Option Value} {base : Heap} {cls : Str → Value} (T : TX mg) {f : Addr} {fd : FuncData} (F : Fun K "rises" "rises" st_rises f fd) (hm : mg "rises" = some (.ref f)) (bd : Binds K fd ["some"] [])  : Def P w K mg base CX0 1 "rises" cls false true 1 fs_rises := by
  exact mkDef (k := 0) F hm bd sc_rises rfl rfl (fun cdv A outer s H E W hr _ hcls => by
    subst hcls
    have sc := sc_rises
    exact (ss_one (s_ret (d_b1 (cr_all rfl) c1_all rfl T.n_all boot_all' (dB (dF (d_lc [("one", 1), ("other", 2)] rfl sc.nd (i_zip rfl T.n_zip (a_cons (d_var 0) (a_cons (d_slc (d_var 0) (p_some d_int) p_none) a_nil))) (blkOk_by (N := ["some", "one", "other"]) (sc := defScope st_rises) (by decide +kernel)) (by decide) (fun _ _ _ _ _ => (g_tup rfl (gs_cons (g_name 1 sc.nd) (gs_cons (g_name 2 sc.nd) gs_nil)))) (fun _ _ _ _ _ => ts_nil) (fun _ _ _ _ _ => (d_cmp (op_lt' (r64 hr)) rt_lt (d_var 1) (d_bor 2) rfl)))))))))
abbrev st_needs_of : Stmt := top 3
theorem sc_needs_of : FnScope ["courses", "name", "weight", "needs"] ["courses"] (defScope st_needs_of) := ⟨rfl, rfl, rfl, by decide +kernel, rfl, by decide +kernel, by decide +kernel⟩
theorem D_needs_of {P : Program} {w : World} {K : PySem.W.Frag} {mg : Str → Option Value} {base : Heap} {cls : Str → Value} (T : TX mg) {f : Addr} {fd : FuncData} (F : Fun K "needs_of" "needs_of" st_needs_of f fd) (hm : mg "needs_of" = some (.ref f)) (bd : Binds K fd ["courses"] [])  : Def P w K mg base CX0 1 "needs_of" cls false true 1 fs_needs_of := by
  exact mkDef (k := 0) F hm bd sc_needs_of rfl rfl (fun cdv A outer s H E W hr _ hcls => by
    subst hcls
    have sc := sc_needs_of
    exact (ss_one (s_retO (d_dc [("name", 1), ("weight", 2), ("needs", 3)] rfl sc.nd (i_seq (d_var 0)) (blkOk_by (N := ["courses", "name", "weight", "needs"]) (sc := defScope st_needs_of) (by decide +kernel)) (by decide) (fun _ _ _ _ _ => (g_tup rfl (gs_cons (g_name 1 sc.nd) (gs_cons (g_name 2 sc.nd) (gs_cons (g_name 3 sc.nd) gs_nil))))) (fun _ _ _ _ _ => ts_nil) (fun _ _ _ _ _ => (d_var 1)) (fun _ _ _ _ _ => (d_var 3))))))
abbrev st_weights_of : Stmt := top 4
theorem sc_weights_of : FnScope ["courses", "name", "weight", "needs"] ["courses"] (defScope st_weights_of) := ⟨rfl, rfl, rfl, by decide +kernel, rfl, by decide +kernel, by decide +kernel⟩
theorem D_weights_of {P : Program} {w : World} {K : PySem.W.Frag} {mg : Str → Option Value} {base : Heap} {cls : Str → Value} (T : TX mg) {f : Addr} {fd : FuncData} (F : Fun K "weights_of" "weights_of" st_weights_of f fd) (hm : mg "weights_of" = some (.ref f)) (bd : Binds K fd ["courses"] [])  : Def P w K mg base CX0 1 "weights_of" cls false true 1 fs_weights_of := by
  exact mkDef (k := 0) F hm bd sc_weights_of rfl rfl (fun cdv A outer s H E W hr _ hcls => by
    subst hcls
    have sc := sc_weights_of
    exact (ss_one (s_retO (d_dc [("name", 1), ("weight", 2), ("needs", 3)] rfl sc.nd (i_seq (d_var 0)) (blkOk_by (N := ["courses", "name", "weight", "needs"]) (sc := defScope st_weights_of) (by decide +kernel)) (by decide) (fun _ _ _ _ _ => (g_tup rfl (gs_cons (g_name 1 sc.nd) (gs_cons (g_name 2 sc.nd) (gs_cons (g_name 3 sc.nd) gs_nil))))) (fun _ _ _ _ _ => ts_nil) (fun _ _ _ _ _ => (d_var 1)) (fun _ _ _ _ _ => (d_var 2))))))
abbrev st_all_ahead : Stmt := top 5
theorem sc_all_ahead : FnScope ["needs", "name", "found", "left", "one"] ["needs", "name"] (defScope st_all_ahead) := ⟨rfl, rfl, rfl, by decide +kernel, rfl, by decide +kernel, by decide +kernel⟩
theorem D_all_ahead {P : Program} {w : World} {K : PySem.W.Frag} {mg : Str → Option Value} {base : Heap} {cls : Str → Value} (T : TX mg) {f : Addr} {fd : FuncData} (F : Fun K "all_ahead" "all_ahead" st_all_ahead f fd) (hm : mg "all_ahead" = some (.ref f)) (bd : Binds K fd ["needs", "name"] [])  : Def P w K mg base CX0 1 "all_ahead" cls false true 2 fs_all_ahead := by
  exact mkDef (k := 0) F hm bd sc_all_ahead rfl rfl (fun cdv A outer s H E W hr _ hcls => by
    subst hcls
    have sc := sc_all_ahead
    exact (ss_cons (s_par2 2 3 rfl sc.nd (z_O d_dict0 (z_O (d_t1O (cr_list rfl) c1_list rfl T.n_list boot_list' (dB (d_sub (r1 hr) (d_var 0) (d_var 1)))) z_nil)))
    (ss_cons (s_while 1000 PassesOwn.never (t_tru (d_bor 3))
    (ss_cons (s_set 4 (d_meth0 3 PySem.F.slot_list_pop PySem.F.type_list_pop mt_pop mo_pop) sc.nd)
    (ss_one (s_if (t_cmp (op_notin' (r65 hr)) rt_notin (d_var 4) (d_bor 2) rfl)
    (ss_cons (s_setD 2 (r1 hr) d_bl (d_var 4))
    (ss_one (s_augL 3 (dF (d_t1O (cr_list rfl) c1_list rfl T.n_list boot_list' (dB (d_sub (r1 hr) (d_var 0) (d_var 4))))) sc.nd)))
    ss_nil))))
    (ss_one (s_retO (d_b1O (cr_sorted rfl (r69 hr)) c1_sorted rfl T.n_sorted boot_sorted' (dB (dF (d_t1O (cr_list rfl) c1_list rfl T.n_list boot_list' (d_bor 2))))))))))
abbrev st_ahead : Stmt := top 6
theorem sc_ahead : FnScope ["courses", "name"] ["courses", "name"] (defScope st_ahead) := ⟨rfl, rfl, rfl, by decide +kernel, rfl, by decide +kernel, by decide +kernel⟩
theorem D_ahead {P : Program} {w : World} {K : PySem.W.Frag} {mg : Str → Option Value} {base : Heap} {cls : Str → Value} (T : TX mg) {f : Addr} {fd : FuncData} (F : Fun K "ahead" "ahead" st_ahead f fd) (hm : mg "ahead" = some (.ref f)) (bd : Binds K fd ["courses", "name"] []) (G_all_ahead : Def P w K mg base CX0 1 "all_ahead" cls false true 2 fs_all_ahead) (G_needs_of : Def P w K mg base CX0 1 "needs_of" cls false true 1 fs_needs_of) : Def P w K mg base CX0 2 "ahead" cls false true 2 fs_ahead := by
  exact mkDef (k := 1) F hm bd sc_ahead rfl rfl (fun cdv A outer s H E W hr _ hcls => by
    subst hcls
    have sc := sc_ahead
    exact (ss_one (s_retO (d_callO (Def.mono G_all_ahead (by decide)) (fun _ => rfl) hr rfl (a_cons (d_call (Def.mono G_needs_of (by decide)) (fun _ => rfl) hr rfl (a_cons (d_var 0) a_nil)) (a_cons (d_var 1) a_nil))))))
abbrev st_wanted : Stmt := top 8
theorem sc_wanted : FnScope ["courses", "goals", "needs", "found", "goal", "name"] ["courses", "goals"] (defScope st_wanted) := ⟨rfl, rfl, rfl, by decide +kernel, rfl, by decide +kernel, by decide +kernel⟩
theorem D_wanted {P : Program} {w : World} {K : PySem.W.Frag} {mg : Str → Option Value} {base : Heap} {cls : Str → Value} (T : TX mg) {f : Addr} {fd : FuncData} (F : Fun K "wanted" "wanted" st_wanted f fd) (hm : mg "wanted" = some (.ref f)) (bd : Binds K fd ["courses", "goals"] []) (G_needs_of : Def P w K mg base CX0 1 "needs_of" cls false true 1 fs_needs_of) (G_all_ahead : Def P w K mg base CX0 1 "all_ahead" cls false true 2 fs_all_ahead) : Def P w K mg base CX0 2 "wanted" cls false true 2 fs_wanted := by
  exact mkDef (k := 1) F hm bd sc_wanted rfl rfl (fun cdv A outer s H E W hr _ hcls => by
    subst hcls
    have sc := sc_wanted
    exact (ss_cons (s_set 2 (d_call (Def.mono G_needs_of (by decide)) (fun _ => rfl) hr rfl (a_cons (d_var 0) a_nil)) sc.nd)
    (ss_cons (s_setDc2F (vs1 := [5]) 3 [("goal", 4), ("name", 5)] rfl sc.nd (i_seq (d_var 1)) (blkOk_by (N := ["courses", "goals", "needs", "found", "goal", "name"]) (sc := defScope st_wanted) (by decide +kernel)) (by decide) (by decide) (by decide) (fun _ _ _ _ _ => (g_name 4 sc.nd)) (fun _ _ _ _ _ => ts_nil) (fun _ _ _ _ _ => (i_seq (d_bin op_plusA rb_plusA (dF (d_lst (a_cons (d_var 4) a_nil))) (dB (d_call (Def.mono G_all_ahead (by decide)) (fun _ => rfl) hr rfl (a_cons (d_var 2) (a_cons (d_var 4) a_nil))))))) (fun _ _ _ _ _ => (g_name 5 sc.nd)) (fun _ _ _ _ _ => ts_nil) (fun _ _ _ _ _ => (d_var 5)) (fun _ _ _ _ _ => d_bl) (swD_true rfl rfl rfl (by decide +kernel)))
    (ss_one (s_retO (d_b1O (cr_sorted rfl (r69 hr)) c1_sorted rfl T.n_sorted boot_sorted' (dB (dF (d_t1O (cr_list rfl) c1_list rfl T.n_list boot_list' (d_bor 3))))))))))
abbrev st_lots : Stmt := top 9
theorem sc_lots : FnScope ["some", "weights", "limit", "found", "name", "lot", "sum_of"] ["some", "weights", "limit"] (defScope st_lots) := ⟨rfl, rfl, rfl, by decide +kernel, rfl, by decide +kernel, by decide +kernel⟩
theorem D_lots {P : Program} {w : World} {K : PySem.W.Frag} {mg : Str → Option Value} {base : Heap} {cls : Str → Value} (T : TX mg) {f : Addr} {fd : FuncData} (F : Fun K "lots" "lots" st_lots f fd) (hm : mg "lots" = some (.ref f)) (bd : Binds K fd ["some", "weights", "limit"] [])  : Def P w K mg base CX0 1 "lots" cls false true 3 fs_lots := by
  exact mkDef (k := 0) F hm bd sc_lots rfl rfl (fun cdv A outer s H E W hr _ hcls => by
    subst hcls
    have sc := sc_lots
    exact (ss_cons (s_setO 3 (d_lst (a_cons (d_tup (a_cons (dF (d_lst a_nil)) (a_cons d_int a_nil))) a_nil)) sc.nd)
    (ss_cons (s_for PassesOwn.never rfl (i_seq (d_var 0)) (g_name 4 sc.nd)
    (ss_one (s_augL 3 (dF (d_lcV 3 [("lot", 5), ("sum_of", 6)] rfl sc.nd (blkOk_by (N := ["some", "weights", "limit", "found", "name", "lot", "sum_of"]) (sc := defScope st_lots) (by decide +kernel)) (by decide) (fun _ _ _ _ _ => (g_tup rfl (gs_cons (g_name 5 sc.nd) (gs_cons (g_name 6 sc.nd) gs_nil)))) (fun _ _ _ _ _ => (ts_one (t_cmp op_le rt_le (d_bin op_plusA rb_plusA (d_var 6) (dB (d_sub (r1 hr) (d_var 1) (d_var 4)))) (d_bor 2) rfl))) (fun _ _ _ _ _ => (d_tup (a_cons (d_bin op_plusA rb_plusA (d_var 5) (dB (dF (d_lst (a_cons (d_var 4) a_nil))))) (a_cons (d_bin op_plusA rb_plusA (d_var 6) (dB (d_sub (r1 hr) (d_var 1) (d_var 4)))) a_nil)))))) sc.nd)))
    (ss_one (s_retO (d_lc [("lot", 5), ("sum_of", 6)] rfl sc.nd (i_seq (d_frz 3)) (blkOk_by (N := ["some", "weights", "limit", "found", "name", "lot", "sum_of"]) (sc := defScope st_lots) (by decide +kernel)) (by decide) (fun _ _ _ _ _ => (g_tup rfl (gs_cons (g_name 5 sc.nd) (gs_cons (g_name 6 sc.nd) gs_nil)))) (fun _ _ _ _ _ => (ts_one (t_tru (d_bor 5)))) (fun _ _ _ _ _ => (d_var 5))))))))
abbrev st_plan : Stmt := top 10
theorem sc_plan : FnScope ["courses", "goals", "limit", "seen", "row", "names", "needs", "weights", "done", "free", "lot", "later", "name", "need"] ["courses", "goals", "limit"] (defScope st_plan) := ⟨rfl, rfl, rfl, by decide +kernel, rfl, by decide +kernel, by decide +kernel⟩
theorem D_plan {P : Program} {w : World} {K : PySem.W.Frag} {mg : Str → Option Value} {base : Heap} {cls : Str → Value} (T : TX mg) {f : Addr} {fd : FuncData} (F : Fun K "plan" "plan" st_plan f fd) (hm : mg "plan" = some (.ref f)) (bd : Binds K fd ["courses", "goals", "limit"] []) (G_wanted : Def P w K mg base CX0 2 "wanted" cls false true 2 fs_wanted) (G_needs_of : Def P w K mg base CX0 1 "needs_of" cls false true 1 fs_needs_of) (G_weights_of : Def P w K mg base CX0 1 "weights_of" cls false true 1 fs_weights_of) (G_lots : Def P w K mg base CX0 1 "lots" cls false true 3 fs_lots) : Def P w K mg base CX0 3 "plan" cls false true 3 fs_plan := by
  exact mkDef (k := 2) F hm bd sc_plan rfl rfl (fun cdv A outer s H E W hr _ hcls => by
    subst hcls
    have sc := sc_plan
    exact (ss_cons (s_asg (d_tup (a_cons (d_call (Def.mono G_wanted (by decide)) (fun _ => rfl) hr rfl (a_cons (d_var 0) (a_cons (d_var 1) a_nil))) (a_cons (d_call (Def.mono G_needs_of (by decide)) (fun _ => rfl) hr rfl (a_cons (d_var 0) a_nil)) (a_cons (d_call (Def.mono G_weights_of (by decide)) (fun _ => rfl) hr rfl (a_cons (d_var 0) a_nil)) a_nil)))) (g_tup rfl (gs_cons (g_name 5 sc.nd) (gs_cons (g_name 6 sc.nd) (gs_cons (g_name 7 sc.nd) gs_nil)))))
    (ss_cons (s_setO 3 (d_disp1T (r1 hr) (d_tup a_nil) (dF (d_lst a_nil))) sc.nd)
    (ss_cons (s_setO 4 (d_lst (a_cons (d_tup a_nil) a_nil)) sc.nd)
    (ss_cons (s_while 1000 PassesOwn.never (PW.pt (w_and (t_tru (d_bor 4)) (w_and1 (t_cmp (op_notin' (r65 hr)) rt_notin (d_t1 call_tuple_of c1_tuple rfl T.n_tuple boot_tuple' (d_bor 5)) (d_bor 3) rfl))))
    (ss_cons (s_set 8 (d_meth 4 PySem.F.slot_list_pop PySem.F.type_list_pop mt_popAt mo_popAt (a_cons d_int a_nil)) sc.nd)
    (ss_cons (s_setLcF 9 [("name", 12)] rfl sc.nd (i_seq (d_var 5)) (blkOk_by (N := ["courses", "goals", "limit", "seen", "row", "names", "needs", "weights", "done", "free", "lot", "later", "name", "need"]) (sc := defScope st_plan) (by decide +kernel)) (by decide) (fun _ _ _ _ _ => (g_name 12 sc.nd)) (fun _ _ _ _ _ => (ts_one (PW.pt (w_and (t_cmp (op_notin' (r65 hr)) rt_notin (d_var 12) (d_bor 8) rfl) (w_and1 (t_tru (dB (d_b1 (cr_all rfl) c1_all rfl T.n_all boot_all' (dB (dF (d_lc [("need", 13)] rfl sc.nd (i_seq (d_sub (r1 hr) (d_var 6) (d_var 12))) (blkOk_in (N := ["courses", "goals", "limit", "seen", "row", "names", "needs", "weights", "done", "free", "lot", "later", "name", "need"]) (by decide +kernel)) (by decide) (fun _ _ _ _ _ => (g_name 13 sc.nd)) (fun _ _ _ _ _ => ts_nil) (fun _ _ _ _ _ => (d_cmp (op_in' (r65 hr)) rt_in (d_var 13) (d_bor 8) rfl))))))))))))) (fun _ _ _ _ _ => (d_var 12)) (sw_true rfl rfl rfl (by decide +kernel)))
    (ss_one (s_for PassesOwn.never rfl (i_seq (d_call (Def.mono G_lots (by decide)) (fun _ => rfl) hr rfl (a_cons (d_var 9) (a_cons (d_var 7) (a_cons (d_var 2) a_nil))))) (g_name 10 sc.nd)
    (ss_cons (s_set 11 (d_t1 call_tuple_of c1_tuple rfl T.n_tuple boot_tuple' (dB (dF (d_b1O (cr_sorted rfl (r69 hr)) c1_sorted rfl T.n_sorted boot_sorted' (dB (d_bin op_plusA rb_plusA (dF (d_t1O (cr_list rfl) c1_list rfl T.n_list boot_list' (d_bor 8))) (d_bor 10))))))) sc.nd)
    (ss_one (s_if (t_cmp (op_notin' (r65 hr)) rt_notin (d_var 11) (d_bor 3) rfl)
    (ss_cons (s_setD 3 (r1 hr) (d_bin op_plusA rb_plusA (d_subV 3 (r1 hr) (d_var 8)) (dB (dF (d_lst (a_cons (d_var 10) a_nil))))) (d_var 11))
    (ss_one (s_expr (d_meth 4 PySem.slot_list_append PySem.type_list_append mt_append mo_append (a_cons (d_var 11) a_nil)))))
    ss_nil))))))))
    (ss_one (s_ret (d_get 3 (r1 hr) (d_t1 call_tuple_of c1_tuple rfl T.n_tuple boot_tuple' (d_bor 5)) d_non))))))))
abbrev st_is_plan : Stmt := top 11
theorem sc_is_plan : FnScope ["courses", "goals", "limit", "thing", "done", "year", "needs", "weights", "names", "name", "need"] ["courses", "goals", "limit", "thing"] (defScope st_is_plan) := ⟨rfl, rfl, rfl, by decide +kernel, rfl, by decide +kernel, by decide +kernel⟩
theorem D_is_plan {P : Program} {w : World} {K : PySem.W.Frag} {mg : Str → Option Value} {base : Heap} {cls : Str → Value} (T : TX mg) {f : Addr} {fd : FuncData} (F : Fun K "is_plan" "is_plan" st_is_plan f fd) (hm : mg "is_plan" = some (.ref f)) (bd : Binds K fd ["courses", "goals", "limit", "thing"] []) (G_needs_of : Def P w K mg base CX0 1 "needs_of" cls false true 1 fs_needs_of) (G_weights_of : Def P w K mg base CX0 1 "weights_of" cls false true 1 fs_weights_of) (G_wanted : Def P w K mg base CX0 2 "wanted" cls false true 2 fs_wanted) (G_rises : Def P w K mg base CX0 1 "rises" cls false true 1 fs_rises) : Def P w K mg base CX0 3 "is_plan" cls false true 4 fs_is_plan := by
  exact mkDef (k := 2) F hm bd sc_is_plan rfl rfl (fun cdv A outer s H E W hr _ hcls => by
    subst hcls
    have sc := sc_is_plan
    exact (ss_cons (s_asg (d_tup (a_cons (d_call (Def.mono G_needs_of (by decide)) (fun _ => rfl) hr rfl (a_cons (d_var 0) a_nil)) (a_cons (d_call (Def.mono G_weights_of (by decide)) (fun _ => rfl) hr rfl (a_cons (d_var 0) a_nil)) (a_cons (d_call (Def.mono G_wanted (by decide)) (fun _ => rfl) hr rfl (a_cons (d_var 0) (a_cons (d_var 1) a_nil))) a_nil)))) (g_tup rfl (gs_cons (g_name 6 sc.nd) (gs_cons (g_name 7 sc.nd) (gs_cons (g_name 8 sc.nd) gs_nil)))))
    (ss_cons (s_if (PW.pt (w_or (t_not (t_tru (dB (d_bN cr_isi cn_isi rfl T.n_isinstance boot_isinstance' (a_cons (d_var 3) (a_cons (d_ty rfl T.n_list boot_list') a_nil)))))) (w_or1 (t_not (t_tru (dB (d_b1 (cr_all rfl) c1_all rfl T.n_all boot_all' (dB (dF (d_lc [("year", 5)] rfl sc.nd (i_seq (d_var 3)) (blkOk_by (N := ["courses", "goals", "limit", "thing", "done", "year", "needs", "weights", "names", "name", "need"]) (sc := defScope st_is_plan) (by decide +kernel)) (by decide) (fun _ _ _ _ _ => (g_name 5 sc.nd)) (fun _ _ _ _ _ => ts_nil) (fun _ _ _ _ _ => (d_and (d_bN cr_isi cn_isi rfl T.n_isinstance boot_isinstance' (a_cons (d_var 5) (a_cons (d_ty rfl T.n_list boot_list') a_nil))) (d_one (d_cmp op_gt rt_gt (d_b1 cr_len c1_len rfl T.n_len boot_len' (d_bor 5)) (dB d_int) rfl))))))))))))))
    (ss_one (s_ret d_bl))
    ss_nil)
    (ss_cons (s_if (t_not (t_tru (dB (d_b1 (cr_all rfl) c1_all rfl T.n_all boot_all' (dB (dF (d_lc2 (vs1 := [9]) [("year", 5), ("name", 9)] rfl sc.nd (i_seq (d_var 3)) (blkOk_by (N := ["courses", "goals", "limit", "thing", "done", "year", "needs", "weights", "names", "name", "need"]) (sc := defScope st_is_plan) (by decide +kernel)) (by decide) (by decide) (by decide) (fun _ _ _ _ _ => (g_name 5 sc.nd)) (fun _ _ _ _ _ => ts_nil) (fun _ _ _ _ _ => (i_seq (d_var 5))) (fun _ _ _ _ _ => (g_name 9 sc.nd)) (fun _ _ _ _ _ => ts_nil) (fun _ _ _ _ _ => (d_and (d_bN cr_isi cn_isi rfl T.n_isinstance boot_isinstance' (a_cons (d_var 9) (a_cons (d_ty rfl T.n_str boot_str') a_nil))) (d_one (d_cmp (op_in' (r65 hr)) rt_in (d_var 9) (d_bor 8) rfl)))))))))))
    (ss_one (s_ret d_bl))
    ss_nil)
    (ss_cons (s_setO 4 (d_lst a_nil) sc.nd)
    (ss_cons (s_for PassesOwn.never rfl (i_seq (d_var 3)) (g_name 5 sc.nd)
    (ss_cons (s_if (PW.pt (w_or (t_not (t_tru (dB (d_call (Def.mono G_rises (by decide)) (fun _ => rfl) hr rfl (a_cons (d_var 5) a_nil))))) (w_or1 (t_cmp op_gt rt_gt (d_b1 (cr_sum rfl) c1_sum rfl T.n_sum boot_sum' (dB (dF (d_lc [("name", 9)] rfl sc.nd (i_seq (d_var 5)) (blkOk_by (N := ["courses", "goals", "limit", "thing", "done", "year", "needs", "weights", "names", "name", "need"]) (sc := defScope st_is_plan) (by decide +kernel)) (by decide) (fun _ _ _ _ _ => (g_name 9 sc.nd)) (fun _ _ _ _ _ => ts_nil) (fun _ _ _ _ _ => (d_sub (r1 hr) (d_var 7) (d_var 9))))))) (d_bor 2) rfl))))
    (ss_one (s_ret d_bl))
    ss_nil)
    (ss_cons (s_if (t_tru (dB (d_b1 (cr_any rfl) c1_any rfl T.n_any boot_any' (dB (dF (d_lc [("name", 9)] rfl sc.nd (i_seq (d_var 5)) (blkOk_by (N := ["courses", "goals", "limit", "thing", "done", "year", "needs", "weights", "names", "name", "need"]) (sc := defScope st_is_plan) (by decide +kernel)) (by decide) (fun _ _ _ _ _ => (g_name 9 sc.nd)) (fun _ _ _ _ _ => ts_nil) (fun _ _ _ _ _ => (d_or (d_cmp (op_in' (r65 hr)) rt_in (d_var 9) (d_bor 4) rfl) (d_one (d_not (dB (d_b1 (cr_all rfl) c1_all rfl T.n_all boot_all' (dB (dF (d_lc [("need", 10)] rfl sc.nd (i_seq (d_sub (r1 hr) (d_var 6) (d_var 9))) (blkOk_in (N := ["courses", "goals", "limit", "thing", "done", "year", "needs", "weights", "names", "name", "need"]) (by decide +kernel)) (by decide) (fun _ _ _ _ _ => (g_name 10 sc.nd)) (fun _ _ _ _ _ => ts_nil) (fun _ _ _ _ _ => (d_cmp (op_in' (r65 hr)) rt_in (d_var 10) (d_bor 4) rfl)))))))))))))))))
    (ss_one (s_ret d_bl))
    ss_nil)
    (ss_one (s_augL 4 (d_var 5) sc.nd)))))
    (ss_one (s_ret (d_cmp (op_eqD (r64 hr)) rt_eq (d_b1 cr_len c1_len rfl T.n_len boot_len' (d_bor 4)) (dB (d_b1 cr_len c1_len rfl T.n_len boot_len' (d_bor 8))) rfl)))))))))
abbrev st__law_bag : Stmt := top 13
theorem sc__law_bag : FnScope ["script", "k", "cell", "seed"] ["script", "k"] (defScope st__law_bag) := ⟨rfl, rfl, rfl, by decide +kernel, rfl, by decide +kernel, by decide +kernel⟩
theorem D__law_bag {P : Program} {w : World} {K : PySem.W.Frag} {mg : Str → Option Value} {base : Heap} {cls : Str → Value} (T : TX mg) {f : Addr} {fd : FuncData} (F : Fun K "_law_bag" "_law_bag" st__law_bag f fd) (hm : mg "_law_bag" = some (.ref f)) (bd : Binds K fd ["script", "k"] [])  : Def P w K mg base CX0 1 "_law_bag" cls false true 2 fs__law_bag := by
  exact mkDef (k := 0) F hm bd sc__law_bag rfl rfl (fun cdv A outer s H E W hr _ hcls => by
    subst hcls
    have sc := sc__law_bag
    exact (ss_cons (s_set 2 d_int sc.nd)
    (ss_cons (s_if (t_cmp (op_lt' (r64 hr)) rt_lt (d_var 1) (dB (d_b1 cr_len c1_len rfl T.n_len boot_len' (d_bor 0))) rfl)
    (ss_one (s_set 2 (d_bin op_mod rb_mod (d_sub (r1 hr) (d_var 0) (d_var 1)) (dB (d_bin op_pow rb_pow d_int (dB d_int)))) sc.nd))
    ss_nil)
    (ss_cons (s_set 3 (d_bin op_plusA rb_plusA d_int (dB (d_bin op_mod rb_mod (d_bin op_plusA rb_plusA (d_bin op_plusA rb_plusA (d_bin op_plusA rb_plusA (d_bin op_mul rb_mul (d_bin op_mod rb_mod (d_var 2) (dB d_int)) (dB d_int)) (dB (d_bin op_mul rb_mul (d_bin op_mul rb_mul d_int (d_bor 1)) (d_bor 1)))) (dB (d_bin op_mul rb_mul d_int (d_bor 1)))) (dB d_int)) (dB d_int)))) sc.nd)
    (ss_cons (s_if (t_cmp (op_lt' (r64 hr)) rt_lt (d_var 2) (dB (d_bin op_pow rb_pow d_int (dB d_int))) rfl)
    (ss_one (s_retO (d_lst (a_cons d_int (a_cons (d_var 3) a_nil)))))
    ss_nil)
    (ss_one (s_retO (d_lst (a_cons (d_var 2) (a_cons (d_var 3) a_nil))))))))))
abbrev st__law_take : Stmt := top 14
theorem sc__law_take : FnScope ["bag", "count", "found"] ["bag", "count"] (defScope st__law_take) := ⟨rfl, rfl, rfl, by decide +kernel, rfl, by decide +kernel, by decide +kernel⟩
theorem D__law_take {P : Program} {w : World} {K : PySem.W.Frag} {mg : Str → Option Value} {base : Heap} {cls : Str → Value} (T : TX mg) {f : Addr} {fd : FuncData} (F : Fun K "_law_take" "_law_take" st__law_take f fd) (hm : mg "_law_take" = some (.ref f)) (bd : Binds K fd ["bag", "count"] [])  : Def P w K mg base CX0 1 "_law_take" cls true true 2 fs__law_take := by
  exact mkDef (k := 0) F hm bd sc__law_take rfl rfl (fun cdv A outer s H E W hr _ hcls => by
    subst hcls
    have sc := sc__law_take
    exact (ss_cons (s_if (t_cmp op_gt rt_gt (d_subV 0 (r1 hr) d_int) (dB d_int) rfl)
    (ss_cons (s_set 2 (d_bin op_mod rb_mod (d_subV 0 (r1 hr) d_int) (d_bor 1)) sc.nd)
    (ss_cons (s_setL 0 (d_bin op_fdiv rb_div (d_subV 0 (r1 hr) d_int) (d_bor 1)) d_int)
    (ss_one (s_ret (d_var 2)))))
    ss_nil)
    (ss_cons (s_setL 0 (d_bin op_mod rb_mod (d_bin op_mul rb_mul (d_subV 0 (r1 hr) d_int) (dB d_int)) (dB d_int)) d_int)
    (ss_one (s_ret (d_bin op_mod rb_mod (d_bin op_fdiv rb_div (d_bin op_mod rb_mod (d_bin op_mul rb_mul (d_bin op_fdiv rb_div (d_subV 0 (r1 hr) d_int) (dB d_int)) (dB (d_bin op_plusA rb_plusA (d_bin op_mod rb_mod (d_subV 0 (r1 hr) d_int) (dB d_int)) (dB d_int)))) (dB d_int)) (dB d_int)) (d_bor 1)))))))
abbrev st__law_of : Stmt := top 15
theorem sc__law_of : FnScope ["bag", "some"] ["bag", "some"] (defScope st__law_of) := ⟨rfl, rfl, rfl, by decide +kernel, rfl, by decide +kernel, by decide +kernel⟩
theorem D__law_of {P : Program} {w : World} {K : PySem.W.Frag} {mg : Str → Option Value} {base : Heap} {cls : Str → Value} (T : TX mg) {f : Addr} {fd : FuncData} (F : Fun K "_law_of" "_law_of" st__law_of f fd) (hm : mg "_law_of" = some (.ref f)) (bd : Binds K fd ["bag", "some"] []) (G__law_take : Def P w K mg base CX0 1 "_law_take" cls true true 2 fs__law_take) : Def P w K mg base CX0 2 "_law_of" cls true true 2 fs__law_of := by
  exact mkDef (k := 1) F hm bd sc__law_of rfl rfl (fun cdv A outer s H E W hr _ hcls => by
    subst hcls
    have sc := sc__law_of
    exact (ss_one (s_ret (d_sub (r1 hr) (d_var 1) (d_callI 0 (Def.mono G__law_take (by decide)) (fun _ => rfl) hr rfl (a_cons (d_b1 cr_len c1_len rfl T.n_len boot_len' (d_bor 1)) a_nil))))))
abbrev st__law_courses : Stmt := top 16
theorem sc__law_courses : FnScope ["bag", "most", "names", "name", "at", "order", "found", "needs"] ["bag", "most"] (defScope st__law_courses) := ⟨rfl, rfl, rfl, by decide +kernel, rfl, by decide +kernel, by decide +kernel⟩
theorem D__law_courses {P : Program} {w : World} {K : PySem.W.Frag} {mg : Str → Option Value} {base : Heap} {cls : Str → Value} (T : TX mg) {f : Addr} {fd : FuncData} (F : Fun K "_law_courses" "_law_courses" st__law_courses f fd) (hm : mg "_law_courses" = some (.ref f)) (bd : Binds K fd ["bag", "most"] []) (G__law_take : Def P w K mg base CX0 1 "_law_take" cls true true 2 fs__law_take) (G__law_of : Def P w K mg base CX0 2 "_law_of" cls true true 2 fs__law_of) : Def P w K mg base CX0 3 "_law_courses" cls true true 2 fs__law_courses := by
  exact mkDef (k := 2) F hm bd sc__law_courses rfl rfl (fun cdv A outer s H E W hr _ hcls => by
    subst hcls
    have sc := sc__law_courses
    exact (ss_cons (s_set 2 (d_slc (dF (d_lst (a_cons d_str (a_cons d_str (a_cons d_str (a_cons d_str (a_cons d_str (a_cons d_str (a_cons d_str (a_cons d_str (a_cons d_str (a_cons d_str a_nil)))))))))))) p_none (p_some (d_callI 0 (Def.mono G__law_take (by decide)) (fun _ => rfl) hr rfl (a_cons (d_bin op_plusA rb_plusA (d_var 1) (dB d_int)) a_nil)))) sc.nd)
    (ss_cons (s_par2 5 6 rfl sc.nd (z_O (d_lst a_nil) (z_O (d_lst a_nil) z_nil)))
    (ss_cons (s_for PassesOwn.never rfl (i_seq (d_var 2)) (g_name 3 sc.nd)
    (ss_one (s_expr (d_meth 5 PySem.F.slot_list_insert PySem.F.type_list_insert mt_insert mo_insert (a_cons (d_callI 0 (Def.mono G__law_take (by decide)) (fun _ => rfl) hr rfl (a_cons (d_bin op_plusA rb_plusA (d_b1 cr_len c1_len rfl T.n_len boot_len' (d_bor 5)) (dB d_int)) a_nil)) (a_cons (d_var 3) a_nil))))))
    (ss_cons (s_for PassesOwn.never rfl (i_range1 rfl T.n_range (a_cons (d_b1 cr_len c1_len rfl T.n_len boot_len' (d_bor 5)) a_nil)) (g_name 4 sc.nd)
    (ss_cons (s_setLcF 7 [("name", 3)] rfl sc.nd (i_seq (d_slcV 5 p_none (p_some (d_var 4)))) (blkOk_by (N := ["bag", "most", "names", "name", "at", "order", "found", "needs"]) (sc := defScope st__law_courses) (by decide +kernel)) (by decide) (fun _ _ _ _ _ => (g_name 3 sc.nd)) (fun _ _ _ _ _ => (ts_one (t_cmp (op_eqD (r64 hr)) rt_eq (d_callI 0 (Def.mono G__law_take (by decide)) (fun _ => rfl) hr rfl (a_cons d_int a_nil)) (dB d_int) rfl))) (fun _ _ _ _ _ => (d_var 3)) (sw_true rfl rfl rfl (by decide +kernel)))
    (ss_one (s_expr (d_meth 6 PySem.slot_list_append PySem.type_list_append mt_append mo_append (a_cons (d_tup (a_cons (d_subV 5 (r1 hr) (d_var 4)) (a_cons (d_callI 0 (Def.mono G__law_of (by decide)) (fun _ => rfl) hr rfl (a_cons (dF (d_lst (a_cons d_int (a_cons d_int (a_cons d_int (a_cons d_int (a_cons d_int a_nil))))))) a_nil)) (a_cons (d_t1 call_tuple_of c1_tuple rfl T.n_tuple boot_tuple' (dB (dF (d_b1O (cr_sorted rfl (r69 hr)) c1_sorted rfl T.n_sorted boot_sorted' (d_bor 7))))) a_nil)))) a_nil))))))
    (ss_one (s_ret (d_t1 call_tuple_of c1_tuple rfl T.n_tuple boot_tuple' (dB (dF (d_b1O (cr_sorted rfl (r69 hr)) c1_sorted rfl T.n_sorted boot_sorted' (d_bor 6))))))))))))
abbrev st__law_depths : Stmt := top 18
theorem sc__law_depths : FnScope ["courses", "needs", "found", "turn", "name", "one"] ["courses"] (defScope st__law_depths) := ⟨rfl, rfl, rfl, by decide +kernel, rfl, by decide +kernel, by decide +kernel⟩
theorem D__law_depths {P : Program} {w : World} {K : PySem.W.Frag} {mg : Str → Option Value} {base : Heap} {cls : Str → Value} (T : TX mg) {f : Addr} {fd : FuncData} (F : Fun K "_law_depths" "_law_depths" st__law_depths f fd) (hm : mg "_law_depths" = some (.ref f)) (bd : Binds K fd ["courses"] [])  : Def P w K mg base CX0 1 "_law_depths" cls false true 1 fs__law_depths := by
  exact mkDef (k := 0) F hm bd sc__law_depths rfl rfl (fun cdv A outer s H E W hr _ hcls => by
    subst hcls
    have sc := sc__law_depths
    exact (ss_cons (s_set 1 (dF (d_t1O (cr_dict rfl) c1_dict rfl T.n_dict boot_dict' (dB (dF (d_lc [("one", 5)] rfl sc.nd (i_seq (d_var 0)) (blkOk_by (N := ["courses", "needs", "found", "turn", "name", "one"]) (sc := defScope st__law_depths) (by decide +kernel)) (by decide) (fun _ _ _ _ _ => (g_name 5 sc.nd)) (fun _ _ _ _ _ => ts_nil) (fun _ _ _ _ _ => (d_tup (a_cons (d_sub (r1 hr) (d_var 5) d_int) (a_cons (d_sub (r1 hr) (d_var 5) d_int) a_nil))))))))) sc.nd)
    (ss_cons (s_setO 2 (d_t1O (cr_dict rfl) c1_dict rfl T.n_dict boot_dict' (dB (dF (d_lcD 1 [("name", 4)] rfl sc.nd (k_keys 1) (blkOk_by (N := ["courses", "needs", "found", "turn", "name", "one"]) (sc := defScope st__law_depths) (by decide +kernel)) (by decide) (fun _ _ _ _ _ => (g_name 4 sc.nd)) (fun _ _ _ _ _ => ts_nil) (fun _ _ _ _ _ => (d_tup (a_cons (d_var 4) (a_cons d_int a_nil)))))))) sc.nd)
    (ss_cons (s_for PassesOwn.never rfl (i_range1 rfl T.n_range (a_cons (d_b1 cr_len c1_len rfl T.n_len boot_len' (d_bor 0)) a_nil)) (g_name 3 sc.nd)
    (ss_one (s_forD 1 PassesOwn.never rfl (k_keys 1) (g_name 4 sc.nd)
    (ss_one (s_setD 2 (r1 hr) (d_b1 (cr_max rfl) c1_max rfl T.n_max boot_max' (dB (d_bin op_plusA rb_plusA (dF (d_lst (a_cons d_int a_nil))) (dB (dF (d_lc [("one", 5)] rfl sc.nd (i_seq (d_sub (r1 hr) (d_var 1) (d_var 4))) (blkOk_by (N := ["courses", "needs", "found", "turn", "name", "one"]) (sc := defScope st__law_depths) (by decide +kernel)) (by decide) (fun _ _ _ _ _ => (g_name 5 sc.nd)) (fun _ _ _ _ _ => ts_nil) (fun _ _ _ _ _ => (d_bin op_plusA rb_plusA d_int (dB (d_subV 2 (r1 hr) (d_var 5))))))))))) (d_var 4))))))
    (ss_one (s_retO (d_mov 2)))))))
abbrev st__law_years : Stmt := top 19
theorem sc__law_years : FnScope ["courses", "goals", "limit", "told"] ["courses", "goals", "limit"] (defScope st__law_years) := ⟨rfl, rfl, rfl, by decide +kernel, rfl, by decide +kernel, by decide +kernel⟩
theorem D__law_years {P : Program} {w : World} {K : PySem.W.Frag} {mg : Str → Option Value} {base : Heap} {cls : Str → Value} (T : TX mg) {f : Addr} {fd : FuncData} (F : Fun K "_law_years" "_law_years" st__law_years f fd) (hm : mg "_law_years" = some (.ref f)) (bd : Binds K fd ["courses", "goals", "limit"] []) (G_plan : Def P w K mg base CX0 3 "plan" cls false true 3 fs_plan) : Def P w K mg base CX0 4 "_law_years" cls false true 3 fs__law_years := by
  exact mkDef (k := 3) F hm bd sc__law_years rfl rfl (fun cdv A outer s H E W hr _ hcls => by
    subst hcls
    have sc := sc__law_years
    exact (ss_cons (s_set 3 (d_call (Def.mono G_plan (by decide)) (fun _ => rfl) hr rfl (a_cons (d_var 0) (a_cons (d_var 1) (a_cons (d_var 2) a_nil)))) sc.nd)
    (ss_one (s_ret (d_if (t_cmp op_is rt_is (d_var 3) (dB d_non) rfl) d_int (d_b1 cr_len c1_len rfl T.n_len boot_len' (d_bor 3)))))))
abbrev st__law_bounds_right : Stmt := top 20
theorem sc__law_bounds_right : FnScope ["courses", "goals", "limit", "chosen", "goal", "weights", "told", "depths", "deep", "names", "year", "one", "name"] ["courses", "goals", "limit"] (defScope st__law_bounds_right) := ⟨rfl, rfl, rfl, by decide +kernel, rfl, by decide +kernel, by decide +kernel⟩
theorem D__law_bounds_right {P : Program} {w : World} {K : PySem.W.Frag} {mg : Str → Option Value} {base : Heap} {cls : Str → Value} (T : TX mg) {f : Addr} {fd : FuncData} (F : Fun K "_law_bounds_right" "_law_bounds_right" st__law_bounds_right f fd) (hm : mg "_law_bounds_right" = some (.ref f)) (bd : Binds K fd ["courses", "goals", "limit"] []) (G_plan : Def P w K mg base CX0 3 "plan" cls false true 3 fs_plan) (G__law_depths : Def P w K mg base CX0 1 "_law_depths" cls false true 1 fs__law_depths) (G_ahead : Def P w K mg base CX0 2 "ahead" cls false true 2 fs_ahead) (G_is_plan : Def P w K mg base CX0 3 "is_plan" cls false true 4 fs_is_plan) : Def P w K mg base CX0 4 "_law_bounds_right" cls false true 3 fs__law_bounds_right := by
  exact mkDef (k := 3) F hm bd sc__law_bounds_right rfl rfl (fun cdv A outer s H E W hr _ hcls => by
    subst hcls
    have sc := sc__law_bounds_right
    exact (ss_cons (s_set 3 (dF (d_t1O (cr_list rfl) c1_list rfl T.n_list boot_list' (d_bor 1))) sc.nd)
    (ss_cons (s_for PassesOwn.never rfl (i_seq (d_var 1)) (g_name 4 sc.nd)
    (ss_one (s_set 3 (d_bin op_plusA rb_plusA (d_var 3) (dB (d_call (Def.mono G_ahead (by decide)) (fun _ => rfl) hr rfl (a_cons (d_var 0) (a_cons (d_var 4) a_nil))))) sc.nd)))
    (ss_cons (s_setLcF 5 [("one", 11)] rfl sc.nd (i_seq (d_var 0)) (blkOk_by (N := ["courses", "goals", "limit", "chosen", "goal", "weights", "told", "depths", "deep", "names", "year", "one", "name"]) (sc := defScope st__law_bounds_right) (by decide +kernel)) (by decide) (fun _ _ _ _ _ => (g_name 11 sc.nd)) (fun _ _ _ _ _ => (ts_one (t_cmp (op_in' (r65 hr)) rt_in (d_sub (r1 hr) (d_var 11) d_int) (d_bor 3) rfl))) (fun _ _ _ _ _ => (d_sub (r1 hr) (d_var 11) d_int)) (sw_true rfl rfl rfl (by decide +kernel)))
    (ss_cons (s_set 6 (d_call (Def.mono G_plan (by decide)) (fun _ => rfl) hr rfl (a_cons (d_var 0) (a_cons (d_var 1) (a_cons (d_var 2) a_nil)))) sc.nd)
    (ss_cons (s_if (t_cmp (op_neD (r64 hr)) rt_ne (d_cmp op_is rt_is (d_var 6) (dB d_non) rfl) (dB (d_and (d_cmp (op_neD (r64 hr)) rt_ne (d_var 5) (dB (dF (d_lst a_nil))) rfl) (d_one (d_cmp op_gt rt_gt (d_b1 (cr_max rfl) c1_max rfl T.n_max boot_max' (d_bor 5)) (d_bor 2) rfl)))) rfl)
    (ss_one (s_ret d_bl))
    ss_nil)
    (ss_cons (s_if (t_cmp op_is rt_is (d_var 6) (dB d_non) rfl)
    (ss_one (s_ret d_bl))
    ss_nil)
    (ss_cons (s_set 7 (d_call (Def.mono G__law_depths (by decide)) (fun _ => rfl) hr rfl (a_cons (d_var 0) a_nil)) sc.nd)
    (ss_cons (s_set 8 (d_b1 (cr_max rfl) c1_max rfl T.n_max boot_max' (dB (d_bin op_plusA rb_plusA (dF (d_lst (a_cons d_int a_nil))) (dB (dF (d_lc [("name", 12)] rfl sc.nd (i_seq (d_var 1)) (blkOk_by (N := ["courses", "goals", "limit", "chosen", "goal", "weights", "told", "depths", "deep", "names", "year", "one", "name"]) (sc := defScope st__law_bounds_right) (by decide +kernel)) (by decide) (fun _ _ _ _ _ => (g_name 12 sc.nd)) (fun _ _ _ _ _ => ts_nil) (fun _ _ _ _ _ => (d_sub (r1 hr) (d_var 7) (d_var 12))))))))) sc.nd)
    (ss_cons (s_if (PW.pt (w_or (t_not (t_chain op_le op_le rt_le rt_le (d_var 8) (d_b1 cr_len c1_len rfl T.n_len boot_len' (d_bor 6)) (d_b1 cr_len c1_len rfl T.n_len boot_len' (d_bor 5)))) (w_or1 (t_cmp (op_lt' (r64 hr)) rt_lt (d_bin op_mul rb_mul (d_b1 cr_len c1_len rfl T.n_len boot_len' (d_bor 6)) (d_bor 2)) (dB (d_b1 (cr_sum rfl) c1_sum rfl T.n_sum boot_sum' (d_bor 5))) rfl))))
    (ss_one (s_ret d_bl))
    ss_nil)
    (ss_cons (s_set 9 (dF (d_lst a_nil)) sc.nd)
    (ss_cons (s_for PassesOwn.never rfl (i_seq (d_var 6)) (g_name 10 sc.nd)
    (ss_one (s_set 9 (d_bin op_plusA rb_plusA (d_var 9) (d_bor 10)) sc.nd)))
    (ss_one (s_ret (d_and (d_cmp op_is rt_is (d_call (Def.mono G_is_plan (by decide)) (fun _ => rfl) hr rfl (a_cons (d_var 0) (a_cons (d_var 1) (a_cons (d_var 2) (a_cons (d_var 6) a_nil))))) (dB d_bl) rfl) (d_one (d_cmp (op_eqD (r64 hr)) rt_eq (dF (d_b1O (cr_sorted rfl (r69 hr)) c1_sorted rfl T.n_sorted boot_sorted' (d_bor 9))) (dB (dF (d_sortedSet rfl (r69 hr) rfl T.n_sorted boot_sorted' rfl T.n_set boot_set' (d_bor 3)))) rfl)))))))))))))))))
abbrev st_law : Stmt := top 21
theorem sc_law : FnScope ["script", "k", "bag", "courses", "names", "goals", "limit", "many", "at", "light", "free", "name", "weight_so", "needs", "one"] ["script"] (defScope st_law) := ⟨rfl, rfl, rfl, by decide +kernel, rfl, by decide +kernel, by decide +kernel⟩
theorem D_law {P : Program} {w : World} {K : PySem.W.Frag} {mg : Str → Option Value} {base : Heap} {cls : Str → Value} (T : TX mg) {f : Addr} {fd : FuncData} (F : Fun K "law" "law" st_law f fd) (G__law_bag : Def P w K mg base CX0 1 "_law_bag" cls false true 2 fs__law_bag) (G__law_courses : Def P w K mg base CX0 3 "_law_courses" cls true true 2 fs__law_courses) (G__law_years : Def P w K mg base CX0 4 "_law_years" cls false true 3 fs__law_years) (G__law_take : Def P w K mg base CX0 1 "_law_take" cls true true 2 fs__law_take) (G__law_bounds_right : Def P w K mg base CX0 4 "_law_bounds_right" cls false true 3 fs__law_bounds_right) : FnOk P w K mg base CX0 5 f fd ["script"] (spF K cls false true 1 fs_law) := by
  exact mkFn (k := 4) F sc_law rfl rfl (fun cdv A outer s H E W hr _ hcls => by
    subst hcls
    have sc := sc_law
    exact (ss_cons (s_for PassesOwn.never rfl (i_range1 rfl T.n_range (a_cons (d_bin op_plusA rb_plusA (d_bN (call_min2 rfl) cn_min2 rfl T.n_min boot_min' (a_cons (d_b1 cr_len c1_len rfl T.n_len boot_len' (d_bor 0)) (a_cons d_int a_nil))) (dB d_int)) a_nil)) (g_name 1 sc.nd)
    (ss_cons (s_setO 2 (d_callO (Def.mono G__law_bag (by decide)) (fun _ => rfl) hr rfl (a_cons (d_var 0) (a_cons (d_var 1) a_nil))) sc.nd)
    (ss_cons (s_set 3 (d_callI 2 (Def.mono G__law_courses (by decide)) (fun _ => rfl) hr rfl (a_cons d_int a_nil)) sc.nd)
    (ss_cons (s_setLcF 4 [("one", 14)] rfl sc.nd (i_seq (d_var 3)) (blkOk_by (N := ["script", "k", "bag", "courses", "names", "goals", "limit", "many", "at", "light", "free", "name", "weight_so", "needs", "one"]) (sc := defScope st_law) (by decide +kernel)) (by decide) (fun _ _ _ _ _ => (g_name 14 sc.nd)) (fun _ _ _ _ _ => ts_nil) (fun _ _ _ _ _ => (d_sub (r1 hr) (d_var 14) d_int)) (sw_true rfl rfl rfl (by decide +kernel)))
    (ss_cons (s_setLcF 5 [("name", 11)] rfl sc.nd (i_seq (d_var 4)) (blkOk_by (N := ["script", "k", "bag", "courses", "names", "goals", "limit", "many", "at", "light", "free", "name", "weight_so", "needs", "one"]) (sc := defScope st_law) (by decide +kernel)) (by decide) (fun _ _ _ _ _ => (g_name 11 sc.nd)) (fun _ _ _ _ _ => (ts_one (t_cmp (op_eqD (r64 hr)) rt_eq (d_callI 2 (Def.mono G__law_take (by decide)) (fun _ => rfl) hr rfl (a_cons d_int a_nil)) (dB d_int) rfl))) (fun _ _ _ _ _ => (d_var 11)) (sw_true rfl rfl rfl (by decide +kernel)))
    (ss_cons (s_set 6 (d_bin op_plusA rb_plusA d_int (dB (d_callI 2 (Def.mono G__law_take (by decide)) (fun _ => rfl) hr rfl (a_cons d_int a_nil)))) sc.nd)
    (ss_cons (s_if (PW.pt (w_or (t_not (t_tru (dB (d_call (Def.mono G__law_bounds_right (by decide)) (fun _ => rfl) hr rfl (a_cons (d_var 3) (a_cons (d_var 5) (a_cons (d_var 6) a_nil))))))) (w_or1 (t_not (t_tru (dB (d_call (Def.mono G__law_bounds_right (by decide)) (fun _ => rfl) hr rfl (a_cons (d_var 3) (a_cons (d_var 4) (a_cons d_int a_nil))))))))))
    (ss_one (s_ret d_bl))
    ss_nil)
    (ss_cons (s_set 7 (d_call (Def.mono G__law_years (by decide)) (fun _ => rfl) hr rfl (a_cons (d_var 3) (a_cons (d_var 5) (a_cons (d_var 6) a_nil)))) sc.nd)
    (ss_cons (s_if (PW.pt (w_or (t_cmp (op_lt' (r64 hr)) rt_lt (d_call (Def.mono G__law_years (by decide)) (fun _ => rfl) hr rfl (a_cons (d_var 3) (a_cons (d_var 4) (a_cons (d_var 6) a_nil)))) (d_bor 7) rfl) (w_or1 (t_cmp op_gt rt_gt (d_call (Def.mono G__law_years (by decide)) (fun _ => rfl) hr rfl (a_cons (d_var 3) (a_cons (d_var 5) (a_cons (d_bin op_plusA rb_plusA (d_var 6) (dB d_int)) a_nil)))) (d_bor 7) rfl))))
    (ss_one (s_ret d_bl))
    ss_nil)
    (ss_one (s_if (t_cmp (op_neD (r64 hr)) rt_ne (d_var 4) (dB (dF (d_lst a_nil))) rfl)
    (ss_cons (s_set 8 (d_callI 2 (Def.mono G__law_take (by decide)) (fun _ => rfl) hr rfl (a_cons (d_b1 cr_len c1_len rfl T.n_len boot_len' (d_bor 4)) a_nil)) sc.nd)
    (ss_cons (s_asg (d_sub (r1 hr) (d_var 3) (d_var 8)) (g_tup rfl (gs_cons (g_name 11 sc.nd) (gs_cons (g_name 12 sc.nd) (gs_cons (g_name 13 sc.nd) gs_nil)))))
    (ss_cons (s_set 9 (d_bin op_plusA rb_plusA (d_bin op_plusA rb_plusA (d_slc (d_var 3) p_none (p_some (d_var 8))) (dB (d_tup (a_cons (d_tup (a_cons (d_var 11) (a_cons d_int (a_cons (d_var 13) a_nil)))) a_nil)))) (dB (d_slc (d_var 3) (p_some (d_bin op_plusA rb_plusA (d_var 8) (dB d_int))) p_none))) sc.nd)
    (ss_cons (s_set 10 (d_bin op_plusA rb_plusA (d_bin op_plusA rb_plusA (d_slc (d_var 3) p_none (p_some (d_var 8))) (dB (d_tup (a_cons (d_tup (a_cons (d_var 11) (a_cons (d_var 12) (a_cons (d_slc (d_var 13) (p_some d_int) p_none) a_nil)))) a_nil)))) (dB (d_slc (d_var 3) (p_some (d_bin op_plusA rb_plusA (d_var 8) (dB d_int))) p_none))) sc.nd)
    (ss_one (s_if (PW.pt (w_or (t_cmp op_gt rt_gt (d_call (Def.mono G__law_years (by decide)) (fun _ => rfl) hr rfl (a_cons (d_var 9) (a_cons (d_var 5) (a_cons (d_var 6) a_nil)))) (d_bor 7) rfl) (w_or1 (t_cmp op_gt rt_gt (d_call (Def.mono G__law_years (by decide)) (fun _ => rfl) hr rfl (a_cons (d_var 10) (a_cons (d_var 5) (a_cons (d_var 6) a_nil)))) (d_bor 7) rfl))))
    (ss_one (s_ret d_bl))
    ss_nil))))))
    ss_nil)))))))))))
    (ss_one (s_ret d_bl))))
theorem all_mk {l : PySem.W.OpenLaw} {w : World} {K : PySem.W.Frag} {h : Heap} {mg : Str → Option Value} {fa : Addr} (X : K.In h) (G : h.Ns mainGlobals mg) (hfa : mg "law" = some (.ref fa))
    {f0 f1 f2 f3 f4 f5 f6 f7 f8 f9 f10 f11 f12 f13 f14 f15 f16 : Addr} {od0 an0 od1 an1 od2 an2 od3 an3 od4 an4 od5 an5 od6 an6 od7 an7 od8 an8 od9 an9 od10 an10 od11 an11 od12 an12 od13 an13 od14 an14 od15 an15 od16 an16 : Option Addr} {sl0 sl1 sl2 sl3 sl4 sl5 sl6 sl7 sl8 sl9 sl10 sl11 sl12 sl13 sl14 sl15 sl16 : Array (Option Value)} {oc0 kV0 dc0 pm0 cd0 ct0 oc1 kV1 dc1 pm1 cd1 ct1 oc2 kV2 dc2 pm2 cd2 ct2 oc3 kV3 dc3 pm3 cd3 ct3 oc4 kV4 dc4 pm4 cd4 ct4 oc5 kV5 dc5 pm5 cd5 ct5 oc6 kV6 dc6 pm6 cd6 ct6 oc7 kV7 dc7 pm7 cd7 ct7 oc8 kV8 dc8 pm8 cd8 ct8 oc9 kV9 dc9 pm9 cd9 ct9 oc10 kV10 dc10 pm10 cd10 ct10 oc11 kV11 dc11 pm11 cd11 ct11 oc12 kV12 dc12 pm12 cd12 ct12 oc13 kV13 dc13 pm13 cd13 ct13 oc14 kV14 dc14 pm14 cd14 ct14 oc15 kV15 dc15 pm15 cd15 ct15 oc16 kV16 dc16 pm16 cd16 ct16 : Value}
    (a0 : PySem.W.nsIn K mainGlobals "rises" = some (some (.ref f0))) (l0 : K.lookup f0 = some ⟨oc0, od0, .func (PySem.W.fnOf "rises" "rises" (defArgs st_rises) (defBody st_rises) (defScope st_rises) .none kV0 dc0 pm0 an0 cd0 ct0), sl0⟩) (c0 : PySem.W.codeIn K cd0 "rises" = true) (k0 : PySem.W.keepIn K (.ref f0) = true)
    (a1 : PySem.W.nsIn K mainGlobals "needs_of" = some (some (.ref f1))) (l1 : K.lookup f1 = some ⟨oc1, od1, .func (PySem.W.fnOf "needs_of" "needs_of" (defArgs st_needs_of) (defBody st_needs_of) (defScope st_needs_of) .none kV1 dc1 pm1 an1 cd1 ct1), sl1⟩) (c1 : PySem.W.codeIn K cd1 "needs_of" = true) (k1 : PySem.W.keepIn K (.ref f1) = true)
    (a2 : PySem.W.nsIn K mainGlobals "weights_of" = some (some (.ref f2))) (l2 : K.lookup f2 = some ⟨oc2, od2, .func (PySem.W.fnOf "weights_of" "weights_of" (defArgs st_weights_of) (defBody st_weights_of) (defScope st_weights_of) .none kV2 dc2 pm2 an2 cd2 ct2), sl2⟩) (c2 : PySem.W.codeIn K cd2 "weights_of" = true) (k2 : PySem.W.keepIn K (.ref f2) = true)
    (a3 : PySem.W.nsIn K mainGlobals "all_ahead" = some (some (.ref f3))) (l3 : K.lookup f3 = some ⟨oc3, od3, .func (PySem.W.fnOf "all_ahead" "all_ahead" (defArgs st_all_ahead) (defBody st_all_ahead) (defScope st_all_ahead) .none kV3 dc3 pm3 an3 cd3 ct3), sl3⟩) (c3 : PySem.W.codeIn K cd3 "all_ahead" = true) (k3 : PySem.W.keepIn K (.ref f3) = true)
    (a4 : PySem.W.nsIn K mainGlobals "ahead" = some (some (.ref f4))) (l4 : K.lookup f4 = some ⟨oc4, od4, .func (PySem.W.fnOf "ahead" "ahead" (defArgs st_ahead) (defBody st_ahead) (defScope st_ahead) .none kV4 dc4 pm4 an4 cd4 ct4), sl4⟩) (c4 : PySem.W.codeIn K cd4 "ahead" = true) (k4 : PySem.W.keepIn K (.ref f4) = true)
    (a5 : PySem.W.nsIn K mainGlobals "wanted" = some (some (.ref f5))) (l5 : K.lookup f5 = some ⟨oc5, od5, .func (PySem.W.fnOf "wanted" "wanted" (defArgs st_wanted) (defBody st_wanted) (defScope st_wanted) .none kV5 dc5 pm5 an5 cd5 ct5), sl5⟩) (c5 : PySem.W.codeIn K cd5 "wanted" = true) (k5 : PySem.W.keepIn K (.ref f5) = true)
    (a6 : PySem.W.nsIn K mainGlobals "lots" = some (some (.ref f6))) (l6 : K.lookup f6 = some ⟨oc6, od6, .func (PySem.W.fnOf "lots" "lots" (defArgs st_lots) (defBody st_lots) (defScope st_lots) .none kV6 dc6 pm6 an6 cd6 ct6), sl6⟩) (c6 : PySem.W.codeIn K cd6 "lots" = true) (k6 : PySem.W.keepIn K (.ref f6) = true)
    (a7 : PySem.W.nsIn K mainGlobals "plan" = some (some (.ref f7))) (l7 : K.lookup f7 = some ⟨oc7, od7, .func (PySem.W.fnOf "plan" "plan" (defArgs st_plan) (defBody st_plan) (defScope st_plan) .none kV7 dc7 pm7 an7 cd7 ct7), sl7⟩) (c7 : PySem.W.codeIn K cd7 "plan" = true) (k7 : PySem.W.keepIn K (.ref f7) = true)
    (a8 : PySem.W.nsIn K mainGlobals "is_plan" = some (some (.ref f8))) (l8 : K.lookup f8 = some ⟨oc8, od8, .func (PySem.W.fnOf "is_plan" "is_plan" (defArgs st_is_plan) (defBody st_is_plan) (defScope st_is_plan) .none kV8 dc8 pm8 an8 cd8 ct8), sl8⟩) (c8 : PySem.W.codeIn K cd8 "is_plan" = true) (k8 : PySem.W.keepIn K (.ref f8) = true)
    (a9 : PySem.W.nsIn K mainGlobals "_law_bag" = some (some (.ref f9))) (l9 : K.lookup f9 = some ⟨oc9, od9, .func (PySem.W.fnOf "_law_bag" "_law_bag" (defArgs st__law_bag) (defBody st__law_bag) (defScope st__law_bag) .none kV9 dc9 pm9 an9 cd9 ct9), sl9⟩) (c9 : PySem.W.codeIn K cd9 "_law_bag" = true) (k9 : PySem.W.keepIn K (.ref f9) = true)
    (a10 : PySem.W.nsIn K mainGlobals "_law_take" = some (some (.ref f10))) (l10 : K.lookup f10 = some ⟨oc10, od10, .func (PySem.W.fnOf "_law_take" "_law_take" (defArgs st__law_take) (defBody st__law_take) (defScope st__law_take) .none kV10 dc10 pm10 an10 cd10 ct10), sl10⟩) (c10 : PySem.W.codeIn K cd10 "_law_take" = true) (k10 : PySem.W.keepIn K (.ref f10) = true)
    (a11 : PySem.W.nsIn K mainGlobals "_law_of" = some (some (.ref f11))) (l11 : K.lookup f11 = some ⟨oc11, od11, .func (PySem.W.fnOf "_law_of" "_law_of" (defArgs st__law_of) (defBody st__law_of) (defScope st__law_of) .none kV11 dc11 pm11 an11 cd11 ct11), sl11⟩) (c11 : PySem.W.codeIn K cd11 "_law_of" = true) (k11 : PySem.W.keepIn K (.ref f11) = true)
    (a12 : PySem.W.nsIn K mainGlobals "_law_courses" = some (some (.ref f12))) (l12 : K.lookup f12 = some ⟨oc12, od12, .func (PySem.W.fnOf "_law_courses" "_law_courses" (defArgs st__law_courses) (defBody st__law_courses) (defScope st__law_courses) .none kV12 dc12 pm12 an12 cd12 ct12), sl12⟩) (c12 : PySem.W.codeIn K cd12 "_law_courses" = true) (k12 : PySem.W.keepIn K (.ref f12) = true)
    (a13 : PySem.W.nsIn K mainGlobals "_law_depths" = some (some (.ref f13))) (l13 : K.lookup f13 = some ⟨oc13, od13, .func (PySem.W.fnOf "_law_depths" "_law_depths" (defArgs st__law_depths) (defBody st__law_depths) (defScope st__law_depths) .none kV13 dc13 pm13 an13 cd13 ct13), sl13⟩) (c13 : PySem.W.codeIn K cd13 "_law_depths" = true) (k13 : PySem.W.keepIn K (.ref f13) = true)
    (a14 : PySem.W.nsIn K mainGlobals "_law_years" = some (some (.ref f14))) (l14 : K.lookup f14 = some ⟨oc14, od14, .func (PySem.W.fnOf "_law_years" "_law_years" (defArgs st__law_years) (defBody st__law_years) (defScope st__law_years) .none kV14 dc14 pm14 an14 cd14 ct14), sl14⟩) (c14 : PySem.W.codeIn K cd14 "_law_years" = true) (k14 : PySem.W.keepIn K (.ref f14) = true)
    (a15 : PySem.W.nsIn K mainGlobals "_law_bounds_right" = some (some (.ref f15))) (l15 : K.lookup f15 = some ⟨oc15, od15, .func (PySem.W.fnOf "_law_bounds_right" "_law_bounds_right" (defArgs st__law_bounds_right) (defBody st__law_bounds_right) (defScope st__law_bounds_right) .none kV15 dc15 pm15 an15 cd15 ct15), sl15⟩) (c15 : PySem.W.codeIn K cd15 "_law_bounds_right" = true) (k15 : PySem.W.keepIn K (.ref f15) = true)
    (a16 : PySem.W.nsIn K mainGlobals "law" = some (some (.ref f16))) (l16 : K.lookup f16 = some ⟨oc16, od16, .func (PySem.W.fnOf "law" "law" (defArgs st_law) (defBody st_law) (defScope st_law) .none kV16 dc16 pm16 an16 cd16 ct16), sl16⟩) (c16 : PySem.W.codeIn K cd16 "law" = true) (k16 : PySem.W.keepIn K (.ref f16) = true)
    (z_all : PySem.W.nsIn K mainGlobals "all" = some none)
    (z_any : PySem.W.nsIn K mainGlobals "any" = some none)
    (z_dict : PySem.W.nsIn K mainGlobals "dict" = some none)
    (z_isinstance : PySem.W.nsIn K mainGlobals "isinstance" = some none)
    (z_len : PySem.W.nsIn K mainGlobals "len" = some none)
    (z_list : PySem.W.nsIn K mainGlobals "list" = some none)
    (z_max : PySem.W.nsIn K mainGlobals "max" = some none)
    (z_min : PySem.W.nsIn K mainGlobals "min" = some none)
    (z_range : PySem.W.nsIn K mainGlobals "range" = some none)
    (z_set : PySem.W.nsIn K mainGlobals "set" = some none)
    (z_sorted : PySem.W.nsIn K mainGlobals "sorted" = some none)
    (z_str : PySem.W.nsIn K mainGlobals "str" = some none)
    (z_sum : PySem.W.nsIn K mainGlobals "sum" = some none)
    (z_tuple : PySem.W.nsIn K mainGlobals "tuple" = some none)
    (z_zip : PySem.W.nsIn K mainGlobals "zip" = some none)
    : ∃ fd : FuncData, (∀ (s : Shared) (v : Value), BindsTo s fd ⟨[v], []⟩ [("script", v)]) ∧ ∀ base : Heap, K.In base → base.Ns mainGlobals mg → FnOk l.prog w K mg base CX0 5 fa fd ["script"] (spF K noCls false true 1 fs_law) := by
  have e := hfa.symm.trans (PySem.W.mg_of X G a16)
  cases e
  have T : TX mg := ⟨PySem.W.mg_none_of X G z_all, PySem.W.mg_none_of X G z_any, PySem.W.mg_none_of X G z_dict, PySem.W.mg_none_of X G z_isinstance, PySem.W.mg_none_of X G z_len, PySem.W.mg_none_of X G z_list, PySem.W.mg_none_of X G z_max, PySem.W.mg_none_of X G z_min, PySem.W.mg_none_of X G z_range, PySem.W.mg_none_of X G z_set, PySem.W.mg_none_of X G z_sorted, PySem.W.mg_none_of X G z_str, PySem.W.mg_none_of X G z_sum, PySem.W.mg_none_of X G z_tuple, PySem.W.mg_none_of X G z_zip⟩
  refine ⟨PySem.W.fnOf "law" "law" (defArgs st_law) (defBody st_law) (defScope st_law) .none kV16 dc16 pm16 an16 cd16 ct16, fun s v => .of_eq rfl, fun base _ _ => ?_⟩
  have F9 := fun_mk (st := st__law_bag) l9 c9 k9
  have b9 := F9.binds (ps := ["script", "k"]) fun _ _ _ _ _ _ us hl => match us, hl with | [_, _], _ => rfl
  have G__law_bag := D__law_bag (P := l.prog) (w := w) (base := base) (cls := noCls) T F9 (PySem.W.mg_of X G a9) b9 
  have F10 := fun_mk (st := st__law_take) l10 c10 k10
  have b10 := F10.binds (ps := ["bag", "count"]) fun _ _ _ _ _ _ us hl => match us, hl with | [_, _], _ => rfl
  have G__law_take := D__law_take (P := l.prog) (w := w) (base := base) (cls := noCls) T F10 (PySem.W.mg_of X G a10) b10 
  have F11 := fun_mk (st := st__law_of) l11 c11 k11
  have b11 := F11.binds (ps := ["bag", "some"]) fun _ _ _ _ _ _ us hl => match us, hl with | [_, _], _ => rfl
  have G__law_of := D__law_of (P := l.prog) (w := w) (base := base) (cls := noCls) T F11 (PySem.W.mg_of X G a11) b11 G__law_take
  have F12 := fun_mk (st := st__law_courses) l12 c12 k12
  have b12 := F12.binds (ps := ["bag", "most"]) fun _ _ _ _ _ _ us hl => match us, hl with | [_, _], _ => rfl
  have G__law_courses := D__law_courses (P := l.prog) (w := w) (base := base) (cls := noCls) T F12 (PySem.W.mg_of X G a12) b12 G__law_take G__law_of
  have F1 := fun_mk (st := st_needs_of) l1 c1 k1
  have b1 := F1.binds (ps := ["courses"]) fun _ _ _ _ _ _ us hl => match us, hl with | [_], _ => rfl
  have G_needs_of := D_needs_of (P := l.prog) (w := w) (base := base) (cls := noCls) T F1 (PySem.W.mg_of X G a1) b1 
  have F3 := fun_mk (st := st_all_ahead) l3 c3 k3
  have b3 := F3.binds (ps := ["needs", "name"]) fun _ _ _ _ _ _ us hl => match us, hl with | [_, _], _ => rfl
  have G_all_ahead := D_all_ahead (P := l.prog) (w := w) (base := base) (cls := noCls) T F3 (PySem.W.mg_of X G a3) b3 
  have F5 := fun_mk (st := st_wanted) l5 c5 k5
  have b5 := F5.binds (ps := ["courses", "goals"]) fun _ _ _ _ _ _ us hl => match us, hl with | [_, _], _ => rfl
  have G_wanted := D_wanted (P := l.prog) (w := w) (base := base) (cls := noCls) T F5 (PySem.W.mg_of X G a5) b5 G_needs_of G_all_ahead
  have F2 := fun_mk (st := st_weights_of) l2 c2 k2
  have b2 := F2.binds (ps := ["courses"]) fun _ _ _ _ _ _ us hl => match us, hl with | [_], _ => rfl
  have G_weights_of := D_weights_of (P := l.prog) (w := w) (base := base) (cls := noCls) T F2 (PySem.W.mg_of X G a2) b2 
  have F6 := fun_mk (st := st_lots) l6 c6 k6
  have b6 := F6.binds (ps := ["some", "weights", "limit"]) fun _ _ _ _ _ _ us hl => match us, hl with | [_, _, _], _ => rfl
  have G_lots := D_lots (P := l.prog) (w := w) (base := base) (cls := noCls) T F6 (PySem.W.mg_of X G a6) b6 
  have F7 := fun_mk (st := st_plan) l7 c7 k7
  have b7 := F7.binds (ps := ["courses", "goals", "limit"]) fun _ _ _ _ _ _ us hl => match us, hl with | [_, _, _], _ => rfl
  have G_plan := D_plan (P := l.prog) (w := w) (base := base) (cls := noCls) T F7 (PySem.W.mg_of X G a7) b7 G_wanted G_needs_of G_weights_of G_lots
  have F14 := fun_mk (st := st__law_years) l14 c14 k14
  have b14 := F14.binds (ps := ["courses", "goals", "limit"]) fun _ _ _ _ _ _ us hl => match us, hl with | [_, _, _], _ => rfl
  have G__law_years := D__law_years (P := l.prog) (w := w) (base := base) (cls := noCls) T F14 (PySem.W.mg_of X G a14) b14 G_plan
  have F13 := fun_mk (st := st__law_depths) l13 c13 k13
  have b13 := F13.binds (ps := ["courses"]) fun _ _ _ _ _ _ us hl => match us, hl with | [_], _ => rfl
  have G__law_depths := D__law_depths (P := l.prog) (w := w) (base := base) (cls := noCls) T F13 (PySem.W.mg_of X G a13) b13 
  have F4 := fun_mk (st := st_ahead) l4 c4 k4
  have b4 := F4.binds (ps := ["courses", "name"]) fun _ _ _ _ _ _ us hl => match us, hl with | [_, _], _ => rfl
  have G_ahead := D_ahead (P := l.prog) (w := w) (base := base) (cls := noCls) T F4 (PySem.W.mg_of X G a4) b4 G_all_ahead G_needs_of
  have F0 := fun_mk (st := st_rises) l0 c0 k0
  have b0 := F0.binds (ps := ["some"]) fun _ _ _ _ _ _ us hl => match us, hl with | [_], _ => rfl
  have G_rises := D_rises (P := l.prog) (w := w) (base := base) (cls := noCls) T F0 (PySem.W.mg_of X G a0) b0 
  have F8 := fun_mk (st := st_is_plan) l8 c8 k8
  have b8 := F8.binds (ps := ["courses", "goals", "limit", "thing"]) fun _ _ _ _ _ _ us hl => match us, hl with | [_, _, _, _], _ => rfl
  have G_is_plan := D_is_plan (P := l.prog) (w := w) (base := base) (cls := noCls) T F8 (PySem.W.mg_of X G a8) b8 G_needs_of G_weights_of G_wanted G_rises
  have F15 := fun_mk (st := st__law_bounds_right) l15 c15 k15
  have b15 := F15.binds (ps := ["courses", "goals", "limit"]) fun _ _ _ _ _ _ us hl => match us, hl with | [_, _, _], _ => rfl
  have G__law_bounds_right := D__law_bounds_right (P := l.prog) (w := w) (base := base) (cls := noCls) T F15 (PySem.W.mg_of X G a15) b15 G_plan G__law_depths G_ahead G_is_plan
  have F16 := fun_mk (st := st_law) l16 c16 k16
  exact D_law (P := l.prog) (w := w) (base := base) (cls := noCls) T F16 G__law_bag G__law_courses G__law_years G__law_take G__law_bounds_right
end Y

set_option Elab.async false
set_option linter.all false
set_option maxRecDepth 100000
set_option maxHeartbeats 4000000
namespace Y
open PySem PySem.Spec PyProof.Rows L2
theorem sz0 : (0 ≤ sizeLine) = True := eq_true (by decide)
theorem sz1 : (1 ≤ sizeLine) = True := eq_true (by decide)
theorem sz2 : (2 ≤ sizeLine) = True := eq_true (by decide)
theorem sz3 : (3 ≤ sizeLine) = True := eq_true (by decide)
theorem sz4 : (4 ≤ sizeLine) = True := eq_true (by decide)
theorem sz5 : (5 ≤ sizeLine) = True := eq_true (by decide)
/-! ### the bag of draws -/
def BagOk (b : D) : Prop := ∃ c s : Int, b = .nd .lst [.int c, .int s] ∧ 0 ≤ c ∧ 0 ≤ s ∧ s < 2147483647
theorem take_ok {b : D} (h : BagOk b) {n : Int} (h1 : 0 < n) (h2 : n < 1073741824) : ∃ r b', fs__law_take [b, .int n] = .val false (.int r) (some b') ∧ BagOk b' ∧ 0 ≤ r ∧ r < n := by
  obtain ⟨c, s, rfl, hc, hs, hs2⟩ := h
  by_cases c0 : 0 < c
  · refine ⟨c % n, .nd .lst [.int (c / n), .int s], ?_, ⟨_, _, rfl, ?_, hs, hs2⟩, Int.emod_nonneg _ (by omega), Int.emod_lt_of_pos _ h1⟩
    · simp [fs__law_take, m__law_take, runF, argS, finF, outs, sSeq, sq, bnd, lift, sVar, sBor, sFrz, sMov, sC, sBin, sCmp, sChain, sTru, tru, sAndT, sOrT, sNotT, sAndV, sOrV, sNotV, sIf, sNil, sCons, sMk, s1, sN, sNx, sDrop, sRet, sRetO, sIfS, sSet, sSetO, sAsg, sPut, ownD, chg, ownL, isLst, sMeth, sIxV, bor, sCall, sCallO, sCallI, sCallIO, gSetL, ixN, dIx, atI, dGt, cmpI, dMod, dDiv, dMul, dPlus, dAdd, dSub, dNeg, dLt, dLen', dLen, sSlc, sSlcV, sPt, sNoPt, sIt, itD, sRg, rg1, hName, hTup, hCons, hNil, sFor, List.replicate, sPar2, pO, pF, pNil, noB, sIsiV, isTy, tyN, isA, sCmpV, sz0, sz1, sz2, sz3, sz4, sz5, c0, h1, h2]
    · exact Int.ediv_nonneg hc (by omega)
  · have q0 := Int.emod_nonneg (s * 48271) (b := 2147483647) (by decide)
    have q1 := Int.emod_lt_of_pos (s * 48271) (b := 2147483647) (by decide)
    have p0 := Int.emod_nonneg (s * 48271 % 2147483647) (b := 32749) (by decide)
    have p1 := Int.emod_lt_of_pos (s * 48271 % 2147483647) (b := 32749) (by decide)
    refine ⟨(s * 48271 % 2147483647) / 13 * (s * 48271 % 2147483647 % 32749 + 17) % 2147483629 / 32 % n, .nd .lst [.int c, .int (s * 48271 % 2147483647)], ?_, ⟨_, _, rfl, hc, q0, q1⟩, Int.emod_nonneg _ (by omega), Int.emod_lt_of_pos _ h1⟩
    have e2 : (-18446744073709551616 < s * 48271 % 2147483647 / 13 ∧ s * 48271 % 2147483647 / 13 < 18446744073709551616) := by constructor <;> omega
    simp [fs__law_take, m__law_take, runF, argS, finF, outs, sSeq, sq, bnd, lift, sVar, sBor, sFrz, sMov, sC, sBin, sCmp, sChain, sTru, tru, sAndT, sOrT, sNotT, sAndV, sOrV, sNotV, sIf, sNil, sCons, sMk, s1, sN, sNx, sDrop, sRet, sRetO, sIfS, sSet, sSetO, sAsg, sPut, ownD, chg, ownL, isLst, sMeth, sIxV, bor, sCall, sCallO, sCallI, sCallIO, gSetL, ixN, dIx, atI, dGt, cmpI, dMod, dDiv, dMul, dPlus, dAdd, dSub, dNeg, dLt, dLen', dLen, sSlc, sSlcV, sPt, sNoPt, sIt, itD, sRg, rg1, hName, hTup, hCons, hNil, sFor, List.replicate, sPar2, pO, pF, pNil, noB, sIsiV, isTy, tyN, isA, sCmpV, sz0, sz1, sz2, sz3, sz4, sz5, c0, h1, h2, e2]
def big : Int := 10 ^ 60
theorem pow60 : dPow (.int 10) (.int 60) = some (.int big) := by
  unfold dPow big
  exact if_pos (by decide)
theorem pow18 : dPow (.int 10) (.int 18) = some (.int 1000000000000000000) := by
  unfold dPow
  exact if_pos (by decide)
theorem big_pos : 0 < big := by
  unfold big
  exact Int.pow_pos (by decide)
theorem seq_ok {a b : En → R Fl} {ρ ρ1 : En} (h : a ρ = .ok .nx ρ1) : sSeq a b ρ = b ρ1 := by
  unfold sSeq
  rw [h]
  rfl
def seedOf (c k : Int) : Int := 1 + (c % 2147483629 * 16807 + 40009 * k * k + 7919 * k + 1009) % 2147483645
theorem seed_ok (c k : Int) : 0 ≤ seedOf c k ∧ seedOf c k < 2147483647 := by
  unfold seedOf
  constructor <;> omega
theorem bag_s3 (x : Option S) (y : D) (k c : Int) (e1 : -18446744073709551616 < k ∧ k < 18446744073709551616) : (sSet 3 (sBin dPlus (sC (.int 1)) (sBin dMod (sBin dPlus (sBin dPlus (sBin dPlus (sBin dMul (sBin dMod (sVar 2) (sC (.int 2147483629))) (sC (.int 16807))) (sBin dMul (sBin dMul (sC (.int 40009)) (sBor 1)) (sBor 1))) (sBin dMul (sC (.int 7919)) (sBor 1))) (sC (.int 1009))) (sC (.int 2147483645))))) [x, some (.f (.int k)), some (.f (.int c)), none] = .ok .nx [x, some (.f (.int k)), some (.f (.int c)), some (.f (.int (seedOf c k)))] := by
  simp [seedOf, runF, argS, finF, outs, sSeq, sq, bnd, lift, sVar, sBor, sFrz, sMov, sC, sBin, sCmp, sChain, sTru, tru, sAndT, sOrT, sNotT, sAndV, sOrV, sNotV, sIf, sNil, sCons, sMk, s1, sN, sNx, sDrop, sRet, sRetO, sIfS, sSet, sSetO, sAsg, sPut, ownD, chg, ownL, isLst, sMeth, sIxV, bor, sCall, sCallO, sCallI, sCallIO, gSetL, ixN, dIx, atI, dGt, cmpI, dMod, dDiv, dMul, dPlus, dAdd, dSub, dNeg, dLt, dLen', dLen, sSlc, sSlcV, sPt, sNoPt, sIt, itD, sRg, rg1, hName, hTup, hCons, hNil, sFor, List.replicate, sPar2, pO, pF, pNil, noB, sIsiV, isTy, tyN, isA, sCmpV, sz0, sz1, sz2, sz3, sz4, sz5, e1]
theorem bag_s4 (x y : Option S) (c s : Int) : (sSeq (sIfS (sBin dLt (sVar 2) (sBin dPow (sC (.int 10)) (sC (.int 18))))
  (sRetO (sMk .lst (sCons (sC (.int 0)) (sCons (sVar 3) sNil))))
  sNx)
  (sRetO (sMk .lst (sCons (sVar 2) (sCons (sVar 3) sNil))))) [x, y, some (.f (.int c)), some (.f (.int s))] = .ok (.ro (.nd .lst [.int (if c < 1000000000000000000 then 0 else c), .int s])) [x, y, some (.f (.int c)), some (.f (.int s))] := by
  by_cases h : c < 1000000000000000000
  · simp [runF, argS, finF, outs, sSeq, sq, bnd, lift, sVar, sBor, sFrz, sMov, sC, sBin, sCmp, sChain, sTru, tru, sAndT, sOrT, sNotT, sAndV, sOrV, sNotV, sIf, sNil, sCons, sMk, s1, sN, sNx, sDrop, sRet, sRetO, sIfS, sSet, sSetO, sAsg, sPut, ownD, chg, ownL, isLst, sMeth, sIxV, bor, sCall, sCallO, sCallI, sCallIO, gSetL, ixN, dIx, atI, dGt, cmpI, dMod, dDiv, dMul, dPlus, dAdd, dSub, dNeg, dLt, dLen', dLen, sSlc, sSlcV, sPt, sNoPt, sIt, itD, sRg, rg1, hName, hTup, hCons, hNil, sFor, List.replicate, sPar2, pO, pF, pNil, noB, sIsiV, isTy, tyN, isA, sCmpV, sz0, sz1, sz2, sz3, sz4, sz5, pow18, h]
  · simp [runF, argS, finF, outs, sSeq, sq, bnd, lift, sVar, sBor, sFrz, sMov, sC, sBin, sCmp, sChain, sTru, tru, sAndT, sOrT, sNotT, sAndV, sOrV, sNotV, sIf, sNil, sCons, sMk, s1, sN, sNx, sDrop, sRet, sRetO, sIfS, sSet, sSetO, sAsg, sPut, ownD, chg, ownL, isLst, sMeth, sIxV, bor, sCall, sCallO, sCallI, sCallIO, gSetL, ixN, dIx, atI, dGt, cmpI, dMod, dDiv, dMul, dPlus, dAdd, dSub, dNeg, dLt, dLen', dLen, sSlc, sSlcV, sPt, sNoPt, sIt, itD, sRg, rg1, hName, hTup, hCons, hNil, sFor, List.replicate, sPar2, pO, pF, pNil, noB, sIsiV, isTy, tyN, isA, sCmpV, sz0, sz1, sz2, sz3, sz4, sz5, pow18, h]
theorem bag_ok (ns : List Int) (k : Nat) (hk : k ≤ 1000) : ∃ b, fs__law_bag [.nd .scr (ns.map D.int), .int k] = .val true b none ∧ BagOk b := by
  have e1 : (-18446744073709551616 < (k : Int) ∧ (k : Int) < 18446744073709551616) := by constructor <;> omega
  have bp := big_pos
  have fin : ∀ c : Int, 0 ≤ c → (sIfS (sBin dLt (sVar 1) (s1 dLen' (sBor 0)))
  (sSet 2 (sBin dMod (sBin dIx (sVar 0) (sVar 1)) (sBin dPow (sC (.int 10)) (sC (.int 60)))))
  sNx) [some (.f (.nd .scr (ns.map D.int))), some (.f (.int k)), some (.f (.int 0)), none] = .ok .nx [some (.f (.nd .scr (ns.map D.int))), some (.f (.int k)), some (.f (.int c)), none] → ∃ b, fs__law_bag [.nd .scr (ns.map D.int), .int k] = .val true b none ∧ BagOk b := by
    intro c hc h
    refine ⟨.nd .lst [.int (if c < 1000000000000000000 then 0 else c), .int (seedOf c k)], ?_, _, _, rfl, ?_, seed_ok c k⟩
    · have e : m__law_bag [some (.f (.nd .scr (ns.map D.int))), some (.f (.int k)), none, none] = .ok (.ro (.nd .lst [.int (if c < 1000000000000000000 then 0 else c), .int (seedOf c k)])) [some (.f (.nd .scr (ns.map D.int))), some (.f (.int k)), some (.f (.int c)), some (.f (.int (seedOf c k)))] := by
        unfold m__law_bag
        refine (seq_ok (ρ1 := [some (.f (.nd .scr (ns.map D.int))), some (.f (.int k)), some (.f (.int 0)), none]) rfl).trans ?_
        refine (seq_ok h).trans ?_
        refine (seq_ok (bag_s3 _ .non _ _ e1)).trans ?_
        exact bag_s4 _ _ _ _
      show finF false (m__law_bag _) = _
      rw [show (argS false [.nd .scr (ns.map D.int), .int k] ++ List.replicate (4 - 2) none : En) = [some (.f (.nd .scr (ns.map D.int))), some (.f (.int k)), none, none] from rfl, e]
      rfl
    · split <;> omega
  by_cases h : k < ns.length
  · exact fin (ns[k] % big) (Int.emod_nonneg _ (by omega)) (by simp [runF, argS, finF, outs, sSeq, sq, bnd, lift, sVar, sBor, sFrz, sMov, sC, sBin, sCmp, sChain, sTru, tru, sAndT, sOrT, sNotT, sAndV, sOrV, sNotV, sIf, sNil, sCons, sMk, s1, sN, sNx, sDrop, sRet, sRetO, sIfS, sSet, sSetO, sAsg, sPut, ownD, chg, ownL, isLst, sMeth, sIxV, bor, sCall, sCallO, sCallI, sCallIO, gSetL, ixN, dIx, atI, dGt, cmpI, dMod, dDiv, dMul, dPlus, dAdd, dSub, dNeg, dLt, dLen', dLen, sSlc, sSlcV, sPt, sNoPt, sIt, itD, sRg, rg1, hName, hTup, hCons, hNil, sFor, List.replicate, sPar2, pO, pF, pNil, noB, sIsiV, isTy, tyN, isA, sCmpV, sz0, sz1, sz2, sz3, sz4, sz5, pow60, bp, h])
  · exact fin 0 (Int.le_refl _) (by simp [runF, argS, finF, outs, sSeq, sq, bnd, lift, sVar, sBor, sFrz, sMov, sC, sBin, sCmp, sChain, sTru, tru, sAndT, sOrT, sNotT, sAndV, sOrV, sNotV, sIf, sNil, sCons, sMk, s1, sN, sNx, sDrop, sRet, sRetO, sIfS, sSet, sSetO, sAsg, sPut, ownD, chg, ownL, isLst, sMeth, sIxV, bor, sCall, sCallO, sCallI, sCallIO, gSetL, ixN, dIx, atI, dGt, cmpI, dMod, dDiv, dMul, dPlus, dAdd, dSub, dNeg, dLt, dLen', dLen, sSlc, sSlcV, sPt, sNoPt, sIt, itD, sRg, rg1, hName, hTup, hCons, hNil, sFor, List.replicate, sPar2, pO, pF, pNil, noB, sIsiV, isTy, tyN, isA, sCmpV, sz0, sz1, sz2, sz3, sz4, sz5, h])
end Y

set_option Elab.async false
set_option linter.all false
set_option maxRecDepth 100000
set_option maxHeartbeats 4000000
namespace Y
open PySem PySem.Spec PyProof.Rows L2 PySem.W
/-! ### loops -/
theorem forL_inv {g : D → En → Option En} {b : En → R Fl} (I : Nat → En → Prop) : ∀ (ds : List D) (j : Nat) (ρ : En), I j ρ → (∀ i d ρ, ds[i]? = some d → I (j + i) ρ → ∃ ρ1 ρ2, g d ρ = some ρ1 ∧ b ρ1 = .ok .nx ρ2 ∧ I (j + i + 1) ρ2) → ∃ ρ', forL g b ds ρ = .ok .nx ρ' ∧ I (j + ds.length) ρ'
  | [], j, ρ, h, _ => ⟨ρ, rfl, h⟩
  | d :: ds, j, ρ, h, st => by
    obtain ⟨ρ1, ρ2, e1, e2, h2⟩ := st 0 d ρ rfl h
    obtain ⟨ρ', e3, h3⟩ := forL_inv I ds (j + 1) ρ2 h2 fun i d ρ e q => by
      have := st (i + 1) d ρ (by simpa using e) (by rw [show j + (i + 1) = j + 1 + i by omega]; exact q)
      rw [show j + (i + 1) + 1 = j + 1 + i + 1 by omega] at this
      exact this
    refine ⟨ρ', ?_, by rw [List.length_cons, show j + (ds.length + 1) = j + 1 + ds.length by omega]; exact h3⟩
    unfold forL
    rw [e1]
    dsimp only
    rw [e2]
    exact e3
theorem lcL_inv {g : D → En → Option En} {t : En → R Bool} {e : En → R D} {vs : List Nat} (I : Nat → En → List D → Prop) : ∀ (ds : List D) (j : Nat) (ρ : En) (acc : List D), I j ρ acc → acc.length + ds.length ≤ sizeLine →
    (∀ i d ρ acc, ds[i]? = some d → I (j + i) ρ acc → ∃ ρ1 b ρ2, g d ρ = some ρ1 ∧ t ρ1 = .ok b ρ2 ∧ if b = true then ∃ x ρ3, e ρ2 = .ok x ρ3 ∧ I (j + i + 1) (wipeE vs ρ3) (acc ++ [x]) else I (j + i + 1) (wipeE vs ρ2) acc) →
    ∃ acc' ρ', lcL g t e vs ds ρ acc = .ok (.nd .lst acc') ρ' ∧ I (j + ds.length) ρ' acc'
  | [], j, ρ, acc, h, _, _ => ⟨acc, ρ, rfl, h⟩
  | d :: ds, j, ρ, acc, h, hl, st => by
    have st' : ∀ i d ρ acc, ds[i]? = some d → I (j + 1 + i) ρ acc → ∃ ρ1 b ρ2, g d ρ = some ρ1 ∧ t ρ1 = .ok b ρ2 ∧ if b = true then ∃ x ρ3, e ρ2 = .ok x ρ3 ∧ I (j + 1 + i + 1) (wipeE vs ρ3) (acc ++ [x]) else I (j + 1 + i + 1) (wipeE vs ρ2) acc := fun i d ρ acc e q => by
      have := st (i + 1) d ρ acc (by simpa using e) (by rw [show j + (i + 1) = j + 1 + i by omega]; exact q)
      rw [show j + (i + 1) + 1 = j + 1 + i + 1 by omega] at this
      exact this
    rw [List.length_cons] at hl
    obtain ⟨ρ1, b, ρ2, e1, e2, h2⟩ := st 0 d ρ acc rfl h
    unfold lcL
    simp only [e1, e2, noX, bnd]
    cases b with
    | true =>
      obtain ⟨x, ρ3, e3, h3⟩ := h2
      obtain ⟨acc', ρ', e4, h4⟩ := lcL_inv I ds (j + 1) _ _ h3 (by rw [List.length_append, List.length_singleton]; omega) st'
      simp only [e3, noX, bnd, if_true, if_pos (show acc.length < sizeLine by omega)]
      exact ⟨acc', ρ', e4, by rw [List.length_cons, show j + (ds.length + 1) = j + 1 + ds.length by omega]; exact h4⟩
    | false =>
      obtain ⟨acc', ρ', e4, h4⟩ := lcL_inv I ds (j + 1) _ _ h2 (by omega) st'
      exact ⟨acc', ρ', e4, by rw [List.length_cons, show j + (ds.length + 1) = j + 1 + ds.length by omega]; exact h4⟩
/-! ### names -/
abbrev nD (l : List Str) : List D := l.map D.str
abbrev tD (l : List Str) : D := .nd .tup (nD l)
abbrev lD (l : List Str) : D := .nd .lst (nD l)
def NmsOk (l : List Str) : Prop := ∀ s ∈ l, strG s = true
theorem dok_str {s : Str} (h : strG s = true) : dok (.str s) = true := by simp [dok, okD, h, py, PyData.depth]
theorem likeD_names {l : List Str} (h : NmsOk l) : likeD (nD l) = true := by
  unfold likeD
  simp only [Bool.and_eq_true, Bool.or_eq_true, List.all_eq_true, List.mem_map]
  refine ⟨?_, ?_, .inr ?_⟩
  · rintro a ⟨s, _, rfl⟩ b ⟨s', _, rfl⟩
    simp [py, alike]
  · rintro a ⟨s, hs, rfl⟩
    exact dok_str (h s hs)
  · rintro a ⟨s, _, rfl⟩
    rfl
def srt (l : List Str) : List Str := l.mergeSort fun a b => leD (.str a) (.str b)
theorem srt_map (l : List Str) : (nD l).mergeSort leD = nD (srt l) := (sort_maps (r := fun a b => leD (.str a) (.str b)) (s := leD) D.str fun _ _ _ _ => rfl).symm
theorem srt_perm (l : List Str) : (srt l).Perm l := List.mergeSort_perm _ _
theorem sortD_names {l : List Str} (h : NmsOk l) (hl : l.length ≤ sizeLine) : sortD (nD l) = some (lD (srt l)) := by
  unfold sortD
  rw [if_pos ⟨likeD_names h, by rw [List.length_map]; exact hl⟩, srt_map]
theorem inj_str {a b : Str} (h : D.str a = D.str b) : a = b := by cases h; rfl
theorem map_inj_str : ∀ {l m : List Str}, nD l = nD m → l = m
  | [], [], _ => rfl
  | a :: l, b :: m, h => by
    have h1 : D.str a = D.str b := (List.cons.inj h).1
    have h2 : nD l = nD m := (List.cons.inj h).2
    rw [inj_str h1, map_inj_str h2]
  | [], _ :: _, h => by cases h
  | _ :: _, [], h => by cases h
theorem srt_same {l m : List Str} (p : l.Perm m) : srt l = srt m := by
  apply map_inj_str
  rw [← srt_map, ← srt_map]
  refine sort_same (p.map _) ?_
  intro a ha b hb h1 h2
  obtain ⟨s, _, rfl⟩ := List.mem_map.mp ha
  obtain ⟨s', _, rfl⟩ := List.mem_map.mp hb
  simp only [leD_str, decide_eq_true_eq] at h1 h2
  rw [str_ext (List.le_antisymm h1 h2)]
theorem keysD_names : ∀ l : List Str, keysD (nD l) = some (l.map Sum.inr)
  | [] => rfl
  | s :: l => by
    show (match keyD (D.str s), keysD (nD l) with | some k, some ks => some (k :: ks) | _, _ => none) = _
    rw [keysD_names l]
    rfl
/-- each once -/
def ddS : List Str → List Str
  | [] => []
  | s :: l => if (l.any fun x => decide (x = s)) = true then ddS l else s :: ddS l
theorem ddS_map : ∀ l : List Str, dedupK (l.map Sum.inr) = (ddS l).map Sum.inr
  | [] => rfl
  | s :: l => by
    have e : inKs (l.map (Sum.inr : Str → Key)) (Sum.inr s) = l.any fun x => decide (x = s) := by
      unfold inKs
      rw [List.any_map]
      congr 1
      funext x
      exact key_rr x s
    show (if inKs (l.map Sum.inr) (Sum.inr s) = true then dedupK (l.map Sum.inr) else Sum.inr s :: dedupK (l.map Sum.inr)) = _
    have e3 : ddS (s :: l) = if (l.any fun x => decide (x = s)) = true then ddS l else s :: ddS l := rfl
    rw [e, ddS_map l, e3]
    split <;> rfl
theorem mem_ddS {l : List Str} {s : Str} : s ∈ ddS l ↔ s ∈ l := by
  induction l with
  | nil => exact Iff.rfl
  | cons a l ih =>
    unfold ddS
    split
    · rename_i h
      rw [ih, List.mem_cons]
      refine ⟨.inr, fun z => z.elim (fun e => ?_) id⟩
      obtain ⟨x, h1, h2⟩ := List.any_eq_true.mp h
      rw [e, ← of_decide_eq_true h2]; exact h1
    · rw [List.mem_cons, List.mem_cons, ih]
theorem nodup_ddS : ∀ l : List Str, (ddS l).Nodup
  | [] => List.nodup_nil
  | a :: l => by
    unfold ddS
    split
    · exact nodup_ddS l
    · rename_i h
      refine List.nodup_cons.mpr ⟨fun z => h ?_, nodup_ddS l⟩
      exact List.any_eq_true.mpr ⟨a, mem_ddS.mp z, decide_eq_true rfl⟩
theorem sortSet_names {k : Kd} {l : List Str} (hk : k = .lst ∨ k = .tup) (h : NmsOk l) (hl : l.length + 1 < scanBound) : dSortSet (.nd k (nD l)) = some (lD (srt (ddS l))) := by
  have e1 : (l.map (Sum.inr : Str → Key)).map kD = nD l := by rw [List.map_map]; rfl
  have e2 : ((ddS l).map (Sum.inr : Str → Key)).map kD = nD (ddS l) := by rw [List.map_map]; rfl
  have e : (match keysD (nD l) with
    | some ks => if likeD (ks.map kD) = true ∧ ks.length + 1 < scanBound then some (sortKs ks) else none
    | none => none) = some (lD (srt (ddS l))) := by
    rw [keysD_names]
    dsimp only
    rw [if_pos ⟨by rw [e1]; exact likeD_names h, by rw [List.length_map]; exact hl⟩]
    unfold sortKs
    rw [ddS_map, e2, srt_map]
  rcases hk with rfl | rfl
  · exact e
  · exact e
theorem perm_same {l m : List Str} (h1 : l.Nodup) (h2 : m.Nodup) (h : ∀ s, s ∈ l ↔ s ∈ m) : l.Perm m := (List.perm_ext_iff_of_nodup h1 h2).mpr h
theorem dok_names {l : List Str} (h : NmsOk l) : okDs (nD l) = true ∧ PyData.depthAll (pys (nD l)) = 0 := by
  induction l with
  | nil => exact ⟨rfl, rfl⟩
  | cons a l ih =>
    obtain ⟨h1, h2⟩ := ih fun s m => h s (List.mem_cons_of_mem _ m)
    have ha : okD (.str a) = true := h a List.mem_cons_self
    constructor
    · show (okD (.str a) && okDs (nD l)) = true
      rw [ha, h1]; rfl
    · show max (PyData.depth (py (.str a))) (PyData.depthAll (pys (nD l))) = 0
      rw [h2]
      simp [py, PyData.depth]
theorem dok_lst {l : List Str} (h : NmsOk l) : dok (lD l) = true := by
  obtain ⟨h1, h2⟩ := dok_names h
  have e : okD (lD l) = okDs (nD l) := by simp [okD]
  have e2 : (py (lD l)).depth = 1 := by
    have : py (lD l) = .list (pys (nD l)) := by simp [py]
    rw [this]
    simp only [PyData.depth]
    rw [h2]
  unfold dok
  rw [e, h1, e2]
  rfl
theorem dEq_self {d : D} (h : dok d = true) : dEq d d = some true := by
  unfold dEq
  rw [if_pos ⟨h, h⟩, SeqAt.eqv_refl _ (canLay_ok d (okD_dok h).1)]
theorem dNe_self {d : D} (h : dok d = true) : dNe d d = some false := by
  unfold dNe
  rw [if_pos ⟨h, h⟩, SeqAt.eqv_refl _ (canLay_ok d (okD_dok h).1)]
  rfl
theorem eqv_str {a b : Str} : PyData.eqv (py (.str a)) (py (.str b)) = decide (a = b) := by
  simp only [py, PyData.eqv]
  by_cases h : a = b
  · subst h; simp
  · simp [h]
theorem any_names (l : List Str) (s : Str) : ((nD l).any fun z => PyData.eqv (py z) (py (.str s))) = decide (s ∈ l) := by
  rw [List.any_map]
  have : ∀ x, ((fun z => PyData.eqv (py z) (py (.str s))) ∘ D.str) x = decide (x = s) := fun x => eqv_str
  rw [Bool.eq_iff_iff, List.any_eq_true, decide_eq_true_eq]
  constructor
  · rintro ⟨x, hx, e⟩
    rw [this] at e
    rw [← of_decide_eq_true e]; exact hx
  · intro h
    exact ⟨s, h, by rw [this]; simp⟩
/-- s in names -/
theorem dIn_lst {l : List Str} {s : Str} (h : NmsOk l) (hs : strG s = true) : dIn (.str s) (lD l) = some (decide (s ∈ l)) := by
  have e : dIn (.str s) (lD l) = if dok (.str s) = true ∧ dok (lD l) = true then some ((nD l).any fun z => PyData.eqv (py z) (py (.str s))) else none := rfl
  rw [e, if_pos ⟨dok_str hs, dok_lst h⟩, any_names]
end Y

set_option Elab.async false
set_option linter.all false
set_option maxRecDepth 100000
set_option maxHeartbeats 4000000
namespace Y
open PySem PySem.Spec PyProof.Rows L2 PySem.W
/-! ### courses -/
abbrev Rows := List (Str × Int × List Str)
def rowD (r : Str × Int × List Str) : D := .nd .tup [.str r.1, .int r.2.1, tD r.2.2]
def coursesD (R : Rows) : D := .nd .tup (R.map rowD)
def nms (R : Rows) : List Str := R.map (·.1)
structure RowsOk (R : Rows) : Prop where
  nd : (nms R).Nodup
  len : R.length ≤ 10
  ok : NmsOk (nms R)
  sub : ∀ r ∈ R, ∀ s ∈ r.2.2, s ∈ nms R
  few : ∀ r ∈ R, r.2.2.length ≤ 10
def nb (R : Rows) (s : Str) : List Str := match R.find? (fun r => decide (r.1 = s)) with
  | some r => r.2.2
  | none => []
def dictD (R : Rows) : D := .nd (.dK ((nms R).map Sum.inr)) (R.map fun r => tD r.2.2)
theorem nb_sub {R : Rows} (ok : RowsOk R) {s x : Str} (h : x ∈ nb R s) : x ∈ nms R := by
  unfold nb at h
  split at h
  · rename_i r e
    exact ok.sub r (List.mem_of_find?_eq_some e) x h
  · cases h
theorem nb_few {R : Rows} (ok : RowsOk R) (s : Str) : (nb R s).length ≤ 10 := by
  unfold nb
  split
  · rename_i r e
    exact ok.few r (List.mem_of_find?_eq_some e)
  · exact Nat.zero_le _
theorem nb_ok {R : Rows} (ok : RowsOk R) (s : Str) : NmsOk (nb R s) := fun x h => ok.ok x (nb_sub ok h)
theorem get_needs : ∀ {R : Rows} {s : Str}, s ∈ nms R → getK ((nms R).map (Sum.inr : Str → Key)) (R.map fun r => tD r.2.2) (Sum.inr s) = some (tD (nb R s))
  | r :: R, s, h => by
    by_cases e : r.1 = s
    · have e1 : nb (r :: R) s = r.2.2 := by simp [nb, e]
      rw [e1]
      simp [getK, nms, e]
    · have e1 : nb (r :: R) s = nb R s := by simp [nb, e]
      rw [e1]
      have h' : s ∈ nms R := by
        rcases List.mem_cons.mp (show s ∈ r.1 :: nms R from h) with z | z
        · exact absurd z.symm e
        · exact z
      have e2 : getK ((nms (r :: R)).map (Sum.inr : Str → Key)) ((r :: R).map fun r => tD r.2.2) (Sum.inr s) = getK ((nms R).map (Sum.inr : Str → Key)) (R.map fun r => tD r.2.2) (Sum.inr s) := by
        have : ¬ (Sum.inr r.1 : Key) = Sum.inr s := fun z => e (Sum.inr.inj z)
        simp [getK, nms, this]
      rw [e2]
      exact get_needs h'
theorem ix_needs {R : Rows} {s : Str} (h : s ∈ nms R) : dIx (dictD R) (.str s) = some (tD (nb R s)) := by
  have : dIx (dictD R) (.str s) = (lookD (dictD R) (.str s)).bind id := rfl
  rw [this]
  show (some (getK ((nms R).map (Sum.inr : Str → Key)) (R.map fun r => tD r.2.2) (Sum.inr s))).bind id = _
  rw [get_needs h]
  rfl
/-- what needs of needs are -/
structure Rch (R : Rows) (s : Str) (F : List Str) : Prop where
  nd : F.Nodup
  st : ∀ x ∈ nb R s, x ∈ F
  cl : ∀ x ∈ F, ∀ y ∈ nb R x, y ∈ F
  mi : ∀ T : Str → Prop, (∀ x ∈ nb R s, T x) → (∀ x, T x → ∀ y ∈ nb R x, T y) → ∀ x ∈ F, T x
theorem Rch.same {R : Rows} {s : Str} {F G : List Str} (f : Rch R s F) (g : Rch R s G) : srt F = srt G :=
  srt_same (perm_same f.nd g.nd fun x => ⟨fun h => f.mi (· ∈ G) g.st g.cl x h, fun h => g.mi (· ∈ F) f.st f.cl x h⟩)
theorem Rch.names {R : Rows} (ok : RowsOk R) {s : Str} {F : List Str} (f : Rch R s F) : ∀ x ∈ F, x ∈ nms R := f.mi (· ∈ nms R) (fun x h => nb_sub ok h) fun x _ y h => nb_sub ok h
theorem sub_len : ∀ {l m : List Str}, l.Nodup → (∀ x ∈ l, x ∈ m) → l.length ≤ m.length
  | [], _, _, _ => Nat.zero_le _
  | a :: l, m, nd, h => by
    have nd' := List.nodup_cons.mp nd
    have ha : a ∈ m := h a List.mem_cons_self
    have ih := sub_len (l := l) (m := m.erase a) nd'.2 fun x hx => (List.mem_erase_of_ne (fun (e : x = a) => nd'.1 (by rw [← e]; exact hx))).mpr (h x (List.mem_cons_of_mem _ hx))
    rw [List.length_erase_of_mem ha] at ih
    have := List.length_pos_of_mem ha
    rw [List.length_cons]; omega
/-! ### the walk -/
def foundD (F : List Str) : D := .nd (.dK (F.map Sum.inr)) (F.map fun _ => .bl true)
theorem look_found (F : List Str) (x : Str) : lookD (foundD F) (.str x) = some (if x ∈ F then some (.bl true) else none) := by
  show some (getK (F.map (Sum.inr : Str → Key)) (F.map fun _ => D.bl true) (Sum.inr x)) = _
  congr 1
  induction F with
  | nil => rfl
  | cons a F ih =>
    by_cases e : a = x
    · subst e
      simp [getK]
    · have : ¬ (Sum.inr a : Key) = Sum.inr x := fun z => e (Sum.inr.inj z)
      have e2 : getK ((a :: F).map (Sum.inr : Str → Key)) ((a :: F).map fun _ => D.bl true) (Sum.inr x) = getK (F.map (Sum.inr : Str → Key)) (F.map fun _ => D.bl true) (Sum.inr x) := by simp [getK, this]
      rw [e2, ih]
      have e3 : (x ∈ a :: F) ↔ x ∈ F := by
        rw [List.mem_cons]
        exact ⟨fun z => z.elim (fun q => absurd q.symm e) id, .inr⟩
      simp [e3]
theorem in_found (F : List Str) (x : Str) : dNotIn (.str x) (foundD F) = some (decide (x ∉ F)) := by
  have : dIn (.str x) (foundD F) = (lookD (foundD F) (.str x)).map (·.isSome) := rfl
  unfold dNotIn
  rw [this, look_found]
  by_cases h : x ∈ F <;> simp [h]
theorem put_found {F : List Str} {x : Str} (h : x ∉ F) (hl : F.length < sizeLine) : gSetD (foundD F) (.str x) (.bl true) = some (foundD (F ++ [x])) := by
  have hn : ¬ (Sum.inr x : Key) ∈ F.map (Sum.inr : Str → Key) := fun z => by
    obtain ⟨y, h1, h2⟩ := List.mem_map.mp z
    cases h2
    exact h h1
  show (if (F.map (Sum.inr : Str → Key)).length < sizeLine then some (D.nd (.dK (putKs (F.map Sum.inr) (Sum.inr x))) (putDs (F.map Sum.inr) (F.map fun _ => D.bl true) (Sum.inr x) (.bl true))) else none) = _
  rw [if_pos (by rw [List.length_map]; exact hl)]
  unfold putKs putDs foundD
  rw [if_neg hn, if_neg hn, List.map_append, List.map_append]
  rfl
abbrev dfsB : En → R Fl := (sSeq (sSet 4 (sMeth 3 gPop sNil)) (sIfS (sBin dNotIn (sVar 4) (sBor 2)) (sSeq (sPut 2 gSetD (sVar 4) (sC (.bl true))) (sAugL 3 (s1 dList (sBin dIx (sVar 0) (sVar 4))))) sNx))
def dfsE (R : Rows) (nm : Str) (F L : List Str) (one : Option S) : En := [some (.f (dictD R)), some (.f (.str nm)), some (.o (foundD F)), some (.o (lD L)), one]
theorem dfs_pop (R : Rows) (nm : Str) (F L : List Str) (x : Str) (one : Option S) : sSet 4 (sMeth 3 gPop sNil) (dfsE R nm F (L ++ [x]) one) = .ok .nx (dfsE R nm F L (some (.f (.str x)))) := by
  simp [dfsE, runF, argS, finF, outs, sSeq, sq, bnd, lift, sVar, sBor, sFrz, sMov, sC, sBin, sCmp, sChain, sTru, tru, sAndT, sOrT, sNotT, sAndV, sOrV, sNotV, sIf, sNil, sCons, sMk, s1, sN, sNx, sDrop, sRet, sRetO, sIfS, sSet, sSetO, sAsg, sPut, ownD, chg, ownL, isLst, sMeth, sIxV, bor, sCall, sCallO, sCallI, sCallIO, gSetL, ixN, dIx, atI, dGt, cmpI, dMod, dDiv, dMul, dPlus, dAdd, dSub, dNeg, dLt, dLen', dLen, sSlc, sSlcV, sPt, sNoPt, sIt, itD, sRg, rg1, hName, hTup, hCons, hNil, sFor, List.replicate, sPar2, pO, pF, pNil, noB, sIsiV, isTy, tyN, isA, sCmpV, sz0, sz1, sz2, sz3, sz4, sz5, gPop, List.dropLast_concat]
theorem dfs_step {R : Rows} (ok : RowsOk R) {nm : Str} {F L : List Str} {x : Str} {one : Option S} (hx : x ∈ nms R) (hl : F.length ≤ 100) (hL : L.length ≤ 1000) : dfsB (dfsE R nm F (L ++ [x]) one) = .ok .nx (dfsE R nm (if x ∈ F then F else F ++ [x]) (if x ∈ F then L else L ++ nb R x) (some (.f (.str x)))) := by
  have h10 := nb_few ok x
  have hF : F.length < sizeLine := Nat.lt_of_le_of_lt hl (by decide)
  have hz : L.length + (nb R x).length ≤ sizeLine := Nat.le_trans (show _ ≤ 1010 by omega) (by decide)
  refine (seq_ok (dfs_pop R nm F L x one)).trans ?_
  by_cases h : x ∈ F
  · simp [dfsE, runF, argS, finF, outs, sSeq, sq, bnd, lift, sVar, sBor, sFrz, sMov, sC, sBin, sCmp, sChain, sTru, tru, sAndT, sOrT, sNotT, sAndV, sOrV, sNotV, sIf, sNil, sCons, sMk, s1, sN, sNx, sDrop, sRet, sRetO, sIfS, sSet, sSetO, sAsg, sPut, ownD, chg, ownL, isLst, sMeth, sIxV, bor, sCall, sCallO, sCallI, sCallIO, gSetL, ixN, dIx, atI, dGt, cmpI, dMod, dDiv, dMul, dPlus, dAdd, dSub, dNeg, dLt, dLen', dLen, sSlc, sSlcV, sPt, sNoPt, sIt, itD, sRg, rg1, hName, hTup, hCons, hNil, sFor, List.replicate, sPar2, pO, pF, pNil, noB, sIsiV, isTy, tyN, isA, sCmpV, sz0, sz1, sz2, sz3, sz4, sz5, in_found, h]
  · have e1 := put_found h hF
    have e2 := ix_needs hx
    simp [dfsE, runF, argS, finF, outs, sSeq, sq, bnd, lift, sVar, sBor, sFrz, sMov, sC, sBin, sCmp, sChain, sTru, tru, sAndT, sOrT, sNotT, sAndV, sOrV, sNotV, sIf, sNil, sCons, sMk, s1, sN, sNx, sDrop, sRet, sRetO, sIfS, sSet, sSetO, sAsg, sPut, ownD, chg, ownL, isLst, sMeth, sIxV, bor, sCall, sCallO, sCallI, sCallIO, dGt, cmpI, dMod, dDiv, dMul, dPlus, dAdd, dSub, dNeg, dLen', dLen, sSlc, sSlcV, sPt, sNoPt, sIt, itD, sRg, rg1, hName, hTup, hCons, hNil, sFor, List.replicate, sPar2, pO, pF, pNil, noB, sIsiV, isTy, tyN, isA, sCmpV, sz0, sz1, sz2, sz3, sz4, sz5, in_found, h, e1, e2, sAugL, dList, dCat, hz]
/-- what is left to be looked at -/
def pot (R : Rows) (F : List Str) : Nat := ((R.filter fun r => decide (r.1 ∉ F)).map fun r => r.2.2.length).sum
theorem pot_le : ∀ (R : Rows), (∀ r ∈ R, r.2.2.length ≤ 10) → ∀ F, pot R F ≤ 10 * R.length
  | [], _, F => Nat.le_refl _
  | r :: R, h, F => by
    have ih := pot_le R (fun x m => h x (List.mem_cons_of_mem _ m)) F
    have hr := h r List.mem_cons_self
    unfold pot at ih ⊢
    rw [List.filter_cons]
    split
    · rw [List.map_cons, List.sum_cons, List.length_cons]; omega
    · rw [List.length_cons]; omega
theorem pot_mono (R : Rows) (F : List Str) (x : Str) : pot R (F ++ [x]) ≤ pot R F := by
  induction R with
  | nil => exact Nat.le_refl _
  | cons r R ih =>
    unfold pot at ih ⊢
    rw [List.filter_cons, List.filter_cons]
    by_cases h : r.1 ∈ F
    · rw [if_neg (by simp [h]), if_neg (by simp [h])]; exact ih
    · rw [if_pos (show decide (r.1 ∉ F) = true by simp [h])]
      split
      · rw [List.map_cons, List.sum_cons, List.map_cons, List.sum_cons]; omega
      · rw [List.map_cons, List.sum_cons]; omega
theorem pot_add : ∀ {R : Rows} {F : List Str} {x : Str}, x ∈ nms R → x ∉ F → pot R (F ++ [x]) + (nb R x).length ≤ pot R F
  | r :: R, F, x, h, hF => by
    by_cases e : r.1 = x
    · have e1 : nb (r :: R) x = r.2.2 := by simp [nb, e]
      have m := pot_mono R F x
      rw [e1]
      unfold pot at m ⊢
      rw [List.filter_cons, List.filter_cons, if_neg (by simp [e]), if_pos (by simp [e, hF]), List.map_cons, List.sum_cons]
      omega
    · have e1 : nb (r :: R) x = nb R x := by simp [nb, e]
      have h' : x ∈ nms R := by
        rcases List.mem_cons.mp (show x ∈ r.1 :: nms R from h) with z | z
        · exact absurd z.symm e
        · exact z
      have ih := pot_add (R := R) h' hF
      rw [e1]
      unfold pot at ih ⊢
      rw [List.filter_cons, List.filter_cons]
      by_cases h2 : r.1 ∈ F
      · rw [if_neg (by simp [h2]), if_neg (by simp [h2])]; exact ih
      · rw [if_pos (by simp [h2, e]), if_pos (by simp [h2]), List.map_cons, List.sum_cons, List.map_cons, List.sum_cons]; omega
theorem dfs_run {R : Rows} (ok : RowsOk R) (nm : Str) : ∀ (n : Nat) (F L : List Str) (one : Option S), F.Nodup → (∀ s ∈ F, s ∈ nms R) → (∀ s ∈ L, s ∈ nms R) → L.length + pot R F < n → L.length + pot R F ≤ 500 →
    ∃ F' one', whL (sTru (sBor 3)) dfsB n (dfsE R nm F L one) = .ok .nx (dfsE R nm F' [] one') ∧ F'.Nodup ∧ (∀ s ∈ F', s ∈ nms R) ∧ (∀ s ∈ F, s ∈ F') ∧ (∀ s ∈ L, s ∈ F') ∧ ((∀ x ∈ F, ∀ y ∈ nb R x, y ∈ F ∨ y ∈ L) → ∀ x ∈ F', ∀ y ∈ nb R x, y ∈ F') ∧
      ∀ T : Str → Prop, (∀ x, T x → ∀ y ∈ nb R x, T y) → (∀ x ∈ F, T x) → (∀ x ∈ L, T x) → ∀ x ∈ F', T x := by
  intro n
  induction n with
  | zero => intro F L one _ _ _ h; omega
  | succ n ih =>
    intro F L one nd hF hL h h5
    have hl := sub_len nd hF
    have hF100 : F.length ≤ 100 := by
      have := ok.len
      have : (nms R).length = R.length := List.length_map _
      omega
    rcases List.eq_nil_or_concat L with rfl | ⟨L', x, rfl⟩
    · refine ⟨F, one, ?_, nd, hF, fun s h => h, (fun s h => by cases h), fun c x hx y hy => (c x hx y hy).elim id (fun z => by cases z), fun T _ h1 _ => h1⟩
      unfold whL
      simp [dfsE, runF, argS, finF, outs, sSeq, sq, bnd, lift, sVar, sBor, sFrz, sMov, sC, sBin, sCmp, sChain, sTru, tru, sAndT, sOrT, sNotT, sAndV, sOrV, sNotV, sIf, sNil, sCons, sMk, s1, sN, sNx, sDrop, sRet, sRetO, sIfS, sSet, sSetO, sAsg, sPut, ownD, chg, ownL, isLst, sMeth, sIxV, bor, sCall, sCallO, sCallI, sCallIO, dGt, cmpI, dMod, dDiv, dMul, dPlus, dAdd, dSub, dNeg, dLen', dLen, sSlc, sSlcV, sPt, sNoPt, sIt, itD, sRg, rg1, hName, hTup, hCons, hNil, sFor, List.replicate, sPar2, pO, pF, pNil, noB, sIsiV, isTy, tyN, isA, sCmpV, sz0, sz1, sz2, sz3, sz4, sz5]
    · rw [List.concat_eq_append] at *
      have hx : x ∈ nms R := hL x (by simp)
      have hL' : ∀ s ∈ L', s ∈ nms R := fun s m => hL s (by simp [m])
      rw [List.length_append, List.length_singleton] at h h5
      have st := dfs_step (nm := nm) (one := one) ok hx hF100 (L := L') (by omega)
      have t : sTru (sBor 3) (dfsE R nm F (L' ++ [x]) one) = .ok true (dfsE R nm F (L' ++ [x]) one) := by
        simp [dfsE, runF, argS, finF, outs, sSeq, sq, bnd, lift, sVar, sBor, sFrz, sMov, sC, sBin, sCmp, sChain, sTru, tru, sAndT, sOrT, sNotT, sAndV, sOrV, sNotV, sIf, sNil, sCons, sMk, s1, sN, sNx, sDrop, sRet, sRetO, sIfS, sSet, sSetO, sAsg, sPut, ownD, chg, ownL, isLst, sMeth, sIxV, bor, sCall, sCallO, sCallI, sCallIO, dGt, cmpI, dMod, dDiv, dMul, dPlus, dAdd, dSub, dNeg, dLen', dLen, sSlc, sSlcV, sPt, sNoPt, sIt, itD, sRg, rg1, hName, hTup, hCons, hNil, sFor, List.replicate, sPar2, pO, pF, pNil, noB, sIsiV, isTy, tyN, isA, sCmpV, sz0, sz1, sz2, sz3, sz4, sz5]
      have go : whL (sTru (sBor 3)) dfsB (n + 1) (dfsE R nm F (L' ++ [x]) one) = whL (sTru (sBor 3)) dfsB n (dfsE R nm (if x ∈ F then F else F ++ [x]) (if x ∈ F then L' else L' ++ nb R x) (some (.f (.str x)))) := by
        conv => lhs; unfold whL
        rw [t]
        show (match dfsB (dfsE R nm F (L' ++ [x]) one) with | .ok .nx ρ2 => _ | .ok .ct ρ2 => _ | .ok .bk ρ2 => _ | r => r) = _
        rw [st]
      rw [go]
      by_cases hm : x ∈ F
      · rw [if_pos hm, if_pos hm]
        obtain ⟨F', one', e1, e2, e3, e4, e5, e6, e7⟩ := ih F L' (some (.f (.str x))) nd hF hL' (by omega) (by omega)
        refine ⟨F', one', e1, e2, e3, e4, fun s m => ?_, fun c => e6 fun a ha y hy => ?_, fun T c h1 h2 => e7 T c h1 fun s m => h2 s (by simp [m])⟩
        · rcases List.mem_append.mp m with m | m
          · exact e5 s m
          · rw [List.mem_singleton.mp m]; exact e4 x hm
        · rcases c a ha y hy with z | z
          · exact .inl z
          · rcases List.mem_append.mp z with z | z
            · exact .inr z
            · rw [List.mem_singleton.mp z]; exact .inl hm
      · rw [if_neg hm, if_neg hm]
        have pa := pot_add hx hm
        have nd' : (F ++ [x]).Nodup := by
          rw [List.nodup_append]
          exact ⟨nd, by simp, fun a ha b hb => by rw [List.mem_singleton.mp hb]; exact fun z => hm (z ▸ ha)⟩
        have hF' : ∀ s ∈ F ++ [x], s ∈ nms R := fun s m => by
          rcases List.mem_append.mp m with m | m
          · exact hF s m
          · rw [List.mem_singleton.mp m]; exact hx
        have hL2 : ∀ s ∈ L' ++ nb R x, s ∈ nms R := fun s m => (List.mem_append.mp m).elim (hL' s) (fun q => nb_sub ok q)
        obtain ⟨F', one', e1, e2, e3, e4, e5, e6, e7⟩ := ih (F ++ [x]) (L' ++ nb R x) (some (.f (.str x))) nd' hF' hL2 (by rw [List.length_append]; omega) (by rw [List.length_append]; omega)
        refine ⟨F', one', e1, e2, e3, fun s m => e4 s (by simp [m]), fun s m => ?_, fun c => e6 fun a ha y hy => ?_, fun T c h1 h2 => e7 T c (fun s m => ?_) fun s m => ?_⟩
        · rcases List.mem_append.mp m with m | m
          · exact e5 s (by simp [m])
          · rw [List.mem_singleton.mp m]; exact e4 x (by simp)
        · rcases List.mem_append.mp ha with ha | ha
          · rcases c a ha y hy with z | z
            · exact .inl (by simp [z])
            · rcases List.mem_append.mp z with z | z
              · exact .inr (by simp [z])
              · rw [List.mem_singleton.mp z]; exact .inl (by simp)
          · rw [List.mem_singleton.mp ha] at hy
            exact .inr (by simp [hy])
        · rcases List.mem_append.mp m with m | m
          · exact h1 s m
          · rw [List.mem_singleton.mp m]; exact h2 x (by simp)
        · rcases List.mem_append.mp m with m | m
          · exact h2 s (by simp [m])
          · exact c x (h2 x (by simp)) s m
end Y

set_option Elab.async false
set_option linter.all false
set_option maxRecDepth 100000
set_option maxHeartbeats 4000000
namespace Y
open PySem PySem.Spec PyProof.Rows L2 PySem.W
theorem small {n : Nat} (h : n ≤ 100000) : n ≤ sizeLine := Nat.le_trans h (by decide)
theorem names_len {R : Rows} (ok : RowsOk R) : (nms R).length ≤ 10 := by
  have := ok.len
  have : (nms R).length = R.length := List.length_map _
  omega
theorem all_ahead_ok {R : Rows} (ok : RowsOk R) {nm : Str} (h : nm ∈ nms R) : ∃ F, fs_all_ahead [dictD R, .str nm] = .val true (lD (srt F)) none ∧ Rch R nm F := by
  have h10 := nb_few ok nm
  have p0 := pot_le R ok.few []
  have l10 := ok.len
  obtain ⟨F, one, e1, nd, e3, _, e5, e6, e7⟩ := dfs_run ok nm 1000 [] (nb R nm) none List.nodup_nil (fun s h => by cases h) (fun s h => nb_sub ok h) (by omega) (by omega)
  refine ⟨F, ?_, nd, e5, e6 (fun x h => by cases h), fun T h1 h2 => e7 T h2 (fun x h => by cases h) h1⟩
  have hF := sub_len nd e3
  have n10 := names_len ok
  have s1' : sPar2 2 3 (pO (sC (.nd (.dK []) [])) (pO (s1 dList (sBin dIx (sVar 0) (sVar 1))) pNil)) [some (.f (dictD R)), some (.f (.str nm)), none, none, none] = .ok .nx (dfsE R nm [] (nb R nm) none) := by
    have e2 := ix_needs h
    simp [dfsE, runF, argS, finF, outs, sSeq, sq, bnd, lift, sVar, sBor, sFrz, sMov, sC, sBin, sCmp, sChain, sTru, tru, sAndT, sOrT, sNotT, sAndV, sOrV, sNotV, sIf, sNil, sCons, sMk, s1, sN, sNx, sDrop, sRet, sRetO, sIfS, sSet, sSetO, sAsg, sPut, ownD, chg, ownL, isLst, sMeth, sIxV, bor, sCall, sCallO, sCallI, sCallIO, dGt, cmpI, dMod, dDiv, dMul, dPlus, dAdd, dSub, dNeg, dLen', dLen, sSlc, sSlcV, sPt, sNoPt, sIt, itD, sRg, rg1, hName, hTup, hCons, hNil, sFor, List.replicate, sPar2, pO, pF, pNil, noB, sIsiV, isTy, tyN, isA, sCmpV, sz0, sz1, sz2, sz3, sz4, sz5, e2, dList, foundD]
  have s3 : sRetO (s1 dSorted (s1 dList (sBor 2))) (dfsE R nm F [] one) = .ok (.ro (lD (srt F))) (dfsE R nm F [] one) := by
    have e : dList (foundD F) = some (lD F) := by
      show some (D.nd .lst ((F.map (Sum.inr : Str → Key)).map kD)) = _
      rw [List.map_map]
      rfl
    have e2 : dSorted (lD F) = some (lD (srt F)) := sortD_names (fun s m => ok.ok s (e3 s m)) (small (by omega))
    simp [dfsE, runF, argS, finF, outs, sSeq, sq, bnd, lift, sVar, sBor, sFrz, sMov, sC, sBin, sCmp, sChain, sTru, tru, sAndT, sOrT, sNotT, sAndV, sOrV, sNotV, sIf, sNil, sCons, sMk, s1, sN, sNx, sDrop, sRet, sRetO, sIfS, sSet, sSetO, sAsg, sPut, ownD, chg, ownL, isLst, sMeth, sIxV, bor, sCall, sCallO, sCallI, sCallIO, dGt, cmpI, dMod, dDiv, dMul, dPlus, dAdd, dSub, dNeg, dLen', dLen, sSlc, sSlcV, sPt, sNoPt, sIt, itD, sRg, rg1, hName, hTup, hCons, hNil, sFor, List.replicate, sPar2, pO, pF, pNil, noB, sIsiV, isTy, tyN, isA, sCmpV, sz0, sz1, sz2, sz3, sz4, sz5, e, e2]
  have e : m_all_ahead [some (.f (dictD R)), some (.f (.str nm)), none, none, none] = .ok (.ro (lD (srt F))) (dfsE R nm F [] one) := by
    unfold m_all_ahead
    exact (seq_ok s1').trans ((seq_ok e1).trans s3)
  show finF false (m_all_ahead _) = _
  rw [show (argS false [dictD R, .str nm] ++ List.replicate (5 - 2) none : En) = [some (.f (dictD R)), some (.f (.str nm)), none, none, none] from rfl, e]
  rfl
/-! ### needs_of -/
theorem dc_rows : ∀ (R R0 : Rows) (x : Option S), (nms (R0 ++ R)).Nodup → (R0 ++ R).length ≤ 1000 → dcL (hTup 3 (hCons (hName 1) (hCons (hName 2) (hCons (hName 3) hNil)))) sYes (sVar 1) (sVar 3) [1, 2, 3] (R.map rowD) [x, none, none, none] ((nms R0).map Sum.inr) (R0.map fun r => tD r.2.2) = .ok (dictD (R0 ++ R)) [x, none, none, none]
  | [], R0, x, nd, hl => by rw [List.append_nil]; rfl
  | r :: R, R0, x, nd, hl => by
    have e0 : R0 ++ r :: R = (R0 ++ [r]) ++ R := by simp
    have ih := dc_rows R (R0 ++ [r]) x (by rw [← e0]; exact nd) (by rw [← e0]; exact hl)
    have hn : ¬ (Sum.inr r.1 : Key) ∈ (nms R0).map (Sum.inr : Str → Key) := fun z => by
      obtain ⟨y, h1, h2⟩ := List.mem_map.mp z
      cases h2
      have : (nms R0 ++ r.1 :: nms R).Nodup := by
        have : nms (R0 ++ r :: R) = nms R0 ++ r.1 :: nms R := by simp [nms]
        rw [← this]; exact nd
      exact (List.nodup_append.mp this).2.2 _ h1 _ List.mem_cons_self rfl
    have hlen : ((nms R0).map (Sum.inr : Str → Key)).length < sizeLine := by
      rw [List.length_map]
      have : (nms R0).length = R0.length := List.length_map _
      rw [List.length_append] at hl
      exact Nat.lt_of_le_of_lt (show _ ≤ 1000 by omega) (by decide)
    rw [List.map_cons]
    have e1 : hTup 3 (hCons (hName 1) (hCons (hName 2) (hCons (hName 3) hNil))) (rowD r) [x, none, none, none] = some [x, some (.f (.str r.1)), some (.f (.int r.2.1)), some (.f (tD r.2.2))] := rfl
    conv => lhs; unfold dcL
    rw [e1]
    have e2 : putKs ((nms R0).map (Sum.inr : Str → Key)) (Sum.inr r.1) = (nms (R0 ++ [r])).map Sum.inr := by
      unfold putKs
      rw [if_neg hn]
      simp [nms]
    have e3 : putDs ((nms R0).map (Sum.inr : Str → Key)) (R0.map fun r => tD r.2.2) (Sum.inr r.1) (tD r.2.2) = (R0 ++ [r]).map fun r => tD r.2.2 := by
      unfold putDs
      rw [if_neg hn]
      simp
    have e4 : keyD (.str r.1) = some (Sum.inr r.1) := rfl
    simp only [sYes, noX, bnd, if_true, sVar, List.getElem?_cons_succ, List.getElem?_cons_zero, e4]
    rw [if_pos hlen, e2, e3, e0]
    exact ih
theorem needs_ok {R : Rows} (ok : RowsOk R) : fs_needs_of [coursesD R] = .val true (dictD R) none := by
  have l10 := ok.len
  have e := dc_rows R [] (some (.f (coursesD R))) ok.nd (by simp; omega)
  have e2 : m_needs_of [some (.f (coursesD R)), none, none, none] = .ok (.ro (dictD R)) [some (.f (coursesD R)), none, none, none] := by
    unfold m_needs_of sRetO sDc
    have : sIt (sVar 0) [some (.f (coursesD R)), none, none, none] = .ok (R.map rowD) [some (.f (coursesD R)), none, none, none] := rfl
    rw [this]
    simp only [bnd]
    have : wipeE [1, 2, 3] [some (S.f (coursesD R)), none, none, none] = [some (S.f (coursesD R)), none, none, none] := rfl
    rw [this]
    have e : dcL (hTup 3 (hCons (hName 1) (hCons (hName 2) (hCons (hName 3) hNil)))) sYes (sVar 1) (sVar 3) [1, 2, 3] (R.map rowD) [some (S.f (coursesD R)), none, none, none] [] [] = .ok (dictD R) [some (S.f (coursesD R)), none, none, none] := e
    rw [e]
  show finF false (m_needs_of _) = _
  rw [show (argS false [coursesD R] ++ List.replicate (4 - 1) none : En) = [some (.f (coursesD R)), none, none, none] from rfl, e2]
  rfl
/-! ### ten rounds -/
def more (R : Rows) (l : List Str) : List Str := l.flatMap (nb R)
def turn (R : Rows) (l : List Str) : List Str := srt (ddS (l ++ more R l))
def turns (R : Rows) (nm : Str) : Nat → List Str
  | 0 => srt (nb R nm)
  | n + 1 => turn R (turns R nm n)
theorem mem_turn {R : Rows} {l : List Str} {x : Str} : x ∈ turn R l ↔ x ∈ l ∨ ∃ y ∈ l, x ∈ nb R y := by
  unfold turn more
  rw [(srt_perm _).mem_iff, mem_ddS, List.mem_append, List.mem_flatMap]
theorem turns_sub {R : Rows} (ok : RowsOk R) (nm : Str) : ∀ n, ∀ x ∈ turns R nm n, x ∈ nms R
  | 0, x, h => nb_sub ok ((srt_perm _).mem_iff.mp h)
  | n + 1, x, h => by
    rcases mem_turn.mp h with h | ⟨y, _, h⟩
    · exact turns_sub ok nm n x h
    · exact nb_sub ok h
theorem turns_nd {R : Rows} (nm : Str) (n : Nat) : (turns R nm (n + 1)).Nodup := (srt_perm _).nodup_iff.mpr (nodup_ddS _)
theorem turns_len {R : Rows} (ok : RowsOk R) (nm : Str) : ∀ n, (turns R nm n).length ≤ 10
  | 0 => by
    rw [show turns R nm 0 = srt (nb R nm) from rfl, (srt_perm _).length_eq]; exact nb_few ok nm
  | n + 1 => Nat.le_trans (sub_len (turns_nd nm n) (turns_sub ok nm (n + 1))) (names_len ok)
def closed (R : Rows) (l : List Str) : Prop := ∀ x ∈ l, ∀ y ∈ nb R x, y ∈ l
theorem turn_grow {R : Rows} (nm : Str) : ∀ n, closed R (turns R nm n) ∨ n + 1 ≤ (ddS (turns R nm n)).length
  | 0 => by
    by_cases h : turns R nm 0 = []
    · exact .inl (by rw [h]; exact fun x h => by cases h)
    · right
      have : ddS (turns R nm 0) ≠ [] := fun e => by
        obtain ⟨a, m⟩ := List.exists_mem_of_ne_nil _ h
        have := mem_ddS.mpr m
        rw [e] at this
        cases this
      have := List.length_pos_iff.mpr this
      omega
  | n + 1 => by
    by_cases c : closed R (turns R nm n)
    · left
      have e : ∀ x, x ∈ turns R nm (n + 1) → x ∈ turns R nm n := fun x h => by
        rcases mem_turn.mp h with h | ⟨y, hy, h⟩
        · exact h
        · exact c y hy x h
      exact fun x hx y hy => mem_turn.mpr (.inl (c x (e x hx) y hy))
    · right
      have ih := (turn_grow nm n).resolve_left c
      have : ∃ x y, x ∈ turns R nm n ∧ y ∈ nb R x ∧ y ∉ turns R nm n := by
        refine Classical.byContradiction fun q => c fun x hx y hy => Decidable.byContradiction fun z => q ⟨x, y, hx, hy, z⟩
      obtain ⟨x, y, hx, hy, z⟩ := this
      have := sub_len (l := y :: ddS (turns R nm n)) (m := ddS (turns R nm (n + 1))) (List.nodup_cons.mpr ⟨fun m => z (mem_ddS.mp m), nodup_ddS _⟩) fun a ha => by
        rcases List.mem_cons.mp ha with rfl | ha
        · exact mem_ddS.mpr (mem_turn.mpr (.inr ⟨x, hx, hy⟩))
        · exact mem_ddS.mpr (mem_turn.mpr (.inl (mem_ddS.mp ha)))
      rw [List.length_cons] at this
      omega
theorem turns_rch {R : Rows} (ok : RowsOk R) (nm : Str) : Rch R nm (turns R nm 10) := by
  refine ⟨turns_nd nm 9, fun x h => ?_, ?_, fun T h1 h2 => ?_⟩
  · have : ∀ n, x ∈ turns R nm n := fun n => by
      induction n with
      | zero => exact (srt_perm _).mem_iff.mpr h
      | succ n ih => exact mem_turn.mpr (.inl ih)
    exact this 10
  · rcases turn_grow (R := R) nm 10 with c | c
    · exact c
    · have h1 := sub_len (nodup_ddS (turns R nm 10)) fun x h => turns_sub ok nm 10 x (mem_ddS.mp h)
      have h2 := names_len ok
      omega
  · have : ∀ n, ∀ x ∈ turns R nm n, T x := fun n => by
      induction n with
      | zero => exact fun x h => h1 x ((srt_perm _).mem_iff.mp h)
      | succ n ih =>
        intro x h
        rcases mem_turn.mp h with h | ⟨y, hy, h⟩
        · exact ih x h
        · exact h2 y (ih y hy) x h
    exact this 10
end Y

set_option Elab.async false
set_option linter.all false
set_option maxRecDepth 100000
set_option maxHeartbeats 4000000
namespace Y
open PySem PySem.Spec PyProof.Rows L2 PySem.W
def pairD (r : Str × Int × List Str) : D := .nd .tup [.str r.1, tD r.2.2]
theorem lc_rows : ∀ (R : Rows) (x y : Option S) (acc : List D), acc.length + R.length ≤ 1000 → lcL (hName 6) sYes (sMk .tup (sCons (sBin dIx (sVar 6) (sC (.int 0))) (sCons (sBin dIx (sVar 6) (sC (.int 2))) sNil))) [6] (R.map rowD) [x, y, none, none, none, none, none] acc = .ok (.nd .lst (acc ++ R.map pairD)) [x, y, none, none, none, none, none]
  | [], x, y, acc, _ => by rw [List.map_nil, List.map_nil, List.append_nil]; rfl
  | r :: R, x, y, acc, hl => by
    rw [List.length_cons] at hl
    have ih := lc_rows R x y (acc ++ [pairD r]) (by rw [List.length_append, List.length_singleton]; omega)
    rw [List.map_cons]
    conv => lhs; unfold lcL
    have e1 : hName 6 (rowD r) [x, y, none, none, none, none, none] = some [x, y, none, none, none, none, some (.f (rowD r))] := rfl
    have e2 : sMk .tup (sCons (sBin dIx (sVar 6) (sC (.int 0))) (sCons (sBin dIx (sVar 6) (sC (.int 2))) sNil)) [x, y, none, none, none, none, some (.f (rowD r))] = .ok (pairD r) [x, y, none, none, none, none, some (.f (rowD r))] := by
      simp [rowD, pairD, runF, argS, finF, outs, sSeq, sq, bnd, lift, sVar, sBor, sFrz, sMov, sC, sBin, sCmp, sChain, sTru, tru, sAndT, sOrT, sNotT, sAndV, sOrV, sNotV, sIf, sNil, sCons, sMk, s1, sN, sNx, sDrop, sRet, sRetO, sIfS, sSet, sSetO, sAsg, sPut, ownD, chg, ownL, isLst, sMeth, sIxV, bor, sCall, sCallO, sCallI, sCallIO, gSetL, ixN, dIx, atI, dGt, cmpI, dMod, dDiv, dMul, dPlus, dAdd, dSub, dNeg, dLt, dLen', dLen, sSlc, sSlcV, sPt, sNoPt, sIt, itD, sRg, rg1, hName, hTup, hCons, hNil, sFor, List.replicate, sPar2, pO, pF, pNil, noB, sIsiV, isTy, tyN, isA, sCmpV, sz0, sz1, sz2, sz3, sz4, sz5]
    rw [e1]
    simp only [sYes, noX, bnd, if_true, e2]
    rw [if_pos (Nat.lt_of_le_of_lt (show acc.length ≤ 1000 by omega) (by decide))]
    have e3 : wipeE [6] [x, y, none, none, none, none, some (S.f (rowD r))] = [x, y, none, none, none, none, none] := rfl
    rw [e3, ih, List.map_cons]
    simp
theorem pairs_rows : ∀ R : Rows, pairsD (R.map pairD) = some ((nms R).map Sum.inr, R.map fun r => tD r.2.2)
  | [] => rfl
  | r :: R => by
    show (match keyD (D.str r.1), pairsD (R.map pairD) with | some q, some (qs, es) => some (q :: qs, tD r.2.2 :: es) | _, _ => none) = _
    rw [pairs_rows R]
    rfl
theorem merge_new : ∀ (qs ks : List Key) (es ds : List D), (ks ++ qs).Nodup → qs.length = es.length → mergeD ks ds qs es = (ks ++ qs, ds ++ es)
  | [], ks, [], ds, _, _ => by simp [mergeD]
  | q :: qs, ks, e :: es, ds, nd, hl => by
    have hn : ¬ q ∈ ks := fun m => (List.nodup_append.mp nd).2.2 q m q List.mem_cons_self rfl
    have e1 : putKs ks q = ks ++ [q] := by unfold putKs; rw [if_neg hn]
    have e2 : putDs ks ds q e = ds ++ [e] := by unfold putDs; rw [if_neg hn]
    show mergeD (putKs ks q) (putDs ks ds q e) qs es = _
    rw [e1, e2, merge_new qs (ks ++ [q]) es (ds ++ [e]) (by simpa using nd) (by simpa using hl)]
    simp
  | [], _, _ :: _, _, _, h => by simp at h
  | _ :: _, _, [], _, _, h => by simp at h
theorem nodup_inr {l : List Str} (h : l.Nodup) : (l.map (Sum.inr : Str → Key)).Nodup := by
  induction l with
  | nil => exact List.nodup_nil
  | cons a l ih =>
    have h' := List.nodup_cons.mp h
    refine List.nodup_cons.mpr ⟨fun m => ?_, ih h'.2⟩
    obtain ⟨y, h1, h2⟩ := List.mem_map.mp m
    cases h2
    exact h'.1 h1
theorem dict_rows {R : Rows} (ok : RowsOk R) : dDict (.nd .lst (R.map pairD)) = some (dictD R) := by
  show (pairsD (R.map pairD)).map (fun p => D.nd (.dK (mergeD [] [] p.1 p.2).1) (mergeD [] [] p.1 p.2).2) = _
  rw [pairs_rows, Option.map_some, merge_new _ [] _ [] (by simpa using nodup_inr ok.nd) (by simp [nms])]
  rfl
def nE (R : Rows) (nm : Str) (found : List Str) (t m o : Option S) : En := [some (.f (coursesD R)), some (.f (.str nm)), some (.f (dictD R)), some (.f (lD found)), t, m, o]
theorem more_run {R : Rows} (ok : RowsOk R) (nm : Str) (found : List Str) (t : Option S) : ∀ (l m : List Str) (o : Option S), (∀ x ∈ l, x ∈ nms R) → m.length + 10 * l.length ≤ 10000 → ∃ o', forL (hName 6) (sSet 5 (sBin dPlus (sVar 5) (s1 dList (sBin dIx (sVar 2) (sVar 6))))) (nD l) (nE R nm found t (some (.f (lD m))) o) = .ok .nx (nE R nm found t (some (.f (lD (m ++ more R l)))) o')
  | [], m, o, _, _ => ⟨o, by simp [more]; rfl⟩
  | x :: l, m, o, h, hl => by
    rw [List.length_cons] at hl
    have h10 := nb_few ok x
    obtain ⟨o', e⟩ := more_run ok nm found t l (m ++ nb R x) (some (.f (.str x))) (fun y hy => h y (List.mem_cons_of_mem _ hy)) (by rw [List.length_append]; omega)
    refine ⟨o', ?_⟩
    have e1 := ix_needs (h x List.mem_cons_self)
    have e2 : sSet 5 (sBin dPlus (sVar 5) (s1 dList (sBin dIx (sVar 2) (sVar 6)))) (nE R nm found t (some (.f (lD m))) (some (.f (.str x)))) = .ok .nx (nE R nm found t (some (.f (lD (m ++ nb R x)))) (some (.f (.str x)))) := by
      have hz : m.length + (nb R x).length ≤ sizeLine := small (by omega)
      simp [nE, runF, argS, finF, outs, sSeq, sq, bnd, lift, sVar, sBor, sFrz, sMov, sC, sBin, sCmp, sChain, sTru, tru, sAndT, sOrT, sNotT, sAndV, sOrV, sNotV, sIf, sNil, sCons, sMk, s1, sN, sNx, sDrop, sRet, sRetO, sIfS, sSet, sSetO, sAsg, sPut, ownD, chg, ownL, isLst, sMeth, sIxV, bor, sCall, sCallO, sCallI, sCallIO, dGt, cmpI, dMod, dDiv, dMul, dPlus, dAdd, dSub, dNeg, dLen', dLen, sSlc, sSlcV, sPt, sNoPt, sIt, itD, sRg, rg1, hName, hTup, hCons, hNil, sFor, List.replicate, sPar2, pO, pF, pNil, noB, sIsiV, isTy, tyN, isA, sCmpV, sz0, sz1, sz2, sz3, sz4, sz5, e1, dList, dCat, hz]
    rw [show nD (x :: l) = .str x :: nD l from rfl]
    conv => lhs; unfold forL
    rw [show hName 6 (.str x) (nE R nm found t (some (.f (lD m))) o) = some (nE R nm found t (some (.f (lD m))) (some (.f (.str x)))) from rfl]
    dsimp only
    rw [e2]
    dsimp only
    rw [e]
    simp [more]
abbrev turnB : En → R Fl := sSeq (sSet 5 (s1 dList (sBor 3))) (sSeq (sFor (sIt (sVar 3)) (hName 6) (sSet 5 (sBin dPlus (sVar 5) (s1 dList (sBin dIx (sVar 2) (sVar 6)))))) (sSet 3 (s1 dSortSet (sBor 5))))
theorem more_ok {R : Rows} (ok : RowsOk R) {l : List Str} (h : ∀ x ∈ l, x ∈ nms R) : NmsOk (l ++ more R l) := fun x m => by
  rcases List.mem_append.mp m with m | m
  · exact ok.ok x (h x m)
  · obtain ⟨y, _, hy⟩ := List.mem_flatMap.mp m
    exact nb_ok ok y x hy
theorem more_len {R : Rows} (ok : RowsOk R) : ∀ l : List Str, (more R l).length ≤ 10 * l.length
  | [] => Nat.le_refl _
  | x :: l => by
    have ih := more_len ok l
    have := nb_few ok x
    have : more R (x :: l) = nb R x ++ more R l := by simp [more]
    rw [this, List.length_append, List.length_cons]
    omega
theorem turn_run {R : Rows} (ok : RowsOk R) (nm : Str) {found : List Str} (t m o : Option S) (h : ∀ x ∈ found, x ∈ nms R) (hl : found.length ≤ 10) : ∃ m' o', turnB (nE R nm found t m o) = .ok .nx (nE R nm (turn R found) t m' o') := by
  obtain ⟨o', e⟩ := more_run ok nm found t found found o h (by omega)
  have ml := more_len ok found
  have e0 : sSet 5 (s1 dList (sBor 3)) (nE R nm found t m o) = .ok .nx (nE R nm found t (some (.f (lD found))) o) := by simp [nE, runF, argS, finF, outs, sSeq, sq, bnd, lift, sVar, sBor, sFrz, sMov, sC, sBin, sCmp, sChain, sTru, tru, sAndT, sOrT, sNotT, sAndV, sOrV, sNotV, sIf, sNil, sCons, sMk, s1, sN, sNx, sDrop, sRet, sRetO, sIfS, sSet, sSetO, sAsg, sPut, ownD, chg, ownL, isLst, sMeth, sIxV, bor, sCall, sCallO, sCallI, sCallIO, dGt, cmpI, dMod, dDiv, dMul, dPlus, dAdd, dSub, dNeg, dLen', dLen, sSlc, sSlcV, sPt, sNoPt, sIt, itD, sRg, rg1, hName, hTup, hCons, hNil, sFor, List.replicate, sPar2, pO, pF, pNil, noB, sIsiV, isTy, tyN, isA, sCmpV, sz0, sz1, sz2, sz3, sz4, sz5, dList]
  have e3 := sortSet_names (k := .lst) (.inl rfl) (more_ok ok h) (show (found ++ more R found).length + 1 < scanBound by rw [List.length_append]; exact Nat.lt_of_le_of_lt (show _ ≤ 111 by omega) (by decide))
  refine ⟨some (.f (lD (found ++ more R found))), o', (seq_ok e0).trans ((seq_ok (ρ1 := nE R nm found t (some (.f (lD (found ++ more R found)))) o') ?_).trans ?_)⟩
  · exact e
  · simp [nE, runF, argS, finF, outs, sSeq, sq, bnd, lift, sVar, sBor, sFrz, sMov, sC, sBin, sCmp, sChain, sTru, tru, sAndT, sOrT, sNotT, sAndV, sOrV, sNotV, sIf, sNil, sCons, sMk, s1, sN, sNx, sDrop, sRet, sRetO, sIfS, sSet, sSetO, sAsg, sPut, ownD, chg, ownL, isLst, sMeth, sIxV, bor, sCall, sCallO, sCallI, sCallIO, dGt, cmpI, dMod, dDiv, dMul, dPlus, dAdd, dSub, dNeg, dLen', dLen, sSlc, sSlcV, sPt, sNoPt, sIt, itD, sRg, rg1, hName, hTup, hCons, hNil, sFor, List.replicate, sPar2, pO, pF, pNil, noB, sIsiV, isTy, tyN, isA, sCmpV, sz0, sz1, sz2, sz3, sz4, sz5, e3, turn]
theorem turns_run {R : Rows} (ok : RowsOk R) (nm : Str) : ∀ (ds : List D) (n : Nat) (t m o : Option S), ∃ t' m' o', forL (hName 4) turnB ds (nE R nm (turns R nm n) t m o) = .ok .nx (nE R nm (turns R nm (n + ds.length)) t' m' o')
  | [], n, t, m, o => ⟨t, m, o, rfl⟩
  | d :: ds, n, t, m, o => by
    obtain ⟨m1, o1, e1⟩ := turn_run ok nm (found := turns R nm n) (some (.f d)) m o (turns_sub ok nm n) (turns_len ok nm n)
    obtain ⟨t', m', o', e2⟩ := turns_run ok nm ds (n + 1) (some (.f d)) m1 o1
    refine ⟨t', m', o', ?_⟩
    conv => lhs; unfold forL
    rw [show hName 4 d (nE R nm (turns R nm n) t m o) = some (nE R nm (turns R nm n) (some (.f d)) m o) from rfl]
    dsimp only
    rw [e1]
    dsimp only
    rw [show turn R (turns R nm n) = turns R nm (n + 1) from rfl, e2, List.length_cons, show n + 1 + ds.length = n + (ds.length + 1) by omega]
end Y

set_option Elab.async false
set_option linter.all false
set_option maxRecDepth 100000
set_option maxHeartbeats 4000000
namespace Y
open PySem PySem.Spec PyProof.Rows L2 PySem.W
/-! ### courses by draws -/
theorem of_ok {b : D} (h : BagOk b) {k : Kd} (hk : k = .lst ∨ k = .tup) {xs : List D} (h1 : xs ≠ []) (h2 : xs.length < 1000) : ∃ x b', fs__law_of [b, .nd k xs] = .val false x (some b') ∧ BagOk b' ∧ x ∈ xs := by
  have hp := List.length_pos_iff.mpr h1
  obtain ⟨r, b', e, hb, r0, r1⟩ := take_ok h (n := (xs.length : Int)) (by omega) (by omega)
  obtain ⟨j, rfl⟩ : ∃ j : Nat, r = (j : Int) := ⟨r.toNat, by omega⟩
  have hj : j < xs.length := by omega
  refine ⟨xs[j], b', ?_, hb, List.getElem_mem hj⟩
  rcases hk with rfl | rfl
  · simp [fs__law_of, m__law_of, runF, argS, finF, outs, sSeq, sq, bnd, lift, sVar, sBor, sFrz, sMov, sC, sBin, sCmp, sChain, sTru, tru, sAndT, sOrT, sNotT, sAndV, sOrV, sNotV, sIf, sNil, sCons, sMk, s1, sN, sNx, sDrop, sRet, sRetO, sIfS, sSet, sSetO, sAsg, sPut, ownD, chg, ownL, isLst, sMeth, sIxV, bor, sCall, sCallO, sCallI, sCallIO, gSetL, ixN, dIx, atI, dGt, cmpI, dMod, dDiv, dMul, dPlus, dAdd, dSub, dNeg, dLt, dLen', dLen, sSlc, sSlcV, sPt, sNoPt, sIt, itD, sRg, rg1, hName, hTup, hCons, hNil, sFor, List.replicate, sPar2, pO, pF, pNil, noB, sIsiV, isTy, tyN, isA, sCmpV, sz0, sz1, sz2, sz3, sz4, sz5, e, hj]
  · simp [fs__law_of, m__law_of, runF, argS, finF, outs, sSeq, sq, bnd, lift, sVar, sBor, sFrz, sMov, sC, sBin, sCmp, sChain, sTru, tru, sAndT, sOrT, sNotT, sAndV, sOrV, sNotV, sIf, sNil, sCons, sMk, s1, sN, sNx, sDrop, sRet, sRetO, sIfS, sSet, sSetO, sAsg, sPut, ownD, chg, ownL, isLst, sMeth, sIxV, bor, sCall, sCallO, sCallI, sCallIO, gSetL, ixN, dIx, atI, dGt, cmpI, dMod, dDiv, dMul, dPlus, dAdd, dSub, dNeg, dLt, dLen', dLen, sSlc, sSlcV, sPt, sNoPt, sIt, itD, sRg, rg1, hName, hTup, hCons, hNil, sFor, List.replicate, sPar2, pO, pF, pNil, noB, sIsiV, isTy, tyN, isA, sCmpV, sz0, sz1, sz2, sz3, sz4, sz5, e, hj]
def names10 : List Str := ["art", "bio", "chem", "dutch", "eng", "fin", "geo", "hist", "ital", "jazz"]
theorem names10_ok : NmsOk names10 := by
  have : (names10.all fun s => strG s) = true := by decide +kernel
  exact fun s h => List.all_eq_true.mp this s h
theorem names10_nd : names10.Nodup := by decide +kernel
def cE (b most names : D) (name at_ : Option S) (O : List Str) (fd : List D) (needs : Option S) : En := [some (.b b), some (.f most), some (.f names), name, at_, some (.o (lD O)), some (.o (.nd .lst fd)), needs]
theorem ins_run (most names : D) (at_ : Option S) (fd : List D) (needs : Option S) : ∀ (l O : List Str) (b : D) (name : Option S), BagOk b → O.length + l.length ≤ 1000 →
    ∃ b' O' name', forL (hName 3) (sDrop (sMeth 5 gInsert (sCons (sCallI 0 fs__law_take (sCons (sBin dPlus (s1 dLen' (sBor 5)) (sC (.int 1))) sNil)) (sCons (sVar 3) sNil)))) (nD l) (cE b most names name at_ O fd needs) = .ok .nx (cE b' most names name' at_ O' fd needs) ∧ BagOk b' ∧ O'.Perm (O ++ l)
  | [], O, b, name, hb, _ => ⟨b, O, name, rfl, hb, by rw [List.append_nil]⟩
  | x :: l, O, b, name, hb, hl => by
    rw [List.length_cons] at hl
    obtain ⟨r, b1, e, hb1, r0, r1⟩ := take_ok hb (n := (O.length : Int) + 1) (by omega) (by omega)
    obtain ⟨j, rfl⟩ : ∃ j : Nat, r = (j : Int) := ⟨r.toNat, by omega⟩
    obtain ⟨b', O', name', e2, hb', p⟩ := ins_run most names at_ fd needs l (O.take j ++ [x] ++ O.drop j) b1 (some (.f (.str x))) hb1 (by simp; omega)
    have st : sDrop (sMeth 5 gInsert (sCons (sCallI 0 fs__law_take (sCons (sBin dPlus (s1 dLen' (sBor 5)) (sC (.int 1))) sNil)) (sCons (sVar 3) sNil))) (cE b most names (some (.f (.str x))) at_ O fd needs) = .ok .nx (cE b1 most names (some (.f (.str x))) at_ (O.take j ++ [x] ++ O.drop j) fd needs) := by
      have c1 : O.length < sizeLine := Nat.lt_of_le_of_lt (show _ ≤ 1000 by omega) (by decide)
      have c2 : (j : Int) < 9223372036854775808 := by omega
      simp [cE, runF, argS, finF, outs, sSeq, sq, bnd, lift, sVar, sBor, sFrz, sMov, sC, sBin, sCmp, sChain, sTru, tru, sAndT, sOrT, sNotT, sAndV, sOrV, sNotV, sIf, sNil, sCons, sMk, s1, sN, sNx, sDrop, sRet, sRetO, sIfS, sSet, sSetO, sAsg, sPut, ownD, chg, ownL, isLst, sMeth, sIxV, bor, sCall, sCallO, sCallI, sCallIO, gSetL, ixN, dIx, atI, dGt, cmpI, dMod, dDiv, dMul, dPlus, dAdd, dSub, dNeg, dLt, dLen', dLen, sSlc, sSlcV, sPt, sNoPt, sIt, itD, sRg, rg1, hName, hTup, hCons, hNil, sFor, List.replicate, sPar2, pO, pF, pNil, noB, sIsiV, isTy, tyN, isA, sCmpV, sz0, sz1, sz2, sz3, sz4, sz5, e, gInsert, c1, c2, List.map_take, List.map_drop]
    refine ⟨b', O', name', ?_, hb', p.trans ?_⟩
    · rw [show nD (x :: l) = .str x :: nD l from rfl]
      conv => lhs; unfold forL
      rw [show hName 3 (.str x) (cE b most names name at_ O fd needs) = some (cE b most names (some (.f (.str x))) at_ O fd needs) from rfl]
      dsimp only
      rw [st]
      exact e2
    · have p1 : (O.take j ++ [x] ++ O.drop j).Perm (x :: O) := by
        have : (O.take j ++ [x] ++ O.drop j).Perm (x :: (O.take j ++ O.drop j)) := by
          rw [List.append_assoc]
          exact List.perm_middle
        rw [List.take_append_drop] at this
        exact this
      exact (p1.append_right l).trans List.perm_middle.symm
theorem eq0 (r : Int) : ∃ t, dEq (.int r) (.int 0) = some t := ⟨_, if_pos ⟨rfl, rfl⟩⟩
theorem pick_run (most names : D) (at_ : Option S) (O : List Str) (fd : List D) (needs : Option S) : ∀ (l : List Str) (b : D) (acc : List Str), BagOk b → acc.length + l.length ≤ 1000 →
    ∃ b' M, lcL (hName 3) (sBin dEq (sCallI 0 fs__law_take (sCons (sC (.int 4)) sNil)) (sC (.int 0))) (sVar 3) [3] (nD l) (cE b most names none at_ O fd needs) (nD acc) = .ok (lD (acc ++ M)) (cE b' most names none at_ O fd needs) ∧ BagOk b' ∧ List.Sublist M l
  | [], b, acc, hb, _ => ⟨b, [], by rw [List.append_nil]; rfl, hb, .slnil⟩
  | x :: l, b, acc, hb, hl => by
    rw [List.length_cons] at hl
    obtain ⟨r, b1, e, hb1, r0, r1⟩ := take_ok hb (n := 4) (by omega) (by omega)
    obtain ⟨t, et⟩ := eq0 r
    have e1 : sBin dEq (sCallI 0 fs__law_take (sCons (sC (.int 4)) sNil)) (sC (.int 0)) (cE b most names (some (.f (.str x))) at_ O fd needs) = .ok t (cE b1 most names (some (.f (.str x))) at_ O fd needs) := by
      simp [cE, runF, argS, finF, outs, sSeq, sq, bnd, lift, sVar, sBor, sFrz, sMov, sC, sBin, sCmp, sChain, sTru, tru, sAndT, sOrT, sNotT, sAndV, sOrV, sNotV, sIf, sNil, sCons, sMk, s1, sN, sNx, sDrop, sRet, sRetO, sIfS, sSet, sSetO, sAsg, sPut, ownD, chg, ownL, isLst, sMeth, sIxV, bor, sCall, sCallO, sCallI, sCallIO, gSetL, ixN, dIx, atI, dGt, cmpI, dMod, dDiv, dMul, dPlus, dAdd, dSub, dNeg, dLt, dLen', dLen, sSlc, sSlcV, sPt, sNoPt, sIt, itD, sRg, rg1, hName, hTup, hCons, hNil, sFor, List.replicate, sPar2, pO, pF, pNil, noB, sIsiV, isTy, tyN, isA, sCmpV, sz0, sz1, sz2, sz3, sz4, sz5, e, et]
    have go : lcL (hName 3) (sBin dEq (sCallI 0 fs__law_take (sCons (sC (.int 4)) sNil)) (sC (.int 0))) (sVar 3) [3] (nD (x :: l)) (cE b most names none at_ O fd needs) (nD acc) = (if t = true then lcL (hName 3) (sBin dEq (sCallI 0 fs__law_take (sCons (sC (.int 4)) sNil)) (sC (.int 0))) (sVar 3) [3] (nD l) (cE b1 most names none at_ O fd needs) (nD (acc ++ [x])) else lcL (hName 3) (sBin dEq (sCallI 0 fs__law_take (sCons (sC (.int 4)) sNil)) (sC (.int 0))) (sVar 3) [3] (nD l) (cE b1 most names none at_ O fd needs) (nD acc)) := by
      rw [show nD (x :: l) = .str x :: nD l from rfl]
      conv => lhs; unfold lcL
      rw [show hName 3 (.str x) (cE b most names none at_ O fd needs) = some (cE b most names (some (.f (.str x))) at_ O fd needs) from rfl]
      dsimp only
      rw [e1]
      cases t with
      | true =>
        have c : (nD acc).length < sizeLine := by rw [List.length_map]; exact Nat.lt_of_le_of_lt (show _ ≤ 1000 by omega) (by decide)
        simp only [noX, bnd, if_true]
        rw [show sVar 3 (cE b1 most names (some (.f (.str x))) at_ O fd needs) = .ok (.str x) (cE b1 most names (some (.f (.str x))) at_ O fd needs) from rfl]
        simp only [noX, bnd]
        rw [if_pos c, show nD (acc ++ [x]) = nD acc ++ [D.str x] by simp]
        rfl
      | false => rfl
    rw [go]
    cases t with
    | true =>
      obtain ⟨b', M, e2, hb', sm⟩ := pick_run most names at_ O fd needs l b1 (acc ++ [x]) hb1 (by simp; omega)
      exact ⟨b', x :: M, by rw [if_pos rfl, e2]; simp, hb', sm.cons_cons x⟩
    | false =>
      obtain ⟨b', M, e2, hb', sm⟩ := pick_run most names at_ O fd needs l b1 acc hb1 (by omega)
      exact ⟨b', M, by rw [if_neg Bool.false_ne_true, e2], hb', sm.cons x⟩
theorem cut_map (l : List Str) (lo hi : Option Int) : ∃ m, cutD (nD l) lo hi = nD m ∧ List.Sublist m l := by
  refine ⟨(l.drop (HT.sIx (nD l).length 0 lo)).take (HT.sIx (nD l).length (nD l).length hi - HT.sIx (nD l).length 0 lo), ?_, (List.take_sublist _ _).trans (List.drop_sublist _ _)⟩
  unfold cutD
  simp [List.map_take, List.map_drop]
theorem alikeAll_names : ∀ l m : List Str, alikeAll (pys (nD l)) (pys (nD m)) = true
  | [], _ => by simp [pys, alikeAll]
  | _ :: _, [] => by simp [pys, alikeAll]
  | a :: l, b :: m => by
    have ih := alikeAll_names l m
    show alikeAll (py (.str a) :: pys (nD l)) (py (.str b) :: pys (nD m)) = true
    simp only [alikeAll, ih, py, alike, Bool.and_true]
theorem py_row (r : Str × Int × List Str) : py (rowD r) = .tuple [.str r.1, .int r.2.1, .tuple (pys (nD r.2.2))] := by simp [rowD, py, pys]
theorem likeD_rows {R : Rows} (h1 : NmsOk (nms R)) (h2 : ∀ r ∈ R, NmsOk r.2.2) : likeD (R.map rowD) = true := by
  unfold likeD
  simp only [Bool.and_eq_true, Bool.or_eq_true, List.all_eq_true, List.mem_map]
  refine ⟨?_, ?_, .inl ?_⟩
  · rintro a ⟨r, _, rfl⟩ b ⟨r', _, rfl⟩
    rw [py_row, py_row]
    simp [alike, alikeAll, alikeAll_names]
  · rintro a ⟨r, hr, rfl⟩
    obtain ⟨d1, d2⟩ := dok_names (h2 r hr)
    have hs : strG r.1 = true := h1 r.1 (List.mem_map.mpr ⟨r, hr, rfl⟩)
    unfold dok
    rw [py_row]
    simp [rowD, okD, okDs, hs, d1, PyData.depth, PyData.depthAll, d2]
  · rintro a ⟨r, _, rfl⟩
    rfl
def srtR (R : Rows) : Rows := R.mergeSort fun a b => leD (rowD a) (rowD b)
theorem srtR_map (R : Rows) : (R.map rowD).mergeSort leD = (srtR R).map rowD := (sort_maps (r := fun a b => leD (rowD a) (rowD b)) (s := leD) rowD fun _ _ _ _ => rfl).symm
theorem srtR_perm (R : Rows) : (srtR R).Perm R := List.mergeSort_perm _ _
/-- what the draws have made so far -/
structure Made (O : List Str) (n : Nat) (R : Rows) : Prop where
  nm : nms R = O.take n
  nd : ∀ r ∈ R, List.Sublist r.2.2 r.2.2 ∧ r.2.2.length ≤ 10 ∧ ∀ s ∈ r.2.2, s ∈ O
theorem made_step (most names : D) (O : List Str) (R : Rows) (n : Nat) (b : D) (at_ needs : Option S) (hb : BagOk b) (hO : NmsOk O) (h10 : O.length ≤ 10) (hn : n < O.length) (m : Made O n R) :
    ∃ b' R' needs', (sSeq (sSet 7 (sLc (sIt (sSlcV 5 sNoPt (sPt (sVar 4)))) (hName 3) (sBin dEq (sCallI 0 fs__law_take (sCons (sC (.int 4)) sNil)) (sC (.int 0))) (sVar 3) [3])) (sDrop (sMeth 6 gAppend (sCons (sMk .tup (sCons (sIxV 5 (sVar 4)) (sCons (sCallI 0 fs__law_of (sCons (sMk .lst (sCons (sC (.int 1)) (sCons (sC (.int 2)) (sCons (sC (.int 3)) (sCons (sC (.int 5)) (sCons (sC (.int 9)) sNil)))))) sNil)) (sCons (s1 dTuple (s1 dSorted (sBor 7))) sNil)))) sNil)))) (cE b most names at_ (some (.f (.int (n : Int)))) O (R.map rowD) needs) = .ok .nx (cE b' most names none (some (.f (.int (n : Int)))) O (R'.map rowD) needs') ∧ BagOk b' ∧ Made O (n + 1) R' := by
  obtain ⟨cut, ec, sc⟩ := cut_map O none (some (n : Int))
  obtain ⟨b1, M, e1, hb1, sM⟩ := pick_run most names (some (.f (.int (n : Int)))) O (R.map rowD) needs cut b [] hb (by have := sc.length_le; simp; omega)
  obtain ⟨w, b2, e2, hb2, hw⟩ := of_ok hb1 (k := .lst) (.inl rfl) (xs := [.int 1, .int 2, .int 3, .int 5, .int 9]) (by simp) (by simp)
  obtain ⟨z, rfl⟩ : ∃ z : Int, w = .int z := by
    simp only [List.mem_cons, List.not_mem_nil, or_false] at hw
    rcases hw with rfl | rfl | rfl | rfl | rfl <;> exact ⟨_, rfl⟩
  have hM : ∀ s ∈ M, s ∈ O := fun s h => sc.subset (sM.subset h)
  have lM : M.length ≤ 10 := Nat.le_trans sM.length_le (Nat.le_trans sc.length_le h10)
  have lR : R.length ≤ 10 := by
    have := congrArg List.length m.nm
    rw [List.length_take] at this
    have : (nms R).length = R.length := List.length_map _
    omega
  refine ⟨b2, R ++ [(O[n], z, srt M)], some (.f (lD M)), ?_, hb2, ⟨?_, fun r hr => ?_⟩⟩
  · have s1' : sSet 7 (sLc (sIt (sSlcV 5 sNoPt (sPt (sVar 4)))) (hName 3) (sBin dEq (sCallI 0 fs__law_take (sCons (sC (.int 4)) sNil)) (sC (.int 0))) (sVar 3) [3]) (cE b most names at_ (some (.f (.int (n : Int)))) O (R.map rowD) needs) = .ok .nx (cE b1 most names none (some (.f (.int (n : Int)))) O (R.map rowD) (some (.f (lD M)))) := by
      have src : sIt (sSlcV 5 sNoPt (sPt (sVar 4))) (cE b most names at_ (some (.f (.int (n : Int)))) O (R.map rowD) needs) = .ok (nD cut) (cE b most names at_ (some (.f (.int (n : Int)))) O (R.map rowD) needs) := by
        have : dSlc (lD O) none (some (n : Int)) = some (lD cut) := by
          show some (D.nd .lst (cutD (nD O) none (some (n : Int)))) = _
          rw [ec]
        simp [cE, runF, argS, finF, outs, sSeq, sq, bnd, lift, sVar, sBor, sFrz, sMov, sC, sBin, sCmp, sChain, sTru, tru, sAndT, sOrT, sNotT, sAndV, sOrV, sNotV, sIf, sNil, sCons, sMk, s1, sN, sNx, sDrop, sRet, sRetO, sIfS, sSet, sSetO, sAsg, sPut, ownD, chg, ownL, isLst, sMeth, sIxV, bor, sCall, sCallO, sCallI, sCallIO, gSetL, ixN, dIx, atI, dGt, cmpI, dMod, dDiv, dMul, dPlus, dAdd, dSub, dNeg, dLt, dLen', dLen, sSlc, sSlcV, sPt, sNoPt, sIt, itD, sRg, rg1, hName, hTup, hCons, hNil, sFor, List.replicate, sPar2, pO, pF, pNil, noB, sIsiV, isTy, tyN, isA, sCmpV, sz0, sz1, sz2, sz3, sz4, sz5, this]
      unfold sSet sLc
      rw [src]
      simp only [bnd]
      rw [show wipeE [3] (cE b most names at_ (some (.f (.int (n : Int)))) O (R.map rowD) needs) = cE b most names none (some (.f (.int (n : Int)))) O (R.map rowD) needs from rfl]
      have e1' : lcL (hName 3) (sBin dEq (sCallI 0 fs__law_take (sCons (sC (.int 4)) sNil)) (sC (.int 0))) (sVar 3) [3] (nD cut) (cE b most names none (some (.f (.int (n : Int)))) O (R.map rowD) needs) [] = .ok (lD M) (cE b1 most names none (some (.f (.int (n : Int)))) O (R.map rowD) needs) := e1
      rw [e1']
      rfl
    refine (seq_ok s1').trans ?_
    have c1 : R.length < sizeLine := Nat.lt_of_le_of_lt (show _ ≤ 1000 by omega) (by decide)
    have c2 : dSorted (lD M) = some (lD (srt M)) := sortD_names (fun s h => hO s (hM s h)) (small (by omega))
    have c3 : dTuple (lD (srt M)) = some (tD (srt M)) := rfl
    have c4 : dIx (lD O) (.int (n : Int)) = some (.str O[n]) := by simp [runF, argS, finF, outs, sSeq, sq, bnd, lift, sVar, sBor, sFrz, sMov, sC, sBin, sCmp, sChain, sTru, tru, sAndT, sOrT, sNotT, sAndV, sOrV, sNotV, sIf, sNil, sCons, sMk, s1, sN, sNx, sDrop, sRet, sRetO, sIfS, sSet, sSetO, sAsg, sPut, ownD, chg, ownL, isLst, sMeth, sIxV, bor, sCall, sCallO, sCallI, sCallIO, gSetL, ixN, dIx, atI, dGt, cmpI, dMod, dDiv, dMul, dPlus, dAdd, dSub, dNeg, dLt, dLen', dLen, sSlc, sSlcV, sPt, sNoPt, sIt, itD, sRg, rg1, hName, hTup, hCons, hNil, sFor, List.replicate, sPar2, pO, pF, pNil, noB, sIsiV, isTy, tyN, isA, sCmpV, sz0, sz1, sz2, sz3, sz4, sz5, hn]
    simp [cE, runF, argS, finF, outs, sSeq, sq, bnd, lift, sVar, sBor, sFrz, sMov, sC, sBin, sCmp, sChain, sTru, tru, sAndT, sOrT, sNotT, sAndV, sOrV, sNotV, sIf, sNil, sCons, sMk, s1, sN, sNx, sDrop, sRet, sRetO, sIfS, sSet, sSetO, sAsg, sPut, ownD, chg, ownL, isLst, sMeth, sIxV, bor, sCall, sCallO, sCallI, sCallIO, dGt, cmpI, dMod, dDiv, dMul, dPlus, dAdd, dSub, dNeg, dLen', dLen, sSlc, sSlcV, sPt, sNoPt, sIt, itD, sRg, rg1, hName, hTup, hCons, hNil, sFor, List.replicate, sPar2, pO, pF, pNil, noB, sIsiV, isTy, tyN, isA, sCmpV, sz0, sz1, sz2, sz3, sz4, sz5, gAppend, c1, c2, c3, c4, e2, rowD]
  · rw [List.take_add_one, List.getElem?_eq_getElem hn]
    have : nms (R ++ [(O[n], z, srt M)]) = nms R ++ [O[n]] := by simp [nms]
    rw [this, m.nm]
    rfl
  · rcases List.mem_append.mp hr with hr | hr
    · exact m.nd r hr
    · rw [List.mem_singleton.mp hr]
      exact ⟨List.Sublist.refl _, by rw [show (O[n], z, srt M).2.2 = srt M from rfl, (srt_perm M).length_eq]; exact lM, fun s h => hM s ((srt_perm M).mem_iff.mp h)⟩
end Y

set_option Elab.async false
set_option linter.all false
set_option maxRecDepth 100000
set_option maxHeartbeats 4000000
namespace Y
open PySem PySem.Spec PyProof.Rows L2 PySem.W
abbrev madeB : En → R Fl := (sSeq (sSet 7 (sLc (sIt (sSlcV 5 sNoPt (sPt (sVar 4)))) (hName 3) (sBin dEq (sCallI 0 fs__law_take (sCons (sC (.int 4)) sNil)) (sC (.int 0))) (sVar 3) [3])) (sDrop (sMeth 6 gAppend (sCons (sMk .tup (sCons (sIxV 5 (sVar 4)) (sCons (sCallI 0 fs__law_of (sCons (sMk .lst (sCons (sC (.int 1)) (sCons (sC (.int 2)) (sCons (sC (.int 3)) (sCons (sC (.int 5)) (sCons (sC (.int 9)) sNil)))))) sNil)) (sCons (s1 dTuple (s1 dSorted (sBor 7))) sNil)))) sNil))))
theorem made_run (most names : D) (O : List Str) (hO : NmsOk O) (h10 : O.length ≤ 10) : ∀ (k n : Nat) (R : Rows) (b : D) (name at_ needs : Option S), n + k = O.length → BagOk b → Made O n R →
    ∃ b' R' name' at' needs', forL (hName 4) madeB ((List.range' n k).map fun i : Nat => D.int (i : Int)) (cE b most names name at_ O (R.map rowD) needs) = .ok .nx (cE b' most names name' at' O (R'.map rowD) needs') ∧ BagOk b' ∧ Made O O.length R'
  | 0, n, R, b, name, at_, needs, e, hb, m => ⟨b, R, name, at_, needs, rfl, hb, by rw [← e]; exact m⟩
  | k + 1, n, R, b, name, at_, needs, e, hb, m => by
    obtain ⟨b1, R1, nd1, e1, hb1, m1⟩ := made_step most names O R n b name needs hb hO h10 (by omega) m
    obtain ⟨b', R', name', at', needs', e2, hb', m'⟩ := made_run most names O hO h10 k (n + 1) R1 b1 none (some (.f (.int (n : Int)))) nd1 (by omega) hb1 m1
    refine ⟨b', R', name', at', needs', ?_, hb', m'⟩
    rw [List.range'_succ, List.map_cons]
    conv => lhs; unfold forL
    rw [show hName 4 (.int (n : Int)) (cE b most names name at_ O (R.map rowD) needs) = some (cE b most names name (some (.f (.int (n : Int)))) O (R.map rowD) needs) from rfl]
    dsimp only
    rw [show madeB (cE b most names name (some (.f (.int (n : Int)))) O (R.map rowD) needs) = _ from e1]
    exact e2
theorem rg_nat (n : Nat) : rgD 0 (n : Int) = (List.range' 0 n).map fun i : Nat => D.int (i : Int) := by
  unfold rgD
  rw [List.range_eq_range']
  have : ((n : Int) - 0).toNat = n := by omega
  rw [this]
  congr 1
  funext i
  simp
theorem rg1_nat {n : Nat} (h : n ≤ 1000000) : rg1 [.int (n : Int)] = some (rgD 0 (n : Int)) := by
  unfold rg1
  dsimp only
  rw [if_pos (by constructor <;> omega)]
theorem rg_ok {g : List D → Option (List D)} {f : En → R (List D)} {ρ ρ1 : En} {ds es : List D} (e : f ρ = .ok ds ρ1) (e2 : g ds = some es) : sRg g f ρ = .ok es ρ1 := by
  unfold sRg
  rw [e]
  show lift (g ds) ρ1 = _
  rw [e2]
  rfl
theorem s1_ok {g : D → Option D} {f : En → R D} {ρ ρ1 : En} {d d' : D} (e : f ρ = .ok d ρ1) (e2 : g d = some d') : s1 g f ρ = .ok d' ρ1 := by
  unfold s1
  rw [e]
  show lift (g d) ρ1 = _
  rw [e2]
  rfl
theorem one_ok {f : En → R D} {ρ ρ1 : En} {d : D} (e : f ρ = .ok d ρ1) : sCons f sNil ρ = .ok [d] ρ1 := by
  unfold sCons
  rw [e]
  rfl
theorem crg {b : D} {most : Int} {l O : List Str} {nm : Option S} (h : O.length ≤ 1000) : sRg rg1 (sCons (s1 dLen' (sBor 5)) sNil) (cE b (.int most) (lD l) nm none O [] none) = .ok ((List.range' 0 O.length).map fun i : Nat => D.int (i : Int)) (cE b (.int most) (lD l) nm none O [] none) := by
  rw [← rg_nat]
  have d2 : dLen' (lD O) = some (.int (O.length : Int)) := by simp [dLen', dLen]
  exact rg_ok (one_ok (s1_ok (d := lD O) rfl d2)) (rg1_nat (by omega))
theorem cf2 (b : D) (most : Int) (l : List Str) : sPar2 5 6 (pO (sMk .lst sNil) (pO (sMk .lst sNil) pNil)) [some (.b b), some (.f (.int most)), some (.f (lD l)), none, none, none, none, none] = .ok .nx (cE b (.int most) (lD l) none none [] [] none) := by
  simp [runF, argS, finF, outs, sSeq, sq, bnd, lift, sVar, sBor, sFrz, sMov, sC, sBin, sCmp, sChain, sTru, tru, sAndT, sOrT, sNotT, sAndV, sOrV, sNotV, sIf, sNil, sCons, sMk, s1, sN, sNx, sDrop, sRet, sRetO, sIfS, sSet, sSetO, sAsg, sPut, ownD, chg, ownL, isLst, sMeth, sIxV, bor, sCall, sCallO, sCallI, sCallIO, dGt, cmpI, dMod, dDiv, dMul, dPlus, dAdd, dSub, dNeg, dLen', dLen, sSlc, sSlcV, sPt, sNoPt, sIt, itD, sRg, rg1, hName, hTup, hCons, hNil, sFor, List.replicate, sPar2, pO, pF, pNil, noB, sIsiV, isTy, tyN, isA, sCmpV, sz0, sz1, sz2, sz3, sz4, sz5, cE]
theorem cf5 {b : D} {most : Int} {l O : List Str} {R : Rows} {nm3 at3 nd3 : Option S} (c1 : dSorted (.nd .lst (R.map rowD)) = some (.nd .lst ((srtR R).map rowD))) : sRet (s1 dTuple (s1 dSorted (sBor 6))) (cE b (.int most) (lD l) nm3 at3 O (R.map rowD) nd3) = .ok (.rt (coursesD (srtR R))) (cE b (.int most) (lD l) nm3 at3 O (R.map rowD) nd3) := by
  have c2 : dTuple (.nd .lst ((srtR R).map rowD)) = some (coursesD (srtR R)) := rfl
  have e : s1 dTuple (s1 dSorted (sBor 6)) (cE b (.int most) (lD l) nm3 at3 O (R.map rowD) nd3) = .ok (coursesD (srtR R)) (cE b (.int most) (lD l) nm3 at3 O (R.map rowD) nd3) := s1_ok (s1_ok (f := sBor 6) (d := .nd .lst (R.map rowD)) rfl c1) c2
  unfold sRet
  rw [e]
  rfl
theorem courses_ok2 {b : D} (hb : BagOk b) {most : Int} (h0 : 0 ≤ most) (h1 : most ≤ 100) : ∃ R b', fs__law_courses [b, .int most] = .val false (coursesD R) (some b') ∧ BagOk b' ∧ RowsOk R ∧ ∀ s ∈ nms R, s ∈ names10 := by
  obtain ⟨r, b1, e, hb1, r0, r1⟩ := take_ok hb (n := most + 1) (by omega) (by omega)
  obtain ⟨l, el, sl⟩ := cut_map names10 none (some r)
  have ll : l.length ≤ 10 := sl.length_le
  obtain ⟨b2, O, name2, e2, hb2, p⟩ := ins_run (.int most) (lD l) none [] none l [] b1 none hb1 (by simp; omega)
  rw [List.nil_append] at p
  have hO : NmsOk O := fun s h => names10_ok s (sl.subset (p.mem_iff.mp h))
  have lO : O.length ≤ 10 := by rw [p.length_eq]; exact ll
  obtain ⟨b3, R, nm3, at3, nd3, e3, hb3, m⟩ := made_run (.int most) (lD l) O hO lO O.length 0 [] b2 name2 none none (by omega) hb2 ⟨rfl, fun r h => by cases h⟩
  have nR : nms R = O := by rw [m.nm, List.take_length]
  have lR : R.length ≤ 10 := by
    have : (nms R).length = R.length := List.length_map _
    rw [nR] at this; omega
  have pn : (nms (srtR R)).Perm O := by rw [← nR]; exact (srtR_perm R).map _
  refine ⟨srtR R, b3, ?_, hb3, ⟨?_, ?_, fun s h => hO s (pn.mem_iff.mp h), fun r hr s h => pn.mem_iff.mpr ((m.nd r ((srtR_perm R).mem_iff.mp hr)).2.2 s h), fun r hr => (m.nd r ((srtR_perm R).mem_iff.mp hr)).2.1⟩, fun s h => sl.subset (p.mem_iff.mp (pn.mem_iff.mp h))⟩
  · have f1 : sSet 2 (sSlc (sMk .lst (sCons (sC (.str "art")) (sCons (sC (.str "bio")) (sCons (sC (.str "chem")) (sCons (sC (.str "dutch")) (sCons (sC (.str "eng")) (sCons (sC (.str "fin")) (sCons (sC (.str "geo")) (sCons (sC (.str "hist")) (sCons (sC (.str "ital")) (sCons (sC (.str "jazz")) sNil))))))))))) sNoPt (sPt (sCallI 0 fs__law_take (sCons (sBin dPlus (sVar 1) (sC (.int 1))) sNil)))) [some (.b b), some (.f (.int most)), none, none, none, none, none, none] = .ok .nx [some (.b b1), some (.f (.int most)), some (.f (lD l)), none, none, none, none, none] := by
      have g : sMk .lst (sCons (sC (.str "art")) (sCons (sC (.str "bio")) (sCons (sC (.str "chem")) (sCons (sC (.str "dutch")) (sCons (sC (.str "eng")) (sCons (sC (.str "fin")) (sCons (sC (.str "geo")) (sCons (sC (.str "hist")) (sCons (sC (.str "ital")) (sCons (sC (.str "jazz")) sNil)))))))))) [some (.b b), some (.f (.int most)), none, none, none, none, none, none] = .ok (lD names10) [some (.b b), some (.f (.int most)), none, none, none, none, none, none] := by
        have g2 : sCons (sC (.str "art")) (sCons (sC (.str "bio")) (sCons (sC (.str "chem")) (sCons (sC (.str "dutch")) (sCons (sC (.str "eng")) (sCons (sC (.str "fin")) (sCons (sC (.str "geo")) (sCons (sC (.str "hist")) (sCons (sC (.str "ital")) (sCons (sC (.str "jazz")) sNil))))))))) [some (.b b), some (.f (.int most)), none, none, none, none, none, none] = .ok (nD names10) [some (.b b), some (.f (.int most)), none, none, none, none, none, none] := rfl
        unfold sMk
        rw [g2]
        show lift (if (nD names10).length ≤ sizeLine then some (D.nd .lst (nD names10)) else none) _ = _
        rw [if_pos (show (nD names10).length ≤ sizeLine by rw [List.length_map]; exact small (by decide))]
        rfl
      have g3 : dSlc (lD names10) none (some r) = some (lD l) := by
        show some (D.nd .lst (cutD (nD names10) none (some r))) = _
        rw [el]
      unfold sSet sSlc
      rw [g]
      simp [runF, argS, finF, outs, sSeq, sq, bnd, lift, sVar, sBor, sFrz, sMov, sC, sBin, sCmp, sChain, sTru, tru, sAndT, sOrT, sNotT, sAndV, sOrV, sNotV, sIf, sNil, sCons, sMk, s1, sN, sNx, sDrop, sRet, sRetO, sIfS, sSet, sSetO, sAsg, sPut, ownD, chg, ownL, isLst, sMeth, sIxV, bor, sCall, sCallO, sCallI, sCallIO, dGt, cmpI, dMod, dDiv, dMul, dPlus, dAdd, dSub, dNeg, dLen', dLen, sSlc, sSlcV, sPt, sNoPt, sIt, itD, sRg, rg1, hName, hTup, hCons, hNil, sFor, List.replicate, sPar2, pO, pF, pNil, noB, sIsiV, isTy, tyN, isA, sCmpV, sz0, sz1, sz2, sz3, sz4, sz5, e, g3]
    have f2 := cf2 b1 most l
    have c1 : dSorted (.nd .lst (R.map rowD)) = some (.nd .lst ((srtR R).map rowD)) := by
      show sortD (R.map rowD) = _
      unfold sortD
      rw [if_pos ⟨likeD_rows (by rw [nR]; exact hO) (fun r hr s h => hO s ((m.nd r hr).2.2 s h)), by rw [List.length_map]; exact small (by omega)⟩, srtR_map]
    have f5 := cf5 (b := b3) (most := most) (l := l) (O := O) (nm3 := nm3) (at3 := at3) (nd3 := nd3) c1
    have src : sIt (sVar 2) (cE b1 (.int most) (lD l) none none [] [] none) = .ok (nD l) (cE b1 (.int most) (lD l) none none [] [] none) := rfl
    have rg := crg (b := b2) (most := most) (l := l) (nm := name2) (show O.length ≤ 1000 by omega)
    have ee : m__law_courses [some (.b b), some (.f (.int most)), none, none, none, none, none, none] = .ok (.rt (coursesD (srtR R))) (cE b3 (.int most) (lD l) nm3 at3 O (R.map rowD) nd3) := by
      unfold m__law_courses
      refine (seq_ok f1).trans ((seq_ok f2).trans ((seq_ok (ρ1 := cE b2 (.int most) (lD l) name2 none O [] none) ?_).trans ((seq_ok (ρ1 := cE b3 (.int most) (lD l) nm3 at3 O (R.map rowD) nd3) ?_).trans f5)))
      · unfold sFor
        rw [src]
        exact e2
      · unfold sFor
        rw [rg]
        exact e3
    show finF true (m__law_courses _) = _
    rw [show (argS true [b, .int most] ++ List.replicate (8 - 2) none : En) = [some (.b b), some (.f (.int most)), none, none, none, none, none, none] from rfl, ee]
    rfl
  · exact pn.nodup_iff.mpr (p.nodup_iff.mpr (names10_nd.sublist sl))
  · rw [(srtR_perm R).length_eq]; exact lR
theorem courses_ok {b : D} (hb : BagOk b) {most : Int} (h0 : 0 ≤ most) (h1 : most ≤ 100) : ∃ R b', fs__law_courses [b, .int most] = .val false (coursesD R) (some b') ∧ BagOk b' ∧ RowsOk R := by
  obtain ⟨R, b', e, hb', ok, _⟩ := courses_ok2 hb h0 h1
  exact ⟨R, b', e, hb', ok⟩
end Y

set_option Elab.async false
set_option linter.all false
set_option maxRecDepth 100000
set_option maxHeartbeats 4000000
/-! what every law wants: steps, loops, draws, names -/
namespace Y
open PySem PySem.Spec PyProof.Rows L2 PySem.W
theorem bin_ok {α : Type} {g : D → D → Option α} {a b : En → R D} {ρ ρ1 ρ2 : En} {x y : D} {d : α} (e1 : a ρ = .ok x ρ1) (e2 : b ρ1 = .ok y ρ2) (e3 : g x y = some d) : sBin g a b ρ = .ok d ρ2 := by
  unfold sBin
  rw [e1]
  show bnd (b ρ1) (fun y ρ2 => lift (g x y) ρ2) = _
  rw [e2]
  show lift (g x y) ρ2 = _
  rw [e3]
  rfl
theorem set_none {ρ : En} {i : Nat} (h : ρ[i]? = some none) : ρ.set i none = ρ := by
  obtain ⟨h1, h2⟩ := List.getElem?_eq_some_iff.mp h
  rw [← h2]
  exact List.set_getElem_self h1
theorem wipe_back {ρ : En} {i : Nat} {x : Option S} (h : ρ[i]? = some none) : wipeE [i] (ρ.set i x) = ρ := by
  show (ρ.set i x).set i none = ρ
  rw [List.set_set, set_none h]
theorem var_set {ρ : En} {i : Nat} {d : D} (h : ρ[i]? = some none) : sVar i (ρ.set i (some (.f d))) = .ok d (ρ.set i (some (.f d))) := by
  have hi := (List.getElem?_eq_some_iff.mp h).1
  unfold sVar
  rw [List.getElem?_set_self hi]
theorem lc_map {i : Nat} {e : En → R D} {p : D → D} {ρ : En} (h : ρ[i]? = some none) : ∀ (ds acc : List D), (∀ d ∈ ds, e (ρ.set i (some (.f d))) = .ok (p d) (ρ.set i (some (.f d)))) → acc.length + ds.length ≤ 100000 → lcL (hName i) sYes e [i] ds ρ acc = .ok (.nd .lst (acc ++ ds.map p)) ρ
  | [], acc, _, _ => by rw [List.map_nil, List.append_nil]; rfl
  | d :: ds, acc, he, hl => by
    rw [List.length_cons] at hl
    have ih := lc_map h ds (acc ++ [p d]) (fun x hx => he x (List.mem_cons_of_mem _ hx)) (by rw [List.length_append, List.length_singleton]; omega)
    conv => lhs; unfold lcL
    rw [show hName i d ρ = some (ρ.set i (some (.f d))) from rfl]
    simp only [sYes, noX, bnd, if_true, he d List.mem_cons_self]
    rw [if_pos (Nat.lt_of_le_of_lt (show acc.length ≤ 100000 by omega) (by decide)), wipe_back h, ih]
    simp
theorem lc_filt {i : Nat} {t : En → R Bool} {q : D → Bool} {ρ : En} (h : ρ[i]? = some none) : ∀ (ds acc : List D), (∀ d ∈ ds, t (ρ.set i (some (.f d))) = .ok (q d) (ρ.set i (some (.f d)))) → acc.length + ds.length ≤ 100000 → lcL (hName i) t (sVar i) [i] ds ρ acc = .ok (.nd .lst (acc ++ ds.filter q)) ρ
  | [], acc, _, _ => by rw [List.filter_nil, List.append_nil]; rfl
  | d :: ds, acc, he, hl => by
    rw [List.length_cons] at hl
    have hr := fun x hx => he x (List.mem_cons_of_mem d hx)
    conv => lhs; unfold lcL
    rw [show hName i d ρ = some (ρ.set i (some (.f d))) from rfl]
    simp only [noX, bnd, he d List.mem_cons_self]
    cases hq : q d with
    | true =>
      have ih := lc_filt h ds (acc ++ [d]) hr (by rw [List.length_append, List.length_singleton]; omega)
      simp only [if_true, var_set h, noX, bnd]
      rw [if_pos (Nat.lt_of_le_of_lt (show acc.length ≤ 100000 by omega) (by decide)), wipe_back h, ih, List.filter_cons, if_pos hq]
      simp
    | false =>
      have ih := lc_filt h ds acc hr (by omega)
      simp only [Bool.false_eq_true, if_false]
      rw [wipe_back h, ih, List.filter_cons, if_neg (by rw [hq]; exact Bool.false_ne_true)]
theorem sLc_ok {src : En → R (List D)} {g : D → En → Option En} {t : En → R Bool} {e : En → R D} {vs : List Nat} {ρ ρ1 ρ2 : En} {ds : List D} {d : D} (h1 : src ρ = .ok ds ρ1) (hw : wipeE vs ρ1 = ρ1) (h2 : lcL g t e vs ds ρ1 [] = .ok d ρ2) : sLc src g t e vs ρ = .ok d ρ2 := by
  unfold sLc
  rw [h1]
  show lcL g t e vs ds (wipeE vs ρ1) [] = _
  rw [hw]
  exact h2
theorem bls_map (p : D → Bool) : ∀ ds : List D, blsD (ds.map fun d => D.bl (p d)) = some (ds.map p)
  | [] => rfl
  | d :: ds => by
    rw [List.map_cons, List.map_cons]
    unfold blsD
    rw [bls_map p ds]
    rfl
theorem all_map (p : D → Bool) (ds : List D) : dAll (.nd .lst (ds.map fun d => D.bl (p d))) = some (.bl (ds.all p)) := by
  show (blsD (ds.map fun d => D.bl (p d))).map (fun bs => D.bl (bs.all id)) = _
  rw [bls_map]
  simp
theorem dEq_nil {xs : List D} (h : dok (.nd .lst xs) = true) : dEq (.nd .lst xs) (.nd .lst []) = some xs.isEmpty := by
  unfold dEq
  rw [if_pos ⟨h, rfl⟩]
  cases xs <;> simp [py, pys, PyData.eqv, PyData.eqvAll]
theorem dNe_nil {xs : List D} (h : dok (.nd .lst xs) = true) : dNe (.nd .lst xs) (.nd .lst []) = some (!xs.isEmpty) := by
  unfold dNe
  rw [if_pos ⟨h, rfl⟩]
  cases xs <;> simp [py, pys, PyData.eqv, PyData.eqvAll]
theorem filter_none (q : D → Bool) (ds : List D) : (ds.filter q).isEmpty = ds.all fun d => !q d := by
  induction ds with
  | nil => rfl
  | cons d ds ih =>
    rw [List.filter_cons]
    cases h : q d <;> simp [h, ih]
theorem ret_ok {f : En → R D} {ρ ρ1 : En} {d : D} (e : f ρ = .ok d ρ1) : sRet f ρ = .ok (.rt d) ρ1 := by
  unfold sRet
  rw [e]
  rfl
theorem if_yes {t : En → R Bool} {a b : En → R Fl} {ρ ρ1 : En} (e : t ρ = .ok true ρ1) : sIfS t a b ρ = a ρ1 := by
  unfold sIfS
  rw [e]
  rfl
theorem if_no {t : En → R Bool} {a b : En → R Fl} {ρ ρ1 : En} (e : t ρ = .ok false ρ1) : sIfS t a b ρ = b ρ1 := by
  unfold sIfS
  rw [e]
  rfl
theorem or_no {t u : En → R Bool} {ρ ρ1 ρ2 : En} {b : Bool} (e : t ρ = .ok false ρ1) (e2 : u ρ1 = .ok b ρ2) : sOrT t u ρ = .ok b ρ2 := by
  unfold sOrT
  rw [e]
  exact e2
theorem or_yes {t u : En → R Bool} {ρ ρ1 : En} (e : t ρ = .ok true ρ1) : sOrT t u ρ = .ok true ρ1 := by
  unfold sOrT
  rw [e]
  rfl
theorem not_ok {t : En → R Bool} {ρ ρ1 : En} {b : Bool} (e : t ρ = .ok b ρ1) : sNotT t ρ = .ok (!b) ρ1 := by
  unfold sNotT
  rw [e]
  rfl
theorem tru_ok {f : En → R D} {ρ ρ1 : En} {b : Bool} (e : f ρ = .ok (.bl b) ρ1) : sTru f ρ = .ok b ρ1 := by
  unfold sTru
  rw [e]
  rfl
theorem n_ok {g : List D → Option D} {f : En → R (List D)} {ρ ρ1 : En} {ds : List D} {d : D} (e : f ρ = .ok ds ρ1) (e2 : g ds = some d) : sN g f ρ = .ok d ρ1 := by
  unfold sN
  rw [e]
  show lift (g ds) ρ1 = _
  rw [e2]
  rfl
theorem fin_ok {m : En → R Fl} {np n : Nat} {ds : List D} {ρ : En} {d : D} (hl : ds.length = np) (e : m (argS false ds ++ List.replicate (n - np) none) = .ok (.rt d) ρ) : runF false np n m ds = .val false d none := by
  unfold runF
  rw [if_pos hl, e]
  rfl
theorem okDs_of {xs : List D} {n : Nat} (h : ∀ x ∈ xs, okD x = true ∧ (py x).depth ≤ n) : okDs xs = true ∧ PyData.depthAll (pys xs) ≤ n := by
  induction xs with
  | nil => exact ⟨rfl, Nat.zero_le _⟩
  | cons a xs ih =>
    obtain ⟨h1, h2⟩ := ih fun x m => h x (List.mem_cons_of_mem _ m)
    obtain ⟨a1, a2⟩ := h a List.mem_cons_self
    constructor
    · show (okD a && okDs xs) = true
      rw [a1, h1]; rfl
    · show max (PyData.depth (py a)) (PyData.depthAll (pys xs)) ≤ n
      exact Nat.max_le.mpr ⟨a2, h2⟩
theorem lc_mapG {g : D → En → Option En} {e : En → R D} {vs : List Nat} {p : D → D} {ρ : En} : ∀ (ds acc : List D), (∀ d ∈ ds, ∃ ρ1 ρ2, g d ρ = some ρ1 ∧ e ρ1 = .ok (p d) ρ2 ∧ wipeE vs ρ2 = ρ) → acc.length + ds.length ≤ 100000 → lcL g sYes e vs ds ρ acc = .ok (.nd .lst (acc ++ ds.map p)) ρ
  | [], acc, _, _ => by rw [List.map_nil, List.append_nil]; rfl
  | d :: ds, acc, he, hl => by
    rw [List.length_cons] at hl
    have ih := lc_mapG ds (acc ++ [p d]) (fun x hx => he x (List.mem_cons_of_mem _ hx)) (by rw [List.length_append, List.length_singleton]; omega)
    obtain ⟨ρ1, ρ2, h1, h2, h3⟩ := he d List.mem_cons_self
    conv => lhs; unfold lcL
    rw [h1]
    simp only [sYes, noX, bnd, if_true, h2]
    rw [if_pos (Nat.lt_of_le_of_lt (show acc.length ≤ 100000 by omega) (by decide)), h3, ih]
    simp
theorem cut1 (xs : List D) : cutD xs (some 1) none = xs.drop 1 := by
  unfold cutD
  have h1 : HT.sIx xs.length 0 (some 1) = min 1 xs.length := HT.sIx_nat _ _ 1
  have h2 : HT.sIx xs.length xs.length none = xs.length := rfl
  rw [h1, h2]
  cases xs with
  | nil => rfl
  | cons a xs =>
    have : min 1 (a :: xs).length = 1 := by rw [List.length_cons]; omega
    rw [this]
    simp
theorem dEq_ints (a b : Nat) : dEq (.int (a : Int)) (.int (b : Int)) = some (decide (a = b)) := by
  unfold dEq
  rw [if_pos ⟨rfl, rfl⟩]
  simp only [py, PyData.eqv]
  by_cases h : a = b
  · subst h; simp
  · have : ((a : Int) == (b : Int)) = false := by rw [beq_eq_false_iff_ne]; omega
    rw [this, decide_eq_false h]
theorem dNe_ints (a b : Nat) : dNe (.int (a : Int)) (.int (b : Int)) = some (!decide (a = b)) := by
  have h := dEq_ints a b
  unfold dEq at h
  unfold dNe
  rw [if_pos ⟨rfl, rfl⟩] at h ⊢
  rw [Option.some.inj h]
theorem len_nd {k : Kd} (hk : k = .lst ∨ k = .tup) (xs : List D) : dLen' (.nd k xs) = some (.int (xs.length : Int)) := by rcases hk with rfl | rfl <;> rfl
theorem and_no {a b : En → R D} {ρ ρ1 : En} (e : a ρ = .ok (.bl false) ρ1) : sAndV a b ρ = .ok (.bl false) ρ1 := by
  unfold sAndV
  rw [e]
  rfl
theorem and_yes {a b : En → R D} {ρ ρ1 ρ2 : En} {d : D} (e : a ρ = .ok (.bl true) ρ1) (e2 : b ρ1 = .ok d ρ2) : sAndV a b ρ = .ok d ρ2 := by
  unfold sAndV
  rw [e]
  exact e2
theorem out_no {t : En → R Bool} {b : En → R Fl} {ρ ρ1 : En} (e : t ρ = .ok true ρ1) : sSeq (sIfS t (sRet (sC (.bl false))) sNx) b ρ = .ok (.rt (.bl false)) ρ1 := by
  unfold sSeq
  rw [if_yes e]
  rfl
theorem out_go {t : En → R Bool} {b : En → R Fl} {ρ ρ1 : En} (e : t ρ = .ok false ρ1) : sSeq (sIfS t (sRet (sC (.bl false))) sNx) b ρ = b ρ1 := seq_ok ((if_no e).trans rfl)
theorem call_ok {fs : List D → FO} {f : En → R (List D)} {ρ ρ1 : En} {ds : List D} {o : Bool} {d : D} {x : Option D} (e : f ρ = .ok ds ρ1) (e2 : fs ds = .val o d x) : sCall fs f ρ = .ok d ρ1 := by
  unfold sCall
  rw [e]
  show (match fs ds with | .val _ d _ => R.ok d ρ1 | _ => .bad) = _
  rw [e2]
theorem cons_ok {f : En → R D} {g : En → R (List D)} {ρ ρ1 ρ2 : En} {d : D} {ds : List D} (e : f ρ = .ok d ρ1) (e2 : g ρ1 = .ok ds ρ2) : sCons f g ρ = .ok (d :: ds) ρ2 := by
  unfold sCons
  rw [e]
  show bnd (g ρ1) (fun ds ρ2 => R.ok (d :: ds) ρ2) = _
  rw [e2]
  rfl
theorem set_call {i : Nat} {f : En → R D} {ρ ρ1 : En} {d : D} (e : f ρ = .ok d ρ1) : sSet i f ρ = .ok .nx (ρ1.set i (some (.f d))) := by
  unfold sSet
  rw [e]
  rfl
theorem fin_ex {m : En → Y.R Fl} {np n : Nat} {ds : List D} {d : D} (hl : ds.length = np) (e : ∃ ρ, m (argS false ds ++ List.replicate (n - np) none) = .ok (.rt d) ρ) : runF false np n m ds = .val false d none := by
  obtain ⟨ρ, e⟩ := e
  exact fin_ok hl e
theorem sLc_ok2 {src : En → Y.R (List D)} {g : D → En → Option En} {t : En → Y.R Bool} {e : En → Y.R D} {vs : List Nat} {ρ ρ1 ρ2 ρ3 : En} {ds : List D} {d : D} (h1 : src ρ = .ok ds ρ1) (hw : wipeE vs ρ1 = ρ2) (h2 : lcL g t e vs ds ρ2 [] = .ok d ρ3) : sLc src g t e vs ρ = .ok d ρ3 := by
  unfold sLc
  rw [h1]
  show lcL g t e vs ds (wipeE vs ρ1) [] = _
  rw [hw]
  exact h2
theorem sq_rt {a b : En → Y.R Fl} {ρ ρ1 : En} {d : D} (h : a ρ = .ok (.rt d) ρ1) : sSeq a b ρ = .ok (.rt d) ρ1 := by
  unfold sSeq
  rw [h]
  rfl
theorem mk_ok {k : Kd} {f : En → Y.R (List D)} {ρ ρ1 : En} {ds : List D} (e : f ρ = .ok ds ρ1) (h : ds.length ≤ sizeLine) : sMk k f ρ = .ok (.nd k ds) ρ1 := by
  unfold sMk
  rw [e]
  show lift (if ds.length ≤ sizeLine then some (D.nd k ds) else none) ρ1 = _
  rw [if_pos h]
  rfl
theorem callI_ok {i : Nat} {fs : List D → FO} {f : En → Y.R (List D)} {ρ ρ1 : En} {ds : List D} {d0 d d' : D} {o : Bool} (h0 : ∃ z, ownD i ρ = some z) (e : f ρ = .ok ds ρ1) (h1 : ownD i ρ1 = some d0) (e2 : fs (d0 :: ds) = .val o d (some d')) : sCallI i fs f ρ = .ok d (chg i d' ρ1) := by
  obtain ⟨z, hz⟩ := h0
  unfold sCallI
  rw [hz]
  show bnd (f ρ) _ = _
  rw [e]
  show (match ownD i ρ1 with | some d0 => (match fs (d0 :: ds) with | .val _ d (some d') => Y.R.ok d (chg i d' ρ1) | _ => .bad) | none => .bad) = _
  rw [h1]
  dsimp only
  rw [e2]
theorem cat_ok {a b : List D} (h : a.length + b.length ≤ sizeLine) : dCat (.nd .lst a) (.nd .lst b) = some (.nd .lst (a ++ b)) := by
  unfold dCat
  exact if_pos h
theorem mem_cut {xs : List D} {lo hi : Option Int} {x : D} (h : x ∈ cutD xs lo hi) : x ∈ xs := (List.drop_sublist _ _).subset ((List.take_sublist _ _).subset h)
theorem len_cut (xs : List D) (lo hi : Option Int) : (cutD xs lo hi).length ≤ xs.length := ((List.take_sublist _ _).trans (List.drop_sublist _ _)).length_le
theorem pt_ok {f : En → Y.R D} {ρ ρ1 : En} {i : Int} (e : f ρ = .ok (.int i) ρ1) : sPt f ρ = .ok (some i) ρ1 := by
  unfold sPt
  rw [e]
  rfl
theorem dEq_int0 (r c : Int) : ∃ t, dEq (.int r) (.int c) = some t ∧ (t = true ↔ r = c) := by
  refine ⟨_, if_pos ⟨rfl, rfl⟩, ?_⟩
  simp [py, PyData.eqv]
theorem setO_ok {i : Nat} {f : En → Y.R D} {ρ ρ1 : En} {d : D} (e : f ρ = .ok d ρ1) : sSetO i f ρ = .ok .nx (ρ1.set i (some (.o d))) := by
  unfold sSetO
  rw [e]
  rfl
theorem put_ok {i : Nat} {g : D → D → D → Option D} {fk fe : En → Y.R D} {ρ ρ1 : En} {e k d0 d' : D} (h1 : fe ρ = .ok e ρ1) (h2 : ownD i ρ1 = some d0) (h3 : fk ρ1 = .ok k ρ1) (h4 : g d0 k e = some d') : sPut i g fk fe ρ = .ok .nx (chg i d' ρ1) := by
  unfold sPut
  rw [h1]
  simp only [bnd, h2, lift, h3, h4]
theorem at_nat {xs : List D} {jj : Nat} (h : jj < xs.length) : dIx (.nd .lst xs) (.int (jj : Int)) = some xs[jj] := by
  simp [runF, argS, finF, outs, sSeq, sq, bnd, lift, sVar, sBor, sFrz, sMov, sC, sBin, sCmp, sChain, sTru, tru, sAndT, sOrT, sNotT, sAndV, sOrV, sNotV, sIf, sNil, sCons, sMk, s1, sN, sNx, sDrop, sRet, sRetO, sIfS, sSet, sSetO, sAsg, sPut, ownD, chg, ownL, isLst, sMeth, sIxV, bor, sCall, sCallO, sCallI, sCallIO, gSetL, ixN, dIx, atI, dGt, cmpI, dMod, dDiv, dMul, dPlus, dAdd, dSub, dNeg, dLt, dLen', dLen, sSlc, sSlcV, sPt, sNoPt, sIt, itD, sRg, rg1, hName, hTup, hCons, hNil, sFor, List.replicate, sPar2, pO, pF, pNil, noB, sIsiV, isTy, tyN, isA, sCmpV, sz0, sz1, sz2, sz3, sz4, sz5, h]
theorem set_nat {xs : List D} {jj : Nat} (h : jj < xs.length) (x : D) : gSetL (.nd .lst xs) (.int (jj : Int)) x = some (.nd .lst (xs.set jj x)) := by
  simp [runF, argS, finF, outs, sSeq, sq, bnd, lift, sVar, sBor, sFrz, sMov, sC, sBin, sCmp, sChain, sTru, tru, sAndT, sOrT, sNotT, sAndV, sOrV, sNotV, sIf, sNil, sCons, sMk, s1, sN, sNx, sDrop, sRet, sRetO, sIfS, sSet, sSetO, sAsg, sPut, ownD, chg, ownL, isLst, sMeth, sIxV, bor, sCall, sCallO, sCallI, sCallIO, gSetL, ixN, dIx, atI, dGt, cmpI, dMod, dDiv, dMul, dPlus, dAdd, dSub, dNeg, dLt, dLen', dLen, sSlc, sSlcV, sPt, sNoPt, sIt, itD, sRg, rg1, hName, hTup, hCons, hNil, sFor, List.replicate, sPar2, pO, pF, pNil, noB, sIsiV, isTy, tyN, isA, sCmpV, sz0, sz1, sz2, sz3, sz4, sz5, h]
theorem at_tup {xs : List D} {jj : Nat} (h : jj < xs.length) : dIx (.nd .tup xs) (.int (jj : Int)) = some xs[jj] := by
  simp [runF, argS, finF, outs, sSeq, sq, bnd, lift, sVar, sBor, sFrz, sMov, sC, sBin, sCmp, sChain, sTru, tru, sAndT, sOrT, sNotT, sAndV, sOrV, sNotV, sIf, sNil, sCons, sMk, s1, sN, sNx, sDrop, sRet, sRetO, sIfS, sSet, sSetO, sAsg, sPut, ownD, chg, ownL, isLst, sMeth, sIxV, bor, sCall, sCallO, sCallI, sCallIO, gSetL, ixN, dIx, atI, dGt, cmpI, dMod, dDiv, dMul, dPlus, dAdd, dSub, dNeg, dLt, dLen', dLen, sSlc, sSlcV, sPt, sNoPt, sIt, itD, sRg, rg1, hName, hTup, hCons, hNil, sFor, List.replicate, sPar2, pO, pF, pNil, noB, sIsiV, isTy, tyN, isA, sCmpV, sz0, sz1, sz2, sz3, sz4, sz5, h]
theorem slc_ok {fa : En → Y.R D} {lo hi : En → Y.R (Option Int)} {ρ : En} {a c : Option Int} {d r : D} (e : fa ρ = .ok d ρ) (h1 : lo ρ = .ok a ρ) (h2 : hi ρ = .ok c ρ) (h3 : dSlc d a c = some r) : sSlc fa lo hi ρ = .ok r ρ := by
  unfold sSlc
  rw [e]
  simp only [bnd, h1, h2, h3]
  rfl
theorem tcat_ok {a b : List D} (h : a.length + b.length ≤ sizeLine) : dPlus (.nd .tup a) (.nd .tup b) = some (.nd .tup (a ++ b)) := by
  show (if a.length + b.length ≤ sizeLine then some (D.nd .tup (a ++ b)) else none) = _
  rw [if_pos h]
theorem ne_tup {xs : List D} (h : dok (.nd .tup xs) = true) : dNe (.nd .tup xs) (.nd .tup []) = some (!xs.isEmpty) := by
  unfold dNe
  rw [if_pos ⟨h, rfl⟩]
  cases xs <;> simp [py, pys, PyData.eqv, PyData.eqvAll]
end Y

set_option Elab.async false
set_option linter.all false
set_option maxRecDepth 100000
set_option maxHeartbeats 4000000
namespace Y
open PySem PySem.Spec PyProof.Rows L2 PySem.W
/-! ### pure blocks -/
/-! ### names -/
def az : Str := "abcdefghijklmnopqrstuvwxyz"
def sgs (s : Str) : List Nat := s.cps.toList
def nmS (s : Str) : Bool := decide (1 ≤ s.length ∧ s.length ≤ 8) && (sgs s).all fun c => decide (c ∈ sgs az)
def isStr : D → Bool
  | .str _ => true
  | _ => false
def isIB : D → Bool
  | .int _ => true
  | .bl _ => true
  | _ => false
def isBl : D → Bool
  | .bl _ => true
  | _ => false
def isTup : D → Bool
  | .nd .tup _ => true
  | .nd .ktp _ => true
  | _ => false
def azB : D → Bool
  | .str x => match x.cps.toList with
    | [c] => decide (c ∈ sgs az)
    | _ => false
  | _ => false
def nmB : D → Bool
  | .str s => nmS s
  | _ => false
def isInt (lo hi : Int) : D → Bool
  | .int i => decide (lo ≤ i ∧ i ≤ hi)
  | _ => false
theorem isi_str (d : D) (h : (tyN d).isSome = true) : dIsi [d, .ty "str"] = some (.bl (isStr d)) := by
  cases d with
  | nd k xs => cases k <;> simp [tyN] at h <;> simp [dIsi, isTy, tyN, isA, isStr, isIB, isBl, isTup]
  | ty n => simp [tyN] at h
  | _ => simp [dIsi, isTy, tyN, isA, isStr, isIB, isBl, isTup]
theorem isi_int (d : D) (h : (tyN d).isSome = true) : dIsi [d, .ty "int"] = some (.bl (isIB d)) := by
  cases d with
  | nd k xs => cases k <;> simp [tyN] at h <;> simp [dIsi, isTy, tyN, isA, isStr, isIB, isBl, isTup]
  | ty n => simp [tyN] at h
  | _ => simp [dIsi, isTy, tyN, isA, isStr, isIB, isBl, isTup]
theorem isi_bool (d : D) (h : (tyN d).isSome = true) : dIsi [d, .ty "bool"] = some (.bl (isBl d)) := by
  cases d with
  | nd k xs => cases k <;> simp [tyN] at h <;> simp [dIsi, isTy, tyN, isA, isStr, isIB, isBl, isTup]
  | ty n => simp [tyN] at h
  | _ => simp [dIsi, isTy, tyN, isA, isStr, isIB, isBl, isTup]
theorem isi_tup (d : D) (h : (tyN d).isSome = true) : dIsi [d, .ty "tuple"] = some (.bl (isTup d)) := by
  cases d with
  | nd k xs => cases k <;> simp [tyN] at h <;> simp [dIsi, isTy, tyN, isA, isStr, isIB, isBl, isTup]
  | ty n => simp [tyN] at h
  | _ => simp [dIsi, isTy, tyN, isA, isStr, isIB, isBl, isTup]
theorem in_az (c : Nat) : dIn (sgD c) (.str az) = some (decide (c ∈ sgs az)) := rfl
theorem len_ok (s : Str) : sChain dLe dLe id (sC (.int 1)) (s1 dLen' (sBor 0)) (sC (.int 8)) [some (.f (.str s)), none] = .ok (decide (1 ≤ s.length ∧ s.length ≤ 8)) [some (.f (.str s)), none] := by
  by_cases c : (1 : Int) ≤ (s.length : Int)
  · by_cases c2 : (s.length : Int) ≤ 8
    · have d : 1 ≤ s.length ∧ s.length ≤ 8 := by omega
      simp [runF, argS, finF, outs, sSeq, sq, bnd, lift, sVar, sBor, sFrz, sMov, sC, sBin, sCmp, sChain, sTru, tru, sAndT, sOrT, sNotT, sAndV, sOrV, sNotV, sIf, sNil, sCons, sMk, s1, sN, sNx, sDrop, sRet, sRetO, sIfS, sSet, sSetO, sAsg, sPut, ownD, chg, ownL, isLst, sMeth, sIxV, bor, sCall, sCallO, sCallI, sCallIO, gSetL, ixN, dIx, atI, dGt, cmpI, dMod, dDiv, dMul, dPlus, dAdd, dSub, dNeg, dLt, dLen', dLen, sSlc, sSlcV, sPt, sNoPt, sIt, itD, sRg, rg1, hName, hTup, hCons, hNil, sFor, List.replicate, sPar2, pO, pF, pNil, noB, sIsiV, isTy, tyN, isA, sCmpV, sz0, sz1, sz2, sz3, sz4, sz5, c, c2, d]
    · have d : ¬ (1 ≤ s.length ∧ s.length ≤ 8) := by omega
      simp [runF, argS, finF, outs, sSeq, sq, bnd, lift, sVar, sBor, sFrz, sMov, sC, sBin, sCmp, sChain, sTru, tru, sAndT, sOrT, sNotT, sAndV, sOrV, sNotV, sIf, sNil, sCons, sMk, s1, sN, sNx, sDrop, sRet, sRetO, sIfS, sSet, sSetO, sAsg, sPut, ownD, chg, ownL, isLst, sMeth, sIxV, bor, sCall, sCallO, sCallI, sCallIO, gSetL, ixN, dIx, atI, dGt, cmpI, dMod, dDiv, dMul, dPlus, dAdd, dSub, dNeg, dLt, dLen', dLen, sSlc, sSlcV, sPt, sNoPt, sIt, itD, sRg, rg1, hName, hTup, hCons, hNil, sFor, List.replicate, sPar2, pO, pF, pNil, noB, sIsiV, isTy, tyN, isA, sCmpV, sz0, sz1, sz2, sz3, sz4, sz5, c, c2, d]
  · have d : ¬ (1 ≤ s.length ∧ s.length ≤ 8) := by omega
    simp [runF, argS, finF, outs, sSeq, sq, bnd, lift, sVar, sBor, sFrz, sMov, sC, sBin, sCmp, sChain, sTru, tru, sAndT, sOrT, sNotT, sAndV, sOrV, sNotV, sIf, sNil, sCons, sMk, s1, sN, sNx, sDrop, sRet, sRetO, sIfS, sSet, sSetO, sAsg, sPut, ownD, chg, ownL, isLst, sMeth, sIxV, bor, sCall, sCallO, sCallI, sCallIO, gSetL, ixN, dIx, atI, dGt, cmpI, dMod, dDiv, dMul, dPlus, dAdd, dSub, dNeg, dLt, dLen', dLen, sSlc, sSlcV, sPt, sNoPt, sIt, itD, sRg, rg1, hName, hTup, hCons, hNil, sFor, List.replicate, sPar2, pO, pF, pNil, noB, sIsiV, isTy, tyN, isA, sCmpV, sz0, sz1, sz2, sz3, sz4, sz5, c, d]
theorem sgs_all (s : Str) : ((sgs s).map sgD).all azB = (sgs s).all fun c => decide (c ∈ sgs az) := by
  rw [List.all_map]
  rfl
theorem sgs_len (s : Str) : (sgs s).length = s.length := by simp [sgs, Str.length]
theorem name_head (s : Str) (x : Option S) : sOrT (sNotT (sTru (sN dIsi (sCons (sVar 0) (sCons (sC (.ty "str")) sNil))))) (sNotT (sChain dLe dLe id (sC (.int 1)) (s1 dLen' (sBor 0)) (sC (.int 8)))) [some (.f (.str s)), none] = .ok (!decide (1 ≤ s.length ∧ s.length ≤ 8)) [some (.f (.str s)), none] :=
  or_no (not_ok (tru_ok (n_ok (ds := [.str s, .ty "str"]) rfl (isi_str (.str s) rfl)))) (not_ok (len_ok s))
end Y

set_option Elab.async false
set_option linter.all false
set_option maxRecDepth 100000
set_option maxHeartbeats 4000000
namespace Y
open PySem PySem.Spec PyProof.Rows L2 PySem.W
/-! ### the values that may come -/
def vv (m : Nat) : Nat → D → Bool
  | _, .non => true
  | _, .bl _ => true
  | _, .int _ => true
  | _, .str s => strG s && decide (s.length ≤ 20)
  | _, .ty _ => false
  | 0, .nd _ _ => false
  | n + 1, .nd .tup xs => decide (xs.length ≤ m) && xs.all fun x => vv m n x
  | n + 1, .nd .lst xs => decide (xs.length ≤ m) && xs.all fun x => vv m n x
  | _ + 1, .nd _ _ => false
theorem vv_ty {m n : Nat} {d : D} (h : vv m n d = true) : (tyN d).isSome = true := by
  cases d with
  | nd k xs =>
    cases n with
    | zero => simp [vv] at h
    | succ n => cases k <;> first | rfl | simp [vv] at h
  | ty _ => cases n <;> simp [vv] at h
  | _ => rfl
theorem vv_str {m n : Nat} {s : Str} (h : vv m n (.str s) = true) : strG s = true ∧ s.length ≤ 20 := by
  cases n <;> simpa [vv] using h
theorem vv_tup {m n : Nat} {xs : List D} (h : vv m n (.nd .tup xs) = true) : ∃ j, n = j + 1 ∧ xs.length ≤ m ∧ ∀ x ∈ xs, vv m j x = true := by
  cases n with
  | zero => simp [vv] at h
  | succ n => exact ⟨n, rfl, by simpa [vv] using h⟩
theorem vv_lst {m n : Nat} {xs : List D} (h : vv m n (.nd .lst xs) = true) : ∃ j, n = j + 1 ∧ xs.length ≤ m ∧ ∀ x ∈ xs, vv m j x = true := by
  cases n with
  | zero => simp [vv] at h
  | succ n => exact ⟨n, rfl, by simpa [vv] using h⟩
theorem vv_ok {m : Nat} : ∀ {n : Nat} {d : D}, vv m n d = true → okD d = true ∧ (py d).depth ≤ n := by
  intro n
  induction n with
  | zero =>
    intro d h
    cases d with
    | str s => exact ⟨(vv_str h).1, Nat.le_refl _⟩
    | nd k xs => simp [vv] at h
    | ty _ => simp [vv] at h
    | _ => exact ⟨by simp [okD], by simp [py, PyData.depth]⟩
  | succ n ih =>
    intro d h
    cases d with
    | str s => exact ⟨(vv_str h).1, Nat.zero_le _⟩
    | nd k xs =>
      cases k with
      | tup =>
        obtain ⟨j, e, _, hx⟩ := vv_tup h
        cases e
        obtain ⟨h1, h2⟩ := okDs_of fun x m => ih (hx x m)
        exact ⟨by simpa [okD] using h1, by simp only [py, PyData.depth]; omega⟩
      | lst =>
        obtain ⟨j, e, _, hx⟩ := vv_lst h
        cases e
        obtain ⟨h1, h2⟩ := okDs_of fun x m => ih (hx x m)
        exact ⟨by simpa [okD] using h1, by simp only [py, PyData.depth]; omega⟩
      | _ => simp [vv] at h
    | ty _ => simp [vv] at h
    | _ => exact ⟨by simp [okD], by simp [py, PyData.depth]⟩
theorem dok_of_all {n : Nat} (hn : n ≤ 60) {m : Nat} {xs : List D} (h : ∀ x ∈ xs, vv m n x = true) : dok (.nd .lst xs) = true := by
  obtain ⟨h1, h2⟩ := okDs_of fun x m => vv_ok (h x m)
  unfold dok
  simp only [okD, py, PyData.depth, h1, Bool.true_and, decide_eq_true_eq]
  omega
/-! ### the law's test of a name -/
theorem strG_sign {s : Str} (h : strG s = true) {c : Nat} (hc : c ∈ sgs s) : strG ⟨#[c]⟩ = true := by
  have : ∀ x ∈ s.cps, x < 0x110000 := by
    have h' : s.cps.all (· < 0x110000) = true := h
    have h2 : ∀ (i : Nat) (x : i < s.cps.size), s.cps[i] < 1114112 := by simpa [Array.all_eq_true] using h'
    intro x hx
    obtain ⟨i, hi, rfl⟩ := Array.mem_iff_getElem.mp hx
    exact h2 i hi
  have hc' : c ∈ s.cps := by simpa [sgs] using hc
  have := this c hc'
  show (#[c] : Array Nat).all (· < 0x110000) = true
  simpa using this
end Y

set_option Elab.async false
set_option linter.all false
set_option maxRecDepth 100000
set_option maxHeartbeats 4000000
namespace Y
open PySem PySem.Spec PyProof.Rows L2 PySem.W
/-! ### rising -/
def risB (l : List Str) : Bool := (l.zip (l.drop 1)).all fun p => decide (sgs p.1 < sgs p.2)
theorem risB_iff : ∀ l : List Str, risB l = true ↔ l.Pairwise fun a b => sgs a < sgs b
  | [] => by simp [risB]
  | [a] => by simp [risB]
  | a :: b :: l => by
    have ih := risB_iff (b :: l)
    have e : risB (a :: b :: l) = (decide (sgs a < sgs b) && risB (b :: l)) := by simp [risB]
    rw [e, Bool.and_eq_true, decide_eq_true_eq, ih, List.pairwise_cons (a := a)]
    constructor
    · rintro ⟨h1, h2⟩
      refine ⟨fun c hc => ?_, h2⟩
      rcases List.mem_cons.mp hc with rfl | hc
      · exact h1
      · exact List.lt_trans h1 ((List.pairwise_cons.mp h2).1 c hc)
    · rintro ⟨h1, h2⟩
      exact ⟨h1 b List.mem_cons_self, h2⟩
theorem ddS_nodup : ∀ {l : List Str}, l.Nodup → ddS l = l
  | [], _ => rfl
  | a :: l, h => by
    have h' := List.nodup_cons.mp h
    unfold ddS
    rw [if_neg (fun z => ?_), ddS_nodup h'.2]
    obtain ⟨x, h1, h2⟩ := List.any_eq_true.mp z
    exact h'.1 (by rw [← of_decide_eq_true h2]; exact h1)
theorem srt_sorted {l : List Str} (h : l.Pairwise fun a b => sgs a ≤ sgs b) : srt l = l := by
  apply map_inj_str
  rw [← srt_map]
  have hp : (nD l).Pairwise fun a b => leD a b = true := by
    rw [List.pairwise_map]
    exact h.imp fun {a b} q => by rw [leD_str]; exact decide_eq_true q
  refine List.Perm.eq_of_pairwise (le := fun a b => leD a b = true) (fun a b ha hb h1 h2 => ?_) (sort_pairwise leD_total _) hp (List.mergeSort_perm _ _)
  obtain ⟨s, _, rfl⟩ := List.mem_map.mp ((List.mergeSort_perm _ _).mem_iff.mp ha)
  obtain ⟨s', _, rfl⟩ := List.mem_map.mp hb
  simp only [leD_str, decide_eq_true_eq] at h1 h2
  rw [str_ext (List.le_antisymm h1 h2)]
theorem srt_pw (l : List Str) : (srt l).Pairwise fun a b => sgs a ≤ sgs b := by
  have h := sort_pairwise leD_total (nD l)
  rw [srt_map, List.pairwise_map] at h
  exact h.imp fun {a b} q => by rw [leD_str] at q; exact of_decide_eq_true q
theorem ris_srt (l : List Str) : (l.Pairwise fun a b => sgs a < sgs b) ↔ l = srt (ddS l) := by
  constructor
  · intro h
    have nd : l.Nodup := h.imp fun {a b} q e => by rw [e] at q; exact List.lt_irrefl _ q
    rw [ddS_nodup nd, srt_sorted (h.imp fun {a b} q => List.le_of_lt q)]
  · intro h
    have nd : l.Nodup := by
      rw [h]; exact (srt_perm _).nodup_iff.mpr (nodup_ddS l)
    have pw : l.Pairwise fun a b => sgs a ≤ sgs b := by
      have := srt_pw (ddS l)
      rw [← h] at this
      exact this
    refine (pw.and nd).imp fun {a b} q => ?_
    exact List.not_le.mp fun z => q.2 (str_ext (List.le_antisymm q.1 z))
theorem eqvAll_names : ∀ l m : List Str, PyData.eqvAll (pys (nD l)) (pys (nD m)) = decide (l = m)
  | [], [] => rfl
  | [], b :: m => by simp [pys, PyData.eqvAll]
  | a :: l, [] => by simp [pys, PyData.eqvAll]
  | a :: l, b :: m => by
    have ih := eqvAll_names l m
    show (PyData.eqv (py (.str a)) (py (.str b)) && PyData.eqvAll (pys (nD l)) (pys (nD m))) = _
    rw [eqv_str, ih]
    by_cases h : a = b <;> by_cases h2 : l = m <;> simp [h, h2]
theorem dEq_names {l m : List Str} (h1 : NmsOk l) (h2 : NmsOk m) : dEq (lD l) (lD m) = some (decide (l = m)) := by
  unfold dEq
  rw [if_pos ⟨dok_lst h1, dok_lst h2⟩]
  have : PyData.eqv (py (lD l)) (py (lD m)) = PyData.eqvAll (pys (nD l)) (pys (nD m)) := by simp [py, PyData.eqv]
  rw [this, eqvAll_names]
def ltP : D → Bool
  | .nd .tup [.str a, .str b] => decide (sgs a < sgs b)
  | _ => false
theorem rises_ok {k : Kd} (hk : k = .lst ∨ k = .tup) {l : List Str} (hl : l.length ≤ 1000) : fs_rises [.nd k (nD l)] = .val false (.bl (risB l)) none := by
  have e1 : dSlc (.nd k (nD l)) (some 1) none = some (.nd k (nD (l.drop 1))) := by
    have : cutD (nD l) (some 1) none = nD (l.drop 1) := by rw [cut1]; simp
    rcases hk with rfl | rfl <;> (show some (D.nd _ (cutD (nD l) (some 1) none)) = _; rw [this])
  have e2 : zp2 [.nd k (nD l), .nd k (nD (l.drop 1))] = some (zpD (nD l) (nD (l.drop 1))) := by rcases hk with rfl | rfl <;> rfl
  have e3 : zpD (nD l) (nD (l.drop 1)) = (l.zip (l.drop 1)).map fun p => .nd .tup [.str p.1, .str p.2] := by
    unfold zpD
    rw [List.zip_map, List.map_map]
    rfl
  refine fin_ok (ρ := [some (.f (.nd k (nD l))), none, none]) rfl ?_
  show m_rises [some (.f (.nd k (nD l))), none, none] = _
  unfold m_rises
  have src : sRg zp2 (sCons (sVar 0) (sCons (sSlc (sVar 0) (sPt (sC (.int 1))) sNoPt) sNil)) [some (.f (.nd k (nD l))), none, none] = .ok (zpD (nD l) (nD (l.drop 1))) [some (.f (.nd k (nD l))), none, none] := by
    have a : sSlc (sVar 0) (sPt (sC (.int 1))) sNoPt [some (.f (.nd k (nD l))), none, none] = .ok (.nd k (nD (l.drop 1))) [some (.f (.nd k (nD l))), none, none] := by
      show lift (dSlc (.nd k (nD l)) (some 1) none) _ = _
      rw [e1]; rfl
    have b : sCons (sSlc (sVar 0) (sPt (sC (.int 1))) sNoPt) sNil [some (.f (.nd k (nD l))), none, none] = .ok [.nd k (nD (l.drop 1))] [some (.f (.nd k (nD l))), none, none] := one_ok a
    have c : sCons (sVar 0) (sCons (sSlc (sVar 0) (sPt (sC (.int 1))) sNoPt) sNil) [some (.f (.nd k (nD l))), none, none] = .ok [.nd k (nD l), .nd k (nD (l.drop 1))] [some (.f (.nd k (nD l))), none, none] := by
      unfold sCons at b ⊢
      show bnd (bnd _ _) _ = _
      rw [b]; rfl
    exact rg_ok c e2
  have blk : sLc (sRg zp2 (sCons (sVar 0) (sCons (sSlc (sVar 0) (sPt (sC (.int 1))) sNoPt) sNil))) (hTup 2 (hCons (hName 1) (hCons (hName 2) hNil))) sYes (sCmp dLt (sVar 1) (sBor 2)) [1, 2] [some (.f (.nd k (nD l))), none, none] = .ok (.nd .lst ((zpD (nD l) (nD (l.drop 1))).map fun d => D.bl (ltP d))) [some (.f (.nd k (nD l))), none, none] := by
    refine sLc_ok src rfl ((lc_mapG (p := fun d => D.bl (ltP d)) _ [] (fun d hd => ?_) ?_).trans rfl)
    · rw [e3] at hd
      obtain ⟨p, _, rfl⟩ := List.mem_map.mp hd
      exact ⟨[some (.f (.nd k (nD l))), some (.f (.str p.1)), some (.f (.str p.2))], [some (.f (.nd k (nD l))), some (.f (.str p.1)), some (.f (.str p.2))], rfl, rfl, rfl⟩
    · rw [e3, List.length_map, List.length_zip]; simp; omega
  refine ret_ok (s1_ok blk ?_)
  rw [all_map, e3, List.all_map]
  rfl
end Y

set_option Elab.async false
set_option linter.all false
set_option maxRecDepth 100000
set_option maxHeartbeats 4000000
namespace Y
open PySem PySem.Spec PyProof.Rows L2 PySem.W
/-! ### rows -/
def rowB (many : Nat) : D → Bool
  | .nd .tup ys => decide (ys.length = many)
  | _ => false
def rowsB (most many : Nat) : D → Bool
  | .nd .tup xs => decide (xs.length ≤ most) && xs.all (rowB many)
  | _ => false
theorem rows_head {d : D} (hty : (tyN d).isSome = true) (most many : Nat) : ∃ b, sOrT (sNotT (sTru (sN dIsi (sCons (sVar 0) (sCons (sC (.ty "tuple")) sNil))))) (sBin dGt (s1 dLen' (sBor 0)) (sBor 1)) [some (.f d), some (.f (.int (most : Int))), some (.f (.int (many : Int))), none] = .ok b [some (.f d), some (.f (.int (most : Int))), some (.f (.int (many : Int))), none] ∧ (isTup d = false → b = true) ∧ ∀ xs, d = .nd .tup xs → b = !decide (xs.length ≤ most) := by
  have e0 : sNotT (sTru (sN dIsi (sCons (sVar 0) (sCons (sC (.ty "tuple")) sNil)))) [some (.f d), some (.f (.int (most : Int))), some (.f (.int (many : Int))), none] = .ok (!isTup d) [some (.f d), some (.f (.int (most : Int))), some (.f (.int (many : Int))), none] := not_ok (tru_ok (n_ok (ds := [d, .ty "tuple"]) rfl (isi_tup d hty)))
  cases h : isTup d with
  | false =>
    rw [h] at e0
    exact ⟨true, or_yes e0, fun _ => rfl, fun xs e => by rw [e] at h; cases h⟩
  | true =>
    rw [h] at e0
    cases d with
    | nd k xs =>
      have hk : k = .tup ∨ k = .ktp := by cases k <;> simp [isTup] at h <;> simp
      have el : dLen' (.nd k xs) = some (.int (xs.length : Int)) := by rcases hk with rfl | rfl <;> rfl
      have eg : dGt (.int (xs.length : Int)) (.int (most : Int)) = some (!decide (xs.length ≤ most)) := by
        show some (decide ((most : Int) < (xs.length : Int))) = _
        congr 1
        by_cases c : xs.length ≤ most
        · have : ¬ (most : Int) < xs.length := by omega
          rw [decide_eq_true c, decide_eq_false this]; rfl
        · have : (most : Int) < xs.length := by omega
          rw [decide_eq_false c, decide_eq_true this]; rfl
      exact ⟨_, or_no e0 (bin_ok (s1_ok (f := sBor 0) rfl el) rfl eg), (fun z => by cases z), fun ys e => by cases e; rfl⟩
    | _ => cases h
theorem row_len {m n : Nat} {r : D} (h : vv m n r = true) (hr : isTup r = true) : ∃ ys, r = .nd .tup ys := by
  cases r with
  | nd k ys =>
    cases k with
    | tup => exact ⟨ys, rfl⟩
    | ktp => cases n <;> simp [vv] at h
    | _ => cases hr
  | _ => cases hr
theorem rowB_no {r : D} {many : Nat} (h : isTup r = false) : rowB many r = false := by
  cases r with
  | nd k ys => cases k <;> first | rfl | cases h
  | _ => rfl
end Y

set_option Elab.async false
set_option linter.all false
set_option maxRecDepth 100000
set_option maxHeartbeats 4000000
namespace Y
open PySem PySem.Spec PyProof.Rows L2 PySem.W
/-! ### odd things -/
theorem vv_mono {m m' : Nat} (hm : m ≤ m') : ∀ {n n' : Nat} {d : D}, n ≤ n' → vv m n d = true → vv m' n' d = true := by
  intro n
  induction n with
  | zero =>
    intro n' d _ h
    cases d with
    | nd k xs => simp [vv] at h
    | str s => cases n' <;> simpa [vv] using h
    | ty _ => simp [vv] at h
    | _ => cases n' <;> rfl
  | succ n ih =>
    intro n' d hn h
    cases n' with
    | zero => omega
    | succ n' =>
      cases d with
      | nd k xs =>
        cases k with
        | tup =>
          obtain ⟨j, e, hl, hx⟩ := vv_tup h
          cases e
          have : ∀ x ∈ xs, vv m' n' x = true := fun x hx' => ih (by omega) (hx x hx')
          have l : xs.length ≤ m' := by omega
          simpa [vv, l] using this
        | lst =>
          obtain ⟨j, e, hl, hx⟩ := vv_lst h
          cases e
          have : ∀ x ∈ xs, vv m' n' x = true := fun x hx' => ih (by omega) (hx x hx')
          have l : xs.length ≤ m' := by omega
          simpa [vv, l] using this
        | _ => simp [vv] at h
      | str s => simpa [vv] using h
      | ty _ => simp [vv] at h
      | _ => rfl
def odd1 : List D := [.non, .bl true, .bl false, .int 0, .int 1, .int (-1), .int 5, .int 9, .int 10, .int 41, .int 100, .int 101, .int 400, .int 401, .int 1899, .int 2101, .str "", .str "a", .str "A", .str "abcdefghi"]
def odd2 : List D := [.str "a b", .nd .tup [], .nd .lst [], .nd .tup [.int 1], .nd .tup [.str "a"], .nd .tup [.str "a", .int 1], .nd .lst [.nd .lst []], .nd .tup [.nd .tup [], .nd .tup []]]
theorem odd_vv : ∀ x ∈ odd1 ++ odd2, vv 2 2 x = true := by
  have : ((odd1 ++ odd2).all fun x => vv 2 2 x) = true := by decide +kernel
  exact fun x hx => List.all_eq_true.mp this x hx
/-! ### spoilt -/
def spE (b d : D) (deep : Int) (rows at_ way : Option S) : En := [some (.b b), some (.f d), some (.f (.int deep)), rows, at_, way]
theorem slcV_ok {lo hi : En → Y.R (Option Int)} {a c : Option Int} {b d : D} {deep : Int} {ys : List D} {at_ way : Option S} (h1 : lo (spE b d deep (some (.o (.nd .lst ys))) at_ way) = .ok a (spE b d deep (some (.o (.nd .lst ys))) at_ way)) (h2 : hi (spE b d deep (some (.o (.nd .lst ys))) at_ way) = .ok c (spE b d deep (some (.o (.nd .lst ys))) at_ way)) : sSlcV 3 lo hi (spE b d deep (some (.o (.nd .lst ys))) at_ way) = .ok (.nd .lst (cutD ys a c)) (spE b d deep (some (.o (.nd .lst ys))) at_ way) := by
  have hb : sBor 3 (spE b d deep (some (.o (.nd .lst ys))) at_ way) = .ok (.nd .lst ys) (spE b d deep (some (.o (.nd .lst ys))) at_ way) := rfl
  unfold sSlcV
  rw [hb]
  simp only [bnd, h1, h2, hb]
  rfl
theorem node_vv {m j : Nat} {k : Kd} (hk : k = .lst ∨ k = .tup) {ys : List D} (hl : ys.length ≤ m) (h : ∀ y ∈ ys, vv m j y = true) : vv m (j + 1) (.nd k ys) = true := by
  rcases hk with rfl | rfl <;> simpa [vv, hl] using h
theorem sp_end (b : D) {d : D} (hty : (tyN d).isSome = true) (deep : Int) (ys : List D) (at_ way : Option S) : ∃ k ρ, (k = .lst ∨ k = .tup) ∧ sRet (sIf (sTru (sN dIsi (sCons (sVar 1) (sCons (sC (.ty "tuple")) sNil)))) (s1 dTuple (sBor 3)) (sFrz 3)) (spE b d deep (some (.o (.nd .lst ys))) at_ way) = .ok (.rt (.nd k ys)) (some (.b b) :: ρ) := by
  have t : sTru (sN dIsi (sCons (sVar 1) (sCons (sC (.ty "tuple")) sNil))) (spE b d deep (some (.o (.nd .lst ys))) at_ way) = .ok (isTup d) (spE b d deep (some (.o (.nd .lst ys))) at_ way) := tru_ok (n_ok (ds := [d, .ty "tuple"]) rfl (isi_tup d hty))
  cases h : isTup d with
  | true =>
    rw [h] at t
    refine ⟨.tup, _, .inr rfl, ret_ok (ρ1 := spE b d deep (some (.o (.nd .lst ys))) at_ way) ?_⟩
    unfold sIf
    rw [t]
    rfl
  | false =>
    rw [h] at t
    refine ⟨.lst, _, .inl rfl, ret_ok (ρ1 := spE b d deep (some (.f (.nd .lst ys))) at_ way) ?_⟩
    unfold sIf
    rw [t]
    rfl
def isSeq : D → Bool
  | .nd .tup _ => true
  | .nd .ktp _ => true
  | .nd .lst _ => true
  | .nd .scr _ => true
  | _ => false
theorem isi_seq (d : D) (h : (tyN d).isSome = true) : dIsi [d, .nd .tup [.ty "tuple", .ty "list"]] = some (.bl (isSeq d)) := by
  cases d with
  | nd k xs => cases k <;> simp [tyN] at h <;> simp [dIsi, isTy, tyN, isA, isSeq]
  | ty n => simp [tyN] at h
  | _ => simp [dIsi, isTy, tyN, isA, isSeq]
theorem seq_node {m n : Nat} {d : D} (h : vv m n d = true) (hs : isSeq d = true) : ∃ k xs j, d = .nd k xs ∧ (k = .lst ∨ k = .tup) ∧ n = j + 1 ∧ xs.length ≤ m ∧ ∀ x ∈ xs, vv m j x = true := by
  cases d with
  | nd k xs =>
    cases k with
    | tup => obtain ⟨j, e, hl, hx⟩ := vv_tup h; exact ⟨_, _, j, rfl, .inr rfl, e, hl, hx⟩
    | lst => obtain ⟨j, e, hl, hx⟩ := vv_lst h; exact ⟨_, _, j, rfl, .inl rfl, e, hl, hx⟩
    | ktp => cases n <;> simp [vv] at h
    | scr => cases n <;> simp [vv] at h
    | dK _ => cases hs
    | dT _ => cases hs
  | _ => cases hs
end Y

set_option Elab.async false
set_option linter.all false
set_option maxRecDepth 100000
set_option maxHeartbeats 4000000
namespace Y
open PySem PySem.Spec PyProof.Rows L2 PySem.W
theorem takeI {b : D} {d : D} {deep : Int} {r3 r4 r5 : Option S} {f : En → Y.R (List D)} {n : Int} (hb : BagOk b) (h1 : 0 < n) (h2 : n < 1073741824) (e : f (spE b d deep r3 r4 r5) = .ok [.int n] (spE b d deep r3 r4 r5)) : ∃ r b', sCallI 0 fs__law_take f (spE b d deep r3 r4 r5) = .ok (.int r) (spE b' d deep r3 r4 r5) ∧ BagOk b' ∧ 0 ≤ r ∧ r < n := by
  obtain ⟨r, b', e2, hb', r0, r1⟩ := take_ok hb h1 h2
  exact ⟨r, b', callI_ok ⟨b, rfl⟩ e rfl e2, hb', r0, r1⟩
theorem sp_cond {m n : Nat} {b d : D} (deep : Nat) (hb : BagOk b) (h : vv m n d = true) : ∃ cb b1, sOrT (sNotT (sTru (sN dIsi (sCons (sVar 1) (sCons (sMk .tup (sCons (sC (.ty "tuple")) (sCons (sC (.ty "list")) sNil))) sNil))))) (sOrT (sBin dEq (s1 dLen' (sBor 1)) (sC (.int 0))) (sOrT (sBin dEq (sVar 2) (sC (.int 0))) (sBin dEq (sCallI 0 fs__law_take (sCons (sC (.int 6)) sNil)) (sC (.int 0))))) (spE b d (deep : Int) none none none) = .ok cb (spE b1 d (deep : Int) none none none) ∧ BagOk b1 ∧ (cb = false → deep ≠ 0 ∧ ∃ k xs j, d = .nd k xs ∧ (k = .lst ∨ k = .tup) ∧ n = j + 1 ∧ xs.length ≤ m ∧ (∀ x ∈ xs, vv m j x = true) ∧ xs ≠ []) := by
  have ar : sCons (sVar 1) (sCons (sMk .tup (sCons (sC (.ty "tuple")) (sCons (sC (.ty "list")) sNil))) sNil) (spE b d (deep : Int) none none none) = .ok [d, .nd .tup [.ty "tuple", .ty "list"]] (spE b d (deep : Int) none none none) := cons_ok rfl (one_ok (mk_ok rfl (small (show 2 ≤ 100000 by decide))))
  have t1 := not_ok (tru_ok (n_ok ar (isi_seq d (vv_ty h))))
  cases hs : isSeq d with
  | false =>
    rw [hs] at t1
    exact ⟨true, b, or_yes t1, hb, fun z => by cases z⟩
  | true =>
    rw [hs] at t1
    obtain ⟨k, xs, j, rfl, hk, hn, hl, hx⟩ := seq_node h hs
    obtain ⟨c1, d1, i1⟩ := dEq_int0 (xs.length : Int) 0
    obtain ⟨c2, d2, i2⟩ := dEq_int0 (deep : Int) 0
    have t2 : sBin dEq (s1 dLen' (sBor 1)) (sC (.int 0)) (spE b (.nd k xs) (deep : Int) none none none) = .ok c1 (spE b (.nd k xs) (deep : Int) none none none) := bin_ok (s1_ok (d := .nd k xs) rfl (len_nd hk xs)) rfl d1
    have t3 : sBin dEq (sVar 2) (sC (.int 0)) (spE b (.nd k xs) (deep : Int) none none none) = .ok c2 (spE b (.nd k xs) (deep : Int) none none none) := bin_ok (x := .int (deep : Int)) rfl rfl d2
    cases c1 with
    | true => exact ⟨true, b, or_no t1 (or_yes t2), hb, fun z => by cases z⟩
    | false =>
      cases c2 with
      | true => exact ⟨true, b, or_no t1 (or_no t2 (or_yes t3)), hb, fun z => by cases z⟩
      | false =>
        obtain ⟨r, b1, e, hb1, r0, r1⟩ := takeI (d := .nd k xs) (deep := (deep : Int)) (r3 := none) (r4 := none) (r5 := none) (f := sCons (sC (.int 6)) sNil) hb (n := 6) (by decide) (by decide) rfl
        obtain ⟨c3, d3, _⟩ := dEq_int0 r 0
        refine ⟨c3, b1, or_no t1 (or_no t2 (or_no t3 (bin_ok e rfl d3))), hb1, fun _ => ⟨fun z => ?_, k, xs, j, rfl, hk, hn, hl, hx, fun z => ?_⟩⟩
        · exact Bool.false_ne_true (i2.mpr (by omega))
        · exact Bool.false_ne_true (i1.mpr (by rw [z]; rfl))
theorem way_bin {b d : D} {deep : Int} {xs a c : List D} {r4 r5 : Option S} {fa fb : En → Y.R D} {m : Nat} (ea : fa (spE b d deep (some (.o (.nd .lst xs))) r4 r5) = .ok (.nd .lst a) (spE b d deep (some (.o (.nd .lst xs))) r4 r5)) (eb : fb (spE b d deep (some (.o (.nd .lst xs))) r4 r5) = .ok (.nd .lst c) (spE b d deep (some (.o (.nd .lst xs))) r4 r5)) (h : a.length + c.length ≤ 100000) : sSetO 3 (sBin dCat fa fb) (spE b d deep (some (.o (.nd .lst xs))) r4 r5) = .ok .nx (spE b d deep (some (.o (.nd .lst (a ++ c)))) r4 r5) := setO_ok (bin_ok ea eb (cat_ok (small h)))
end Y

set_option Elab.async false
set_option linter.all false
set_option maxRecDepth 100000
set_option maxHeartbeats 4000000
/-! fractions -/
namespace Y
open PySem PySem.Spec PyProof.Rows L2 PySem.W
abbrev iN (n : Nat) : D := .int (n : Int)
def frN (t b : Nat) : Nat × Nat := (t / Nat.gcd t b, b / Nat.gcd t b)
abbrev fD (p : Nat × Nat) : D := .nd .tup [iN p.1, iN p.2]
def gE (x y : D) (a b : Nat) : En := [some (.f x), some (.f y), some (.f (iN a)), some (.f (iN b))]
abbrev gStep : En → Y.R Fl := sPar2 2 3 (pF (sVar 3) (pF (sBin dMod (sVar 2) (sBor 3)) pNil))
theorem mod_nat {a b : Nat} (h : 0 < b) : dMod (iN a) (iN b) = some (iN (a % b)) := by
  show (if (0 : Int) < (b : Int) then some (D.int ((a : Int) % (b : Int))) else none) = _
  rw [if_pos (by omega)]
  rfl
theorem div_nat {a b : Nat} (h : 0 < b) (h2 : b < 1073741824) : dDiv (iN a) (iN b) = some (iN (a / b)) := by
  show (if (0 : Int) < (b : Int) ∧ (b : Int) < 1073741824 then some (D.int ((a : Int) / (b : Int))) else none) = _
  rw [if_pos (by omega)]
  rfl
theorem dMul_int {a b : Int} (h : (-(2 ^ 64) < a ∧ a < 2 ^ 64) ∨ (-(2 ^ 64) < b ∧ b < 2 ^ 64)) : dMul (.int a) (.int b) = some (.int (a * b)) := if_pos h
theorem mul_nat {a b : Nat} (h : a < 2 ^ 63 ∨ b < 2 ^ 63) : dMul (iN a) (iN b) = some (iN (a * b)) := by
  rw [iN, iN, dMul_int (by omega), iN, Int.natCast_mul]
theorem add_nat (a b : Nat) : dPlus (iN a) (iN b) = some (iN (a + b)) := rfl
theorem g_step (x y : D) {a b : Nat} (h : 0 < b) : gStep (gE x y a b) = .ok .nx (gE x y b (a % b)) := by
  have e : sBin dMod (sVar 2) (sBor 3) (gE x y a b) = .ok (iN (a % b)) (gE x y a b) := bin_ok (x := iN a) (y := iN b) rfl rfl (mod_nat h)
  unfold gStep sPar2 pF
  rw [show sVar 3 (gE x y a b) = .ok (iN b) (gE x y a b) from rfl]
  simp only [bnd, e, pNil]
  rfl
section
variable {T : En → Y.R Bool} {x y : D} (hT : ∀ a b, T (gE x y a b) = .ok (decide (b ≠ 0)) (gE x y a b))
include hT
theorem g_done (f a : Nat) : whL T gStep (f + 1) (gE x y a 0) = .ok .nx (gE x y a 0) := by
  unfold whL
  rw [hT]
  simp [bnd]
theorem g_go (f a : Nat) {b : Nat} (h : 0 < b) : whL T gStep (f + 1) (gE x y a b) = whL T gStep f (gE x y b (a % b)) := by
  conv => lhs; unfold whL
  rw [hT, decide_eq_true (show b ≠ 0 by omega)]
  simp only [bnd, if_true, g_step x y h]
theorem g_loop : ∀ (n f a b : Nat), b < 2 ^ n → 2 * n + 1 ≤ f → whL T gStep f (gE x y a b) = .ok .nx (gE x y (Nat.gcd a b) 0)
  | 0, f, a, b, hb, hf => by
    have e : b = 0 := by simp at hb; exact hb
    obtain ⟨g, rfl⟩ : ∃ g, f = g + 1 := ⟨f - 1, by omega⟩
    rw [e, g_done hT, Nat.gcd_zero_right]
  | n + 1, f, a, b, hb, hf => by
    obtain ⟨g, rfl⟩ : ∃ g, f = g + 2 := ⟨f - 2, by omega⟩
    by_cases e : b = 0
    · rw [e, g_done hT, Nat.gcd_zero_right]
    · have rec1 : Nat.gcd a b = Nat.gcd b (a % b) := by rw [Nat.gcd_comm a b, Nat.gcd_rec, Nat.gcd_comm]
      rw [g_go hT (g + 1) a (show 0 < b by omega), rec1]
      have hr : a % b < b := Nat.mod_lt _ (by omega)
      generalize a % b = r at hr
      by_cases er : r = 0
      · rw [er, g_done hT, Nat.gcd_zero_right]
      · have rec2 : Nat.gcd b r = Nat.gcd r (b % r) := by rw [Nat.gcd_comm b r, Nat.gcd_rec, Nat.gcd_comm]
        rw [g_go hT g b (show 0 < r by omega), rec2]
        have h1 : b % r < r := Nat.mod_lt _ (by omega)
        have h2 := Nat.mod_add_div b r
        have h3 : 1 ≤ b / r := (Nat.le_div_iff_mul_le (by omega)).mpr (by omega)
        have h4 : r * 1 ≤ r * (b / r) := Nat.mul_le_mul_left _ h3
        refine g_loop n g r (b % r) ?_ (by omega)
        rw [Nat.pow_succ] at hb
        omega
end
theorem frac_gen {T : En → Y.R Bool} (hT : ∀ x y a b, T (gE x y a b) = .ok (decide (b ≠ 0)) (gE x y a b)) {t b : Nat} (h : 0 < b) (h2 : b < 2 ^ 64) (h3 : Nat.gcd t b < 1073741824) :
    (sSeq (sPar2 2 3 (pF (s1 dAbs (sBor 0)) (pF (sVar 1) pNil))) (sSeq (whL T gStep 1000) (sRet (sMk .tup (sCons (sBin dDiv (sVar 0) (sBor 2)) (sCons (sBin dDiv (sVar 1) (sBor 2)) sNil)))))) [some (.f (iN t)), some (.f (iN b)), none, none] = .ok (.rt (fD (frN t b))) (gE (iN t) (iN b) (Nat.gcd t b) 0) := by
  have e1 : sPar2 2 3 (pF (s1 dAbs (sBor 0)) (pF (sVar 1) pNil)) [some (.f (iN t)), some (.f (iN b)), none, none] = .ok .nx (gE (iN t) (iN b) t b) := by
    have a1 : s1 dAbs (sBor 0) [some (.f (iN t)), some (.f (iN b)), none, none] = .ok (iN t) [some (.f (iN t)), some (.f (iN b)), none, none] := s1_ok (d := iN t) rfl (by
      show some (D.int (if (t : Int) < 0 then -(t : Int) else t)) = _
      rw [if_neg (by omega)])
    unfold sPar2 pF
    rw [a1]
    rfl
  have e2 := g_loop (hT (iN t) (iN b)) 64 1000 t b h2 (by decide)
  have gp : 0 < Nat.gcd t b := Nat.gcd_pos_of_pos_right _ h
  refine (seq_ok e1).trans ((seq_ok e2).trans (ret_ok (mk_ok (cons_ok (bin_ok (x := iN t) (y := iN (Nat.gcd t b)) rfl rfl (div_nat gp h3)) (one_ok (bin_ok (x := iN b) (y := iN (Nat.gcd t b)) rfl rfl (div_nat gp h3)))) (small (show 2 ≤ 100000 by decide)))))
theorem tru_nat (b : Nat) : tru (iN b) = some (decide (b ≠ 0)) := by
  show some ((b : Int) != 0) = _
  congr 1
  by_cases h : b = 0
  · rw [h]; rfl
  · rw [decide_eq_true h]
    simp
    exact h
theorem dNe_nat (a b : Nat) : dNe (iN a) (iN b) = some (decide (a ≠ b)) := by
  rw [dNe_ints]
  by_cases h : a = b <;> simp [h]
theorem frN_pos {t b : Nat} (h : 0 < b) : 0 < (frN t b).2 ∧ (frN t b).2 ≤ b := by
  have gp : 0 < Nat.gcd t b := Nat.gcd_pos_of_pos_right _ h
  have gl : Nat.gcd t b ≤ b := Nat.gcd_le_right _ h
  exact ⟨Nat.div_pos gl gp, Nat.div_le_self _ _⟩
def plN (p q : Nat × Nat) : Nat × Nat := frN (p.1 * q.2 + q.1 * p.2) (p.2 * q.2)
theorem plus_gen {ff : List D → FO} (hf : ∀ {t b : Nat}, 0 < b → b < 2 ^ 64 → Nat.gcd t b < 1073741824 → ff [iN t, iN b] = .val false (fD (frN t b)) none) {p q : Nat × Nat} (hp : 0 < p.2) (hq : 0 < q.2) (h : p.2 * q.2 < 2 ^ 62) (h3 : Nat.gcd (p.1 * q.2 + q.1 * p.2) (p.2 * q.2) < 1073741824) :
    sRet (sCall ff (sCons (sBin dPlus (sBin dMul (sBin dIx (sVar 0) (sC (.int 0))) (sBin dIx (sVar 1) (sC (.int 1)))) (sBin dMul (sBin dIx (sVar 1) (sC (.int 0))) (sBin dIx (sVar 0) (sC (.int 1))))) (sCons (sBin dMul (sBin dIx (sVar 0) (sC (.int 1))) (sBin dIx (sVar 1) (sC (.int 1)))) sNil))) [some (.f (fD p)), some (.f (fD q))] = .ok (.rt (fD (plN p q))) [some (.f (fD p)), some (.f (fD q))] := by
  have hp2 : p.2 < 2 ^ 63 := Nat.lt_of_le_of_lt (Nat.le_mul_of_pos_right _ hq) (by omega)
  have hq2 : q.2 < 2 ^ 63 := Nat.lt_of_le_of_lt (Nat.le_mul_of_pos_left _ hp) (by omega)
  generalize hρ : ([some (.f (fD p)), some (.f (fD q))] : En) = ρ
  have a0 : sBin dIx (sVar 0) (sC (.int 0)) ρ = .ok (iN p.1) ρ := by subst hρ; exact bin_ok (x := fD p) rfl rfl rfl
  have a1 : sBin dIx (sVar 0) (sC (.int 1)) ρ = .ok (iN p.2) ρ := by subst hρ; exact bin_ok (x := fD p) rfl rfl rfl
  have b0 : sBin dIx (sVar 1) (sC (.int 0)) ρ = .ok (iN q.1) ρ := by subst hρ; exact bin_ok (x := fD q) rfl rfl rfl
  have b1 : sBin dIx (sVar 1) (sC (.int 1)) ρ = .ok (iN q.2) ρ := by subst hρ; exact bin_ok (x := fD q) rfl rfl rfl
  exact ret_ok (call_ok (cons_ok (bin_ok (bin_ok a0 b1 (mul_nat (.inr hq2))) (bin_ok b0 a1 (mul_nat (.inr hp2))) (add_nat _ _)) (one_ok (bin_ok a1 b1 (mul_nat (.inl hp2))))) (hf (Nat.mul_pos hp hq) (Nat.lt_trans h (by decide)) h3))
/-! ### the greatest common divisors stay small -/
theorem gcd_plus {a b c d : Nat} (h : Nat.gcd a b = 1) (hd : 0 < d) : Nat.gcd (a * d + c * b) (b * d) ≤ d * d := by
  have g1 : Nat.gcd (a * d + c * b) (b * d) ∣ a * d + c * b := Nat.gcd_dvd_left _ _
  have g2 : Nat.gcd (a * d + c * b) (b * d) ∣ b * d := Nat.gcd_dvd_right _ _
  generalize Nat.gcd (a * d + c * b) (b * d) = g at g1 g2
  have e1 : (a * d + c * b) * d = a * (d * d) + c * (b * d) := by rw [Nat.add_mul, Nat.mul_assoc, Nat.mul_assoc]
  have g3 : g ∣ a * (d * d) + c * (b * d) := e1 ▸ Nat.dvd_trans g1 (Nat.dvd_mul_right _ _)
  have g4 : g ∣ c * (b * d) := Nat.dvd_trans g2 (Nat.dvd_mul_left _ _)
  have g5 : g ∣ a * (d * d) := (Nat.dvd_add_left g4).mp g3
  have g6 : g ∣ b * (d * d) := by rw [← Nat.mul_assoc]; exact Nat.dvd_trans g2 (Nat.dvd_mul_right _ _)
  have g7 := Nat.dvd_gcd g5 g6
  rw [Nat.gcd_mul_right, h, Nat.one_mul] at g7
  exact Nat.le_of_dvd (Nat.mul_pos hd hd) g7
theorem gcd_times {a b w : Nat} (h : Nat.gcd a b = 1) (hw : 0 < w) : Nat.gcd a (b * w) ≤ w := by
  have g1 : Nat.gcd a (b * w) ∣ a := Nat.gcd_dvd_left _ _
  have g2 : Nat.gcd a (b * w) ∣ b * w := Nat.gcd_dvd_right _ _
  generalize Nat.gcd a (b * w) = g at g1 g2
  have g7 := Nat.dvd_gcd (Nat.dvd_trans g1 (Nat.dvd_mul_right a w)) g2
  rw [Nat.gcd_mul_right, h, Nat.one_mul] at g7
  exact Nat.le_of_dvd hw g7
theorem frN_red {t b : Nat} (h : 0 < b) : Nat.gcd (frN t b).1 (frN t b).2 = 1 := by
  have gp : 0 < Nat.gcd t b := Nat.gcd_pos_of_pos_right _ h
  show Nat.gcd (t / Nat.gcd t b) (b / Nat.gcd t b) = 1
  rw [Nat.gcd_div (Nat.gcd_dvd_left _ _) (Nat.gcd_dvd_right _ _), Nat.div_self gp]
end Y

set_option Elab.async false
set_option linter.all false
set_option maxRecDepth 100000
set_option maxHeartbeats 4000000
/-! means, hours, results -/
namespace Y
open PySem PySem.Spec PyProof.Rows L2 PySem.W
/-! ### data that may be compared -/
def dk (n : Nat) (d : D) : Prop := okD d = true ∧ (py d).depth ≤ n
theorem dk_nd {n : Nat} {k : Kd} (hk : k = .lst ∨ k = .tup) {xs : List D} (h : ∀ x ∈ xs, dk n x) : dk (n + 1) (.nd k xs) := by
  obtain ⟨h1, h2⟩ := okDs_of h
  rcases hk with rfl | rfl
  · exact ⟨by simpa [okD] using h1, by simp only [py, PyData.depth]; omega⟩
  · exact ⟨by simpa [okD] using h1, by simp only [py, PyData.depth]; omega⟩
theorem dk_int (n : Nat) (i : Int) : dk n (.int i) := ⟨by simp [okD], by simp [py, PyData.depth]⟩
theorem dk_bl (n : Nat) (b : Bool) : dk n (.bl b) := ⟨by simp [okD], by simp [py, PyData.depth]⟩
theorem dk_non (n : Nat) : dk n .non := ⟨by simp [okD], by simp [py, PyData.depth]⟩
theorem dk_str (n : Nat) {s : Str} (h : strG s = true) : dk n (.str s) := ⟨by simpa [okD] using h, by simp [py, PyData.depth]⟩
theorem dk_dok {n : Nat} (hn : n ≤ 64) {d : D} (h : dk n d) : dok d = true := by
  unfold dok
  rw [h.1, Bool.true_and, decide_eq_true_eq]
  exact Nat.le_trans h.2 hn
theorem eq_tup {xs : List D} (h : dok (.nd .tup xs) = true) : dEq (.nd .tup xs) (.nd .tup []) = some xs.isEmpty := by
  unfold dEq
  rw [if_pos ⟨h, rfl⟩]
  cases xs <;> simp [py, pys, PyData.eqv, PyData.eqvAll]
theorem dEq_str {a b : Str} (ha : strG a = true) (hb : strG b = true) : dEq (.str a) (.str b) = some (decide (a = b)) := by
  unfold dEq
  rw [if_pos ⟨dok_str ha, dok_str hb⟩, eqv_str]
theorem dEq_bl (a b : Bool) : dEq (.bl a) (.bl b) = some (decide (a = b)) := by cases a <;> cases b <;> rfl
theorem gt_nat (a b : Nat) : dGt (iN a) (iN b) = some (decide (b < a)) := by
  show some (decide ((b : Int) < (a : Int))) = _
  congr 1
  exact decide_eq_decide.mpr (by omega)
theorem lt_nat (a b : Nat) : dLt (iN a) (iN b) = some (decide (a < b)) := by
  show some (decide ((a : Int) < (b : Int))) = _
  congr 1
  exact decide_eq_decide.mpr (by omega)
theorem le_nat (a b : Nat) : dLe (iN a) (iN b) = some (decide (a ≤ b)) := by
  show some (decide ((a : Int) ≤ (b : Int))) = _
  congr 1
  exact decide_eq_decide.mpr (by omega)
theorem ge_nat (a b : Nat) : dGe (iN a) (iN b) = some (decide (b ≤ a)) := by
  show some (decide ((b : Int) ≤ (a : Int))) = _
  congr 1
  exact decide_eq_decide.mpr (by omega)
theorem it_ok {f : En → Y.R D} {ρ ρ1 : En} {d : D} {ds : List D} (e : f ρ = .ok d ρ1) (e2 : itD d = some ds) : sIt f ρ = .ok ds ρ1 := by
  unfold sIt
  rw [e]
  show lift (itD d) ρ1 = _
  rw [e2]
  rfl
theorem lc_ty {α : Type} {g : D → En → Option En} {t : En → Y.R Bool} {e : En → Y.R D} {vs : List Nat} {ρ : En} (f : α → D) (q : α → Bool) (p : α → D) : ∀ (xs : List α) (acc : List D), (∀ x ∈ xs, ∃ ρ1, g (f x) ρ = some ρ1 ∧ t ρ1 = .ok (q x) ρ1 ∧ (q x = true → e ρ1 = .ok (p x) ρ1) ∧ wipeE vs ρ1 = ρ) → acc.length + xs.length ≤ 100000 →
    lcL g t e vs (xs.map f) ρ acc = .ok (.nd .lst (acc ++ (xs.filter q).map p)) ρ
  | [], acc, _, _ => by rw [List.map_nil, List.filter_nil, List.map_nil, List.append_nil]; rfl
  | x :: xs, acc, h, hl => by
    rw [List.length_cons] at hl
    obtain ⟨ρ1, h1, h2, h3, h4⟩ := h x List.mem_cons_self
    have hr := fun y hy => h y (List.mem_cons_of_mem x hy)
    rw [List.map_cons]
    conv => lhs; unfold lcL
    rw [h1]
    simp only [noX, bnd, h2]
    cases hq : q x with
    | true =>
      have ih := lc_ty f q p xs (acc ++ [p x]) hr (by rw [List.length_append, List.length_singleton]; omega)
      simp only [if_true, h3 hq, noX, bnd]
      rw [if_pos (Nat.lt_of_le_of_lt (show acc.length ≤ 100000 by omega) (by decide)), h4, ih, List.filter_cons, if_pos hq]
      simp
    | false =>
      have ih := lc_ty f q p xs acc hr (by omega)
      simp only [Bool.false_eq_true, if_false]
      rw [h4, ih, List.filter_cons, if_neg (by rw [hq]; exact Bool.false_ne_true)]
theorem slc_ty {α : Type} {src : En → Y.R (List D)} {g : D → En → Option En} {t : En → Y.R Bool} {e : En → Y.R D} {vs : List Nat} {ρ : En} {R : List D} (f : α → D) (q : α → Bool) (p : α → D) (xs : List α) (hs : src ρ = .ok (xs.map f) ρ) (hw : wipeE vs ρ = ρ)
    (h : ∀ x ∈ xs, ∃ ρ1, g (f x) ρ = some ρ1 ∧ t ρ1 = .ok (q x) ρ1 ∧ (q x = true → e ρ1 = .ok (p x) ρ1) ∧ wipeE vs ρ1 = ρ) (hl : xs.length ≤ 100000) (hr : (xs.filter q).map p = R) : sLc src g t e vs ρ = .ok (.nd .lst R) ρ :=
  sLc_ok hs hw ((lc_ty f q p xs [] h (by simpa using hl)).trans (by rw [List.nil_append, hr]))
theorem ints_nat : ∀ l : List Nat, intsD (l.map iN) = some (l.map fun n : Nat => (n : Int))
  | [] => rfl
  | n :: l => by
    rw [List.map_cons]
    unfold intsD
    rw [ints_nat l]
    rfl
theorem sum_cast : ∀ l : List Nat, (l.map fun n : Nat => (n : Int)).sum = ((l.sum : Nat) : Int)
  | [] => rfl
  | n :: l => by rw [List.map_cons, List.sum_cons, List.sum_cons, sum_cast l, Int.natCast_add]
theorem sum_nat (l : List Nat) : dSum (.nd .lst (l.map iN)) = some (iN l.sum) := by
  show (intsD (l.map iN)).map (fun bs => D.int bs.sum) = _
  rw [ints_nat, Option.map_some, sum_cast]
/-! ### rules, takes -/
structure Rl where
  ks : List (Str × Nat)
  gs : List (Nat × Str)
  good : Nat
  lim : Nat
  lift : Nat
structure Tk where
  nm : Str
  wt : Nat
  ms : List (Nat × Str × Nat)
  ps : List (Nat × Nat × Bool)
def kindD (k : Str × Nat) : D := .nd .tup [.str k.1, iN k.2]
def gradeD (g : Nat × Str) : D := .nd .tup [iN g.1, .str g.2]
def rulesD (R : Rl) : D := .nd .tup [.nd .tup (R.ks.map kindD), .nd .tup (R.gs.map gradeD), iN R.good, iN R.lim, iN R.lift]
def markD (m : Nat × Str × Nat) : D := .nd .tup [iN m.1, .str m.2.1, iN m.2.2]
def gapD (g : Nat × Nat × Bool) : D := .nd .tup [iN g.1, iN g.2.1, .bl g.2.2]
def takeD (t : Tk) : D := .nd .tup [.str t.nm, iN t.wt, .nd .tup (t.ms.map markD), .nd .tup (t.ps.map gapD)]
structure RlOk (R : Rl) : Prop where
  kn : R.ks.length ≤ 4
  k1 : ∀ k ∈ R.ks, strG k.1 = true ∧ 1 ≤ k.2 ∧ k.2 ≤ 9
  gn : R.gs.length ≤ 6
  g0 : ∃ s gs, R.gs = (0, s) :: gs
  g1 : ∀ g ∈ R.gs, strG g.2 = true ∧ g.1 ≤ 100
  g2 : R.gs.Pairwise fun a b => a.1 ≤ b.1
structure TkOk (R : Rl) (t : Tk) : Prop where
  nm : strG t.nm = true
  mn : t.ms.length ≤ 12
  m1 : ∀ m ∈ t.ms, strG m.2.1 = true ∧ m.2.1 ∈ R.ks.map (·.1)
  pn : t.ps.length ≤ 12
/-! ### means -/
def valsN (ms : List (Nat × Str × Nat)) (k : Str) : List Nat := (ms.filter fun m => decide (m.2.1 = k)).map (·.2.2)
def mStep (ms : List (Nat × Str × Nat)) (a : (Nat × Nat) × Nat) (k : Str × Nat) : (Nat × Nat) × Nat := if (valsN ms k.1).isEmpty then a else (plN a.1 (frN (k.2 * (valsN ms k.1).sum) (valsN ms k.1).length), a.2 + k.2)
def mAcc (ks : List (Str × Nat)) (ms : List (Nat × Str × Nat)) : (Nat × Nat) × Nat := ks.foldl (mStep ms) ((0, 1), 0)
def meanN (ks : List (Str × Nat)) (ms : List (Nat × Str × Nat)) : Option (Nat × Nat) := if (mAcc ks ms).2 = 0 then none else some (frN (mAcc ks ms).1.1 ((mAcc ks ms).1.2 * (mAcc ks ms).2))
def meanD : Option (Nat × Nat) → D
  | none => .non
  | some p => fD p
abbrev valsL : En → Y.R D := sLc (sIt (sBin dIx (sVar 1) (sC (.int 2)))) (hTup 3 (hCons (hName 7) (hCons (hName 8) (hCons (hName 9) hNil)))) (sBin dEq (sVar 8) (sBor 4)) (sVar 9) [7, 8, 9]
def mE (R T : D) (p : Nat × Nat) (n : Nat) (x4 x5 x6 : Option S) : En := [some (.f R), some (.f T), some (.f (fD p)), some (.f (iN n)), x4, x5, x6, none, none, none]
theorem vals_ok {t : Tk} (hn : t.ms.length ≤ 1000) (hg : ∀ m ∈ t.ms, strG m.2.1 = true) {k : Str} (hk : strG k = true) (R : D) (p : Nat × Nat) (n : Nat) (x5 x6 : Option S) :
    valsL (mE R (takeD t) p n (some (.f (.str k))) x5 x6) = .ok (.nd .lst ((valsN t.ms k).map iN)) (mE R (takeD t) p n (some (.f (.str k))) x5 x6) := by
  exact slc_ty markD (fun m => decide (m.2.1 = k)) (fun m => iN m.2.2) t.ms (it_ok (bin_ok (x := takeD t) rfl rfl rfl) rfl) rfl (fun m hm => ⟨[some (.f R), some (.f (takeD t)), some (.f (fD p)), some (.f (iN n)), some (.f (.str k)), x5, x6, some (.f (iN m.1)), some (.f (.str m.2.1)), some (.f (iN m.2.2))], rfl, bin_ok (x := .str m.2.1) (y := .str k) rfl rfl (dEq_str (hg m hm) hk), fun _ => rfl, rfl⟩) (by omega) (by rw [valsN, List.map_map]; rfl)
abbrev meanB (fa ff : List D → FO) (T : En → Y.R Bool) (u : En → Y.R Fl) : En → Y.R Fl := sSeq (sSet 6 valsL) (sIfS T (sSeq (sSet 2 (sCall fa (sCons (sVar 2) (sCons (sCall ff (sCons (sBin dMul (sVar 5) (s1 dSum (sBor 6))) (sCons (s1 dLen' (sBor 6)) sNil))) sNil)))) u) sNx)
theorem mean_loop {fa ff : List D → FO} {T : En → Y.R Bool} {u : En → Y.R Fl} {R : D} {t : Tk}
    (hf : ∀ {t b : Nat}, 0 < b → b < 1073741824 → ff [iN t, iN b] = .val false (fD (frN t b)) none) (ha : ∀ {p q : Nat × Nat}, 0 < p.2 → 0 < q.2 → p.2 * q.2 < 1073741824 → fa [fD p, fD q] = .val false (fD (plN p q)) none)
    (hT : ∀ p n x4 x5 (vs : List Nat), T (mE R (takeD t) p n x4 x5 (some (.f (.nd .lst (vs.map iN))))) = .ok (!vs.isEmpty) (mE R (takeD t) p n x4 x5 (some (.f (.nd .lst (vs.map iN))))))
    (hu : ∀ p n x4 (s : Nat) x6, u (mE R (takeD t) p n x4 (some (.f (iN s))) x6) = .ok .nx (mE R (takeD t) p (n + s) x4 (some (.f (iN s))) x6))
    (hn : t.ms.length ≤ 12) (hg : ∀ m ∈ t.ms, strG m.2.1 = true) : ∀ (ks : List (Str × Nat)) (p : Nat × Nat) (n : Nat) (x4 x5 x6 : Option S), (∀ k ∈ ks, strG k.1 = true ∧ 1 ≤ k.2 ∧ k.2 ≤ 9) → 0 < p.2 → p.2 * 12 ^ ks.length ≤ 20736 →
    (∃ y4 y5 y6, forL (hTup 2 (hCons (hName 4) (hCons (hName 5) hNil))) (meanB fa ff T u) (ks.map kindD) (mE R (takeD t) p n x4 x5 x6) = .ok .nx (mE R (takeD t) (ks.foldl (mStep t.ms) (p, n)).1 (ks.foldl (mStep t.ms) (p, n)).2 y4 y5 y6)) ∧ 0 < (ks.foldl (mStep t.ms) (p, n)).1.2 ∧ (ks.foldl (mStep t.ms) (p, n)).1.2 ≤ 20736 ∧ (ks.foldl (mStep t.ms) (p, n)).2 ≤ n + 9 * ks.length
  | [], p, n, x4, x5, x6, _, h0, h1 => ⟨⟨x4, x5, x6, rfl⟩, h0, by simpa using h1, by simp⟩
  | k :: ks, p, n, x4, x5, x6, hk, h0, h1 => by
    rw [List.length_cons, Nat.pow_succ] at h1
    obtain ⟨k1, k2, k3⟩ := hk k List.mem_cons_self
    have hr := fun y hy => hk y (List.mem_cons_of_mem k hy)
    have hp : 1 ≤ 12 ^ ks.length := Nat.one_le_pow _ _ (by decide)
    have e1 := vals_ok (t := t) (by omega) hg k1 R p n (some (.f (iN k.2))) x6
    have s1' : sSet 6 valsL (mE R (takeD t) p n (some (.f (.str k.1))) (some (.f (iN k.2))) x6) = .ok .nx (mE R (takeD t) p n (some (.f (.str k.1))) (some (.f (iN k.2))) (some (.f (.nd .lst ((valsN t.ms k.1).map iN))))) := set_call (i := 6) e1
    have hv : (valsN t.ms k.1).length ≤ 12 := by
      rw [valsN, List.length_map]
      exact Nat.le_trans (List.length_filter_le _ _) hn
    have t1 := hT p n (some (.f (.str k.1))) (some (.f (iN k.2))) (valsN t.ms k.1)
    have hd : hTup 2 (hCons (hName 4) (hCons (hName 5) hNil)) (kindD k) (mE R (takeD t) p n x4 x5 x6) = some (mE R (takeD t) p n (some (.f (.str k.1))) (some (.f (iN k.2))) x6) := rfl
    rw [List.foldl_cons]
    by_cases hv0 : (valsN t.ms k.1).isEmpty
    · have st : mStep t.ms (p, n) k = (p, n) := if_pos hv0
      rw [hv0] at t1
      have h1' : p.2 * 12 ^ ks.length ≤ 20736 := Nat.le_trans (Nat.mul_le_mul_left _ (by omega)) h1
      obtain ⟨⟨y4, y5, y6, e⟩, g1, g2, g3⟩ := mean_loop hf ha hT hu hn hg ks p n (some (.f (.str k.1))) (some (.f (iN k.2))) (some (.f (.nd .lst ((valsN t.ms k.1).map iN)))) hr h0 h1'
      rw [st]
      refine ⟨⟨y4, y5, y6, ?_⟩, g1, g2, by rw [List.length_cons]; omega⟩
      rw [List.map_cons]
      conv => lhs; unfold forL
      rw [hd]
      dsimp only
      rw [show meanB fa ff T u (mE R (takeD t) p n (some (.f (.str k.1))) (some (.f (iN k.2))) x6) = .ok .nx (mE R (takeD t) p n (some (.f (.str k.1))) (some (.f (iN k.2))) (some (.f (.nd .lst ((valsN t.ms k.1).map iN))))) from (seq_ok s1').trans (if_no t1)]
      exact e
    · have hv1 : (valsN t.ms k.1).isEmpty = false := by simpa using hv0
      have st : mStep t.ms (p, n) k = (plN p (frN (k.2 * (valsN t.ms k.1).sum) (valsN t.ms k.1).length), n + k.2) := if_neg hv0
      rw [hv1] at t1
      have hl : 0 < (valsN t.ms k.1).length := List.length_pos_iff.mpr (by intro z; rw [z] at hv1; cases hv1)
      obtain ⟨q0, q1⟩ := frN_pos (t := k.2 * (valsN t.ms k.1).sum) hl
      generalize hq : frN (k.2 * (valsN t.ms k.1).sum) (valsN t.ms k.1).length = q at q0 q1 st
      have hpq : p.2 * q.2 ≤ p.2 * 12 := Nat.mul_le_mul_left _ (by omega)
      have h12 : p.2 * 12 * 12 ^ ks.length ≤ 20736 := by
        rw [Nat.mul_assoc, Nat.mul_comm 12]; exact h1
      have hpl : p.2 * 12 ≤ 20736 := Nat.le_trans (Nat.le_mul_of_pos_right _ (by omega)) h12
      obtain ⟨r0, r1⟩ := frN_pos (t := p.1 * q.2 + q.1 * p.2) (Nat.mul_pos h0 q0)
      have h1' : (plN p q).2 * 12 ^ ks.length ≤ 20736 := Nat.le_trans (Nat.mul_le_mul_right _ (Nat.le_trans r1 hpq)) h12
      obtain ⟨⟨y4, y5, y6, e⟩, g1, g2, g3⟩ := mean_loop hf ha hT hu hn hg ks (plN p q) (n + k.2) (some (.f (.str k.1))) (some (.f (iN k.2))) (some (.f (.nd .lst ((valsN t.ms k.1).map iN)))) hr r0 h1'
      rw [st]
      refine ⟨⟨y4, y5, y6, ?_⟩, g1, g2, by rw [List.length_cons]; omega⟩
      rw [List.map_cons]
      conv => lhs; unfold forL
      rw [hd]
      dsimp only
      have hρ : ∀ ρ, ρ = mE R (takeD t) p n (some (.f (.str k.1))) (some (.f (iN k.2))) (some (.f (.nd .lst ((valsN t.ms k.1).map iN)))) → sSet 2 (sCall fa (sCons (sVar 2) (sCons (sCall ff (sCons (sBin dMul (sVar 5) (s1 dSum (sBor 6))) (sCons (s1 dLen' (sBor 6)) sNil))) sNil))) ρ = .ok .nx (ρ.set 2 (some (.f (fD (plN p q))))) := fun ρ hρ => by
        have v2 : sVar 2 ρ = .ok (fD p) ρ := by subst hρ; rfl
        have v5 : sVar 5 ρ = .ok (iN k.2) ρ := by subst hρ; rfl
        have v6 : sBor 6 ρ = .ok (.nd .lst ((valsN t.ms k.1).map iN)) ρ := by subst hρ; rfl
        have c1 : sCall ff (sCons (sBin dMul (sVar 5) (s1 dSum (sBor 6))) (sCons (s1 dLen' (sBor 6)) sNil)) ρ = .ok (fD q) ρ := by
          have hh : ff [iN (k.2 * (valsN t.ms k.1).sum), iN ((valsN t.ms k.1).map iN).length] = .val false (fD q) none := by
            rw [List.length_map, ← hq]
            exact hf hl (by omega)
          exact call_ok (cons_ok (bin_ok v5 (s1_ok v6 (sum_nat _)) (mul_nat (.inl (by omega)))) (one_ok (s1_ok v6 (len_nd (.inl rfl) _)))) hh
        exact set_call (call_ok (cons_ok v2 (one_ok c1)) (ha h0 q0 (by omega)))
      rw [show meanB fa ff T u (mE R (takeD t) p n (some (.f (.str k.1))) (some (.f (iN k.2))) x6) = .ok .nx (mE R (takeD t) (plN p q) (n + k.2) (some (.f (.str k.1))) (some (.f (iN k.2))) (some (.f (.nd .lst ((valsN t.ms k.1).map iN))))) from (seq_ok s1').trans ((if_yes t1).trans ((seq_ok (hρ _ rfl)).trans (hu (plN p q) n _ k.2 _)))]
      exact e
end Y

set_option Elab.async false
set_option linter.all false
set_option maxRecDepth 100000
set_option maxHeartbeats 4000000
/-! means, hours, results: the defs -/
namespace Y
open PySem PySem.Spec PyProof.Rows L2 PySem.W
theorem asg_ok {g : D → En → Option En} {f : En → Y.R D} {ρ ρ1 ρ2 : En} {d : D} (e : f ρ = .ok d ρ1) (e2 : g d ρ1 = some ρ2) : sAsg g f ρ = .ok .nx ρ2 := by
  unfold sAsg
  rw [e]
  simp only [bnd, e2]
theorem for_ok {src : En → Y.R (List D)} {g : D → En → Option En} {b : En → Y.R Fl} {ρ ρ1 : En} {ds : List D} {r : Y.R Fl} (e : src ρ = .ok ds ρ1) (e2 : forL g b ds ρ1 = r) : sFor src g b ρ = r := by
  unfold sFor
  rw [e]
  exact e2
theorem out_skip {t : En → Y.R Bool} {a b : En → Y.R Fl} {ρ ρ1 : En} (e : t ρ = .ok false ρ1) : sSeq (sIfS t a sNx) b ρ = b ρ1 := seq_ok ((if_no e).trans rfl)
theorem iff_ok {α : Type} {t : En → Y.R Bool} {a b : En → Y.R α} {ρ ρ1 : En} {c : Bool} (e : t ρ = .ok c ρ1) : sIf t a b ρ = if c = true then a ρ1 else b ρ1 := by
  unfold sIf
  rw [e]
  rfl
theorem vals_nil {ms : List (Nat × Str × Nat)} {k : Str} (h : valsN ms k ≠ []) : ∃ m ∈ ms, m.2.1 = k := by
  obtain ⟨x, hx⟩ := List.exists_mem_of_ne_nil _ h
  obtain ⟨m, hm, _⟩ := List.mem_map.mp hx
  obtain ⟨h1, h2⟩ := List.mem_filter.mp hm
  exact ⟨m, h1, of_decide_eq_true h2⟩
theorem acc_mono (ms : List (Nat × Str × Nat)) : ∀ (ks : List (Str × Nat)) (a : (Nat × Nat) × Nat), a.2 ≤ (ks.foldl (mStep ms) a).2
  | [], a => Nat.le_refl _
  | k :: ks, a => by
    rw [List.foldl_cons]
    refine Nat.le_trans ?_ (acc_mono ms ks _)
    unfold mStep
    split
    · exact Nat.le_refl _
    · exact Nat.le_add_right _ _
theorem acc_pos {ms : List (Nat × Str × Nat)} : ∀ (ks : List (Str × Nat)) (a : (Nat × Nat) × Nat), (∀ k ∈ ks, 1 ≤ k.2) → (∃ k ∈ ks, valsN ms k.1 ≠ []) → 0 < (ks.foldl (mStep ms) a).2
  | [], a, _, ⟨k, h, _⟩ => by cases h
  | k :: ks, a, h1, ⟨j, hj, hv⟩ => by
    rw [List.foldl_cons]
    rcases List.mem_cons.mp hj with rfl | hj
    · refine Nat.lt_of_lt_of_le ?_ (acc_mono ms ks _)
      unfold mStep
      rw [if_neg (by simpa using hv)]
      have := h1 j List.mem_cons_self
      show 0 < a.2 + j.2
      omega
    · exact acc_pos ks _ (fun x hx => h1 x (List.mem_cons_of_mem _ hx)) ⟨j, hj, hv⟩
theorem acc_none : ∀ (ks : List (Str × Nat)) (a : (Nat × Nat) × Nat), ks.foldl (mStep []) a = a
  | [], a => rfl
  | k :: ks, a => by
    rw [List.foldl_cons, acc_none ks]
    exact if_pos rfl
section
variable {R : Rl} {t : Tk} (hR : RlOk R) (hT : TkOk R t)
include hR hT
theorem mean_none : meanN R.ks t.ms = none ↔ t.ms = [] := by
  unfold meanN
  constructor
  · intro h
    cases e : t.ms with
    | nil => rfl
    | cons m ms =>
      have h2 := (hT.m1 m (by rw [e]; simp)).2
      obtain ⟨k, hk, ek⟩ := List.mem_map.mp h2
      have : 0 < (mAcc R.ks t.ms).2 := acc_pos R.ks _ (fun k hk => (hR.k1 k hk).2.1) ⟨k, hk, by
        unfold valsN
        rw [e, List.filter_cons, if_pos (by simpa using ek.symm)]
        simp⟩
      rw [if_neg (by omega)] at h
      cases h
  · intro h
    rw [h]
    exact if_pos (by unfold mAcc; rw [acc_none])
theorem dok_marks : dok (.nd .tup (t.ms.map markD)) = true := dk_dok (n := 2) (by decide) (dk_nd (.inr rfl) fun x hx => by
  obtain ⟨m, hm, rfl⟩ := List.mem_map.mp hx
  refine dk_nd (.inr rfl) fun y hy => ?_
  simp only [List.mem_cons, List.not_mem_nil, or_false] at hy
  rcases hy with rfl | rfl | rfl
  · exact dk_int _ _
  · exact dk_str _ (hT.m1 m hm).1
  · exact dk_int _ _)
end
end Y

set_option Elab.async false
set_option linter.all false
set_option maxRecDepth 100000
set_option maxHeartbeats 4000000
/-! hours, grades, results -/
namespace Y
open PySem PySem.Spec PyProof.Rows L2 PySem.W
theorem at_m1 {xs : List D} (h : 0 < xs.length) : dIx (.nd .lst xs) (.int (-1)) = some (xs[xs.length - 1]'(by omega)) := by
  have e : ((-1 : Int) + (xs.length : Int)).toNat = xs.length - 1 := by omega
  have c : (1 : Int) ≤ (xs.length : Int) := by omega
  simp [runF, argS, finF, outs, sSeq, sq, bnd, lift, sVar, sBor, sFrz, sMov, sC, sBin, sCmp, sChain, sTru, tru, sAndT, sOrT, sNotT, sAndV, sOrV, sNotV, sIf, sNil, sCons, sMk, s1, sN, sNx, sDrop, sRet, sRetO, sIfS, sSet, sSetO, sAsg, sPut, ownD, chg, ownL, isLst, sMeth, sIxV, bor, sCall, sCallO, sCallI, sCallIO, gSetL, ixN, dIx, atI, dGt, cmpI, dMod, dDiv, dMul, dPlus, dAdd, dSub, dNeg, dLt, dLen', dLen, sSlc, sSlcV, sPt, sNoPt, sIt, itD, sRg, rg1, hName, hTup, hCons, hNil, sFor, List.replicate, sPar2, pO, pF, pNil, noB, sIsiV, isTy, tyN, isA, sCmpV, sz0, sz1, sz2, sz3, sz4, sz5, e, c, h]
def hrN (ps : List (Nat × Nat × Bool)) (ex : Bool) : Nat := ((ps.filter fun g => decide (g.2.2 = ex)).map (·.2.1)).sum
def okG (p : Nat × Nat) (g : Nat × Str) : Bool := decide (g.1 * p.2 ≤ p.1)
def cntN (gs : List (Nat × Str)) (p : Nat × Nat) : Nat := (gs.filter (okG p)).length
def gpN (gs : List (Nat × Str)) (p : Nat × Nat) : Nat := cntN gs p - 1
def nmG (gs : List (Nat × Str)) (i : Nat) : Str := ((gs[i]?).map (·.2)).getD ""
def resN (R : Rl) (t : Tk) : Str := if R.lim < hrN t.ps false then "out" else match meanN R.ks t.ms with
  | none => "open"
  | some p => nmG R.gs (gpN R.gs p)
def goodN (R : Rl) (t : Tk) : Bool := !decide (R.lim < hrN t.ps false) && (match meanN R.ks t.ms with
  | none => false
  | some p => decide (R.good ≤ gpN R.gs p))
theorem cnt_pos {gs : List (Nat × Str)} (h : ∃ s l, gs = (0, s) :: l) (p : Nat × Nat) : 0 < cntN gs p ∧ gpN gs p < gs.length := by
  obtain ⟨s, l, rfl⟩ := h
  have h1 : 0 < cntN ((0, s) :: l) p := by
    unfold cntN
    rw [List.filter_cons, if_pos (by simp [okG])]
    simp
  have h2 : cntN ((0, s) :: l) p ≤ ((0, s) :: l).length := List.length_filter_le _ _
  unfold gpN
  exact ⟨h1, by omega⟩
theorem sub1_nat {n : Nat} (h : 0 < n) : dSub (iN n) (.int 1) = some (iN (n - 1)) := by
  show some (D.int ((n : Int) - 1)) = _
  congr 2
  omega
section
variable {R : Rl} (hR : RlOk R)
include hR
theorem name_at (j : Nat) (hj : j < R.gs.length) : dIx (.nd .tup (R.gs.map gradeD)) (iN j) = some (gradeD R.gs[j]) := by
  rw [at_tup (by rw [List.length_map]; exact hj), List.getElem_map]
theorem nmG_at (j : Nat) (hj : j < R.gs.length) : nmG R.gs j = R.gs[j].2 := by
  unfold nmG
  rw [List.getElem?_eq_getElem hj]
  rfl
omit hR in
theorem pref : ∀ (gs : List (Nat × Str)) (p : Nat × Nat) (s : Nat), (gs.Pairwise fun a b => a.1 ≤ b.1) → ((List.range' s gs.length).filter fun i => (gs[i - s]?).any (okG p)) = List.range' s (cntN gs p)
  | [], p, s, _ => rfl
  | g :: gs, p, s, h => by
    obtain ⟨h1, h2⟩ := List.pairwise_cons.mp h
    have ih := pref gs p (s + 1) h2
    have e : ((List.range' (s + 1) gs.length).filter fun i => ((g :: gs)[i - s]?).any (okG p)) = (List.range' (s + 1) gs.length).filter fun i => (gs[i - (s + 1)]?).any (okG p) := by
      refine List.filter_congr fun i hi => ?_
      rw [List.mem_range'_1] at hi
      rw [show i - s = (i - (s + 1)) + 1 by omega, List.getElem?_cons_succ]
    rw [List.length_cons, List.range'_succ, List.filter_cons, e, ih, Nat.sub_self, List.getElem?_cons_zero]
    show (if okG p g = true then _ else _) = _
    by_cases hg : okG p g = true
    · rw [if_pos hg]
      have : cntN (g :: gs) p = cntN gs p + 1 := by
        unfold cntN
        rw [List.filter_cons, if_pos hg, List.length_cons]
      rw [this, List.range'_succ]
    · rw [if_neg hg]
      have z : gs.filter (okG p) = [] := by
        rw [List.filter_eq_nil_iff]
        intro b hb hk
        refine hg (decide_eq_true ?_)
        have k1 : b.1 * p.2 ≤ p.1 := of_decide_eq_true hk
        exact Nat.le_trans (Nat.mul_le_mul_right _ (h1 b hb)) k1
      have z1 : cntN (g :: gs) p = 0 := by
        unfold cntN
        rw [List.filter_cons, if_neg hg, z]
        rfl
      have z2 : cntN gs p = 0 := by
        unfold cntN
        rw [z]
        rfl
      rw [z1, z2]
      rfl
theorem place_at {x3 : Option S} (T : D) (p : Nat × Nat) : sBin dIx (sLc (sRg rg1 (sCons (s1 dLen' (sBin dIx (sVar 0) (sC (.int 1)))) sNil)) (hName 4) (sBin dLe (sBin dMul (sBin dIx (sBin dIx (sBin dIx (sVar 0) (sC (.int 1))) (sVar 4)) (sC (.int 0))) (sBin dIx (sVar 2) (sC (.int 1)))) (sBin dIx (sVar 2) (sC (.int 0)))) (sVar 4) [4]) (s1 dNeg (sC (.int 1))) [some (.f (rulesD R)), some (.f T), some (.f (fD p)), x3, none] = .ok (iN (gpN R.gs p)) [some (.f (rulesD R)), some (.f T), some (.f (fD p)), x3, none] := by
  have hn := hR.gn
  generalize hρ : ([some (.f (rulesD R)), some (.f T), some (.f (fD p)), x3, none] : En) = ρ
  have hc := (cnt_pos hR.g0 p).1
  have lst : sLc (sRg rg1 (sCons (s1 dLen' (sBin dIx (sVar 0) (sC (.int 1)))) sNil)) (hName 4) (sBin dLe (sBin dMul (sBin dIx (sBin dIx (sBin dIx (sVar 0) (sC (.int 1))) (sVar 4)) (sC (.int 0))) (sBin dIx (sVar 2) (sC (.int 1)))) (sBin dIx (sVar 2) (sC (.int 0)))) (sVar 4) [4] ρ = .ok (.nd .lst ((List.range' 0 (cntN R.gs p)).map iN)) ρ := by
    refine slc_ty (fun i : Nat => iN i) (fun i => (R.gs[i]?).any (okG p)) iN (List.range' 0 R.gs.length) ?_ (by subst hρ; rfl) (fun i hi => ?_) (by rw [List.length_range']; omega) (by rw [← pref R.gs p 0 hR.g2]; rfl)
    · have ln : dLen' (.nd .tup (R.gs.map gradeD)) = some (iN R.gs.length) := by rw [len_nd (.inr rfl), List.length_map]
      refine rg_ok (ρ1 := ρ) (ds := [iN R.gs.length]) (by subst hρ; exact one_ok (s1_ok (bin_ok (x := rulesD R) rfl rfl rfl) ln)) ?_
      rw [rg1_nat (by omega), rg_nat]
    · rw [List.mem_range'_1] at hi
      have hi' : i < R.gs.length := by omega
      refine ⟨[some (.f (rulesD R)), some (.f T), some (.f (fD p)), x3, some (.f (iN i))], by subst hρ; rfl, ?_, fun _ => rfl, by subst hρ; rfl⟩
      rw [List.getElem?_eq_getElem hi']
      exact bin_ok (bin_ok (bin_ok (bin_ok (bin_ok (x := rulesD R) rfl rfl rfl) rfl (name_at hR i hi')) rfl rfl) (bin_ok (x := fD p) rfl rfl rfl) (mul_nat (.inl (Nat.lt_of_le_of_lt (hR.g1 _ (List.getElem_mem hi')).2 (by decide))))) (bin_ok (x := fD p) rfl rfl rfl) (le_nat _ _)
  refine bin_ok lst (s1_ok (d := .int 1) rfl rfl) ?_
  rw [at_m1 (by rw [List.length_map, List.length_range']; exact hc), List.getElem_map, List.getElem_range']
  simp [gpN]
variable {t : Tk} (hT : TkOk R t)
include hT
theorem meanD_non : dIs (meanD (meanN R.ks t.ms)) .non = some (decide (meanN R.ks t.ms = none)) := by
  cases meanN R.ks t.ms <;> rfl
theorem ne_marks : dNe (.nd .tup (t.ms.map markD)) (.nd .tup []) = some (!t.ms.isEmpty) := by
  rw [ne_tup (dok_marks hR hT)]
  cases t.ms <;> rfl
end
end Y

set_option Elab.async false
set_option linter.all false
set_option maxRecDepth 100000
set_option maxHeartbeats 4000000
/-! rules by draws -/
namespace Y
open PySem PySem.Spec PyProof.Rows L2 PySem.W
theorem take_nat {b : D} (h : BagOk b) {n : Nat} (h1 : 0 < n) (h2 : n < 1073741824) : ∃ (r : Nat) (b' : D), fs__law_take [b, iN n] = .val false (iN r) (some b') ∧ BagOk b' ∧ r < n := by
  obtain ⟨r, b', e, hb, r0, r1⟩ := take_ok h (n := (n : Int)) (by omega) (by omega)
  obtain ⟨j, rfl⟩ : ∃ j : Nat, r = (j : Int) := ⟨r.toNat, by omega⟩
  exact ⟨j, b', e, hb, by omega⟩
theorem takeC {b : D} (h : BagOk b) {t : En} {f : En → Y.R (List D)} {n : Nat} (e : f (some (.b b) :: t) = .ok [iN n] (some (.b b) :: t)) (h1 : 0 < n) (h2 : n < 1073741824) : ∃ (r : Nat) (b' : D), sCallI 0 fs__law_take f (some (.b b) :: t) = .ok (iN r) (some (.b b') :: t) ∧ BagOk b' ∧ r < n := by
  obtain ⟨r, b', e1, hb, hr⟩ := take_nat h h1 h2
  exact ⟨r, b', callI_ok (i := 0) ⟨b, rfl⟩ e rfl e1, hb, hr⟩
theorem ofC {b b1 : D} (h : BagOk b1) {t : En} {f : En → Y.R (List D)} {k : Kd} (hk : k = .lst ∨ k = .tup) {xs : List D} (e : f (some (.b b) :: t) = .ok [.nd k xs] (some (.b b1) :: t)) (h1 : xs ≠ []) (h2 : xs.length < 1000) : ∃ (x : D) (b' : D), sCallI 0 fs__law_of f (some (.b b) :: t) = .ok x (some (.b b') :: t) ∧ BagOk b' ∧ x ∈ xs := by
  obtain ⟨x, b', e1, hb, hx⟩ := of_ok h hk h1 h2
  exact ⟨x, b', callI_ok (i := 0) ⟨b, rfl⟩ e rfl e1, hb, hx⟩
theorem ixv_ok {i : Nat} {f : En → Y.R D} {ρ : En} {d k r : D} (e : sBor i ρ = .ok d ρ) (e2 : f ρ = .ok k ρ) (e3 : dIx d k = some r) : sIxV i f ρ = .ok r ρ := by
  unfold sIxV
  rw [e]
  simp only [bnd, e2, e, e3, lift]
theorem app_ok {i : Nat} {f : En → Y.R (List D)} {ρ ρ1 : En} {ds0 ds : List D} {d : D} (h0 : ownD i ρ = some (.nd .lst ds0)) (e : f ρ = .ok [d] ρ1) (h1 : ownD i ρ1 = some (.nd .lst ds)) (hl : ds.length < sizeLine) : sDrop (sMeth i gAppend f) ρ = .ok .nx (chg i (.nd .lst (ds ++ [d])) ρ1) := by
  unfold sDrop sMeth ownL
  rw [h0]
  simp only [lift, bnd, e, h1, gAppend, if_pos hl]
  rfl
theorem and_go {t u : En → Y.R Bool} {ρ ρ1 : En} {r : Y.R Bool} (e : t ρ = .ok true ρ1) (e2 : u ρ1 = r) : sAndT t u ρ = r := by
  unfold sAndT
  rw [e]
  exact e2
theorem and_off {t u : En → Y.R Bool} {ρ ρ1 : En} (e : t ρ = .ok false ρ1) : sAndT t u ρ = .ok false ρ1 := by
  unfold sAndT
  rw [e]
  rfl
theorem at_m1t {xs : List D} (h : 0 < xs.length) : dIx (.nd .tup xs) (.int (-1)) = some (xs[xs.length - 1]'(by omega)) := at_m1 h
theorem slc_ty2 {α : Type} {src : En → Y.R (List D)} {g : D → En → Option En} {t : En → Y.R Bool} {e : En → Y.R D} {vs : List Nat} {ρ ρ1 ρ2 : En} {R : List D} (f : α → D) (q : α → Bool) (p : α → D) (xs : List α) (hs : src ρ = .ok (xs.map f) ρ1) (hw : wipeE vs ρ1 = ρ2)
    (h : ∀ x ∈ xs, ∃ ρ3, g (f x) ρ2 = some ρ3 ∧ t ρ3 = .ok (q x) ρ3 ∧ (q x = true → e ρ3 = .ok (p x) ρ3) ∧ wipeE vs ρ3 = ρ2) (hl : xs.length ≤ 100000) (hr : (xs.filter q).map p = R) : sLc src g t e vs ρ = .ok (.nd .lst R) ρ2 :=
  sLc_ok2 hs hw ((lc_ty f q p xs [] h (by simpa using hl)).trans (by rw [List.nil_append, hr]))
def rE (b : D) (x1 x2 x3 x4 x5 x6 : Option S) : En := [some (.b b), x1, x2, x3, x4, x5, x6]
def KsOk (ks : List (Str × Nat)) : Prop := ∀ k ∈ ks, strG k.1 = true ∧ 1 ≤ k.2 ∧ k.2 ≤ 9
def knds : List D := [.str "home", .str "oral", .str "test"]
theorem knds_ok : ∀ d ∈ knds, ∃ s, d = .str s ∧ strG s = true := by
  intro d hd
  simp only [knds, List.mem_cons, List.not_mem_nil, or_false] at hd
  rcases hd with rfl | rfl | rfl
  · exact ⟨_, rfl, by decide +kernel⟩
  · exact ⟨_, rfl, by decide +kernel⟩
  · exact ⟨_, rfl, by decide +kernel⟩
theorem kinds_ok {b : D} (hb : BagOk b) : ∃ b' ks, (sSet 1 (sLc (sIt (sMk .lst (sCons (sC (.str "home")) (sCons (sC (.str "oral")) (sCons (sC (.str "test")) sNil))))) (hName 3) (sBin dGt (sCallI 0 fs__law_take (sCons (sC (.int 3)) sNil)) (sC (.int 0))) (sMk .tup (sCons (sVar 3) (sCons (sBin dPlus (sC (.int 1)) (sCallI 0 fs__law_take (sCons (sC (.int 9)) sNil))) sNil))) [3])) (rE b none none none none none none) = .ok .nx (rE b' (some (.f (.nd .lst (ks.map kindD)))) none none none none none) ∧ BagOk b' ∧ KsOk ks ∧ ks.length ≤ 3 := by
  have src : sIt (sMk .lst (sCons (sC (.str "home")) (sCons (sC (.str "oral")) (sCons (sC (.str "test")) sNil)))) (rE b none none none none none none) = .ok knds (rE b none none none none none none) := it_ok (mk_ok (ds := knds) rfl (small (show 3 ≤ 100000 by decide))) rfl
  obtain ⟨acc, ρ', e, b', ks, h1, h2, h3, h4, h5⟩ := lcL_inv (g := hName 3) (t := sBin dGt (sCallI 0 fs__law_take (sCons (sC (.int 3)) sNil)) (sC (.int 0))) (e := sMk .tup (sCons (sVar 3) (sCons (sBin dPlus (sC (.int 1)) (sCallI 0 fs__law_take (sCons (sC (.int 9)) sNil))) sNil))) (vs := [3])
    (fun j ρ acc => ∃ b ks, BagOk b ∧ ρ = rE b none none none none none none ∧ acc = ks.map kindD ∧ KsOk ks ∧ ks.length ≤ j) knds 0 (rE b none none none none none none) [] ⟨b, [], hb, rfl, rfl, fun k h => (by cases h), Nat.le_refl _⟩ (small (show 0 + 3 ≤ 100000 by decide)) (fun i d ρ acc hd ⟨b, ks, hb, e1, e2, ok, hl⟩ => by
      obtain ⟨s, rfl, hs⟩ := knds_ok d (List.mem_of_getElem? hd)
      subst e1 e2
      obtain ⟨r, b1, e3, hb1, hr⟩ := takeC hb (t := [none, none, some (.f (.str s)), none, none, none]) (f := sCons (sC (.int 3)) sNil) (n := 3) rfl (by decide) (by decide)
      refine ⟨rE b none none (some (.f (.str s))) none none none, decide (0 < r), rE b1 none none (some (.f (.str s))) none none none, rfl, bin_ok (y := iN 0) e3 rfl (gt_nat _ _), ?_⟩
      by_cases c : 0 < r
      · rw [if_pos (decide_eq_true c)]
        obtain ⟨r2, b2, e4, hb2, hr2⟩ := takeC hb1 (t := [none, none, some (.f (.str s)), none, none, none]) (f := sCons (sC (.int 9)) sNil) (n := 9) rfl (by decide) (by decide)
        refine ⟨kindD (s, 1 + r2), rE b2 none none (some (.f (.str s))) none none none, mk_ok (cons_ok (d := .str s) (ρ1 := rE b1 none none (some (.f (.str s))) none none none) rfl (one_ok (bin_ok (x := iN 1) rfl e4 (add_nat _ _)))) (small (show 2 ≤ 100000 by decide)), b2, ks ++ [(s, 1 + r2)], hb2, rfl, by simp, fun k hk => ?_, by simp; omega⟩
        rcases List.mem_append.mp hk with hk | hk
        · exact ok k hk
        · rw [List.mem_singleton.mp hk]
          exact ⟨hs, by show 1 ≤ 1 + r2; omega, by show 1 + r2 ≤ 9; omega⟩
      · rw [if_neg (by simpa using c)]
        exact ⟨b1, ks, hb1, rfl, rfl, ok, by omega⟩)
  subst h2 h3
  exact ⟨b', ks, set_call (i := 1) (sLc_ok src rfl e), h1, h4, by simpa [knds] using h5⟩
def okN (s : Str) : Bool := strG s && (decide (s ≠ "out") && decide (s ≠ "open"))
theorem okN_G {s : Str} (h : okN s = true) : strG s = true := ((Bool.and_eq_true _ _).mp h).1
theorem okN_ne {s : Str} (h : okN s = true) : s ≠ "out" ∧ s ≠ "open" := by
  have := (Bool.and_eq_true _ _).mp ((Bool.and_eq_true _ _).mp h).2
  exact ⟨of_decide_eq_true this.1, of_decide_eq_true this.2⟩
structure GsOk (gs : List (Nat × Str)) (top : Nat) : Prop where
  g0 : ∃ s l, gs = (0, s) :: l
  g1 : ∀ g ∈ gs, okN g.2 = true ∧ g.1 ≤ top
  g2 : gs.Pairwise fun a b => a.1 ≤ b.1
theorem GsOk.pos {gs : List (Nat × Str)} {top : Nat} (h : GsOk gs top) : 0 < gs.length := by
  obtain ⟨s, l, rfl⟩ := h.g0
  simp
theorem pw_last {gs : List (Nat × Str)} (h : gs.Pairwise fun a b => a.1 ≤ b.1) (hp : 0 < gs.length) : ∀ g ∈ gs, g.1 ≤ (gs[gs.length - 1]'(by omega)).1 := by
  intro g hg
  obtain ⟨i, hi, rfl⟩ := List.getElem_of_mem hg
  by_cases e : i = gs.length - 1
  · subst e; exact Nat.le_refl _
  · exact List.pairwise_iff_getElem.mp h i (gs.length - 1) hi (by omega) (by omega)
theorem GsOk.snoc {gs : List (Nat × Str)} (h : GsOk gs 119) {n : Nat} {s : Str} (hs : okN s = true) (h1 : (gs[gs.length - 1]'(by have := h.pos; omega)).1 ≤ n) (h2 : n ≤ 119) : GsOk (gs ++ [(n, s)]) 119 := by
  obtain ⟨s0, l, e⟩ := h.g0
  refine ⟨⟨s0, l ++ [(n, s)], by rw [e]; rfl⟩, fun g hg => ?_, List.pairwise_append.mpr ⟨h.g2, List.pairwise_singleton _ _, fun a ha b hb => ?_⟩⟩
  · rcases List.mem_append.mp hg with hg | hg
    · exact h.g1 g hg
    · rw [List.mem_singleton.mp hg]; exact ⟨hs, h2⟩
  · rw [List.mem_singleton.mp hb]
    exact Nat.le_trans (pw_last h.g2 h.pos a ha) h1
abbrev gradB : En → Y.R Fl := sIfS (sAndT (sBin dLt (sBin dIx (sIxV 2 (s1 dNeg (sC (.int 1)))) (sC (.int 0))) (sC (.int 90))) (sBin dGt (sCallI 0 fs__law_take (sCons (sC (.int 4)) sNil)) (sC (.int 0))))
  (sDrop (sMeth 2 gAppend (sCons (sMk .tup (sCons (sBin dPlus (sBin dPlus (sBin dIx (sIxV 2 (s1 dNeg (sC (.int 1)))) (sC (.int 0))) (sC (.int 1))) (sCallI 0 fs__law_take (sCons (sC (.int 30)) sNil))) (sCons (sVar 3) sNil))) sNil)))
  sNx
theorem grad_step {b : D} (hb : BagOk b) (k : D) {gs : List (Nat × Str)} (ok : GsOk gs 119) (hl : gs.length ≤ 1000) {s : Str} (hs : okN s = true) : ∃ b' gs', gradB (rE b (some (.f k)) (some (.o (.nd .lst (gs.map gradeD)))) (some (.f (.str s))) none none none) = .ok .nx (rE b' (some (.f k)) (some (.o (.nd .lst (gs'.map gradeD)))) (some (.f (.str s))) none none none) ∧ BagOk b' ∧ GsOk gs' 119 ∧ gs'.length ≤ gs.length + 1 := by
  have hp := ok.pos
  have last : ∀ b, sBin dIx (sIxV 2 (s1 dNeg (sC (.int 1)))) (sC (.int 0)) (rE b (some (.f k)) (some (.o (.nd .lst (gs.map gradeD)))) (some (.f (.str s))) none none none) = .ok (iN (gs[gs.length - 1]'(by omega)).1) (rE b (some (.f k)) (some (.o (.nd .lst (gs.map gradeD)))) (some (.f (.str s))) none none none) := fun b => by
    refine bin_ok (x := gradeD (gs[gs.length - 1]'(by omega))) (ixv_ok (d := .nd .lst (gs.map gradeD)) (k := .int (-1)) rfl rfl ?_) rfl rfl
    rw [at_m1 (by rw [List.length_map]; exact hp)]
    simp
  have c1 : sBin dLt (sBin dIx (sIxV 2 (s1 dNeg (sC (.int 1)))) (sC (.int 0))) (sC (.int 90)) (rE b (some (.f k)) (some (.o (.nd .lst (gs.map gradeD)))) (some (.f (.str s))) none none none) = .ok (decide ((gs[gs.length - 1]'(by omega)).1 < 90)) (rE b (some (.f k)) (some (.o (.nd .lst (gs.map gradeD)))) (some (.f (.str s))) none none none) := bin_ok (y := iN 90) (last b) rfl (lt_nat _ _)
  by_cases h9 : (gs[gs.length - 1]'(by omega)).1 < 90
  · rw [decide_eq_true h9] at c1
    obtain ⟨r, b1, e1, hb1, hr⟩ := takeC hb (t := [some (.f k), some (.o (.nd .lst (gs.map gradeD))), some (.f (.str s)), none, none, none]) (f := sCons (sC (.int 4)) sNil) (n := 4) rfl (by decide) (by decide)
    have c2 : sBin dGt (sCallI 0 fs__law_take (sCons (sC (.int 4)) sNil)) (sC (.int 0)) (rE b (some (.f k)) (some (.o (.nd .lst (gs.map gradeD)))) (some (.f (.str s))) none none none) = .ok (decide (0 < r)) (rE b1 (some (.f k)) (some (.o (.nd .lst (gs.map gradeD)))) (some (.f (.str s))) none none none) := bin_ok (y := iN 0) e1 rfl (gt_nat _ _)
    by_cases c : 0 < r
    · rw [decide_eq_true c] at c2
      obtain ⟨r2, b2, e2, hb2, hr2⟩ := takeC hb1 (t := [some (.f k), some (.o (.nd .lst (gs.map gradeD))), some (.f (.str s)), none, none, none]) (f := sCons (sC (.int 30)) sNil) (n := 30) rfl (by decide) (by decide)
      refine ⟨b2, gs ++ [((gs[gs.length - 1]'(by omega)).1 + 1 + r2, s)], (if_yes (and_go c1 c2)).trans ?_, hb2, ok.snoc hs (by omega) (by omega), by simp⟩
      refine Eq.trans (b := Y.R.ok Fl.nx (chg 2 (.nd .lst (gs.map gradeD ++ [gradeD ((gs[gs.length - 1]'(by omega)).1 + 1 + r2, s)])) (rE b2 (some (.f k)) (some (.o (.nd .lst (gs.map gradeD)))) (some (.f (.str s))) none none none))) ?_ ?_
      · exact app_ok (i := 2) rfl (one_ok (mk_ok (cons_ok (bin_ok (bin_ok (last b1) (y := iN 1) rfl (add_nat _ _)) e2 (add_nat _ _)) (one_ok (d := .str s) rfl)) (small (show 2 ≤ 100000 by decide)))) rfl (by rw [List.length_map]; exact Nat.lt_of_le_of_lt hl (by decide))
      rw [List.map_append]
      rfl
    · rw [decide_eq_false c] at c2
      exact ⟨b1, gs, (if_no (and_go c1 c2)).trans rfl, hb1, ok, by omega⟩
  · rw [decide_eq_false h9] at c1
    exact ⟨b, gs, (if_no (and_off c1)).trans rfl, hb, ok, by omega⟩
def grds : List D := [.str "d", .str "c", .str "b", .str "a"]
theorem grds_ok : ∀ d ∈ grds, ∃ s, d = .str s ∧ okN s = true := by
  intro d hd
  simp only [grds, List.mem_cons, List.not_mem_nil, or_false] at hd
  rcases hd with rfl | rfl | rfl | rfl
  · exact ⟨_, rfl, by decide +kernel⟩
  · exact ⟨_, rfl, by decide +kernel⟩
  · exact ⟨_, rfl, by decide +kernel⟩
  · exact ⟨_, rfl, by decide +kernel⟩
theorem grads_ok {b : D} (hb : BagOk b) (k : D) {gs : List (Nat × Str)} (ok : GsOk gs 119) (hl : gs.length = 1) : ∃ b' gs' x3, sFor (sIt (sMk .lst (sCons (sC (.str "d")) (sCons (sC (.str "c")) (sCons (sC (.str "b")) (sCons (sC (.str "a")) sNil)))))) (hName 3) gradB (rE b (some (.f k)) (some (.o (.nd .lst (gs.map gradeD)))) none none none none) = .ok .nx (rE b' (some (.f k)) (some (.o (.nd .lst (gs'.map gradeD)))) x3 none none none) ∧ BagOk b' ∧ GsOk gs' 119 ∧ gs'.length ≤ 5 := by
  have src : sIt (sMk .lst (sCons (sC (.str "d")) (sCons (sC (.str "c")) (sCons (sC (.str "b")) (sCons (sC (.str "a")) sNil))))) (rE b (some (.f k)) (some (.o (.nd .lst (gs.map gradeD)))) none none none none) = .ok grds (rE b (some (.f k)) (some (.o (.nd .lst (gs.map gradeD)))) none none none none) := it_ok (mk_ok (ds := grds) rfl (small (show 4 ≤ 100000 by decide))) rfl
  obtain ⟨ρ', e, b', gs', x3, h1, h2, h3, h4⟩ := forL_inv (g := hName 3) (b := gradB) (fun j ρ => ∃ b gs x3, BagOk b ∧ ρ = rE b (some (.f k)) (some (.o (.nd .lst (gs.map gradeD)))) x3 none none none ∧ GsOk gs 119 ∧ gs.length ≤ j + 1 ∧ j ≤ 4) grds 0 _ ⟨b, gs, none, hb, rfl, ok, by omega, by omega⟩ (fun i d ρ hd ⟨b, gs, x3, hb, e1, ok, hl, hj⟩ => by
    obtain ⟨s, rfl, hs⟩ := grds_ok d (List.mem_of_getElem? hd)
    have hi : i < 4 := (List.getElem?_eq_some_iff.mp hd).1
    subst e1
    obtain ⟨b1, gs1, e2, hb1, ok1, hl1⟩ := grad_step hb k ok (by omega) hs
    exact ⟨_, _, rfl, e2, b1, gs1, _, hb1, rfl, ok1, by omega, by omega⟩)
  subst h2
  exact ⟨b', gs', x3, for_ok src e, h1, h3, by simpa [grds] using h4.1⟩
theorem min_nat (a b : Nat) : dMin2 [iN a, iN b] = some (iN (min a b)) := by
  show some (D.int (if (b : Int) < (a : Int) then (b : Int) else (a : Int))) = _
  by_cases h : (b : Int) < (a : Int)
  · rw [if_pos h, show min a b = b by omega]
  · rw [if_neg h, show min a b = a by omega]
theorem max_nat (a b : Nat) : dMax2 [iN a, iN b] = some (iN (max a b)) := by
  show some (D.int (if (b : Int) > (a : Int) then (b : Int) else (a : Int))) = _
  by_cases h : (b : Int) > (a : Int)
  · rw [if_pos h, show max a b = b by omega]
  · rw [if_neg h, show max a b = a by omega]
def cap (g : Nat × Str) : Nat × Str := (min 100 g.1, g.2)
theorem GsOk.cap {gs : List (Nat × Str)} (h : GsOk gs 119) : GsOk (gs.map cap) 100 := by
  obtain ⟨s, l, e⟩ := h.g0
  refine ⟨⟨s, l.map Y.cap, by rw [e]; rfl⟩, fun g hg => ?_, List.pairwise_map.mpr (h.g2.imp fun {a b} k => ?_)⟩
  · obtain ⟨x, hx, rfl⟩ := List.mem_map.mp hg
    exact ⟨(h.g1 x hx).1, Nat.min_le_left _ _⟩
  · show min 100 a.1 ≤ min 100 b.1
    omega
theorem caps_ok (b k : D) (x3 : Option S) {gs : List (Nat × Str)} (hl : gs.length ≤ 5) : sSet 2 (s1 dTuple (sLc (sIt (sFrz 2)) (hTup 2 (hCons (hName 6) (hCons (hName 3) hNil))) sYes (sMk .tup (sCons (sN dMin2 (sCons (sC (.int 100)) (sCons (sVar 6) sNil))) (sCons (sVar 3) sNil))) [6, 3])) (rE b (some (.f k)) (some (.o (.nd .lst (gs.map gradeD)))) x3 none none none) = .ok .nx (rE b (some (.f k)) (some (.f (.nd .tup ((gs.map cap).map gradeD)))) none none none none) := by
  refine set_call (i := 2) (s1_ok (g := dTuple) (d := .nd .lst ((gs.map cap).map gradeD)) (slc_ty2 (ρ1 := rE b (some (.f k)) (some (.f (.nd .lst (gs.map gradeD)))) x3 none none none) (ρ2 := rE b (some (.f k)) (some (.f (.nd .lst (gs.map gradeD)))) none none none none) gradeD (fun _ => true) (fun g => gradeD (cap g)) gs rfl rfl (fun g hg => ⟨rE b (some (.f k)) (some (.f (.nd .lst (gs.map gradeD)))) (some (.f (.str g.2))) none none (some (.f (iN g.1))), rfl, rfl, fun _ => mk_ok (cons_ok (n_ok (ds := [iN 100, iN g.1]) rfl (min_nat _ _)) (one_ok (d := .str g.2) rfl)) (small (show 2 ≤ 100000 by decide)), rfl⟩) (by omega) (by rw [List.map_map, List.filter_eq_self.mpr (fun _ _ => rfl)]; rfl)) rfl)
theorem four_nat {a b c d : Nat} {x : D} (h : x ∈ [iN a, iN b, iN c, iN d]) : ∃ n, x = iN n ∧ (n = a ∨ n = b ∨ n = c ∨ n = d) := by
  simp only [List.mem_cons, List.not_mem_nil, or_false] at h
  rcases h with h | h | h | h
  · exact ⟨a, h, .inl rfl⟩
  · exact ⟨b, h, .inr (.inl rfl)⟩
  · exact ⟨c, h, .inr (.inr (.inl rfl))⟩
  · exact ⟨d, h, .inr (.inr (.inr rfl))⟩
theorem kinds_end {ks : List (Str × Nat)} (ok : KsOk ks) (hl : ks.length ≤ 3) {ρ : En} (v : sVar 1 ρ = .ok (.nd .lst (ks.map kindD)) ρ) : ∃ ks', s1 dTuple (sBin dPlus (sVar 1) (sBin dRep (sMk .lst (sCons (sMk .tup (sCons (sC (.str "work")) (sCons (sC (.int 2)) sNil))) sNil)) (s1 dInt (sCmp dEq (sVar 1) (sMk .lst sNil))))) ρ = .ok (.nd .tup (ks'.map kindD)) ρ ∧ KsOk ks' ∧ ks'.length ≤ 3 ∧ ks' ≠ [] := by
  have dv : dok (.nd .lst (ks.map kindD)) = true := dk_dok (n := 2) (by decide) (dk_nd (.inl rfl) fun x hx => by
    obtain ⟨k, hk, rfl⟩ := List.mem_map.mp hx
    refine dk_nd (.inr rfl) fun y hy => ?_
    simp only [List.mem_cons, List.not_mem_nil, or_false] at hy
    rcases hy with rfl | rfl
    · exact dk_str _ (ok k hk).1
    · exact dk_int _ _)
  have c : sCmp dEq (sVar 1) (sMk .lst sNil) ρ = .ok (.bl (ks.map kindD).isEmpty) ρ := bin_ok v (mk_ok (ds := []) rfl (small (by decide))) (by rw [dEq_nil dv]; rfl)
  have w : sMk .lst (sCons (sMk .tup (sCons (sC (.str "work")) (sCons (sC (.int 2)) sNil))) sNil) ρ = .ok (.nd .lst [kindD ("work", 2)]) ρ := mk_ok (one_ok (mk_ok (ds := [.str "work", .int 2]) rfl (small (show 2 ≤ 100000 by decide)))) (small (show 1 ≤ 100000 by decide))
  cases ks with
  | nil =>
    refine ⟨[("work", 2)], s1_ok (bin_ok v (bin_ok w (s1_ok c (d' := .int 1) rfl) (d := .nd .lst [kindD ("work", 2)]) rfl) rfl) rfl, fun k hk => ?_, by decide, by simp⟩
    rw [List.mem_singleton.mp hk]
    exact ⟨by decide +kernel, by decide, by decide⟩
  | cons k ks =>
    refine ⟨k :: ks, s1_ok (bin_ok v (bin_ok w (s1_ok c (d' := .int 0) rfl) (d := .nd .lst []) rfl) (d := .nd .lst ((k :: ks).map kindD)) ?_) rfl, ok, hl, by simp⟩
    show dCat (.nd .lst ((k :: ks).map kindD)) (.nd .lst []) = _
    rw [cat_ok (small (by rw [List.length_map, List.length_nil]; omega)), List.append_nil]
end Y

set_option Elab.async false
set_option linter.all false
set_option maxRecDepth 100000
set_option maxHeartbeats 4000000
/-! takes by draws -/
namespace Y
open PySem PySem.Spec PyProof.Rows L2 PySem.W
theorem put_ok2 {i : Nat} {g : D → D → D → Option D} {fk fe : En → Y.R D} {ρ ρ1 ρ2 : En} {e k d00 d0 d' : D} (h1 : fe ρ = .ok e ρ1) (h2 : ownD i ρ1 = some d00) (h3 : fk ρ1 = .ok k ρ2) (h5 : ownD i ρ2 = some d0) (h4 : g d0 k e = some d') : sPut i g fk fe ρ = .ok .nx (chg i d' ρ2) := by
  unfold sPut
  rw [h1]
  simp only [bnd, h2, lift, h3, h5, h4]
section
variable {κ : Type} [DecidableEq κ]
theorem getK_mem : ∀ {ks : List κ} {ds : List D} {k : κ}, ks.length = ds.length → k ∈ ks → ∃ d, getK ks ds k = some d ∧ d ∈ ds
  | [], _, k, _, h => by cases h
  | k' :: ks, [], k, e, _ => by simp at e
  | k' :: ks, d :: ds, k, e, h => by
    by_cases q : k' = k
    · exact ⟨d, by simp [getK, List.find?_cons, q], List.mem_cons_self⟩
    · have hm : k ∈ ks := by
        rcases List.mem_cons.mp h with h | h
        · exact absurd h.symm q
        · exact h
      obtain ⟨d', h1, h2⟩ := getK_mem (ds := ds) (by simpa using e) hm
      refine ⟨d', ?_, List.mem_cons_of_mem _ h2⟩
      rw [← h1]
      simp [getK, List.find?_cons, q]
theorem mem_putKs {ks : List κ} {q k : κ} (h : k ∈ putKs ks q) : k ∈ ks ∨ k = q := by
  unfold putKs at h
  split at h
  · exact .inl h
  · simpa using h
theorem mem_zipW {q : κ} {v : D} : ∀ {ks : List κ} {ds : List D} {d : D}, d ∈ List.zipWith (fun k' d' => if k' = q then v else d') ks ds → d ∈ ds ∨ d = v
  | [], _, d, h => by simp at h
  | _ :: _, [], d, h => by simp at h
  | k :: ks, x :: ds, d, h => by
    rw [List.zipWith_cons_cons] at h
    rcases List.mem_cons.mp h with h | h
    · split at h
      · exact .inr h
      · exact .inl (h ▸ List.mem_cons_self)
    · exact (mem_zipW h).imp (List.mem_cons_of_mem _) id
theorem mem_putDs {ks : List κ} {ds : List D} {q : κ} {v d : D} (h : d ∈ putDs ks ds q v) : d ∈ ds ∨ d = v := by
  unfold putDs at h
  split at h
  · exact mem_zipW h
  · simpa using h
theorem put_len {ks : List κ} {ds : List D} {q : κ} {v : D} (h : ks.length = ds.length) : (putKs ks q).length = (putDs ks ds q v).length := by
  unfold putKs putDs
  split
  · simp [h]
  · simp [h]
theorem putKs_1 (ks : List κ) (q : κ) : (putKs ks q).length ≤ ks.length + 1 := by
  unfold putKs
  split
  · omega
  · simp
end
theorem ex_map {α β : Type} {P : α → Prop} {f : α → D} {p : β → D} : ∀ {l : List β}, (∀ x ∈ l, ∃ a, P a ∧ p x = f a) → ∃ as : List α, l.map p = as.map f ∧ (∀ a ∈ as, P a) ∧ as.length = l.length
  | [], _ => ⟨[], rfl, fun a h => (by cases h), rfl⟩
  | x :: l, h => by
    obtain ⟨a, h1, h2⟩ := h x List.mem_cons_self
    obtain ⟨as, e, h3, h4⟩ := ex_map fun y hy => h y (List.mem_cons_of_mem _ hy)
    refine ⟨a :: as, by rw [List.map_cons, List.map_cons, h2, e], fun b hb => ?_, by simp [h4]⟩
    rcases List.mem_cons.mp hb with rfl | hb
    · exact h1
    · exact h3 b hb
def tE (b R c : D) (x3 x4 : Option S) (m g : D) (x7 x8 x9 : Option S) : En := [some (.b b), some (.f R), some (.f c), x3, x4, some (.o m), some (.o g), x7, x8, x9]
structure MkOk (R : Rl) (ks : List (List Key)) (ds : List D) : Prop where
  len : ks.length = ds.length
  keys : ∀ k ∈ ks, ∃ (d : Nat) (s : Str), k = [.inl (d : Int), .inr s] ∧ strG s = true ∧ s ∈ R.ks.map (·.1)
  vals : ∀ d ∈ ds, ∃ v : Nat, d = iN v ∧ v ≤ 100
theorem last_ok {R : Rl} (hR : RlOk R) {ρ : En} (v : sVar 1 ρ = .ok (rulesD R) ρ) : ∃ L : Nat, sBin dIx (sBin dIx (sBin dIx (sVar 1) (sC (.int 1))) (s1 dNeg (sC (.int 1)))) (sC (.int 0)) ρ = .ok (iN L) ρ ∧ L ≤ 100 := by
  have hp : 0 < R.gs.length := by
    obtain ⟨s, l, e⟩ := hR.g0
    rw [e]; simp
  refine ⟨(R.gs[R.gs.length - 1]'(by omega)).1, bin_ok (x := gradeD (R.gs[R.gs.length - 1]'(by omega))) (bin_ok (x := .nd .tup (R.gs.map gradeD)) (y := .int (-1)) (bin_ok v rfl rfl) rfl ?_) rfl rfl, (hR.g1 _ (List.getElem_mem _)).2⟩
  rw [at_m1t (by rw [List.length_map]; exact hp)]
  simp
theorem max0 (L : Nat) : dMax2 [.int 0, .int ((L : Int) - 1)] = some (iN (L - 1)) := by
  show some (D.int (if (L : Int) - 1 > (0 : Int) then (L : Int) - 1 else 0)) = _
  by_cases h : (L : Int) - 1 > (0 : Int)
  · rw [if_pos h]; congr 2; omega
  · rw [if_neg h]; congr 2; omega
theorem value_ok {R : Rl} (hR : RlOk R) {b c m g : D} {x3 x7 : Option S} (hb : BagOk b) : ∃ (v : Nat) (b' : D), sSet 7 (sCallI 0 fs__law_of (sCons (sMk .lst (sCons (sC (.int 0)) (sCons (sC (.int 100)) (sCons (sC (.int 50)) (sCons (sBin dIx (sBin dIx (sBin dIx (sVar 1) (sC (.int 1))) (s1 dNeg (sC (.int 1)))) (sC (.int 0))) (sCons (sN dMax2 (sCons (sC (.int 0)) (sCons (sBin dSub (sBin dIx (sBin dIx (sBin dIx (sVar 1) (sC (.int 1))) (s1 dNeg (sC (.int 1)))) (sC (.int 0))) (sC (.int 1))) sNil))) (sCons (sCallI 0 fs__law_take (sCons (sC (.int 101)) sNil)) sNil))))))) sNil)) (tE b (rulesD R) c x3 none m g x7 none none) = .ok .nx (tE b' (rulesD R) c x3 none m g (some (.f (iN v))) none none) ∧ BagOk b' ∧ v ≤ 100 := by
  obtain ⟨L, hL, hl⟩ := last_ok hR (ρ := tE b (rulesD R) c x3 none m g x7 none none) rfl
  obtain ⟨r, b1, e1, hb1, hr⟩ := takeC hb (t := [some (.f (rulesD R)), some (.f c), x3, none, some (.o m), some (.o g), x7, none, none]) (f := sCons (sC (.int 101)) sNil) (n := 101) rfl (by decide) (by decide)
  obtain ⟨x, b2, e2, hb2, hx⟩ := ofC (b := b) hb1 (t := [some (.f (rulesD R)), some (.f c), x3, none, some (.o m), some (.o g), x7, none, none]) (k := .lst) (.inl rfl) (f := sCons (sMk .lst (sCons (sC (.int 0)) (sCons (sC (.int 100)) (sCons (sC (.int 50)) (sCons (sBin dIx (sBin dIx (sBin dIx (sVar 1) (sC (.int 1))) (s1 dNeg (sC (.int 1)))) (sC (.int 0))) (sCons (sN dMax2 (sCons (sC (.int 0)) (sCons (sBin dSub (sBin dIx (sBin dIx (sBin dIx (sVar 1) (sC (.int 1))) (s1 dNeg (sC (.int 1)))) (sC (.int 0))) (sC (.int 1))) sNil))) (sCons (sCallI 0 fs__law_take (sCons (sC (.int 101)) sNil)) sNil))))))) sNil) (xs := [iN 0, iN 100, iN 50, iN L, iN (L - 1), iN r])
    (one_ok (mk_ok (ds := [iN 0, iN 100, iN 50, iN L, iN (L - 1), iN r]) (cons_ok (d := iN 0) rfl (cons_ok (d := iN 100) rfl (cons_ok (d := iN 50) rfl (cons_ok hL (cons_ok (n_ok (ds := [iN 0, .int ((L : Int) - 1)]) (cons_ok (d := iN 0) rfl (one_ok (bin_ok hL rfl rfl))) (max0 L)) (one_ok e1)))))) (small (show 6 ≤ 100000 by decide)))) (by simp) (show 6 < 1000 by decide)
  have hv : ∃ v : Nat, x = iN v ∧ v ≤ 100 := by
    simp only [List.mem_cons, List.not_mem_nil, or_false] at hx
    rcases hx with h | h | h | h | h | h
    · exact ⟨0, h, by omega⟩
    · exact ⟨100, h, by omega⟩
    · exact ⟨50, h, by omega⟩
    · exact ⟨L, h, by omega⟩
    · exact ⟨L - 1, h, by omega⟩
    · exact ⟨r, h, by omega⟩
  obtain ⟨v, rfl, hv⟩ := hv
  exact ⟨v, b2, set_call (i := 7) e2, hb2, hv⟩
abbrev markB : En → Y.R Fl := sSeq (sSet 7 (sCallI 0 fs__law_of (sCons (sMk .lst (sCons (sC (.int 0)) (sCons (sC (.int 100)) (sCons (sC (.int 50)) (sCons (sBin dIx (sBin dIx (sBin dIx (sVar 1) (sC (.int 1))) (s1 dNeg (sC (.int 1)))) (sC (.int 0))) (sCons (sN dMax2 (sCons (sC (.int 0)) (sCons (sBin dSub (sBin dIx (sBin dIx (sBin dIx (sVar 1) (sC (.int 1))) (s1 dNeg (sC (.int 1)))) (sC (.int 0))) (sC (.int 1))) sNil))) (sCons (sCallI 0 fs__law_take (sCons (sC (.int 101)) sNil)) sNil))))))) sNil)))
  (sPut 5 gSetD (sMk .tup (sCons (sCallI 0 fs__law_of (sCons (sMk .lst (sCons (sC (.int 0)) (sCons (sC (.int 1)) (sCons (sC (.int 2)) (sCons (sC (.int 400)) (sCons (sCallI 0 fs__law_take (sCons (sC (.int 401)) sNil)) sNil)))))) sNil)) (sCons (sBin dIx (sCallI 0 fs__law_of (sCons (sBin dIx (sVar 1) (sC (.int 0))) sNil)) (sC (.int 0))) sNil))) (sVar 7))
theorem mark_step {R : Rl} (hR : RlOk R) (hk : R.ks ≠ []) {b c g : D} {x3 x7 : Option S} (hb : BagOk b) {ks : List (List Key)} {ds : List D} (ok : MkOk R ks ds) (hl : ks.length ≤ 1000) :
    ∃ b' ks' ds' y7, markB (tE b (rulesD R) c x3 none (.nd (.dT ks) ds) g x7 none none) = .ok .nx (tE b' (rulesD R) c x3 none (.nd (.dT ks') ds') g y7 none none) ∧ BagOk b' ∧ MkOk R ks' ds' ∧ ks'.length ≤ ks.length + 1 := by
  have hkn := hR.kn
  obtain ⟨v, b1, e1, hb1, hv⟩ := value_ok hR (c := c) (m := .nd (.dT ks) ds) (g := g) (x3 := x3) (x7 := x7) hb
  obtain ⟨r, b2, e2, hb2, hr⟩ := takeC hb1 (t := [some (.f (rulesD R)), some (.f c), x3, none, some (.o (.nd (.dT ks) ds)), some (.o g), some (.f (iN v)), none, none]) (f := sCons (sC (.int 401)) sNil) (n := 401) rfl (by decide) (by decide)
  obtain ⟨x, b3, e3, hb3, hx⟩ := ofC (b := b1) hb2 (t := [some (.f (rulesD R)), some (.f c), x3, none, some (.o (.nd (.dT ks) ds)), some (.o g), some (.f (iN v)), none, none]) (k := .lst) (.inl rfl) (f := sCons (sMk .lst (sCons (sC (.int 0)) (sCons (sC (.int 1)) (sCons (sC (.int 2)) (sCons (sC (.int 400)) (sCons (sCallI 0 fs__law_take (sCons (sC (.int 401)) sNil)) sNil)))))) sNil) (xs := [iN 0, iN 1, iN 2, iN 400, iN r])
    (one_ok (mk_ok (ds := [iN 0, iN 1, iN 2, iN 400, iN r]) (cons_ok (d := iN 0) rfl (cons_ok (d := iN 1) rfl (cons_ok (d := iN 2) rfl (cons_ok (d := iN 400) rfl (one_ok e2))))) (small (show 5 ≤ 100000 by decide)))) (by simp) (show 5 < 1000 by decide)
  have hx' : ∃ d : Nat, x = iN d := by
    simp only [List.mem_cons, List.not_mem_nil, or_false] at hx
    rcases hx with h | h | h | h | h <;> exact ⟨_, h⟩
  obtain ⟨d, rfl⟩ := hx'
  obtain ⟨y, b4, e4, hb4, hy⟩ := ofC (b := b3) hb3 (t := [some (.f (rulesD R)), some (.f c), x3, none, some (.o (.nd (.dT ks) ds)), some (.o g), some (.f (iN v)), none, none]) (k := .tup) (.inr rfl) (f := sCons (sBin dIx (sVar 1) (sC (.int 0))) sNil) (xs := R.ks.map kindD)
    (one_ok (bin_ok (x := rulesD R) rfl rfl rfl)) (by simpa using hk) (by rw [List.length_map]; omega)
  obtain ⟨k, hkm, rfl⟩ := List.mem_map.mp hy
  have key : sMk .tup (sCons (sCallI 0 fs__law_of (sCons (sMk .lst (sCons (sC (.int 0)) (sCons (sC (.int 1)) (sCons (sC (.int 2)) (sCons (sC (.int 400)) (sCons (sCallI 0 fs__law_take (sCons (sC (.int 401)) sNil)) sNil)))))) sNil)) (sCons (sBin dIx (sCallI 0 fs__law_of (sCons (sBin dIx (sVar 1) (sC (.int 0))) sNil)) (sC (.int 0))) sNil)) (tE b1 (rulesD R) c x3 none (.nd (.dT ks) ds) g (some (.f (iN v))) none none) = .ok (.nd .tup [iN d, .str k.1]) (tE b4 (rulesD R) c x3 none (.nd (.dT ks) ds) g (some (.f (iN v))) none none) :=
    mk_ok (cons_ok e3 (one_ok (bin_ok e4 rfl rfl))) (small (show 2 ≤ 100000 by decide))
  have ge : gSetD (.nd (.dT ks) ds) (.nd .tup [iN d, .str k.1]) (iN v) = some (.nd (.dT (putKs ks [.inl (d : Int), .inr k.1])) (putDs ks ds [.inl (d : Int), .inr k.1] (iN v))) := by
    show (if ks.length < sizeLine then _ else none) = _
    rw [if_pos (Nat.lt_of_le_of_lt hl (by decide))]
  have p := put_ok2 (i := 5) (fe := sVar 7) (ρ := tE b1 (rulesD R) c x3 none (.nd (.dT ks) ds) g (some (.f (iN v))) none none) rfl rfl key rfl ge
  refine ⟨b4, _, _, _, (seq_ok e1).trans p, hb4, ⟨put_len ok.len, fun q hq => ?_, fun z hz => ?_⟩, putKs_1 _ _⟩
  · rcases mem_putKs hq with hq | rfl
    · exact ok.keys q hq
    · exact ⟨d, k.1, rfl, (hR.k1 k hkm).1, List.mem_map.mpr ⟨k, hkm, rfl⟩⟩
  · rcases mem_putDs hz with hz | rfl
    · exact ok.vals z hz
    · exact ⟨v, rfl, hv⟩
theorem draws {b : D} (hb : BagOk b) {t : En} (n : Nat) (h1 : 0 < n) (h2 : n ≤ 1000) (f : En → Y.R (List D)) (e : f (some (.b b) :: t) = .ok [iN n] (some (.b b) :: t)) : ∃ (r : Nat) (b' : D), sRg rg1 (sCons (sCallI 0 fs__law_take f) sNil) (some (.b b) :: t) = .ok ((List.range' 0 r).map fun i : Nat => D.int (i : Int)) (some (.b b') :: t) ∧ BagOk b' ∧ r < n := by
  obtain ⟨r, b1, e1, hb1, hr⟩ := takeC hb e h1 (by omega)
  exact ⟨r, b1, rg_ok (one_ok e1) (by rw [rg1_nat (by omega), rg_nat]), hb1, hr⟩
theorem marks_ok {R : Rl} (hR : RlOk R) (hk : R.ks ≠ []) {b c g : D} (hb : BagOk b) : ∃ b' ks ds x3 x7, sFor (sRg rg1 (sCons (sCallI 0 fs__law_take (sCons (sC (.int 7)) sNil)) sNil)) (hName 3) markB (tE b (rulesD R) c none none (.nd (.dT []) []) g none none none) = .ok .nx (tE b' (rulesD R) c x3 none (.nd (.dT ks) ds) g x7 none none) ∧ BagOk b' ∧ MkOk R ks ds ∧ ks.length ≤ 6 := by
  obtain ⟨r, b1, e1, hb1, hr⟩ := draws hb (t := [some (.f (rulesD R)), some (.f c), none, none, some (.o (.nd (.dT []) [])), some (.o g), none, none, none]) 7 (by decide) (by decide) (sCons (sC (.int 7)) sNil) rfl
  obtain ⟨ρ', e, b', ks, ds, x3, x7, h1, h2, h3, h4⟩ := forL_inv (g := hName 3) (b := markB) (fun j ρ => ∃ b ks ds x3 x7, BagOk b ∧ ρ = tE b (rulesD R) c x3 none (.nd (.dT ks) ds) g x7 none none ∧ MkOk R ks ds ∧ ks.length ≤ j ∧ j ≤ r) ((List.range' 0 r).map fun i : Nat => D.int (i : Int)) 0 _ ⟨b1, [], [], none, none, hb1, rfl, ⟨rfl, fun k h => (by cases h), fun d h => (by cases h)⟩, Nat.le_refl _, Nat.zero_le _⟩ (fun i d ρ hd ⟨b, ks, ds, x3, x7, hb, e1, ok, hl, hj⟩ => by
    have hi : i < r := by have := (List.getElem?_eq_some_iff.mp hd).1; simpa using this
    subst e1
    obtain ⟨b2, ks2, ds2, y7, e2, hb2, ok2, hl2⟩ := mark_step hR hk (c := c) (g := g) (x3 := some (.f d)) (x7 := x7) hb ok (by omega)
    exact ⟨_, _, rfl, e2, b2, ks2, ds2, _, _, hb2, rfl, ok2, by omega, by omega⟩)
  subst h2
  rw [List.length_map, List.length_range'] at h4
  exact ⟨b', ks, ds, x3, x7, for_ok e1 e, h1, h3, by omega⟩
structure GpOk (ks : List Key) (ds : List D) : Prop where
  len : ks.length = ds.length
  keys : ∀ k ∈ ks, ∃ d : Nat, k = .inl (d : Int)
  vals : ∀ d ∈ ds, ∃ (n : Nat) (x : Bool), d = .nd .tup [iN n, .bl x] ∧ 1 ≤ n ∧ n ≤ 9
abbrev gapB : En → Y.R Fl := sPut 6 gSetD (sCallI 0 fs__law_take (sCons (sC (.int 401)) sNil)) (sMk .tup (sCons (sBin dPlus (sC (.int 1)) (sCallI 0 fs__law_take (sCons (sC (.int 9)) sNil))) (sCons (sCmp dEq (sCallI 0 fs__law_take (sCons (sC (.int 2)) sNil)) (sC (.int 0))) sNil)))
theorem gap_step {b R c m : D} {x3 x7 : Option S} (hb : BagOk b) {ks : List Key} {ds : List D} (ok : GpOk ks ds) (hl : ks.length ≤ 1000) :
    ∃ b' ks' ds', gapB (tE b R c x3 none m (.nd (.dK ks) ds) x7 none none) = .ok .nx (tE b' R c x3 none m (.nd (.dK ks') ds') x7 none none) ∧ BagOk b' ∧ GpOk ks' ds' ∧ ks'.length ≤ ks.length + 1 := by
  obtain ⟨r1, b1, e1, hb1, hr1⟩ := takeC hb (t := [some (.f R), some (.f c), x3, none, some (.o m), some (.o (.nd (.dK ks) ds)), x7, none, none]) (f := sCons (sC (.int 9)) sNil) (n := 9) rfl (by decide) (by decide)
  obtain ⟨r2, b2, e2, hb2, hr2⟩ := takeC hb1 (t := [some (.f R), some (.f c), x3, none, some (.o m), some (.o (.nd (.dK ks) ds)), x7, none, none]) (f := sCons (sC (.int 2)) sNil) (n := 2) rfl (by decide) (by decide)
  obtain ⟨r3, b3, e3, hb3, hr3⟩ := takeC hb2 (t := [some (.f R), some (.f c), x3, none, some (.o m), some (.o (.nd (.dK ks) ds)), x7, none, none]) (f := sCons (sC (.int 401)) sNil) (n := 401) rfl (by decide) (by decide)
  have val : sMk .tup (sCons (sBin dPlus (sC (.int 1)) (sCallI 0 fs__law_take (sCons (sC (.int 9)) sNil))) (sCons (sCmp dEq (sCallI 0 fs__law_take (sCons (sC (.int 2)) sNil)) (sC (.int 0))) sNil)) (tE b R c x3 none m (.nd (.dK ks) ds) x7 none none) = .ok (.nd .tup [iN (1 + r1), .bl (decide (r2 = 0))]) (tE b2 R c x3 none m (.nd (.dK ks) ds) x7 none none) := by
    refine mk_ok (cons_ok (bin_ok (x := iN 1) rfl e1 (add_nat _ _)) (one_ok ?_)) (small (show 2 ≤ 100000 by decide))
    exact bin_ok (y := iN 0) e2 rfl (by rw [dEq_ints]; rfl)
  have ge : gSetD (.nd (.dK ks) ds) (iN r3) (.nd .tup [iN (1 + r1), .bl (decide (r2 = 0))]) = some (.nd (.dK (putKs ks (.inl (r3 : Int)))) (putDs ks ds (.inl (r3 : Int)) (.nd .tup [iN (1 + r1), .bl (decide (r2 = 0))]))) := by
    show (if ks.length < sizeLine then _ else none) = _
    rw [if_pos (Nat.lt_of_le_of_lt hl (by decide))]
  have p := put_ok2 (i := 6) val rfl e3 rfl ge
  refine ⟨b3, _, _, p, hb3, ⟨put_len ok.len, fun q hq => ?_, fun z hz => ?_⟩, putKs_1 _ _⟩
  · rcases mem_putKs hq with hq | rfl
    · exact ok.keys q hq
    · exact ⟨r3, rfl⟩
  · rcases mem_putDs hz with hz | rfl
    · exact ok.vals z hz
    · exact ⟨_, _, rfl, by omega, by omega⟩
theorem gaps_ok {b R c m : D} {x3 x7 : Option S} (hb : BagOk b) : ∃ b' ks ds y3, sFor (sRg rg1 (sCons (sCallI 0 fs__law_take (sCons (sC (.int 4)) sNil)) sNil)) (hName 3) gapB (tE b R c x3 none m (.nd (.dK []) []) x7 none none) = .ok .nx (tE b' R c y3 none m (.nd (.dK ks) ds) x7 none none) ∧ BagOk b' ∧ GpOk ks ds ∧ ks.length ≤ 3 := by
  obtain ⟨r, b1, e1, hb1, hr⟩ := draws hb (t := [some (.f R), some (.f c), x3, none, some (.o m), some (.o (.nd (.dK []) [])), x7, none, none]) 4 (by decide) (by decide) (sCons (sC (.int 4)) sNil) rfl
  obtain ⟨ρ', e, b', ks, ds, y3, h1, h2, h3, h4⟩ := forL_inv (g := hName 3) (b := gapB) (fun j ρ => ∃ b ks ds x3, BagOk b ∧ ρ = tE b R c x3 none m (.nd (.dK ks) ds) x7 none none ∧ GpOk ks ds ∧ ks.length ≤ j ∧ j ≤ r) ((List.range' 0 r).map fun i : Nat => D.int (i : Int)) 0 _ ⟨b1, [], [], x3, hb1, rfl, ⟨rfl, fun k h => (by cases h), fun d h => (by cases h)⟩, Nat.le_refl _, Nat.zero_le _⟩ (fun i d ρ hd ⟨b, ks, ds, x3, hb, e1, ok, hl, hj⟩ => by
    have hi : i < r := by have := (List.getElem?_eq_some_iff.mp hd).1; simpa using this
    subst e1
    obtain ⟨b2, ks2, ds2, e2, hb2, ok2, hl2⟩ := gap_step (R := R) (c := c) (m := m) (x3 := some (.f d)) (x7 := x7) hb ok (by omega)
    exact ⟨_, _, rfl, e2, b2, ks2, ds2, _, hb2, rfl, ok2, by omega, by omega⟩)
  subst h2
  rw [List.length_map, List.length_range'] at h4
  exact ⟨b', ks, ds, y3, for_ok e1 e, h1, h3, by omega⟩
theorem sortT_ok {R : Rl} {ks : List (List Key)} {ds : List D} (ok : MkOk R ks ds) (hl : ks.length ≤ 1000) : ∃ ks' : List (List Key), dSortedT (.nd (.dT ks) ds) = some (.nd .lst (ks'.map kT)) ∧ ks'.Perm ks := by
  have lk : likeD (ks.map kT) = true := by
    unfold likeD
    simp only [Bool.and_eq_true, Bool.or_eq_true, List.all_eq_true, List.mem_map]
    refine ⟨?_, ?_, .inl ?_⟩
    · rintro a ⟨k, hk, rfl⟩ b ⟨k', hk', rfl⟩
      obtain ⟨d, s, rfl, _⟩ := ok.keys k hk
      obtain ⟨d', s', rfl, _⟩ := ok.keys k' hk'
      simp [kT, kD, py, pys, alike, alikeAll]
    · rintro a ⟨k, hk, rfl⟩
      obtain ⟨d, s, rfl, hs, _⟩ := ok.keys k hk
      refine dk_dok (n := 1) (by decide) (dk_nd (.inr rfl) fun y hy => ?_)
      simp only [List.map_cons, List.map_nil, List.mem_cons, List.not_mem_nil, or_false, kD] at hy
      rcases hy with rfl | rfl
      · exact dk_int _ _
      · exact dk_str _ hs
    · rintro a ⟨k, hk, rfl⟩
      obtain ⟨d, s, rfl, _⟩ := ok.keys k hk
      rfl
  obtain ⟨ks', p, e⟩ := perm_map_inv kT (List.mergeSort_perm (ks.map kT) leD)
  refine ⟨ks', ?_, p⟩
  show sortD (ks.map kT) = _
  unfold sortD
  rw [if_pos ⟨lk, by rw [List.length_map]; exact small (by omega)⟩, e]
theorem sortI_ok {ks : List Key} {ds : List D} (ok : GpOk ks ds) (hl : ks.length ≤ 1000) : ∃ ks' : List Key, dSorted (.nd (.dK ks) ds) = some (.nd .lst (ks'.map kD)) ∧ ks'.Perm ks := by
  have lk : likeD (ks.map kD) = true := by
    unfold likeD
    simp only [Bool.and_eq_true, Bool.or_eq_true, List.all_eq_true, List.mem_map]
    refine ⟨?_, ?_, .inr ?_⟩
    · rintro a ⟨k, hk, rfl⟩ b ⟨k', hk', rfl⟩
      obtain ⟨d, rfl⟩ := ok.keys k hk
      obtain ⟨d', rfl⟩ := ok.keys k' hk'
      simp [kD, py, alike]
    · rintro a ⟨k, hk, rfl⟩
      obtain ⟨d, rfl⟩ := ok.keys k hk
      exact dk_dok (n := 0) (by decide) (dk_int _ _)
    · rintro a ⟨k, hk, rfl⟩
      obtain ⟨d, rfl⟩ := ok.keys k hk
      rfl
  obtain ⟨ks', p, e⟩ := perm_map_inv kD (List.mergeSort_perm (ks.map kD) leD)
  refine ⟨ks', ?_, p⟩
  show sortD (ks.map kD) = _
  unfold sortD
  rw [if_pos ⟨lk, by rw [List.length_map]; exact small (by omega)⟩, e]
def rowP (ks : List (List Key)) (ds : List D) : List Key → D
  | [a, b] => .nd .tup [kD a, kD b, (getK ks ds [a, b]).getD .non]
  | _ => .non
theorem rows_of_marks {R : Rl} {b c g : D} {x3 x7 : Option S} {ks : List (List Key)} {ds : List D} (ok : MkOk R ks ds) (hl : ks.length ≤ 1000) : ∃ ms : List (Nat × Str × Nat), sSet 4 (s1 dTuple (sLc (sIt (s1 dSortedT (sBor 5))) (hTup 2 (hCons (hName 8) (hCons (hName 9) hNil))) sYes (sMk .tup (sCons (sVar 8) (sCons (sVar 9) (sCons (sIxV 5 (sMk .tup (sCons (sVar 8) (sCons (sVar 9) sNil)))) sNil)))) [8, 9])) (tE b (rulesD R) c x3 none (.nd (.dT ks) ds) g x7 none none) = .ok .nx (tE b (rulesD R) c x3 (some (.f (.nd .tup (ms.map markD)))) (.nd (.dT ks) ds) g x7 none none) ∧ (∀ m ∈ ms, strG m.2.1 = true ∧ m.2.1 ∈ R.ks.map (·.1)) ∧ ms.length = ks.length := by
  obtain ⟨ks', e1, p⟩ := sortT_ok ok hl
  have one : ∀ k ∈ ks', ∃ m : Nat × Str × Nat, (strG m.2.1 = true ∧ m.2.1 ∈ R.ks.map (·.1)) ∧ rowP ks ds k = markD m := fun k hk => by
    obtain ⟨d, s, rfl, h1, h2⟩ := ok.keys k (p.mem_iff.mp hk)
    obtain ⟨x, hx, hm⟩ := getK_mem ok.len (p.mem_iff.mp hk)
    obtain ⟨v, rfl, _⟩ := ok.vals x hm
    exact ⟨(d, s, v), ⟨h1, h2⟩, by simp [rowP, hx, kD, markD]⟩
  obtain ⟨ms, em, hm, lm⟩ := ex_map one
  refine ⟨ms, ?_, hm, by rw [lm, p.length_eq]⟩
  refine set_call (i := 4) (s1_ok (g := dTuple) (d := .nd .lst (ms.map markD)) (slc_ty kT (fun _ => true) (rowP ks ds) ks' (it_ok (s1_ok (d := .nd (.dT ks) ds) rfl e1) rfl) rfl (fun k hk => ?_) (by rw [p.length_eq]; omega) (by rw [List.filter_eq_self.mpr (fun _ _ => rfl), em])) rfl)
  obtain ⟨d, s, rfl, h1, h2⟩ := ok.keys k (p.mem_iff.mp hk)
  obtain ⟨x, hx, hm⟩ := getK_mem ok.len (p.mem_iff.mp hk)
  refine ⟨tE b (rulesD R) c x3 none (.nd (.dT ks) ds) g x7 (some (.f (iN d))) (some (.f (.str s))), rfl, rfl, fun _ => ?_, rfl⟩
  have r : rowP ks ds [.inl (d : Int), .inr s] = .nd .tup [iN d, .str s, x] := by simp [rowP, hx, kD]
  rw [r]
  refine mk_ok (cons_ok (d := iN d) rfl (cons_ok (d := .str s) rfl (one_ok (ixv_ok (d := .nd (.dT ks) ds) (k := .nd .tup [iN d, .str s]) rfl (mk_ok (ds := [iN d, .str s]) rfl (small (show 2 ≤ 100000 by decide))) ?_)))) (small (show 3 ≤ 100000 by decide))
  show (some (getK ks ds [.inl (d : Int), .inr s])).bind id = _
  rw [hx]
  rfl
def gapP (ks : List Key) (ds : List D) (k : Key) : D := match getK ks ds k with
  | some (.nd .tup ys) => .nd .tup (kD k :: ys)
  | _ => .non
theorem rows_of_gaps {R c m : D} {x4 x3 x7 : Option S} {b : D} {ks : List Key} {ds : List D} (ok : GpOk ks ds) (hl : ks.length ≤ 1000) : ∃ ps : List (Nat × Nat × Bool), s1 dTuple (sLc (sIt (s1 dSorted (sBor 6))) (hName 8) sYes (sBin dPlus (sMk .tup (sCons (sVar 8) sNil)) (sIxV 6 (sVar 8))) [8]) (tE b R c x3 x4 m (.nd (.dK ks) ds) x7 none none) = .ok (.nd .tup (ps.map gapD)) (tE b R c x3 x4 m (.nd (.dK ks) ds) x7 none none) ∧ ps.length = ks.length ∧ ∀ g ∈ ps, 1 ≤ g.2.1 ∧ g.2.1 ≤ 9 := by
  obtain ⟨ks', e1, p⟩ := sortI_ok ok hl
  have one : ∀ k ∈ ks', ∃ g : Nat × Nat × Bool, (1 ≤ g.2.1 ∧ g.2.1 ≤ 9) ∧ gapP ks ds k = gapD g := fun k hk => by
    obtain ⟨d, rfl⟩ := ok.keys k (p.mem_iff.mp hk)
    obtain ⟨x, hx, hm⟩ := getK_mem ok.len (p.mem_iff.mp hk)
    obtain ⟨n, y, rfl, hn⟩ := ok.vals x hm
    exact ⟨(d, n, y), hn, by simp [gapP, hx, kD, gapD]⟩
  obtain ⟨ps, em, hp, lm⟩ := ex_map one
  refine ⟨ps, ?_, by rw [lm, p.length_eq], hp⟩
  refine s1_ok (g := dTuple) (d := .nd .lst (ps.map gapD)) (slc_ty kD (fun _ => true) (gapP ks ds) ks' (it_ok (s1_ok (d := .nd (.dK ks) ds) rfl e1) rfl) rfl (fun k hk => ?_) (by rw [p.length_eq]; omega) (by rw [List.filter_eq_self.mpr (fun _ _ => rfl), em])) rfl
  obtain ⟨d, rfl⟩ := ok.keys k (p.mem_iff.mp hk)
  obtain ⟨x, hx, hm⟩ := getK_mem ok.len (p.mem_iff.mp hk)
  obtain ⟨n, y, rfl, hn⟩ := ok.vals x hm
  refine ⟨tE b R c x3 x4 m (.nd (.dK ks) ds) x7 (some (.f (iN d))) none, rfl, rfl, fun _ => ?_, rfl⟩
  have r : gapP ks ds (.inl (d : Int)) = .nd .tup [iN d, iN n, .bl y] := by simp [gapP, hx, kD]
  rw [r]
  refine bin_ok (mk_ok (ds := [iN d]) (one_ok rfl) (small (show 1 ≤ 100000 by decide))) (ixv_ok (d := .nd (.dK ks) ds) (k := iN d) (r := .nd .tup [iN n, .bl y]) rfl rfl ?_) (tcat_ok (small (show 1 + 2 ≤ 100000 by decide)))
  show (some (getK ks ds (.inl (d : Int)))).bind id = _
  rw [hx]
  rfl
end Y

set_option Elab.async false
set_option linter.all false
set_option maxRecDepth 100000
set_option maxHeartbeats 4000000
/-! what rises: any things with an order -/
namespace Y
open PySem PySem.Spec PyProof.Rows L2 PySem.W
def nbr {α : Type} (r : α → α → Bool) (l : List α) : Bool := (l.zip (l.drop 1)).all fun p => r p.1 p.2
theorem nb_iff {α : Type} {r : α → α → Bool} (tr : ∀ a b c, r a b = true → r b c = true → r a c = true) : ∀ l : List α, nbr r l = true ↔ l.Pairwise fun a b => r a b = true
  | [] => by simp [nbr]
  | [a] => by simp [nbr]
  | a :: b :: l => by
    have ih := nb_iff tr (b :: l)
    have e : nbr r (a :: b :: l) = (r a b && nbr r (b :: l)) := by simp [nbr]
    rw [e, Bool.and_eq_true, ih, List.pairwise_cons (a := a)]
    constructor
    · rintro ⟨h1, h2⟩
      refine ⟨fun c hc => ?_, h2⟩
      rcases List.mem_cons.mp hc with rfl | hc
      · exact h1
      · exact tr _ _ _ h1 ((List.pairwise_cons.mp h2).1 c hc)
    · rintro ⟨h1, h2⟩
      exact ⟨h1 b List.mem_cons_self, h2⟩
def ltD (a b : D) : Bool := dataLt (py a) (py b)
theorem ltD_trans {a b c : D} (h1 : ltD a b = true) (h2 : ltD b c = true) : ltD a c = true := (listOrd itemOrd).trans _ _ _ h1 h2
theorem ltD_irr (a : D) : ltD a a = false := (listOrd itemOrd).irrefl _
theorem leD_lt (a b : D) : leD a b = !ltD b a := rfl
theorem ris_gen {α : Type} (f : α → D) (inj : ∀ a b, f a = f b → a = b) {l m : List α} (anti : ∀ a ∈ l, ∀ b ∈ l, leD (f a) (f b) = true → leD (f b) (f a) = true → f a = f b) (nd : m.Nodup) (mem : ∀ a, a ∈ m ↔ a ∈ l) :
    (l.Pairwise fun a b => ltD (f a) (f b) = true) ↔ l.map f = (m.map f).mergeSort leD := by
  have antiL : ∀ a ∈ l.map f, ∀ b ∈ l.map f, leD a b = true → leD b a = true → a = b := fun a ha b hb => by
    obtain ⟨x, hx, rfl⟩ := List.mem_map.mp ha
    obtain ⟨y, hy, rfl⟩ := List.mem_map.mp hb
    exact anti x hx y hy
  constructor
  · intro h
    have ndl : l.Nodup := h.imp fun {a b} q e => by rw [e, ltD_irr] at q; cases q
    have p : m.Perm l := (List.perm_ext_iff_of_nodup nd ndl).mpr mem
    have so : (l.map f).Pairwise fun a b => leD a b = true := by
      rw [List.pairwise_map]
      refine h.imp fun {a b} q => ?_
      rw [leD_lt]
      cases z : ltD (f b) (f a) with
      | false => rfl
      | true => have := ltD_trans q z; rw [ltD_irr] at this; cases this
    rw [sort_same (p.map f) fun a ha b hb => antiL a ((p.map f).mem_iff.mp ha) b ((p.map f).mem_iff.mp hb)]
    exact (List.Perm.eq_of_pairwise (le := fun a b => leD a b = true) (fun a b ha hb => antiL a ((List.mergeSort_perm _ _).mem_iff.mp ha) b hb) (sort_pairwise leD_total _) so (List.mergeSort_perm _ _)).symm
  · intro h
    have pm := List.mergeSort_perm (m.map f) leD
    have nm : (m.map f).Nodup := List.Pairwise.map f (fun a b ne e => ne (inj a b e)) nd
    have nl : (l.map f).Nodup := by rw [h]; exact pm.nodup_iff.mpr nm
    have so : (l.map f).Pairwise fun a b => leD a b = true := by
      have := sort_pairwise leD_total (m.map f)
      rwa [← h] at this
    rw [List.pairwise_map] at so
    have nl' : l.Pairwise fun a b => f a ≠ f b := by
      have := nl
      unfold List.Nodup at this
      rwa [List.pairwise_map] at this
    refine List.Pairwise.imp_of_mem (fun {a b} ha hb q => ?_) (so.and nl')
    cases z : ltD (f a) (f b) with
    | true => rfl
    | false =>
      have : leD (f b) (f a) = true := by rw [leD_lt, z]; rfl
      exact absurd (anti a ha b hb q.1 this) q.2
theorem eqvAll_iff : ∀ {xs ys : List D}, (∀ x ∈ xs, ∀ y ∈ ys, PyData.eqv (py x) (py y) = true ↔ x = y) → (PyData.eqvAll (pys xs) (pys ys) = true ↔ xs = ys)
  | [], [], _ => by simp [pys, PyData.eqvAll]
  | [], b :: m, _ => by simp [pys, PyData.eqvAll]
  | a :: l, [], _ => by simp [pys, PyData.eqvAll]
  | a :: l, b :: m, h => by
    have ih := eqvAll_iff (xs := l) (ys := m) fun x hx y hy => h x (List.mem_cons_of_mem _ hx) y (List.mem_cons_of_mem _ hy)
    have e : PyData.eqvAll (pys (a :: l)) (pys (b :: m)) = (PyData.eqv (py a) (py b) && PyData.eqvAll (pys l) (pys m)) := by simp [pys, PyData.eqvAll]
    rw [e, Bool.and_eq_true, h a List.mem_cons_self b List.mem_cons_self, ih, List.cons.injEq]
theorem dEq_lists {xs ys : List D} (h : ∀ x ∈ xs, ∀ y ∈ ys, PyData.eqv (py x) (py y) = true ↔ x = y) (d1 : dok (.nd .lst xs) = true) (d2 : dok (.nd .lst ys) = true) : ∃ b, dEq (.nd .lst xs) (.nd .lst ys) = some b ∧ (b = true ↔ xs = ys) := by
  unfold dEq
  rw [if_pos ⟨d1, d2⟩]
  have : PyData.eqv (py (.nd .lst xs)) (py (.nd .lst ys)) = PyData.eqvAll (pys xs) (pys ys) := by simp [py, PyData.eqv]
  rw [this]
  exact ⟨_, rfl, eqvAll_iff h⟩
theorem prise {k : Kd} (hk : k = .lst ∨ k = .tup) {ds : List D} (hl : ds.length ≤ 1000) (h : ∀ a ∈ ds, ∀ b ∈ ds, dLt a b = some (ltD a b)) : fs_rises [.nd k ds] = .val false (.bl (nbr ltD ds)) none := by
  have e1 : dSlc (.nd k ds) (some 1) none = some (.nd k (ds.drop 1)) := by
    rcases hk with rfl | rfl <;> (show some (D.nd _ (cutD ds (some 1) none)) = _; rw [cut1])
  have e2 : zp2 [.nd k ds, .nd k (ds.drop 1)] = some (zpD ds (ds.drop 1)) := by rcases hk with rfl | rfl <;> rfl
  refine fin_ok (ρ := [some (.f (.nd k ds)), none, none]) rfl ?_
  show m_rises [some (.f (.nd k ds)), none, none] = _
  unfold m_rises
  generalize hρ : ([some (.f (.nd k ds)), none, none] : En) = ρ
  have v0 : sVar 0 ρ = .ok (.nd k ds) ρ := by subst hρ; rfl
  have src : sRg zp2 (sCons (sVar 0) (sCons (sSlc (sVar 0) (sPt (sC (.int 1))) sNoPt) sNil)) ρ = .ok ((ds.zip (ds.drop 1)).map fun p => D.nd .tup [p.1, p.2]) ρ := rg_ok (cons_ok v0 (one_ok (slc_ok (a := some 1) (c := none) v0 rfl rfl e1))) e2
  refine ret_ok (s1_ok (d := .nd .lst ((ds.zip (ds.drop 1)).map fun p => D.bl (ltD p.1 p.2))) (slc_ty (fun p : D × D => D.nd .tup [p.1, p.2]) (fun _ => true) (fun p => D.bl (ltD p.1 p.2)) (ds.zip (ds.drop 1)) src (by subst hρ; rfl) (fun p hp => ⟨[some (.f (.nd k ds)), some (.f p.1), some (.f p.2)], by subst hρ; rfl, rfl, fun _ => bin_ok (x := p.1) (y := p.2) rfl rfl (by
      show (dLt p.1 p.2).map D.bl = _
      rw [h p.1 (List.of_mem_zip hp).1 p.2 (List.mem_of_mem_drop (List.of_mem_zip hp).2)]; rfl), by subst hρ; rfl⟩) (by rw [List.length_zip]; omega) (by rw [List.filter_eq_self.mpr fun _ _ => rfl])) ?_)
  have key : ∀ l : List (D × D), blsD (l.map fun p => D.bl (ltD p.1 p.2)) = some (l.map fun p => ltD p.1 p.2) := fun l => by
    induction l with
    | nil => rfl
    | cons a l ih =>
      rw [List.map_cons, List.map_cons]
      unfold blsD
      rw [ih]
      rfl
  show Option.map (fun bs : List Bool => D.bl (bs.all id)) (blsD _) = _
  rw [key]
  show some (D.bl ((((ds.zip (ds.drop 1)).map fun p => ltD p.1 p.2)).all id)) = _
  rw [List.all_map]
  rfl
end Y

set_option Elab.async false
set_option linter.all false
set_option maxRecDepth 100000
set_option maxHeartbeats 4000000
/-! what rises: names, tuples of names and numbers -/
namespace Y
open PySem PySem.Spec PyProof.Rows L2 PySem.W
theorem keysD_kT : ∀ k : List Key, keysD (k.map kD) = some k
  | [] => rfl
  | .inl i :: k => by
    show (match keyD (kD (.inl i)), keysD (k.map kD) with | some k, some ks => some (k :: ks) | _, _ => none) = _
    rw [keysD_kT k]; rfl
  | .inr i :: k => by
    show (match keyD (kD (.inr i)), keysD (k.map kD) with | some k, some ks => some (k :: ks) | _, _ => none) = _
    rw [keysD_kT k]; rfl
theorem eqv_kD (a b : Key) : PyData.eqv (py (kD a)) (py (kD b)) = true ↔ kD a = kD b := by
  cases a with
  | inl i =>
    cases b with
    | inl j => simp [kD, py, PyData.eqv]
    | inr j => simp [kD, py, PyData.eqv]
  | inr i =>
    cases b with
    | inl j => simp [kD, py, PyData.eqv]
    | inr j =>
      show PyData.eqv (py (.str i)) (py (.str j)) = true ↔ D.str i = D.str j
      rw [eqv_str, decide_eq_true_eq]
      exact ⟨fun e => by rw [e], inj_str⟩
theorem eqv_kT (a b : List Key) : PyData.eqv (py (kT a)) (py (kT b)) = true ↔ kT a = kT b := by
  have e : PyData.eqv (py (kT a)) (py (kT b)) = PyData.eqvAll (pys (a.map kD)) (pys (b.map kD)) := by simp [kT, py, PyData.eqv]
  rw [e, eqvAll_iff fun x hx y hy => by
    obtain ⟨j, _, rfl⟩ := List.mem_map.mp hx
    obtain ⟨j', _, rfl⟩ := List.mem_map.mp hy
    exact eqv_kD j j']
  unfold kT
  constructor
  · intro h; rw [h]
  · intro h; injection h
structure TupsC (ks : List (List Key)) : Prop where
  al : ∀ a ∈ ks, ∀ b ∈ ks, alike (py (kT a)) (py (kT b)) = true
  ok : ∀ a ∈ ks, dk 1 (kT a)
  ne : ∀ a ∈ ks, a ≠ []
theorem TupsC.like {ks : List (List Key)} (h : TupsC ks) : likeD (ks.map kT) = true := by
  unfold likeD
  simp only [Bool.and_eq_true, Bool.or_eq_true, List.all_eq_true]
  refine ⟨fun a ha b hb => ?_, fun a ha => ?_, .inl fun a ha => ?_⟩
  · obtain ⟨x, hx, rfl⟩ := List.mem_map.mp ha
    obtain ⟨y, hy, rfl⟩ := List.mem_map.mp hb
    exact h.al x hx y hy
  · obtain ⟨x, hx, rfl⟩ := List.mem_map.mp ha
    exact dk_dok (by decide) (h.ok x hx)
  · obtain ⟨x, hx, rfl⟩ := List.mem_map.mp ha
    cases x with
    | nil => exact absurd rfl (h.ne _ hx)
    | cons j x => rfl
theorem nb_map {α β : Type} (f : α → β) (r : β → β → Bool) (l : List α) : nbr r (l.map f) = nbr (fun a b => r (f a) (f b)) l := by
  unfold nbr
  rw [← List.map_drop, List.zip_map, List.all_map]
  rfl
theorem prise_tups {k : Kd} (hk : k = .lst ∨ k = .tup) {ks : List (List Key)} (h : TupsC ks) (hl : ks.length ≤ 1000) : fs_rises [.nd k (ks.map kT)] = .val false (.bl (nbr ltD (ks.map kT))) none :=
  prise hk (by rw [List.length_map]; exact hl) fun a ha b hb => by
    obtain ⟨x, hx, rfl⟩ := List.mem_map.mp ha
    obtain ⟨y, hy, rfl⟩ := List.mem_map.mp hb
    show (if dok (kT x) = true ∧ dok (kT y) = true ∧ alike (py (kT x)) (py (kT y)) = true then some (dataLt (py (kT x)) (py (kT y))) else none) = _
    rw [if_pos ⟨dk_dok (by decide) (h.ok x hx), dk_dok (by decide) (h.ok y hy), h.al x hx y hy⟩]
    rfl
theorem ltD_str (a b : Str) : ltD (.str a) (.str b) = decide (sgs a < sgs b) := by
  unfold ltD
  simp only [py]
  rw [dataLt_str]
  rfl
/-! pairs of a name and a number -/
def prK (p : Str × Int) : List Key := [.inr p.1, .inl p.2]
theorem prK_ok {l : List (Str × Int)} (h : ∀ p ∈ l, strG p.1 = true) : TupsC (l.map prK) where
  al a ha b hb := by
    obtain ⟨x, _, rfl⟩ := List.mem_map.mp ha
    obtain ⟨y, _, rfl⟩ := List.mem_map.mp hb
    simp [prK, kT, kD, py, pys, alike, alikeAll]
  ok a ha := by
    obtain ⟨x, hx, rfl⟩ := List.mem_map.mp ha
    exact dk_nd (.inr rfl) fun y hy => by
      have hy' : y ∈ [D.str x.1, D.int x.2] := hy
      simp only [List.mem_cons, List.not_mem_nil, or_false] at hy'
      rcases hy' with rfl | rfl
      · exact dk_str _ (h x hx)
      · exact dk_int _ _
  ne a ha := by
    obtain ⟨x, _, rfl⟩ := List.mem_map.mp ha
    simp [prK]
end Y

set_option Elab.async false
set_option linter.all false
set_option maxRecDepth 100000
set_option maxHeartbeats 4000000
/-! k08: answers, rows, what rises -/
namespace Y
open PySem PySem.Spec PyProof.Rows L2 PySem.W
/-! ### answers -/
def Ans (m : En → Y.R Fl) (ρ : En) (v : Bool) : Prop := ∃ ρ', m ρ = .ok (.rt (.bl v)) ρ'
theorem ans_guard {t : En → Y.R Bool} {rest : En → Y.R Fl} {ρ ρ1 : En} {c v : Bool} (hc : t ρ = .ok (!c) ρ1) (hr : c = true → Ans rest ρ1 v) : Ans (sSeq (sIfS t (sRet (sC (.bl false))) sNx) rest) ρ (c && v) := by
  cases c with
  | false => exact ⟨_, out_no hc⟩
  | true =>
    obtain ⟨ρ', e⟩ := hr rfl
    exact ⟨ρ', (out_go hc).trans (by rw [e]; rfl)⟩
theorem ans_seq {a : En → Y.R Fl} {rest : En → Y.R Fl} {ρ ρ1 : En} {v : Bool} (h : a ρ = .ok .nx ρ1) (hr : Ans rest ρ1 v) : Ans (sSeq a rest) ρ v := by
  obtain ⟨ρ', e⟩ := hr
  exact ⟨ρ', (seq_ok h).trans e⟩
theorem ans_ret {f : En → Y.R D} {ρ ρ1 : En} {v : Bool} (e : f ρ = .ok (.bl v) ρ1) : Ans (sRet f) ρ v := ⟨_, ret_ok e⟩
theorem ans_ret1 {f : En → Y.R D} {ρ : En} {v : Bool} (e : f ρ = .ok (.bl v) ρ) : Ans (sRet f) ρ v := ⟨_, ret_ok e⟩
theorem ans_loop {a : En → Y.R Fl} {rest : En → Y.R Fl} {ρ ρ1 : En} {c v : Bool} (h : a ρ = .ok (if c = true then .nx else .rt (.bl false)) ρ1) (hr : c = true → Ans rest ρ1 v) : Ans (sSeq a rest) ρ (c && v) := by
  cases c with
  | false => exact ⟨_, sq_rt h⟩
  | true => exact ans_seq h (hr rfl)
theorem or_ans {t u : En → Y.R Bool} {ρ : En} {c d : Bool} (h1 : t ρ = .ok (!c) ρ) (h2 : c = true → u ρ = .ok (!d) ρ) : sOrT t u ρ = .ok (!(c && d)) ρ := by
  cases c with
  | false => exact or_yes h1
  | true => exact or_no h1 (h2 rfl)
theorem and_ans {a b : En → Y.R D} {ρ : En} {c d : Bool} (h1 : a ρ = .ok (.bl c) ρ) (h2 : c = true → b ρ = .ok (.bl d) ρ) : sAndV a b ρ = .ok (.bl (c && d)) ρ := by
  cases c with
  | false => exact and_no h1
  | true => exact and_yes h1 (h2 rfl)
theorem run_ans {m : En → Y.R Fl} {np n : Nat} {ds : List D} {v : Bool} (hl : ds.length = np) (e : Ans m (argS false ds ++ List.replicate (n - np) none) v) : runF false np n m ds = .val false (.bl v) none := fin_ex hl e
theorem notru {f : En → Y.R D} {ρ : En} {c : Bool} (e : f ρ = .ok (.bl c) ρ) : sNotT (sTru f) ρ = .ok (!c) ρ := not_ok (tru_ok e)
/-! ### names of any length -/
/-! ### rows -/
def rowsL : D → List D
  | .nd .tup xs => xs
  | _ => []
theorem rowB_tup {c : Nat} {x : D} (h : rowB c x = true) : ∃ ps, x = .nd .tup ps ∧ ps.length = c := by
  cases x with
  | nd k ps =>
    cases k with
    | tup => exact ⟨ps, rfl, by simpa [rowB] using h⟩
    | _ => simp [rowB] at h
  | _ => simp [rowB] at h
theorem rowsB_tup {most c : Nat} {d : D} (h : rowsB most c d = true) : ∃ xs, d = .nd .tup xs ∧ xs.length ≤ most ∧ ∀ x ∈ xs, rowB c x = true := by
  cases d with
  | nd k xs =>
    cases k with
    | tup =>
      have h' : xs.length ≤ most ∧ ∀ x ∈ xs, rowB c x = true := by simpa [rowsB] using h
      exact ⟨xs, rfl, h'.1, h'.2⟩
    | _ => simp [rowsB] at h
  | _ => simp [rowsB] at h
theorem row2 {x : D} (h : rowB 2 x = true) : ∃ a b, x = .nd .tup [a, b] := by
  obtain ⟨ps, rfl, l⟩ := rowB_tup h
  match ps, l with
  | [a, b], _ => exact ⟨a, b, rfl⟩
theorem row3 {x : D} (h : rowB 3 x = true) : ∃ a b c, x = .nd .tup [a, b, c] := by
  obtain ⟨ps, rfl, l⟩ := rowB_tup h
  match ps, l with
  | [a, b, c], _ => exact ⟨a, b, c, rfl⟩
theorem row4 {x : D} (h : rowB 4 x = true) : ∃ a b c d, x = .nd .tup [a, b, c, d] := by
  obtain ⟨ps, rfl, l⟩ := rowB_tup h
  match ps, l with
  | [a, b, c, d], _ => exact ⟨a, b, c, d, rfl⟩
theorem vv_mem {m n : Nat} {xs : List D} (h : vv m n (.nd .tup xs) = true) : ∃ j, n = j + 1 ∧ ∀ x ∈ xs, vv m j x = true := by
  obtain ⟨j, e, _, hp⟩ := vv_tup h
  exact ⟨j, e, hp⟩
theorem all_eq {α : Type} {p q : α → Bool} : ∀ {l : List α}, (∀ x ∈ l, p x = q x) → l.all p = l.all q
  | [], _ => rfl
  | x :: l, h => by rw [List.all_cons, List.all_cons, h x List.mem_cons_self, all_eq fun y hy => h y (List.mem_cons_of_mem _ hy)]
theorem all_both {α : Type} (p q : α → Bool) : ∀ l : List α, (l.all fun x => p x && q x) = (l.all p && l.all q)
  | [] => rfl
  | x :: l => by
    rw [List.all_cons, List.all_cons, List.all_cons, all_both p q l]
    cases p x <;> cases q x <;> cases l.all p <;> cases l.all q <;> rfl
def h0 : D → D
  | .nd .tup (a :: _) => a
  | _ => .non
def h1 : D → D
  | .nd .tup (_ :: b :: _) => b
  | _ => .non
theorem heads_of {xs : List D} {ρ ρ1 ρ2 : En} {i : Nat} {src : En → Y.R (List D)} (hs : src ρ = .ok xs ρ1) (hw : wipeE [i] ρ1 = ρ2) (hi : ρ2[i]? = some none) (hl : xs.length ≤ 1000) (hx : ∀ x ∈ xs, ∃ a l, x = .nd .tup (a :: l)) : sLc src (hName i) sYes (sBin dIx (sVar i) (sC (.int 0))) [i] ρ = .ok (.nd .lst (xs.map h0)) ρ2 :=
  slc_ty2 (ρ1 := ρ1) id (fun _ => true) h0 xs (by rw [List.map_id]; exact hs) hw (fun x hxm => ⟨ρ2.set i (some (.f x)), rfl, rfl, fun _ => by
    obtain ⟨a, l, rfl⟩ := hx x hxm
    exact bin_ok (x := .nd .tup (a :: l)) (var_set hi) rfl (at_tup (xs := a :: l) (jj := 0) (by simp)), wipe_back hi⟩) (by omega) (by rw [List.filter_eq_self.mpr fun _ _ => rfl])
theorem seconds_of {xs : List D} {ρ ρ1 ρ2 : En} {i : Nat} {src : En → Y.R (List D)} (hs : src ρ = .ok xs ρ1) (hw : wipeE [i] ρ1 = ρ2) (hi : ρ2[i]? = some none) (hl : xs.length ≤ 1000) (hx : ∀ x ∈ xs, ∃ a b l, x = .nd .tup (a :: b :: l)) : sLc src (hName i) sYes (sBin dIx (sVar i) (sC (.int 1))) [i] ρ = .ok (.nd .lst (xs.map h1)) ρ2 :=
  slc_ty2 (ρ1 := ρ1) id (fun _ => true) h1 xs (by rw [List.map_id]; exact hs) hw (fun x hxm => ⟨ρ2.set i (some (.f x)), rfl, rfl, fun _ => by
    obtain ⟨a, b, l, rfl⟩ := hx x hxm
    exact bin_ok (x := .nd .tup (a :: b :: l)) (var_set hi) rfl (at_tup (xs := a :: b :: l) (jj := 1) (by simp)), wipe_back hi⟩) (by omega) (by rw [List.filter_eq_self.mpr fun _ _ => rfl])
theorem cut_take (xs : List D) (n : Nat) : cutD xs none (some (n : Int)) = xs.take n := by
  unfold cutD
  have h1 : HT.sIx xs.length xs.length (some (n : Int)) = min n xs.length := HT.sIx_nat _ _ n
  have h2 : HT.sIx xs.length 0 none = 0 := rfl
  rw [h1, h2, Nat.sub_zero, List.drop_zero]
  by_cases c : n ≤ xs.length
  · rw [Nat.min_eq_left c]
  · rw [Nat.min_eq_right (by omega), List.take_length, List.take_of_length_le (by omega)]
def h2 : D → D
  | .nd .tup (a :: b :: _) => .nd .tup [a, b]
  | _ => .non
theorem firsts_of {xs : List D} {ρ ρ1 ρ2 : En} {i : Nat} {src : En → Y.R (List D)} (hs : src ρ = .ok xs ρ1) (hw : wipeE [i] ρ1 = ρ2) (hi : ρ2[i]? = some none) (hl : xs.length ≤ 1000) (hx : ∀ x ∈ xs, ∃ a b l, x = .nd .tup (a :: b :: l)) : sLc src (hName i) sYes (sSlc (sVar i) sNoPt (sPt (sC (.int 2)))) [i] ρ = .ok (.nd .lst (xs.map h2)) ρ2 :=
  slc_ty2 (ρ1 := ρ1) id (fun _ => true) h2 xs (by rw [List.map_id]; exact hs) hw (fun x hxm => ⟨ρ2.set i (some (.f x)), rfl, rfl, fun _ => by
    obtain ⟨a, b, l, rfl⟩ := hx x hxm
    exact slc_ok (a := none) (c := some 2) (d := .nd .tup (a :: b :: l)) (var_set hi) rfl rfl (by
      show some (D.nd .tup (cutD (a :: b :: l) none (some ((2 : Nat) : Int)))) = _
      rw [cut_take]
      rfl), wipe_back hi⟩) (by omega) (by rw [List.filter_eq_self.mpr fun _ _ => rfl])
/-! ### what rises: names, numbers -/
def AllStr (ds : List D) : Prop := ∀ d ∈ ds, ∃ s, d = .str s ∧ strG s = true
def AllInt (ds : List D) : Prop := ∀ d ∈ ds, ∃ i, d = .int i
theorem strs_of {ds : List D} (h : AllStr ds) : ∃ l : List Str, ds = nD l ∧ NmsOk l := by
  induction ds with
  | nil => exact ⟨[], rfl, fun s h => (by cases h)⟩
  | cons d ds ih =>
    obtain ⟨s, rfl, hs⟩ := h d List.mem_cons_self
    obtain ⟨l, rfl, hl⟩ := ih fun x hx => h x (List.mem_cons_of_mem _ hx)
    exact ⟨s :: l, rfl, fun x hx => by
      rcases List.mem_cons.mp hx with rfl | hx
      · exact hs
      · exact hl x hx⟩
theorem ints_of {ds : List D} (h : AllInt ds) : ∃ l : List Int, ds = l.map D.int := by
  induction ds with
  | nil => exact ⟨[], rfl⟩
  | cons d ds ih =>
    obtain ⟨s, rfl⟩ := h d List.mem_cons_self
    obtain ⟨l, rfl⟩ := ih fun x hx => h x (List.mem_cons_of_mem _ hx)
    exact ⟨s :: l, rfl⟩
theorem ltD_int (a b : Int) : ltD (.int a) (.int b) = decide (a < b) := by
  unfold ltD
  simp only [py]
  rw [dataLt_int]
theorem prise_strs {ds : List D} (h : AllStr ds) (hl : ds.length ≤ 1000) : fs_rises [.nd .lst ds] = .val false (.bl (nbr ltD ds)) none := prise (.inl rfl) hl fun a ha b hb => by
  obtain ⟨s, rfl, _⟩ := h a ha
  obtain ⟨t, rfl, _⟩ := h b hb
  rw [ltD_str]
  rfl
theorem prise_ints {ds : List D} (h : AllInt ds) (hl : ds.length ≤ 1000) : fs_rises [.nd .lst ds] = .val false (.bl (nbr ltD ds)) none := prise (.inl rfl) hl fun a ha b hb => by
  obtain ⟨s, rfl⟩ := h a ha
  obtain ⟨t, rfl⟩ := h b hb
  rw [ltD_int]
  rfl
theorem nb_strs (l : List Str) : nbr ltD (nD l) = risB l := by
  rw [nD, nb_map, show (fun a b => ltD (D.str a) (D.str b)) = fun a b => decide (sgs a < sgs b) from funext fun a => funext fun b => ltD_str a b]
  rfl
theorem keysD_ints : ∀ l : List Int, keysD (l.map D.int) = some (l.map Sum.inl)
  | [] => rfl
  | i :: l => by
    show (match keyD (.int i), keysD (l.map D.int) with | some k, some ks => some (k :: ks) | _, _ => none) = _
    rw [keysD_ints l]
    rfl
def ipK (p : Int × Str) : List Key := [.inl p.1, .inr p.2]
def AllPr (ds : List D) : Prop := ∀ d ∈ ds, ∃ i s, d = .nd .tup [.int i, .str s] ∧ strG s = true
theorem prs_of {ds : List D} (h : AllPr ds) : ∃ l : List (Int × Str), ds = (l.map ipK).map kT ∧ TupsC (l.map ipK) := by
  have key : ∃ l : List (Int × Str), ds = (l.map ipK).map kT ∧ ∀ p ∈ l, strG p.2 = true := by
    induction ds with
    | nil => exact ⟨[], rfl, fun s h => (by cases h)⟩
    | cons d ds ih =>
      obtain ⟨i, s, rfl, hs⟩ := h d List.mem_cons_self
      obtain ⟨l, rfl, hl⟩ := ih fun x hx => h x (List.mem_cons_of_mem _ hx)
      exact ⟨(i, s) :: l, rfl, fun x hx => by
        rcases List.mem_cons.mp hx with rfl | hx
        · exact hs
        · exact hl x hx⟩
  obtain ⟨l, e, hl⟩ := key
  refine ⟨l, e, ⟨fun a ha b hb => ?_, fun a ha => ?_, fun a ha => ?_⟩⟩
  · obtain ⟨x, _, rfl⟩ := List.mem_map.mp ha
    obtain ⟨y, _, rfl⟩ := List.mem_map.mp hb
    simp [ipK, kT, kD, py, pys, alike, alikeAll]
  · obtain ⟨x, hx, rfl⟩ := List.mem_map.mp ha
    exact dk_nd (.inr rfl) fun y hy => by
      have hy' : y ∈ [D.int x.1, D.str x.2] := hy
      simp only [List.mem_cons, List.not_mem_nil, or_false] at hy'
      rcases hy' with rfl | rfl
      · exact dk_int _ _
      · exact dk_str _ (hl x hx)
  · obtain ⟨x, _, rfl⟩ := List.mem_map.mp ha
    simp [ipK]
theorem prise_prs {ds : List D} (h : AllPr ds) (hl : ds.length ≤ 1000) : fs_rises [.nd .lst ds] = .val false (.bl (nbr ltD ds)) none := by
  obtain ⟨l, rfl, c⟩ := prs_of h
  exact prise_tups (.inl rfl) c (by rw [List.length_map] at hl; exact hl)
end Y

set_option Elab.async false
set_option linter.all false
set_option maxRecDepth 100000
set_option maxHeartbeats 4000000
/-! k08: kinds, grades -/
namespace Y
open PySem PySem.Spec PyProof.Rows L2 PySem.W
theorem orv_yes {a b : En → Y.R D} {ρ ρ1 : En} (e : a ρ = .ok (.bl true) ρ1) : sOrV a b ρ = .ok (.bl true) ρ1 := by
  unfold sOrV
  rw [e]
  rfl
theorem orv_no {a b : En → Y.R D} {ρ ρ1 ρ2 : En} {d : D} (e : a ρ = .ok (.bl false) ρ1) (e2 : b ρ1 = .ok d ρ2) : sOrV a b ρ = .ok d ρ2 := by
  unfold sOrV
  rw [e]
  exact e2
theorem all_rows {src : En → Y.R (List D)} {g : D → En → Option En} {e : En → Y.R D} {vs : List Nat} {ρ ρ1 ρ2 : En} {xs : List D} (q : D → Bool) (hs : src ρ = .ok xs ρ1) (hw : wipeE vs ρ1 = ρ2) (h : ∀ x ∈ xs, ∃ ρ3, g x ρ2 = some ρ3 ∧ e ρ3 = .ok (.bl (q x)) ρ3 ∧ wipeE vs ρ3 = ρ2) (hl : xs.length ≤ 1000) : s1 dAll (sLc src g sYes e vs) ρ = .ok (.bl (xs.all q)) ρ2 := by
  refine s1_ok (d := .nd .lst (xs.map fun x => D.bl (q x))) ?_ (all_map q xs)
  exact slc_ty2 (ρ1 := ρ1) id (fun _ => true) (fun x => D.bl (q x)) xs (by rw [List.map_id]; exact hs) hw (fun x hx => by
    obtain ⟨ρ3, e1, e2, e3⟩ := h x hx
    exact ⟨ρ3, e1, rfl, fun _ => e2, e3⟩) (by omega) (by rw [List.filter_eq_self.mpr fun _ _ => rfl])
theorem filt_rows {src : En → Y.R (List D)} {t : En → Y.R Bool} {i : Nat} {ρ ρ1 ρ2 : En} {xs : List D} (q : D → Bool) (hs : src ρ = .ok xs ρ1) (hw : wipeE [i] ρ1 = ρ2) (hi : ρ2[i]? = some none) (h : ∀ x ∈ xs, t (ρ2.set i (some (.f x))) = .ok (!q x) (ρ2.set i (some (.f x)))) (hl : xs.length ≤ 1000) : sLc src (hName i) t (sVar i) [i] ρ = .ok (.nd .lst (xs.filter fun x => !q x)) ρ2 :=
  slc_ty2 (ρ1 := ρ1) id (fun x => !q x) id xs (by rw [List.map_id]; exact hs) hw (fun x hx => ⟨ρ2.set i (some (.f x)), rfl, h x hx, fun _ => var_set hi, wipe_back hi⟩) (by omega) (by rw [List.map_id])
theorem filt_nil {m n : Nat} (hn : n ≤ 60) {xs : List D} (hv : ∀ x ∈ xs, vv m n x = true) (q : D → Bool) : dNe (.nd .lst (xs.filter fun x => !q x)) (.nd .lst []) = some (!xs.all q) := by
  rw [dNe_nil (dok_of_all (n := n) (m := m) hn fun x hx => hv x (List.mem_filter.mp hx).1), filter_none]
  simp
theorem dok_vv {m n : Nat} (hn : n ≤ 60) {d : D} (h : vv m n d = true) : dok d = true := by
  obtain ⟨a, b⟩ := vv_ok h
  exact dk_dok (n := n) (by omega) ⟨a, b⟩
/-! names that are distinct -/
def sO : D → Str
  | .str s => s
  | _ => ""
def dstB (ds : List D) : Bool := decide ((ds.map sO).Nodup)
theorem sO_names (l : List Str) : (nD l).map sO = l := by
  rw [nD, List.map_map]
  conv => rhs; rw [← List.map_id l]
  rfl
theorem ddS_sub : ∀ l : List Str, List.Sublist (ddS l) l
  | [] => List.Sublist.slnil
  | a :: l => by
    unfold ddS
    split
    · exact (ddS_sub l).cons a
    · exact (ddS_sub l).cons_cons a
theorem dd_len (l : List Str) : (ddS l).length = l.length ↔ l.Nodup := by
  constructor
  · intro h
    rw [← (ddS_sub l).eq_of_length h]
    exact nodup_ddS l
  · intro h
    rw [ddS_nodup h]
theorem srt_dst (l : List Str) : risB (srt l) = decide l.Nodup := by
  rw [Bool.eq_iff_iff, risB_iff, decide_eq_true_eq]
  constructor
  · intro h
    have nd : (srt l).Nodup := h.imp fun {a b} q e => by rw [e] at q; exact List.lt_irrefl _ q
    exact (srt_perm l).nodup_iff.mp nd
  · intro h
    have nd : (srt l).Nodup := (srt_perm l).nodup_iff.mpr h
    exact ((srt_pw l).and nd).imp fun {a b} q => List.not_le.mp fun z => q.2 (str_ext (List.le_antisymm q.1 z))
theorem sorted_dst {ds : List D} (h : AllStr ds) (hl : ds.length ≤ 1000) : ∃ ds', dSorted (.nd .lst ds) = some (.nd .lst ds') ∧ AllStr ds' ∧ ds'.length = ds.length ∧ nbr ltD ds' = dstB ds := by
  obtain ⟨l, rfl, hn⟩ := strs_of h
  have ll : (nD l).length = l.length := List.length_map _
  refine ⟨nD (srt l), sortD_names hn (small (by omega)), fun d hd => ?_, by rw [List.length_map, (srt_perm l).length_eq, ll], ?_⟩
  · obtain ⟨s, hs, rfl⟩ := List.mem_map.mp hd
    exact ⟨s, rfl, hn s ((srt_perm l).mem_iff.mp hs)⟩
  · rw [nb_strs, srt_dst]
    unfold dstB
    rw [sO_names]
/-! rows -/
def kdR : D → Bool
  | .nd .tup [a, b] => nmB a && isInt 1 9 b
  | _ => false
def gdR : D → Bool
  | .nd .tup [a, b] => isInt 0 100 a && nmB b
  | _ => false
def kndB (d : D) : Bool := (rowsB 4 2 d && !(rowsL d).isEmpty) && ((rowsL d).all kdR && nbr ltD ((rowsL d).map h0))
def prsB (d : D) : Bool := (rowsB 6 2 d && !(rowsL d).isEmpty) && ((rowsL d).all gdR && (nbr ltD ((rowsL d).map h0) && dstB ((rowsL d).map h1)))
def fst0 (d : D) : Bool := match rowsL d with
  | .nd .tup (.int i :: _) :: _ => decide (i = 0)
  | _ => false
def grdB (d : D) : Bool := (rowsB 6 2 d && !(rowsL d).isEmpty) && ((rowsL d).all gdR && (fst0 d && (nbr ltD ((rowsL d).map h0) && dstB ((rowsL d).map h1))))
theorem grd_prs (d : D) : grdB d = (prsB d && fst0 d) := by
  unfold grdB prsB
  cases rowsB 6 2 d && !(rowsL d).isEmpty <;> cases (rowsL d).all gdR <;> cases fst0 d <;> cases nbr ltD ((rowsL d).map h0) <;> cases dstB ((rowsL d).map h1) <;> rfl
theorem nmB_str {d : D} (h : nmB d = true) : ∃ s, d = .str s := by
  cases d with
  | str s => exact ⟨s, rfl⟩
  | _ => simp [nmB] at h
theorem isInt_int {lo hi : Int} {d : D} (h : isInt lo hi d = true) : ∃ i, d = .int i := by
  cases d with
  | int i => exact ⟨i, rfl⟩
  | _ => simp [isInt] at h
section
variable {m n : Nat} {xs : List D} (hv : ∀ x ∈ xs, vv m n x = true) (hr : ∀ x ∈ xs, rowB 2 x = true)
include hr
theorem two_head : ∀ x ∈ xs, ∃ a l, x = .nd .tup (a :: l) := fun x hx => by
  obtain ⟨a, b, rfl⟩ := row2 (hr x hx)
  exact ⟨a, [b], rfl⟩
theorem two_both : ∀ x ∈ xs, ∃ a b l, x = .nd .tup (a :: b :: l) := fun x hx => by
  obtain ⟨a, b, rfl⟩ := row2 (hr x hx)
  exact ⟨a, b, [], rfl⟩
include hv
theorem kd_heads (h : xs.all kdR = true) : AllStr (xs.map h0) := fun d hd => by
  obtain ⟨x, hx, rfl⟩ := List.mem_map.mp hd
  obtain ⟨a, b, rfl⟩ := row2 (hr x hx)
  have := List.all_eq_true.mp h _ hx
  obtain ⟨s, rfl⟩ := nmB_str ((Bool.and_eq_true _ _).mp this).1
  obtain ⟨j, _, hp⟩ := vv_mem (hv _ hx)
  exact ⟨s, rfl, (vv_str (hp (.str s) List.mem_cons_self)).1⟩
theorem gd_seconds (h : xs.all gdR = true) : AllStr (xs.map h1) := fun d hd => by
  obtain ⟨x, hx, rfl⟩ := List.mem_map.mp hd
  obtain ⟨a, b, rfl⟩ := row2 (hr x hx)
  have := List.all_eq_true.mp h _ hx
  obtain ⟨s, rfl⟩ := nmB_str ((Bool.and_eq_true _ _).mp this).2
  obtain ⟨j, _, hp⟩ := vv_mem (hv _ hx)
  exact ⟨s, rfl, (vv_str (hp (.str s) (List.mem_cons_of_mem _ List.mem_cons_self))).1⟩
omit hv in
theorem kd_seconds (h : xs.all kdR = true) : AllInt (xs.map h1) := fun d hd => by
  obtain ⟨x, hx, rfl⟩ := List.mem_map.mp hd
  obtain ⟨a, b, rfl⟩ := row2 (hr x hx)
  have := List.all_eq_true.mp h _ hx
  exact isInt_int ((Bool.and_eq_true _ _).mp this).2
omit hv in
theorem gd_heads (h : xs.all gdR = true) : AllInt (xs.map h0) := fun d hd => by
  obtain ⟨x, hx, rfl⟩ := List.mem_map.mp hd
  obtain ⟨a, b, rfl⟩ := row2 (hr x hx)
  have := List.all_eq_true.mp h _ hx
  exact isInt_int ((Bool.and_eq_true _ _).mp this).1
end
theorem empty_ok {m n : Nat} (hn : n ≤ 60) {xs : List D} (h : vv m n (.nd .tup xs) = true) {ρ : En} {i : Nat} (v : sVar i ρ = .ok (.nd .tup xs) ρ) : sBin dEq (sVar i) (sMk .tup sNil) ρ = .ok (!(!xs.isEmpty)) ρ :=
  bin_ok v (mk_ok (ds := []) rfl (small (by decide))) (by rw [eq_tup (dok_vv hn h)]; simp)
theorem first0 {xs : List D} (hr : ∀ x ∈ xs, rowB 2 x = true) (h : xs.all gdR = true) (ne : xs.isEmpty = false) : ∃ (i : Int) (b : D) (l : List D), xs = .nd .tup [.int i, b] :: l ∧ fst0 (.nd .tup xs) = decide (i = 0) := by
  cases xs with
  | nil => cases ne
  | cons x l =>
    obtain ⟨a, b, rfl⟩ := row2 (hr x List.mem_cons_self)
    have := List.all_eq_true.mp h _ List.mem_cons_self
    obtain ⟨i, rfl⟩ := isInt_int ((Bool.and_eq_true _ _).mp this).1
    exact ⟨i, b, l, rfl, rfl⟩
theorem dEq_i0 (i : Int) : dEq (.int i) (.int 0) = some (decide (i = 0)) := by
  obtain ⟨t, e, h⟩ := dEq_int0 i 0
  rw [e]
  congr 1
  rw [Bool.eq_iff_iff, h, decide_eq_true_eq]
end Y

set_option Elab.async false
set_option linter.all false
set_option maxRecDepth 100000
set_option maxHeartbeats 4000000
/-! courses by draws: order, weights -/
namespace Y
open PySem PySem.Spec PyProof.Rows L2 PySem.W
def rk (O : List Str) (s : Str) : Nat := (O.takeWhile fun x => decide (x ≠ s)).length
theorem rk_mem : ∀ {O : List Str} {n : Nat} {s : Str}, s ∈ O.take n → rk O s < n
  | [], n, s, h => by simp at h
  | a :: O, 0, s, h => by simp at h
  | a :: O, n + 1, s, h => by
    unfold rk
    by_cases e : a = s
    · subst e; simp
    · rw [List.takeWhile_cons, if_pos (by simpa using e), List.length_cons]
      rw [List.take_succ_cons] at h
      rcases List.mem_cons.mp h with z | z
      · exact absurd z.symm e
      · have := rk_mem (O := O) (n := n) z
        unfold rk at this
        omega
theorem rk_at : ∀ {O : List Str} {n : Nat} (_ : O.Nodup) (h : n < O.length), rk O O[n] = n
  | [], n, _, h => by simp at h
  | a :: O, 0, _, h => by simp [rk]
  | a :: O, n + 1, nd, h => by
    have nd' := List.nodup_cons.mp nd
    have h' : n < O.length := by simpa using h
    have ih := rk_at (O := O) nd'.2 h'
    unfold rk at ih ⊢
    have e : a ≠ (a :: O)[n + 1] := by
      rw [List.getElem_cons_succ]
      intro z
      exact nd'.1 (by rw [z]; exact List.getElem_mem h')
    rw [List.takeWhile_cons, if_pos (by simpa using e), List.length_cons, List.getElem_cons_succ, ih]
theorem rk_take {O : List Str} {n : Nat} {s : Str} (nd : O.Nodup) (h : n < O.length) (hs : s ∈ O.take n) : rk O s < rk O O[n] := by
  rw [rk_at nd h]
  exact rk_mem hs
theorem cut_take' (xs : List D) (n : Nat) : cutD xs none (some (n : Int)) = xs.take n := by
  unfold cutD
  have h1 : HT.sIx xs.length xs.length (some (n : Int)) = min n xs.length := HT.sIx_nat _ _ n
  have h2 : HT.sIx xs.length 0 none = 0 := rfl
  rw [h1, h2, Nat.sub_zero, List.drop_zero]
  by_cases c : n ≤ xs.length
  · rw [Nat.min_eq_left c]
  · rw [Nat.min_eq_right (by omega), List.take_length, List.take_of_length_le (by omega)]
structure CrsOk (R : Rows) : Prop where
  ok : RowsOk R
  n10 : ∀ s ∈ nms R, s ∈ names10
  nn : ∀ r ∈ R, r.2.2.Nodup
  wt : ∀ r ∈ R, 1 ≤ r.2.1 ∧ r.2.1 ≤ 9
  tp : ∃ f : Str → Nat, ∀ r ∈ R, ∀ s ∈ r.2.2, f s < f r.1
/-- what the draws have made so far -/
structure Made2 (O : List Str) (n : Nat) (R : Rows) : Prop where
  nm : nms R = O.take n
  nd : ∀ r ∈ R, r.2.2.Nodup ∧ r.2.2.length ≤ 10 ∧ ∀ s ∈ r.2.2, s ∈ O
  wt : ∀ r ∈ R, 1 ≤ r.2.1 ∧ r.2.1 ≤ 9
  tp : ∀ r ∈ R, ∀ s ∈ r.2.2, rk O s < rk O r.1
theorem made2_step (most names : D) (O : List Str) (R : Rows) (n : Nat) (b : D) (at_ needs : Option S) (hb : BagOk b) (hO : NmsOk O) (h10 : O.length ≤ 10) (hn : n < O.length) (hO2 : O.Nodup) (m : Made2 O n R) :
    ∃ b' R' needs', (sSeq (sSet 7 (sLc (sIt (sSlcV 5 sNoPt (sPt (sVar 4)))) (hName 3) (sBin dEq (sCallI 0 fs__law_take (sCons (sC (.int 4)) sNil)) (sC (.int 0))) (sVar 3) [3])) (sDrop (sMeth 6 gAppend (sCons (sMk .tup (sCons (sIxV 5 (sVar 4)) (sCons (sCallI 0 fs__law_of (sCons (sMk .lst (sCons (sC (.int 1)) (sCons (sC (.int 2)) (sCons (sC (.int 3)) (sCons (sC (.int 5)) (sCons (sC (.int 9)) sNil)))))) sNil)) (sCons (s1 dTuple (s1 dSorted (sBor 7))) sNil)))) sNil)))) (cE b most names at_ (some (.f (.int (n : Int)))) O (R.map rowD) needs) = .ok .nx (cE b' most names none (some (.f (.int (n : Int)))) O (R'.map rowD) needs') ∧ BagOk b' ∧ Made2 O (n + 1) R' := by
  obtain ⟨cut, ec, sc⟩ := cut_map O none (some (n : Int))
  obtain ⟨b1, M, e1, hb1, sM⟩ := pick_run most names (some (.f (.int (n : Int)))) O (R.map rowD) needs cut b [] hb (by have := sc.length_le; simp; omega)
  obtain ⟨w, b2, e2, hb2, hw⟩ := of_ok hb1 (k := .lst) (.inl rfl) (xs := [.int 1, .int 2, .int 3, .int 5, .int 9]) (by simp) (by simp)
  obtain ⟨z, rfl, hz⟩ : ∃ z : Int, w = .int z ∧ 1 ≤ z ∧ z ≤ 9 := by
    simp only [List.mem_cons, List.not_mem_nil, or_false] at hw
    rcases hw with rfl | rfl | rfl | rfl | rfl <;> exact ⟨_, rfl, by decide, by decide⟩
  have ecut : cut = O.take n := map_inj_str (by
    rw [← ec, cut_take']; exact List.map_take.symm)
  have hM : ∀ s ∈ M, s ∈ O := fun s h => sc.subset (sM.subset h)
  have lM : M.length ≤ 10 := Nat.le_trans sM.length_le (Nat.le_trans sc.length_le h10)
  have lR : R.length ≤ 10 := by
    have := congrArg List.length m.nm
    rw [List.length_take] at this
    have : (nms R).length = R.length := List.length_map _
    omega
  refine ⟨b2, R ++ [(O[n], z, srt M)], some (.f (lD M)), ?_, hb2, ⟨?_, fun r hr => ?_, fun r hr => ?_, fun r hr => ?_⟩⟩
  · have s1' : sSet 7 (sLc (sIt (sSlcV 5 sNoPt (sPt (sVar 4)))) (hName 3) (sBin dEq (sCallI 0 fs__law_take (sCons (sC (.int 4)) sNil)) (sC (.int 0))) (sVar 3) [3]) (cE b most names at_ (some (.f (.int (n : Int)))) O (R.map rowD) needs) = .ok .nx (cE b1 most names none (some (.f (.int (n : Int)))) O (R.map rowD) (some (.f (lD M)))) := by
      have src : sIt (sSlcV 5 sNoPt (sPt (sVar 4))) (cE b most names at_ (some (.f (.int (n : Int)))) O (R.map rowD) needs) = .ok (nD cut) (cE b most names at_ (some (.f (.int (n : Int)))) O (R.map rowD) needs) := by
        have : dSlc (lD O) none (some (n : Int)) = some (lD cut) := by
          show some (D.nd .lst (cutD (nD O) none (some (n : Int)))) = _
          rw [ec]
        simp [cE, runF, argS, finF, outs, sSeq, sq, bnd, lift, sVar, sBor, sFrz, sMov, sC, sBin, sCmp, sChain, sTru, tru, sAndT, sOrT, sNotT, sAndV, sOrV, sNotV, sIf, sNil, sCons, sMk, s1, sN, sNx, sDrop, sRet, sRetO, sIfS, sSet, sSetO, sAsg, sPut, ownD, chg, ownL, isLst, sMeth, sIxV, bor, sCall, sCallO, sCallI, sCallIO, gSetL, ixN, dIx, atI, dGt, cmpI, dMod, dDiv, dMul, dPlus, dAdd, dSub, dNeg, dLt, dLen', dLen, sSlc, sSlcV, sPt, sNoPt, sIt, itD, sRg, rg1, hName, hTup, hCons, hNil, sFor, List.replicate, sPar2, pO, pF, pNil, noB, sIsiV, isTy, tyN, isA, sCmpV, sz0, sz1, sz2, sz3, sz4, sz5, this]
      unfold sSet sLc
      rw [src]
      simp only [bnd]
      rw [show wipeE [3] (cE b most names at_ (some (.f (.int (n : Int)))) O (R.map rowD) needs) = cE b most names none (some (.f (.int (n : Int)))) O (R.map rowD) needs from rfl]
      have e1' : lcL (hName 3) (sBin dEq (sCallI 0 fs__law_take (sCons (sC (.int 4)) sNil)) (sC (.int 0))) (sVar 3) [3] (nD cut) (cE b most names none (some (.f (.int (n : Int)))) O (R.map rowD) needs) [] = .ok (lD M) (cE b1 most names none (some (.f (.int (n : Int)))) O (R.map rowD) needs) := e1
      rw [e1']
      rfl
    refine (seq_ok s1').trans ?_
    have c1 : R.length < sizeLine := Nat.lt_of_le_of_lt (show _ ≤ 1000 by omega) (by decide)
    have c2 : dSorted (lD M) = some (lD (srt M)) := sortD_names (fun s h => hO s (hM s h)) (small (by omega))
    have c3 : dTuple (lD (srt M)) = some (tD (srt M)) := rfl
    have c4 : dIx (lD O) (.int (n : Int)) = some (.str O[n]) := by simp [runF, argS, finF, outs, sSeq, sq, bnd, lift, sVar, sBor, sFrz, sMov, sC, sBin, sCmp, sChain, sTru, tru, sAndT, sOrT, sNotT, sAndV, sOrV, sNotV, sIf, sNil, sCons, sMk, s1, sN, sNx, sDrop, sRet, sRetO, sIfS, sSet, sSetO, sAsg, sPut, ownD, chg, ownL, isLst, sMeth, sIxV, bor, sCall, sCallO, sCallI, sCallIO, gSetL, ixN, dIx, atI, dGt, cmpI, dMod, dDiv, dMul, dPlus, dAdd, dSub, dNeg, dLt, dLen', dLen, sSlc, sSlcV, sPt, sNoPt, sIt, itD, sRg, rg1, hName, hTup, hCons, hNil, sFor, List.replicate, sPar2, pO, pF, pNil, noB, sIsiV, isTy, tyN, isA, sCmpV, sz0, sz1, sz2, sz3, sz4, sz5, hn]
    simp [cE, runF, argS, finF, outs, sSeq, sq, bnd, lift, sVar, sBor, sFrz, sMov, sC, sBin, sCmp, sChain, sTru, tru, sAndT, sOrT, sNotT, sAndV, sOrV, sNotV, sIf, sNil, sCons, sMk, s1, sN, sNx, sDrop, sRet, sRetO, sIfS, sSet, sSetO, sAsg, sPut, ownD, chg, ownL, isLst, sMeth, sIxV, bor, sCall, sCallO, sCallI, sCallIO, dGt, cmpI, dMod, dDiv, dMul, dPlus, dAdd, dSub, dNeg, dLen', dLen, sSlc, sSlcV, sPt, sNoPt, sIt, itD, sRg, rg1, hName, hTup, hCons, hNil, sFor, List.replicate, sPar2, pO, pF, pNil, noB, sIsiV, isTy, tyN, isA, sCmpV, sz0, sz1, sz2, sz3, sz4, sz5, gAppend, c1, c2, c3, c4, e2, rowD]
  · rw [List.take_add_one, List.getElem?_eq_getElem hn]
    have : nms (R ++ [(O[n], z, srt M)]) = nms R ++ [O[n]] := by simp [nms]
    rw [this, m.nm]
    rfl
  · rcases List.mem_append.mp hr with hr | hr
    · exact m.nd r hr
    · rw [List.mem_singleton.mp hr]
      exact ⟨(srt_perm M).nodup_iff.mpr ((hO2.sublist sc).sublist sM), by rw [show (O[n], z, srt M).2.2 = srt M from rfl, (srt_perm M).length_eq]; exact lM, fun s h => hM s ((srt_perm M).mem_iff.mp h)⟩
  · rcases List.mem_append.mp hr with hr | hr
    · exact m.wt r hr
    · rw [List.mem_singleton.mp hr]; exact hz
  · rcases List.mem_append.mp hr with hr | hr
    · exact m.tp r hr
    · rw [List.mem_singleton.mp hr]
      intro s hs
      have h1 : s ∈ O.take n := by rw [← ecut]; exact sM.subset ((srt_perm M).mem_iff.mp hs)
      exact rk_take hO2 hn h1
theorem made2_run (most names : D) (O : List Str) (hO : NmsOk O) (hO2 : O.Nodup) (h10 : O.length ≤ 10) : ∀ (k n : Nat) (R : Rows) (b : D) (name at_ needs : Option S), n + k = O.length → BagOk b → Made2 O n R →
    ∃ b' R' name' at' needs', forL (hName 4) madeB ((List.range' n k).map fun i : Nat => D.int (i : Int)) (cE b most names name at_ O (R.map rowD) needs) = .ok .nx (cE b' most names name' at' O (R'.map rowD) needs') ∧ BagOk b' ∧ Made2 O O.length R'
  | 0, n, R, b, name, at_, needs, e, hb, m => ⟨b, R, name, at_, needs, rfl, hb, by rw [← e]; exact m⟩
  | k + 1, n, R, b, name, at_, needs, e, hb, m => by
    obtain ⟨b1, R1, nd1, e1, hb1, m1⟩ := made2_step most names O R n b name needs hb hO h10 (by omega) hO2 m
    obtain ⟨b', R', name', at', needs', e2, hb', m'⟩ := made2_run most names O hO hO2 h10 k (n + 1) R1 b1 none (some (.f (.int (n : Int)))) nd1 (by omega) hb1 m1
    refine ⟨b', R', name', at', needs', ?_, hb', m'⟩
    rw [List.range'_succ, List.map_cons]
    conv => lhs; unfold forL
    rw [show hName 4 (.int (n : Int)) (cE b most names name at_ O (R.map rowD) needs) = some (cE b most names name (some (.f (.int (n : Int)))) O (R.map rowD) needs) from rfl]
    dsimp only
    rw [show madeB (cE b most names name (some (.f (.int (n : Int)))) O (R.map rowD) needs) = _ from e1]
    exact e2
theorem courses_ok4 {b : D} (hb : BagOk b) {most : Nat} (h1 : most ≤ 100) : ∃ R b', fs__law_courses [b, .int (most : Int)] = .val false (coursesD R) (some b') ∧ BagOk b' ∧ CrsOk R ∧ R.length ≤ most := by
  obtain ⟨r, b1, e, hb1, r0, r1⟩ := take_ok hb (n := (most : Int) + 1) (by omega) (by omega)
  obtain ⟨l, el, sl⟩ := cut_map names10 none (some r)
  have ll : l.length ≤ 10 := sl.length_le
  obtain ⟨b2, O, name2, e2, hb2, p⟩ := ins_run (.int (most : Int)) (lD l) none [] none l [] b1 none hb1 (by simp; omega)
  rw [List.nil_append] at p
  have hO : NmsOk O := fun s h => names10_ok s (sl.subset (p.mem_iff.mp h))
  have nO : O.Nodup := p.nodup_iff.mpr (names10_nd.sublist sl)
  have lm : l.length ≤ most := by
    obtain ⟨j, rfl⟩ : ∃ j : Nat, r = (j : Int) := ⟨r.toNat, by omega⟩
    have : l = names10.take j := map_inj_str (by rw [← el, cut_take']; exact List.map_take.symm)
    rw [this, List.length_take]; omega
  have lO : O.length ≤ 10 := by rw [p.length_eq]; exact ll
  obtain ⟨b3, R, nm3, at3, nd3, e3, hb3, m⟩ := made2_run (.int (most : Int)) (lD l) O hO nO lO O.length 0 [] b2 name2 none none (by omega) hb2 ⟨rfl, fun r h => (by cases h), fun r h => (by cases h), fun r h => (by cases h)⟩
  have nR : nms R = O := by rw [m.nm, List.take_length]
  have lR : R.length ≤ 10 := by
    have : (nms R).length = R.length := List.length_map _
    rw [nR] at this; omega
  have pn : (nms (srtR R)).Perm O := by rw [← nR]; exact (srtR_perm R).map _
  refine ⟨srtR R, b3, ?_, hb3, ⟨⟨?_, ?_, fun s h => hO s (pn.mem_iff.mp h), fun r hr s h => pn.mem_iff.mpr ((m.nd r ((srtR_perm R).mem_iff.mp hr)).2.2 s h), fun r hr => (m.nd r ((srtR_perm R).mem_iff.mp hr)).2.1⟩, fun s h => sl.subset (p.mem_iff.mp (pn.mem_iff.mp h)), fun r hr => (m.nd r ((srtR_perm R).mem_iff.mp hr)).1, fun r hr => m.wt r ((srtR_perm R).mem_iff.mp hr), ⟨rk O, fun r hr => m.tp r ((srtR_perm R).mem_iff.mp hr)⟩⟩, ?_⟩
  · have f1 : sSet 2 (sSlc (sMk .lst (sCons (sC (.str "art")) (sCons (sC (.str "bio")) (sCons (sC (.str "chem")) (sCons (sC (.str "dutch")) (sCons (sC (.str "eng")) (sCons (sC (.str "fin")) (sCons (sC (.str "geo")) (sCons (sC (.str "hist")) (sCons (sC (.str "ital")) (sCons (sC (.str "jazz")) sNil))))))))))) sNoPt (sPt (sCallI 0 fs__law_take (sCons (sBin dPlus (sVar 1) (sC (.int 1))) sNil)))) [some (.b b), some (.f (.int (most : Int))), none, none, none, none, none, none] = .ok .nx [some (.b b1), some (.f (.int (most : Int))), some (.f (lD l)), none, none, none, none, none] := by
      have g : sMk .lst (sCons (sC (.str "art")) (sCons (sC (.str "bio")) (sCons (sC (.str "chem")) (sCons (sC (.str "dutch")) (sCons (sC (.str "eng")) (sCons (sC (.str "fin")) (sCons (sC (.str "geo")) (sCons (sC (.str "hist")) (sCons (sC (.str "ital")) (sCons (sC (.str "jazz")) sNil)))))))))) [some (.b b), some (.f (.int (most : Int))), none, none, none, none, none, none] = .ok (lD names10) [some (.b b), some (.f (.int (most : Int))), none, none, none, none, none, none] := by
        have g2 : sCons (sC (.str "art")) (sCons (sC (.str "bio")) (sCons (sC (.str "chem")) (sCons (sC (.str "dutch")) (sCons (sC (.str "eng")) (sCons (sC (.str "fin")) (sCons (sC (.str "geo")) (sCons (sC (.str "hist")) (sCons (sC (.str "ital")) (sCons (sC (.str "jazz")) sNil))))))))) [some (.b b), some (.f (.int (most : Int))), none, none, none, none, none, none] = .ok (nD names10) [some (.b b), some (.f (.int (most : Int))), none, none, none, none, none, none] := rfl
        unfold sMk
        rw [g2]
        show lift (if (nD names10).length ≤ sizeLine then some (D.nd .lst (nD names10)) else none) _ = _
        rw [if_pos (show (nD names10).length ≤ sizeLine by rw [List.length_map]; exact small (by decide))]
        rfl
      have g3 : dSlc (lD names10) none (some r) = some (lD l) := by
        show some (D.nd .lst (cutD (nD names10) none (some r))) = _
        rw [el]
      unfold sSet sSlc
      rw [g]
      simp [runF, argS, finF, outs, sSeq, sq, bnd, lift, sVar, sBor, sFrz, sMov, sC, sBin, sCmp, sChain, sTru, tru, sAndT, sOrT, sNotT, sAndV, sOrV, sNotV, sIf, sNil, sCons, sMk, s1, sN, sNx, sDrop, sRet, sRetO, sIfS, sSet, sSetO, sAsg, sPut, ownD, chg, ownL, isLst, sMeth, sIxV, bor, sCall, sCallO, sCallI, sCallIO, dGt, cmpI, dMod, dDiv, dMul, dPlus, dAdd, dSub, dNeg, dLen', dLen, sSlc, sSlcV, sPt, sNoPt, sIt, itD, sRg, rg1, hName, hTup, hCons, hNil, sFor, List.replicate, sPar2, pO, pF, pNil, noB, sIsiV, isTy, tyN, isA, sCmpV, sz0, sz1, sz2, sz3, sz4, sz5, e, g3]
    have f2 := cf2 b1 (most : Int) l
    have c1 : dSorted (.nd .lst (R.map rowD)) = some (.nd .lst ((srtR R).map rowD)) := by
      show sortD (R.map rowD) = _
      unfold sortD
      rw [if_pos ⟨likeD_rows (by rw [nR]; exact hO) (fun r hr s h => hO s ((m.nd r hr).2.2 s h)), by rw [List.length_map]; exact small (by omega)⟩, srtR_map]
    have f5 := cf5 (b := b3) (most := (most : Int)) (l := l) (O := O) (nm3 := nm3) (at3 := at3) (nd3 := nd3) c1
    have src : sIt (sVar 2) (cE b1 (.int (most : Int)) (lD l) none none [] [] none) = .ok (nD l) (cE b1 (.int (most : Int)) (lD l) none none [] [] none) := rfl
    have rg := crg (b := b2) (most := (most : Int)) (l := l) (nm := name2) (show O.length ≤ 1000 by omega)
    have ee : m__law_courses [some (.b b), some (.f (.int (most : Int))), none, none, none, none, none, none] = .ok (.rt (coursesD (srtR R))) (cE b3 (.int (most : Int)) (lD l) nm3 at3 O (R.map rowD) nd3) := by
      unfold m__law_courses
      refine (seq_ok f1).trans ((seq_ok f2).trans ((seq_ok (ρ1 := cE b2 (.int (most : Int)) (lD l) name2 none O [] none) ?_).trans ((seq_ok (ρ1 := cE b3 (.int (most : Int)) (lD l) nm3 at3 O (R.map rowD) nd3) ?_).trans f5)))
      · unfold sFor
        rw [src]
        exact e2
      · unfold sFor
        rw [rg]
        exact e3
    show finF true (m__law_courses _) = _
    rw [show (argS true [b, .int (most : Int)] ++ List.replicate (8 - 2) none : En) = [some (.b b), some (.f (.int (most : Int))), none, none, none, none, none, none] from rfl, ee]
    rfl
  · exact pn.nodup_iff.mpr (p.nodup_iff.mpr (names10_nd.sublist sl))
  · rw [(srtR_perm R).length_eq]; exact lR
  · have : (nms R).length = R.length := List.length_map _
    rw [(srtR_perm R).length_eq, ← this, nR, p.length_eq]; exact lm
end Y

set_option Elab.async false
set_option linter.all false
set_option maxRecDepth 100000
set_option maxHeartbeats 4000000
/-! weights; what is wanted -/
namespace Y
open PySem PySem.Spec PyProof.Rows L2 PySem.W
def putN (l : List Str) (s : Str) : List Str := if s ∈ l then l else l ++ [s]
theorem putN_keys (l : List Str) (s : Str) : putKs (l.map Sum.inr : List Key) (.inr s) = (putN l s).map Sum.inr := by
  unfold putKs putN
  have : ((.inr s : Key) ∈ l.map Sum.inr) ↔ s ∈ l := by simp
  by_cases h : s ∈ l
  · rw [if_pos h, if_pos (this.mpr h)]
  · rw [if_neg h, if_neg (fun z => h (this.mp z)), List.map_append]; rfl
theorem putN_le (l : List Str) (s : Str) : (putN l s).length ≤ l.length + 1 := by
  unfold putN
  split
  · omega
  · simp
theorem putN_nd {l : List Str} {s : Str} (h : l.Nodup) : (putN l s).Nodup := by
  unfold putN
  split
  · exact h
  · rename_i hs
    refine List.nodup_append.mpr ⟨h, by simp, fun a ha b hb e => ?_⟩
    rw [List.mem_singleton.mp hb] at e
    exact hs (e ▸ ha)
theorem mem_putN {l : List Str} {s x : Str} : x ∈ putN l s ↔ x ∈ l ∨ x = s := by
  unfold putN
  split
  · rename_i h
    constructor
    · exact .inl
    · rintro (q | rfl)
      · exact q
      · exact h
  · simp
theorem fold_nd : ∀ (m l : List Str), l.Nodup → (m.foldl putN l).Nodup ∧ ∀ x, x ∈ m.foldl putN l ↔ x ∈ l ∨ x ∈ m
  | [], l, h => ⟨h, fun x => by simp⟩
  | s :: m, l, h => by
    obtain ⟨h1, h2⟩ := fold_nd m (putN l s) (putN_nd h)
    refine ⟨h1, fun x => ?_⟩
    rw [List.foldl_cons, h2, mem_putN, List.mem_cons, or_assoc]
theorem fold_le : ∀ (m l : List Str), (m.foldl putN l).length ≤ l.length + m.length
  | [], l => by simp
  | s :: m, l => by
    have h1 := fold_le m (putN l s)
    have h2 := putN_le l s
    rw [List.foldl_cons, List.length_cons]
    omega
theorem dc2I_ty {α : Type} {g1 : D → En → Option En} {t1 : En → Y.R Bool} {ek ev : En → Y.R D} {vs1 : List Nat} {k : En → List Key → List D → Y.R D} {ρ : En} (f : α → D) (q : α → Bool) (nm : α → Str) (v : D) : ∀ (xs : List α) (l : List Str) (es : List D),
    (∀ x ∈ xs, ∃ ρ1, g1 (f x) ρ = some ρ1 ∧ t1 ρ1 = .ok (q x) ρ1 ∧ (q x = true → ek ρ1 = .ok (.str (nm x)) ρ1 ∧ ev ρ1 = .ok v ρ1) ∧ wipeE vs1 ρ1 = ρ) → l.length + xs.length ≤ 100000 →
    ∃ es', dc2I g1 t1 ek ev vs1 k (xs.map f) ρ (l.map Sum.inr) es = k ρ ((((xs.filter q).map nm).foldl putN l).map Sum.inr) es'
  | [], l, es, _, _ => ⟨es, rfl⟩
  | x :: xs, l, es, h, hl => by
    rw [List.length_cons] at hl
    obtain ⟨ρ1, h1, h2, h3, h4⟩ := h x List.mem_cons_self
    have hr := fun y hy => h y (List.mem_cons_of_mem x hy)
    cases hq : q x with
    | true =>
      obtain ⟨k1, k2⟩ := h3 hq
      have pl := putN_le l (nm x)
      obtain ⟨es', ih⟩ := dc2I_ty (k := k) f q nm v xs (putN l (nm x)) (putDs (l.map Sum.inr : List Key) es (.inr (nm x)) v) hr (by omega)
      refine ⟨es', ?_⟩
      rw [List.map_cons]
      conv => lhs; unfold dc2I
      rw [h1]
      simp only [noX, bnd, h2, hq, if_true, k1, k2]
      rw [show keyD (.str (nm x)) = some (.inr (nm x)) from rfl]
      dsimp only
      rw [if_pos (by rw [List.length_map]; exact Nat.lt_of_le_of_lt (show l.length ≤ 100000 by omega) (by decide)), h4, putN_keys, ih, List.filter_cons, if_pos hq, List.map_cons, List.foldl_cons]
    | false =>
      obtain ⟨es', ih⟩ := dc2I_ty (k := k) f q nm v xs l es hr (by omega)
      refine ⟨es', ?_⟩
      rw [List.map_cons]
      conv => lhs; unfold dc2I
      rw [h1]
      simp only [noX, bnd, h2, hq, Bool.false_eq_true, if_false]
      rw [h4, ih, List.filter_cons, if_neg (by rw [hq]; exact Bool.false_ne_true)]
def wtOf (R : Rows) (s : Str) : Int := match R.find? (fun r => decide (r.1 = s)) with
  | some r => r.2.1
  | none => 0
def wdictD (R : Rows) : D := .nd (.dK ((nms R).map Sum.inr)) (R.map fun r => D.int r.2.1)
theorem get_wt : ∀ {R : Rows} {s : Str}, s ∈ nms R → getK ((nms R).map (Sum.inr : Str → Key)) (R.map fun r => D.int r.2.1) (Sum.inr s) = some (.int (wtOf R s))
  | r :: R, s, h => by
    by_cases e : r.1 = s
    · have e1 : wtOf (r :: R) s = r.2.1 := by simp [wtOf, e]
      rw [e1]
      simp [getK, nms, e]
    · have e1 : wtOf (r :: R) s = wtOf R s := by simp [wtOf, e]
      rw [e1]
      have h' : s ∈ nms R := by
        rcases List.mem_cons.mp (show s ∈ r.1 :: nms R from h) with z | z
        · exact absurd z.symm e
        · exact z
      have e2 : getK ((nms (r :: R)).map (Sum.inr : Str → Key)) ((r :: R).map fun r => D.int r.2.1) (Sum.inr s) = getK ((nms R).map (Sum.inr : Str → Key)) (R.map fun r => D.int r.2.1) (Sum.inr s) := by
        have : ¬ (Sum.inr r.1 : Key) = Sum.inr s := fun z => e (Sum.inr.inj z)
        simp [getK, nms, this]
      rw [e2]
      exact get_wt h'
theorem ix_wt {R : Rows} {s : Str} (h : s ∈ nms R) : dIx (wdictD R) (.str s) = some (.int (wtOf R s)) := by
  have : dIx (wdictD R) (.str s) = (lookD (wdictD R) (.str s)).bind id := rfl
  rw [this]
  show (some (getK ((nms R).map (Sum.inr : Str → Key)) (R.map fun r => D.int r.2.1) (Sum.inr s))).bind id = _
  rw [get_wt h]
  rfl
theorem dcw_rows : ∀ (R R0 : Rows) (x : Option S), (nms (R0 ++ R)).Nodup → (R0 ++ R).length ≤ 1000 → dcL (hTup 3 (hCons (hName 1) (hCons (hName 2) (hCons (hName 3) hNil)))) sYes (sVar 1) (sVar 2) [1, 2, 3] (R.map rowD) [x, none, none, none] ((nms R0).map Sum.inr) (R0.map fun r => D.int r.2.1) = .ok (wdictD (R0 ++ R)) [x, none, none, none]
  | [], R0, x, nd, hl => by rw [List.append_nil]; rfl
  | r :: R, R0, x, nd, hl => by
    have e0 : R0 ++ r :: R = (R0 ++ [r]) ++ R := by simp
    have ih := dcw_rows R (R0 ++ [r]) x (by rw [← e0]; exact nd) (by rw [← e0]; exact hl)
    have hn : ¬ (Sum.inr r.1 : Key) ∈ (nms R0).map (Sum.inr : Str → Key) := fun z => by
      obtain ⟨y, h1, h2⟩ := List.mem_map.mp z
      cases h2
      have : (nms R0 ++ r.1 :: nms R).Nodup := by
        have : nms (R0 ++ r :: R) = nms R0 ++ r.1 :: nms R := by simp [nms]
        rw [← this]; exact nd
      exact (List.nodup_append.mp this).2.2 _ h1 _ List.mem_cons_self rfl
    have hlen : ((nms R0).map (Sum.inr : Str → Key)).length < sizeLine := by
      rw [List.length_map]
      have : (nms R0).length = R0.length := List.length_map _
      rw [List.length_append] at hl
      exact Nat.lt_of_le_of_lt (show _ ≤ 1000 by omega) (by decide)
    rw [List.map_cons]
    have e1 : hTup 3 (hCons (hName 1) (hCons (hName 2) (hCons (hName 3) hNil))) (rowD r) [x, none, none, none] = some [x, some (.f (.str r.1)), some (.f (.int r.2.1)), some (.f (tD r.2.2))] := rfl
    conv => lhs; unfold dcL
    rw [e1]
    have e2 : putKs ((nms R0).map (Sum.inr : Str → Key)) (Sum.inr r.1) = (nms (R0 ++ [r])).map Sum.inr := by
      unfold putKs
      rw [if_neg hn]
      simp [nms]
    have e3 : putDs ((nms R0).map (Sum.inr : Str → Key)) (R0.map fun r => D.int r.2.1) (Sum.inr r.1) (.int r.2.1) = (R0 ++ [r]).map fun r => D.int r.2.1 := by
      unfold putDs
      rw [if_neg hn]
      simp
    have e4 : keyD (.str r.1) = some (Sum.inr r.1) := rfl
    simp only [sYes, noX, bnd, if_true, sVar, List.getElem?_cons_succ, List.getElem?_cons_zero, e4]
    rw [if_pos hlen, e2, e3, e0]
    exact ih
theorem weights_ok {R : Rows} (ok : RowsOk R) : fs_weights_of [coursesD R] = .val true (wdictD R) none := by
  have l10 := ok.len
  have e := dcw_rows R [] (some (.f (coursesD R))) ok.nd (by simp; omega)
  have e2 : m_weights_of [some (.f (coursesD R)), none, none, none] = .ok (.ro (wdictD R)) [some (.f (coursesD R)), none, none, none] := by
    unfold m_weights_of sRetO sDc
    have : sIt (sVar 0) [some (.f (coursesD R)), none, none, none] = .ok (R.map rowD) [some (.f (coursesD R)), none, none, none] := rfl
    rw [this]
    simp only [bnd]
    have : wipeE [1, 2, 3] [some (S.f (coursesD R)), none, none, none] = [some (S.f (coursesD R)), none, none, none] := rfl
    rw [this]
    have e : dcL (hTup 3 (hCons (hName 1) (hCons (hName 2) (hCons (hName 3) hNil)))) sYes (sVar 1) (sVar 2) [1, 2, 3] (R.map rowD) [some (S.f (coursesD R)), none, none, none] [] [] = .ok (wdictD R) [some (S.f (coursesD R)), none, none, none] := e
    rw [e]
  show finF false (m_weights_of _) = _
  rw [show (argS false [coursesD R] ++ List.replicate (4 - 1) none : En) = [some (.f (coursesD R)), none, none, none] from rfl, e2]
  rfl
def pairW (r : Str × Int × List Str) : D := .nd .tup [.str r.1, .int r.2.1]
theorem pairsW_rows : ∀ R : Rows, pairsD (R.map pairW) = some ((nms R).map Sum.inr, R.map fun r => D.int r.2.1)
  | [] => rfl
  | r :: R => by
    show (match keyD (D.str r.1), pairsD (R.map pairW) with | some q, some (qs, es) => some (q :: qs, D.int r.2.1 :: es) | _, _ => none) = _
    rw [pairsW_rows R]
    rfl
theorem dictW_rows {R : Rows} (ok : RowsOk R) : dDict (.nd .lst (R.map pairW)) = some (wdictD R) := by
  show (pairsD (R.map pairW)).map (fun p => D.nd (.dK (mergeD [] [] p.1 p.2).1) (mergeD [] [] p.1 p.2).2) = _
  rw [pairsW_rows, Option.map_some, merge_new _ [] _ [] (by simpa using nodup_inr ok.nd) (by simp [nms])]
  rfl
theorem wtOf_row {R : Rows} {s : Str} (h : s ∈ nms R) : ∃ r ∈ R, r.1 = s ∧ wtOf R s = r.2.1 := by
  obtain ⟨r, hr, e⟩ := List.mem_map.mp h
  unfold wtOf
  cases q : R.find? (fun r => decide (r.1 = s)) with
  | none =>
    have := List.find?_eq_none.mp q r hr
    simp [e] at this
  | some r' => exact ⟨r', List.mem_of_find?_eq_some q, by simpa using List.find?_some q, rfl⟩
theorem nb_row' {R : Rows} {s x : Str} (h : x ∈ nb R s) : ∃ r ∈ R, r.1 = s ∧ x ∈ r.2.2 := by
  unfold nb at h
  split at h
  · rename_i r e
    exact ⟨r, List.mem_of_find?_eq_some e, by simpa using List.find?_some e, h⟩
  · cases h
theorem turns_srt (R : Rows) (nm : Str) : srt (turns R nm 10) = turns R nm 10 := srt_same (srt_perm _)
theorem ahead_turns {R : Rows} (ok : RowsOk R) {g : Str} (h : g ∈ nms R) : fs_all_ahead [dictD R, .str g] = .val true (lD (turns R g 10)) none := by
  obtain ⟨F, e, f⟩ := all_ahead_ok ok h
  rw [e, f.same (turns_rch ok g), turns_srt]
structure GoalsOk (R : Rows) (gs : List Str) : Prop where
  mem : ∀ g ∈ gs, g ∈ nms R
  len : gs.length ≤ 20
def allN (R : Rows) (gs : List Str) : List Str := gs.flatMap fun g => g :: turns R g 10
/-- what is wanted -/
def wants (R : Rows) (gs : List Str) : List Str := srt (ddS (allN R gs))
theorem allN_sub {R : Rows} (ok : RowsOk R) {gs : List Str} (h : ∀ g ∈ gs, g ∈ nms R) : ∀ x ∈ allN R gs, x ∈ nms R := fun x hx => by
  obtain ⟨g, hg, hm⟩ := List.mem_flatMap.mp hx
  rcases List.mem_cons.mp hm with rfl | hm
  · exact h _ hg
  · exact turns_sub ok g 10 x hm
theorem allN_len {R : Rows} (ok : RowsOk R) : ∀ gs : List Str, (allN R gs).length ≤ 11 * gs.length
  | [] => Nat.zero_le _
  | g :: gs => by
    have := allN_len ok gs
    have h := turns_len ok g 10
    unfold allN at this ⊢
    rw [List.flatMap_cons, List.length_append, List.length_cons, List.length_cons]
    omega
def wE (R : Rows) (gs : List Str) (x3 x4 x5 : Option S) : En := [some (.f (coursesD R)), some (.f (lD gs)), some (.f (dictD R)), x3, x4, x5]
theorem want_run {R : Rows} (ok : RowsOk R) (gs0 : List Str) : ∀ (gs l : List Str) (ds : List D), (∀ g ∈ gs, g ∈ nms R) → l.length + 11 * gs.length ≤ 10000 → ∃ ds', dc2L (hName 4) sYes (sIt (sBin dPlus (sMk .lst (sCons (sVar 4) sNil)) (sCall fs_all_ahead (sCons (sVar 2) (sCons (sVar 4) sNil))))) (hName 5) sYes (sVar 5) (sC (.bl true)) [4, 5] [5] (nD gs) (wE R gs0 none none none) (l.map Sum.inr) ds = .ok (.nd (.dK (((allN R gs).foldl putN l).map Sum.inr)) ds') (wE R gs0 none none none)
  | [], l, ds, _, _ => ⟨ds, rfl⟩
  | g :: gs, l, ds, h, hl => by
    rw [List.length_cons] at hl
    have hg := h g List.mem_cons_self
    have lt := turns_len ok g 10
    have src : sIt (sBin dPlus (sMk .lst (sCons (sVar 4) sNil)) (sCall fs_all_ahead (sCons (sVar 2) (sCons (sVar 4) sNil)))) (wE R gs0 none (some (.f (.str g))) none) = .ok (nD (g :: turns R g 10)) (wE R gs0 none (some (.f (.str g))) none) :=
      it_ok (bin_ok (x := .nd .lst [.str g]) (y := lD (turns R g 10)) (mk_ok (ds := [.str g]) rfl (small (show 1 ≤ 100000 by decide))) (call_ok (ds := [dictD R, .str g]) rfl (ahead_turns ok hg)) (cat_ok (small (by show 1 + (nD (turns R g 10)).length ≤ 100000; rw [List.length_map]; omega)))) rfl
    have fl := fold_le (g :: turns R g 10) l
    rw [List.length_cons] at fl
    obtain ⟨ds1, e1⟩ := dc2I_ty (g1 := hName 5) (t1 := sYes) (ek := sVar 5) (ev := sC (.bl true)) (vs1 := [5]) (k := fun ρ ks es' => dc2L (hName 4) sYes (sIt (sBin dPlus (sMk .lst (sCons (sVar 4) sNil)) (sCall fs_all_ahead (sCons (sVar 2) (sCons (sVar 4) sNil))))) (hName 5) sYes (sVar 5) (sC (.bl true)) [4, 5] [5] (nD gs) (wipeE [4, 5] ρ) ks es') (ρ := wE R gs0 none (some (.f (.str g))) none) D.str (fun _ => true) id (.bl true) (g :: turns R g 10) l ds (fun t ht => ⟨wE R gs0 none (some (.f (.str g))) (some (.f (.str t))), rfl, rfl, fun _ => ⟨rfl, rfl⟩, rfl⟩) (by rw [List.length_cons]; omega)
    rw [List.filter_eq_self.mpr fun _ _ => rfl, List.map_id] at e1
    obtain ⟨ds2, e2⟩ := want_run ok gs0 gs ((g :: turns R g 10).foldl putN l) ds1 (fun x hx => h x (List.mem_cons_of_mem _ hx)) (by omega)
    refine ⟨ds2, ?_⟩
    rw [show nD (g :: gs) = .str g :: nD gs from rfl]
    conv => lhs; unfold dc2L
    rw [show hName 4 (.str g) (wE R gs0 none none none) = some (wE R gs0 none (some (.f (.str g))) none) from rfl]
    have y : (sYes : En → Y.R Bool) (wE R gs0 none (some (.f (.str g))) none) = .ok true (wE R gs0 none (some (.f (.str g))) none) := rfl
    simp only [noX, bnd, y, if_true, src]
    refine (show dc2I _ _ _ _ _ _ _ (wE R gs0 none (some (.f (.str g))) none) _ _ = _ from e1).trans ?_
    refine e2.trans ?_
    rw [show allN R (g :: gs) = (g :: turns R g 10) ++ allN R gs from List.flatMap_cons, List.foldl_append]
theorem wants_mem {R : Rows} {gs : List Str} {x : Str} : x ∈ wants R gs ↔ ∃ g ∈ gs, x = g ∨ x ∈ turns R g 10 := by
  unfold wants
  rw [(srt_perm _).mem_iff, mem_ddS]
  unfold allN
  rw [List.mem_flatMap]
  simp
theorem wants_nd (R : Rows) (gs : List Str) : (wants R gs).Nodup := (srt_perm _).nodup_iff.mpr (nodup_ddS _)
theorem wants_sub {R : Rows} (ok : RowsOk R) {gs : List Str} (h : ∀ g ∈ gs, g ∈ nms R) : ∀ x ∈ wants R gs, x ∈ nms R := fun x hx => allN_sub ok h x (mem_ddS.mp ((srt_perm _).mem_iff.mp hx))
theorem wants_srt (R : Rows) (gs : List Str) : srt (wants R gs) = wants R gs := srt_same (srt_perm _)
theorem wants_cl {R : Rows} (ok : RowsOk R) {gs : List Str} : ∀ x ∈ wants R gs, ∀ y ∈ nb R x, y ∈ wants R gs := fun x hx y hy => by
  obtain ⟨g, hg, h⟩ := wants_mem.mp hx
  have f := turns_rch ok g
  refine wants_mem.mpr ⟨g, hg, .inr ?_⟩
  rcases h with rfl | h
  · exact f.st y hy
  · exact f.cl x h y hy
theorem wants_len {R : Rows} (ok : RowsOk R) {gs : List Str} (h : ∀ g ∈ gs, g ∈ nms R) : (wants R gs).length ≤ R.length := by
  have := sub_len (wants_nd R gs) (wants_sub ok h)
  rwa [show (nms R).length = R.length from List.length_map _] at this
theorem wanted_ok {R : Rows} (ok : RowsOk R) {gs : List Str} (h : GoalsOk R gs) : fs_wanted [coursesD R, lD gs] = .val true (lD (wants R gs)) none := by
  have hl := h.len
  have al := allN_len ok gs
  obtain ⟨ds, e1⟩ := want_run ok gs gs [] [] h.mem (by simp; omega)
  obtain ⟨nd, mem⟩ := fold_nd (allN R gs) [] List.nodup_nil
  have fl := fold_le (allN R gs) []
  have nk : NmsOk (allN R gs) := fun s hs => ok.ok s (allN_sub ok h.mem s hs)
  have f1 : sSet 2 (sCall fs_needs_of (sCons (sVar 0) sNil)) [some (.f (coursesD R)), some (.f (lD gs)), none, none, none, none] = .ok .nx (wE R gs none none none) := set_call (i := 2) (ρ1 := [some (.f (coursesD R)), some (.f (lD gs)), none, none, none, none]) (call_ok (ds := [coursesD R]) rfl (needs_ok ok))
  have f2 : sSet 3 (sDc2 (sIt (sVar 1)) (hName 4) sYes (sIt (sBin dPlus (sMk .lst (sCons (sVar 4) sNil)) (sCall fs_all_ahead (sCons (sVar 2) (sCons (sVar 4) sNil))))) (hName 5) sYes (sVar 5) (sC (.bl true)) [4, 5] [5]) (wE R gs none none none) = .ok .nx (wE R gs (some (.f (.nd (.dK (((allN R gs).foldl putN []).map Sum.inr)) ds))) none none) := by
    refine set_call (i := 3) (ρ1 := wE R gs none none none) ?_
    show bnd (sIt (sVar 1) (wE R gs none none none)) _ = _
    rw [show sIt (sVar 1) (wE R gs none none none) = .ok (nD gs) (wE R gs none none none) from rfl]
    exact e1
  have lk : (((allN R gs).foldl putN []).map Sum.inr : List Key).map kD = nD ((allN R gs).foldl putN []) := by rw [List.map_map]; rfl
  have ok2 : NmsOk ((allN R gs).foldl putN []) := fun s hs => nk s (((mem s).mp hs).elim (fun z => by cases z) id)
  have same : srt ((allN R gs).foldl putN []) = wants R gs := srt_same ((List.perm_ext_iff_of_nodup nd (nodup_ddS _)).mpr fun s => by
    rw [mem, mem_ddS]; simp)
  have e3 : s1 dSorted (s1 dList (sBor 3)) (wE R gs (some (.f (.nd (.dK (((allN R gs).foldl putN []).map Sum.inr)) ds))) none none) = .ok (lD (wants R gs)) (wE R gs (some (.f (.nd (.dK (((allN R gs).foldl putN []).map Sum.inr)) ds))) none none) := by
    refine s1_ok (d := lD ((allN R gs).foldl putN [])) (s1_ok (d := .nd (.dK (((allN R gs).foldl putN []).map Sum.inr)) ds) rfl ?_) ?_
    · show some (D.nd .lst ((((allN R gs).foldl putN []).map Sum.inr : List Key).map kD)) = _
      rw [lk]
    · show sortD (nD ((allN R gs).foldl putN [])) = _
      rw [sortD_names ok2 (small (by simp at fl; omega)), same]
  have e : m_wanted [some (.f (coursesD R)), some (.f (lD gs)), none, none, none, none] = .ok (.ro (lD (wants R gs))) (wE R gs (some (.f (.nd (.dK (((allN R gs).foldl putN []).map Sum.inr)) ds))) none none) := by
    unfold m_wanted
    refine (seq_ok f1).trans ((seq_ok f2).trans ?_)
    unfold sRetO
    rw [e3]
    rfl
  show finF false (m_wanted _) = _
  rw [show (argS false [coursesD R, lD gs] ++ List.replicate (6 - 2) none : En) = [some (.f (coursesD R)), some (.f (lD gs)), none, none, none, none] from rfl, e]
  rfl
end Y

set_option Elab.async false
set_option linter.all false
set_option maxRecDepth 100000
set_option maxHeartbeats 4000000
/-! lots -/
namespace Y
open PySem PySem.Spec PyProof.Rows L2 PySem.W
def stepL (R : Rows) (lim : Int) (fd : List (List Str × Int)) (x : Str) : List (List Str × Int) := fd ++ (fd.filter fun p => decide (p.2 + wtOf R x ≤ lim)).map fun p => (p.1 ++ [x], p.2 + wtOf R x)
def lotsP (R : Rows) (lim : Int) (free : List Str) : List (List Str × Int) := free.foldl (stepL R lim) [([], 0)]
def lotsL (R : Rows) (lim : Int) (free : List Str) : List (List Str) := ((lotsP R lim free).filter fun p => !p.1.isEmpty).map (·.1)
def wsum (R : Rows) (l : List Str) : Int := (l.map (wtOf R)).sum
theorem wsum_app (R : Rows) (l m : List Str) : wsum R (l ++ m) = wsum R l + wsum R m := by
  unfold wsum
  rw [List.map_append, List.sum_append]
theorem wsum_one (R : Rows) (x : Str) : wsum R [x] = wtOf R x := by simp [wsum]
/-! what they are -/
def LotI (R : Rows) (lim : Int) (pre : List Str) (fd : List (List Str × Int)) : Prop := ∀ l s, (l, s) ∈ fd ↔ l.Sublist pre ∧ s = wsum R l ∧ s ≤ lim
theorem lot_step {R : Rows} {lim : Int} {pre : List Str} {fd : List (List Str × Int)} {x : Str} (hw : 0 ≤ wtOf R x) (h : LotI R lim pre fd) : LotI R lim (pre ++ [x]) (stepL R lim fd x) := fun l s => by
  unfold stepL
  rw [List.mem_append, h, List.mem_map]
  constructor
  · rintro (⟨h1, h2, h3⟩ | ⟨⟨l', s'⟩, hp, e⟩)
    · exact ⟨h1.trans (List.sublist_append_left _ _), h2, h3⟩
    · obtain ⟨h1, h2⟩ := List.mem_filter.mp hp
      obtain ⟨h3, h4, h5⟩ := (h l' s').mp h1
      injection e with e1 e2
      subst e1 e2
      exact ⟨h3.append (List.Sublist.refl _), by rw [wsum_app, wsum_one, h4], of_decide_eq_true h2⟩
  · rintro ⟨h1, h2, h3⟩
    obtain ⟨l1, l2, rfl, s1, s2⟩ := List.sublist_append_iff.mp h1
    cases s2 with
    | cons _ s2 =>
      cases s2
      rw [List.append_nil] at h2 ⊢
      exact .inl ⟨s1, h2, h3⟩
    | cons_cons _ s2 =>
      cases s2
      rw [wsum_app, wsum_one] at h2
      exact .inr ⟨(l1, wsum R l1), List.mem_filter.mpr ⟨(h _ _).mpr ⟨s1, rfl, by omega⟩, decide_eq_true (by show wsum R l1 + wtOf R x ≤ lim; omega)⟩, by rw [h2]⟩
theorem lot_fold {R : Rows} {lim : Int} : ∀ (free pre : List Str) (fd : List (List Str × Int)), (∀ x ∈ free, 0 ≤ wtOf R x) → LotI R lim pre fd → LotI R lim (pre ++ free) (free.foldl (stepL R lim) fd)
  | [], pre, fd, _, h => by rw [List.append_nil]; exact h
  | x :: free, pre, fd, hw, h => by
    have := lot_fold free (pre ++ [x]) _ (fun y hy => hw y (List.mem_cons_of_mem _ hy)) (lot_step (hw x List.mem_cons_self) h)
    rw [List.append_assoc] at this
    exact this
theorem mem_lotsP {R : Rows} {lim : Int} (h0 : 0 ≤ lim) {free : List Str} (hw : ∀ x ∈ free, 0 ≤ wtOf R x) {l : List Str} {s : Int} : (l, s) ∈ lotsP R lim free ↔ l.Sublist free ∧ s = wsum R l ∧ s ≤ lim := by
  have := lot_fold (R := R) (lim := lim) free [] [([], 0)] hw fun l s => by
    rw [List.mem_singleton]
    constructor
    · intro e
      injection e with e1 e2
      subst e1 e2
      exact ⟨List.Sublist.refl _, rfl, h0⟩
    · rintro ⟨h1, h2, _⟩
      have : l = [] := List.eq_nil_of_sublist_nil h1
      subst this
      rw [h2]; rfl
  exact this l s
theorem mem_lotsL {R : Rows} {lim : Int} (h0 : 0 ≤ lim) {free : List Str} (hw : ∀ x ∈ free, 0 ≤ wtOf R x) {l : List Str} : l ∈ lotsL R lim free ↔ l.Sublist free ∧ l ≠ [] ∧ wsum R l ≤ lim := by
  unfold lotsL
  rw [List.mem_map]
  constructor
  · rintro ⟨⟨l', s⟩, hp, rfl⟩
    obtain ⟨h1, h2⟩ := List.mem_filter.mp hp
    obtain ⟨h3, h4, h5⟩ := (mem_lotsP h0 hw).mp h1
    exact ⟨h3, fun e => by simp [show l' = [] from e] at h2, by rw [← h4]; exact h5⟩
  · rintro ⟨h1, h2, h3⟩
    refine ⟨(l, wsum R l), List.mem_filter.mpr ⟨(mem_lotsP h0 hw).mpr ⟨h1, rfl, h3⟩, ?_⟩, rfl⟩
    cases l with
    | nil => exact absurd rfl h2
    | cons a l => rfl
theorem lots_len {R : Rows} {lim : Int} : ∀ (free : List Str) (fd : List (List Str × Int)), (free.foldl (stepL R lim) fd).length ≤ fd.length * 2 ^ free.length
  | [], fd => by simp
  | x :: free, fd => by
    have h := lots_len (R := R) (lim := lim) free (stepL R lim fd x)
    have h2 : (stepL R lim fd x).length ≤ fd.length * 2 := by
      unfold stepL
      rw [List.length_append, List.length_map]
      have := List.length_filter_le (fun p : List Str × Int => decide (p.2 + wtOf R x ≤ lim)) fd
      omega
    rw [List.foldl_cons, List.length_cons, Nat.pow_succ, Nat.mul_comm (2 ^ free.length) 2, ← Nat.mul_assoc]
    exact Nat.le_trans h (Nat.mul_le_mul_right _ h2)
/-! the program -/
def lotD (p : List Str × Int) : D := .nd .tup [lD p.1, .int p.2]
def lE (R : Rows) (free : List Str) (lim : Int) (fd : List (List Str × Int)) (x4 : Option S) : En := [some (.f (lD free)), some (.f (wdictD R)), some (.f (.int lim)), some (.o (.nd .lst (fd.map lotD))), x4, none, none]
theorem le_int (a b : Int) : dLe (.int a) (.int b) = some (decide (a ≤ b)) := rfl
theorem gt_int (a b : Int) : dGt (.int a) (.int b) = some (decide (b < a)) := rfl
theorem augL_ok {i : Nat} {f : En → Y.R D} {ρ ρ1 : En} {xs ys zs : List D} (h0 : ownD i ρ = some (.nd .lst zs)) (e : f ρ = .ok (.nd .lst ys) ρ1) (h1 : ownD i ρ1 = some (.nd .lst xs)) (hl : xs.length + ys.length ≤ sizeLine) : sAugL i f ρ = .ok .nx (chg i (.nd .lst (xs ++ ys)) ρ1) := by
  unfold sAugL ownL
  rw [h0]
  simp only [lift, bnd, e, h1]
  rw [cat_ok hl]
  rfl
theorem lcV_ty {α : Type} {i : Nat} {g : D → En → Option En} {t : En → Y.R Bool} {e : En → Y.R D} {vs : List Nat} {ρ : En} (f : α → D) (q : α → Bool) (p : α → D) {xs : List α} (h0 : lstAt i ρ = some (xs.map f))
    (h : ∀ x ∈ xs, ∃ ρ1, g (f x) ρ = some ρ1 ∧ t ρ1 = .ok (q x) ρ1 ∧ (q x = true → e ρ1 = .ok (p x) ρ1) ∧ wipeE vs ρ1 = ρ) : ∀ (suf pre : List α) (acc : List D), pre ++ suf = xs → acc.length + suf.length ≤ 100000 → lcV i xs.length g t e vs suf.length ρ acc = .ok (.nd .lst (acc ++ (suf.filter q).map p)) ρ
  | [], pre, acc, hp, _ => by
    show lcV i xs.length g t e vs 0 ρ acc = _
    unfold lcV
    rw [h0]
    simp only [List.length_map, if_true]
    simp
  | x :: suf, pre, acc, hp, hl => by
    rw [List.length_cons] at hl
    have hx : x ∈ xs := by rw [← hp]; simp
    obtain ⟨ρ1, h1, h2, h3, h4⟩ := h x hx
    show lcV i xs.length g t e vs (suf.length + 1) ρ acc = _
    unfold lcV
    rw [h0]
    have ei : (xs.map f)[xs.length - (suf.length + 1)]? = some (f x) := by
      rw [← hp, List.length_append, List.length_cons, Nat.add_sub_cancel, List.map_append, List.getElem?_append_right (by rw [List.length_map]; exact Nat.le_refl _), List.length_map, Nat.sub_self]
      rfl
    simp only [List.length_map, if_true, ei, h1]
    cases hq : q x with
    | true =>
      have ih := lcV_ty f q p h0 h suf (pre ++ [x]) (acc ++ [p x]) (by rw [← hp]; simp) (by rw [List.length_append, List.length_singleton]; omega)
      simp only [noX, bnd, h2, hq, if_true, h3 hq]
      rw [if_pos (Nat.lt_of_le_of_lt (show acc.length ≤ 100000 by omega) (by decide)), h4, ih, List.filter_cons, if_pos hq]
      simp
    | false =>
      have ih := lcV_ty f q p h0 h suf (pre ++ [x]) acc (by rw [← hp]; simp) (by omega)
      simp only [noX, bnd, h2, hq, Bool.false_eq_true, if_false]
      rw [h4, ih, List.filter_cons, if_neg (by rw [hq]; exact Bool.false_ne_true)]
theorem lcV_all {α : Type} {i : Nat} {g : D → En → Option En} {t : En → Y.R Bool} {e : En → Y.R D} {vs : List Nat} {ρ : En} {R : List D} (f : α → D) (q : α → Bool) (p : α → D) (xs : List α) (h0 : lstAt i ρ = some (xs.map f)) (hw : wipeE vs ρ = ρ)
    (h : ∀ x ∈ xs, ∃ ρ1, g (f x) ρ = some ρ1 ∧ t ρ1 = .ok (q x) ρ1 ∧ (q x = true → e ρ1 = .ok (p x) ρ1) ∧ wipeE vs ρ1 = ρ) (hl : xs.length ≤ 100000) (hr : (xs.filter q).map p = R) : sLcV i g t e vs ρ = .ok (.nd .lst R) ρ := by
  unfold sLcV
  rw [h0]
  dsimp only
  rw [hw, List.length_map, lcV_ty f q p h0 h xs [] [] rfl (by simpa using hl), List.nil_append, hr]
theorem lot_one {R : Rows} {free : List Str} {lim : Int} {fd : List (List Str × Int)} {x : Str} (hx : x ∈ nms R) (hl : fd.length ≤ 10000) (hf : ∀ p ∈ fd, p.1.length ≤ 1000) : sAugL 3 (sLcV 3 (hTup 2 (hCons (hName 5) (hCons (hName 6) hNil))) (sBin dLe (sBin dPlus (sVar 6) (sBin dIx (sVar 1) (sVar 4))) (sBor 2)) (sMk .tup (sCons (sBin dPlus (sVar 5) (sMk .lst (sCons (sVar 4) sNil))) (sCons (sBin dPlus (sVar 6) (sBin dIx (sVar 1) (sVar 4))) sNil))) [5, 6]) (lE R free lim fd (some (.f (.str x)))) = .ok .nx (lE R free lim (stepL R lim fd x) (some (.f (.str x)))) := by
  have core : sLcV 3 (hTup 2 (hCons (hName 5) (hCons (hName 6) hNil))) (sBin dLe (sBin dPlus (sVar 6) (sBin dIx (sVar 1) (sVar 4))) (sBor 2)) (sMk .tup (sCons (sBin dPlus (sVar 5) (sMk .lst (sCons (sVar 4) sNil))) (sCons (sBin dPlus (sVar 6) (sBin dIx (sVar 1) (sVar 4))) sNil))) [5, 6] (lE R free lim fd (some (.f (.str x)))) = .ok (.nd .lst (((fd.filter fun p => decide (p.2 + wtOf R x ≤ lim)).map fun p => (p.1 ++ [x], p.2 + wtOf R x)).map lotD)) (lE R free lim fd (some (.f (.str x)))) :=
    lcV_all (ρ := lE R free lim fd (some (.f (.str x)))) lotD (fun p => decide (p.2 + wtOf R x ≤ lim)) (fun p => lotD (p.1 ++ [x], p.2 + wtOf R x)) fd rfl rfl (fun p hp => by
      have hs : sBin dPlus (sVar 6) (sBin dIx (sVar 1) (sVar 4)) [some (.f (lD free)), some (.f (wdictD R)), some (.f (.int lim)), some (.o (.nd .lst (fd.map lotD))), some (.f (.str x)), some (.f (lD p.1)), some (.f (.int p.2))] = .ok (.int (p.2 + wtOf R x)) [some (.f (lD free)), some (.f (wdictD R)), some (.f (.int lim)), some (.o (.nd .lst (fd.map lotD))), some (.f (.str x)), some (.f (lD p.1)), some (.f (.int p.2))] :=
        bin_ok (x := .int p.2) (y := .int (wtOf R x)) rfl (bin_ok (x := wdictD R) (y := .str x) rfl rfl (ix_wt hx)) rfl
      have hp1 := hf p hp
      refine ⟨[some (.f (lD free)), some (.f (wdictD R)), some (.f (.int lim)), some (.o (.nd .lst (fd.map lotD))), some (.f (.str x)), some (.f (lD p.1)), some (.f (.int p.2))], rfl, bin_ok (y := .int lim) hs rfl (le_int _ _), fun _ => ?_, rfl⟩
      refine mk_ok (ds := [lD (p.1 ++ [x]), .int (p.2 + wtOf R x)]) (cons_ok (bin_ok (x := lD p.1) (y := .nd .lst [.str x]) rfl (mk_ok (ds := [.str x]) rfl (small (show 1 ≤ 100000 by decide))) ?_) (one_ok hs)) (small (show 2 ≤ 100000 by decide))
      rw [show lD (p.1 ++ [x]) = .nd .lst (nD p.1 ++ [.str x]) by rw [lD, nD, List.map_append]; rfl]
      exact cat_ok (small (by rw [List.length_map]; show p.1.length + 1 ≤ 100000; omega))) (by omega) (by rw [List.map_map]; rfl)
  refine (augL_ok (xs := fd.map lotD) rfl core rfl (small ?_)).trans ?_
  · rw [List.length_map, List.length_map, List.length_map]
    have := List.length_filter_le (fun p : List Str × Int => decide (p.2 + wtOf R x ≤ lim)) fd
    omega
  · unfold stepL
    rw [← List.map_append]
    rfl
theorem step_few {R : Rows} {lim : Int} {fd : List (List Str × Int)} {x : Str} {n : Nat} (h : ∀ p ∈ fd, p.1.length ≤ n) : ∀ p ∈ stepL R lim fd x, p.1.length ≤ n + 1 := fun p hp => by
  unfold stepL at hp
  rcases List.mem_append.mp hp with hp | hp
  · have := h p hp; omega
  · obtain ⟨q, hq, rfl⟩ := List.mem_map.mp hp
    have := h q (List.mem_filter.mp hq).1
    rw [List.length_append, List.length_singleton]; omega
theorem lots_run {R : Rows} (free0 : List Str) {lim : Int} : ∀ (free : List Str) (fd : List (List Str × Int)) (n : Nat) (x4 : Option S), (∀ x ∈ free, x ∈ nms R) → fd.length * 2 ^ free.length ≤ 5000 → (∀ p ∈ fd, p.1.length ≤ n) → n + free.length ≤ 1000 → ∃ y4, forL (hName 4) (sAugL 3 (sLcV 3 (hTup 2 (hCons (hName 5) (hCons (hName 6) hNil))) (sBin dLe (sBin dPlus (sVar 6) (sBin dIx (sVar 1) (sVar 4))) (sBor 2)) (sMk .tup (sCons (sBin dPlus (sVar 5) (sMk .lst (sCons (sVar 4) sNil))) (sCons (sBin dPlus (sVar 6) (sBin dIx (sVar 1) (sVar 4))) sNil))) [5, 6])) (nD free) (lE R free0 lim fd x4) = .ok .nx (lE R free0 lim (free.foldl (stepL R lim) fd) y4)
  | [], fd, n, x4, _, _, _, _ => ⟨x4, rfl⟩
  | x :: free, fd, n, x4, h, hl, hf, hn => by
    rw [List.length_cons] at hn
    have h2 : (stepL R lim fd x).length ≤ fd.length * 2 := by
      unfold stepL
      rw [List.length_append, List.length_map]
      have := List.length_filter_le (fun p : List Str × Int => decide (p.2 + wtOf R x ≤ lim)) fd
      omega
    have e2 : fd.length * 2 ^ (x :: free).length = fd.length * 2 * 2 ^ free.length := by rw [List.length_cons, Nat.pow_succ, Nat.mul_comm (2 ^ free.length) 2, ← Nat.mul_assoc]
    rw [e2] at hl
    have hp : 1 ≤ 2 ^ free.length := Nat.one_le_pow _ _ (by decide)
    have hfl : fd.length * 2 ≤ 5000 := Nat.le_trans (by have := Nat.mul_le_mul_left (fd.length * 2) hp; omega) hl
    obtain ⟨y4, e⟩ := lots_run free0 free (stepL R lim fd x) (n + 1) (some (.f (.str x))) (fun y hy => h y (List.mem_cons_of_mem _ hy)) (Nat.le_trans (Nat.mul_le_mul_right _ h2) hl) (step_few hf) (by omega)
    refine ⟨y4, ?_⟩
    rw [show nD (x :: free) = .str x :: nD free from rfl]
    conv => lhs; unfold forL
    rw [show hName 4 (.str x) (lE R free0 lim fd x4) = some (lE R free0 lim fd (some (.f (.str x)))) from rfl]
    dsimp only
    rw [lot_one (h x List.mem_cons_self) (by omega) (fun p hp => by have := hf p hp; omega)]
    exact e
theorem lots_ok {R : Rows} {free : List Str} (h : ∀ x ∈ free, x ∈ nms R) (hn : free.length ≤ 10) (lim : Int) : fs_lots [lD free, wdictD R, .int lim] = .val true (.nd .lst ((lotsL R lim free).map lD)) none := by
  have hpow : 2 ^ free.length ≤ 2 ^ 10 := Nat.pow_le_pow_right (by decide) hn
  obtain ⟨y4, e1⟩ := lots_run (R := R) free (lim := lim) free [([], 0)] 0 none h (by
    have : (2 : Nat) ^ 10 = 1024 := by decide
    show 1 * 2 ^ free.length ≤ 5000
    omega) (fun p hp => by rw [List.mem_singleton.mp hp]; exact Nat.le_refl _) (by omega)
  have ll := lots_len (R := R) (lim := lim) free [([], 0)]
  have f0 : sSetO 3 (sMk .lst (sCons (sMk .tup (sCons (sMk .lst sNil) (sCons (sC (.int 0)) sNil))) sNil)) [some (.f (lD free)), some (.f (wdictD R)), some (.f (.int lim)), none, none, none, none] = .ok .nx (lE R free lim [([], 0)] none) :=
    setO_ok (ρ1 := [some (.f (lD free)), some (.f (wdictD R)), some (.f (.int lim)), none, none, none, none]) (d := .nd .lst [lotD ([], 0)]) (mk_ok (ds := [lotD ([], 0)]) (one_ok (mk_ok (ds := [lD [], .int 0]) (cons_ok (mk_ok (ds := []) rfl (small (by decide))) rfl) (small (show 2 ≤ 100000 by decide)))) (small (show 1 ≤ 100000 by decide)))
  have e2 : sLc (sIt (sFrz 3)) (hTup 2 (hCons (hName 5) (hCons (hName 6) hNil))) (sTru (sBor 5)) (sVar 5) [5, 6] (lE R free lim (lotsP R lim free) y4) = .ok (.nd .lst ((lotsL R lim free).map lD)) [some (.f (lD free)), some (.f (wdictD R)), some (.f (.int lim)), some (.f (.nd .lst ((lotsP R lim free).map lotD))), y4, none, none] :=
    slc_ty2 (ρ1 := [some (.f (lD free)), some (.f (wdictD R)), some (.f (.int lim)), some (.f (.nd .lst ((lotsP R lim free).map lotD))), y4, none, none]) lotD (fun p => !p.1.isEmpty) (fun p => lD p.1) (lotsP R lim free) rfl rfl (fun p _ => by
      refine ⟨[some (.f (lD free)), some (.f (wdictD R)), some (.f (.int lim)), some (.f (.nd .lst ((lotsP R lim free).map lotD))), y4, some (.f (lD p.1)), some (.f (.int p.2))], rfl, ?_, fun _ => rfl, rfl⟩
      show (match (some (!(nD p.1).isEmpty) : Option Bool) with | some b => Y.R.ok b _ | none => .bad) = _
      cases p.1 <;> rfl) (by
      have : (2 : Nat) ^ 10 = 1024 := by decide
      simp only [List.length_singleton] at ll
      unfold lotsP
      omega) (by unfold lotsL; rw [List.map_map]; rfl)
  have e : m_lots [some (.f (lD free)), some (.f (wdictD R)), some (.f (.int lim)), none, none, none, none] = .ok (.ro (.nd .lst ((lotsL R lim free).map lD))) [some (.f (lD free)), some (.f (wdictD R)), some (.f (.int lim)), some (.f (.nd .lst ((lotsP R lim free).map lotD))), y4, none, none] := by
    unfold m_lots
    refine (seq_ok f0).trans ((seq_ok (for_ok (src := sIt (sVar 0)) (ρ1 := lE R free lim [([], 0)] none) rfl e1)).trans ?_)
    unfold sRetO
    rw [show (free.foldl (stepL R lim) [([], 0)]) = lotsP R lim free from rfl, e2]
    rfl
  show finF false (m_lots _) = _
  rw [show (argS false [lD free, wdictD R, .int lim] ++ List.replicate (7 - 3) none : En) = [some (.f (lD free)), some (.f (wdictD R)), some (.f (.int lim)), none, none, none, none] from rfl, e]
  rfl
end Y

set_option Elab.async false
set_option linter.all false
set_option maxRecDepth 100000
set_option maxHeartbeats 4000000
/-! the search, in plain words -/
namespace Y
open PySem PySem.Spec PyProof.Rows L2 PySem.W
structure PlOk (R : Rows) : Prop where
  ok : RowsOk R
  wt : ∀ r ∈ R, 1 ≤ r.2.1 ∧ r.2.1 ≤ 9
  tp : ∃ f : Str → Nat, ∀ r ∈ R, ∀ s ∈ r.2.2, f s < f r.1
theorem CrsOk.pl {R : Rows} (h : CrsOk R) : PlOk R := ⟨h.ok, h.wt, h.tp⟩
theorem PlOk.wt1 {R : Rows} (h : PlOk R) {s : Str} (hs : s ∈ nms R) : 1 ≤ wtOf R s ∧ wtOf R s ≤ 9 := by
  obtain ⟨r, hr, _, e⟩ := wtOf_row hs
  rw [e]; exact h.wt r hr
def freeF (R : Rows) (N K : List Str) : List Str := N.filter fun x => decide (x ∉ K) && (nb R x).all fun y => decide (y ∈ K)
inductive Pth (R : Rows) (N : List Str) (lim : Int) : List Str → List (List Str) → Prop
  | nil : Pth R N lim [] []
  | snoc {K : List Str} {P : List (List Str)} {lot : List Str} (h : Pth R N lim K P) (hl : lot ∈ lotsL R lim (freeF R N K)) : Pth R N lim (srt (K ++ lot)) (P ++ [lot])
abbrev QQ := List (List Str × List (List Str))
def addL (kp : List Str × List (List Str)) (st : QQ × QQ) (lot : List Str) : QQ × QQ := if srt (kp.1 ++ lot) ∈ st.2.map (·.1) then st else (st.1 ++ [(srt (kp.1 ++ lot), kp.2 ++ [lot])], st.2 ++ [(srt (kp.1 ++ lot), kp.2 ++ [lot])])
structure Bfs (R : Rows) (N : List Str) (lim : Int) (row seen : QQ) : Prop where
  nd : (seen.map (·.1)).Nodup
  pth : ∀ p ∈ seen, Pth R N lim p.1 p.2
  sub : ∀ p ∈ row, p ∈ seen
  z : ([], []) ∈ seen
  ex : ∀ p ∈ seen, p ∉ row → ∀ lot ∈ lotsL R lim (freeF R N p.1), ∃ p' ∈ seen, p'.1 = srt (p.1 ++ lot) ∧ p'.2.length ≤ p.2.length + 1
  pw : row.Pairwise fun a b => a.2.length ≤ b.2.length
  lv : ∀ p ∈ seen, ∀ q ∈ row, p.2.length ≤ q.2.length + 1
  le : row.length ≤ seen.length
structure Mid (R : Rows) (N : List Str) (lim : Int) (kp : List Str × List (List Str)) (dn : List (List Str)) (row seen : QQ) : Prop where
  nd : (seen.map (·.1)).Nodup
  pth : ∀ p ∈ seen, Pth R N lim p.1 p.2
  sub : ∀ p ∈ row, p ∈ seen
  z : ([], []) ∈ seen
  k : kp ∈ seen
  ex : ∀ p ∈ seen, p ∉ row → p ≠ kp → ∀ lot ∈ lotsL R lim (freeF R N p.1), ∃ p' ∈ seen, p'.1 = srt (p.1 ++ lot) ∧ p'.2.length ≤ p.2.length + 1
  me : ∀ lot ∈ dn, ∃ p' ∈ seen, p'.1 = srt (kp.1 ++ lot) ∧ p'.2.length ≤ kp.2.length + 1
  pw : row.Pairwise fun a b => a.2.length ≤ b.2.length
  hi : ∀ p ∈ seen, p.2.length ≤ kp.2.length + 1
  lo : ∀ q ∈ row, kp.2.length ≤ q.2.length
  le : row.length + 1 ≤ seen.length
section
variable {R : Rows} {N : List Str} {lim : Int} {row seen : QQ} {kp : List Str × List (List Str)}
theorem mid_start (h : Bfs R N lim (kp :: row) seen) : Mid R N lim kp [] row seen := by
  have pw := List.pairwise_cons.mp h.pw
  refine ⟨h.nd, h.pth, fun p hp => h.sub p (List.mem_cons_of_mem _ hp), h.z, h.sub kp List.mem_cons_self, fun p hp n1 n2 => h.ex p hp fun z => (List.mem_cons.mp z).elim n2 n1, fun lot z => (by cases z), pw.2, fun p hp => h.lv p hp kp List.mem_cons_self, pw.1, ?_⟩
  have := h.le
  rwa [List.length_cons] at this
theorem mid_step {dn : List (List Str)} {lot : List Str} (h : Mid R N lim kp dn row seen) (hl : lot ∈ lotsL R lim (freeF R N kp.1)) : Mid R N lim kp (dn ++ [lot]) (addL kp (row, seen) lot).1 (addL kp (row, seen) lot).2 := by
  unfold addL
  by_cases c : srt (kp.1 ++ lot) ∈ seen.map (·.1)
  · rw [if_pos c]
    refine ⟨h.nd, h.pth, h.sub, h.z, h.k, h.ex, fun l hl => ?_, h.pw, h.hi, h.lo, h.le⟩
    rcases List.mem_append.mp hl with hl | hl
    · exact h.me l hl
    · rw [List.mem_singleton.mp hl]
      obtain ⟨p, hp, e⟩ := List.mem_map.mp c
      exact ⟨p, hp, e, h.hi p hp⟩
  · rw [if_neg c]
    have mono : ∀ p, p ∈ seen → p ∈ seen ++ [(srt (kp.1 ++ lot), kp.2 ++ [lot])] := fun p hp => List.mem_append_left _ hp
    have last : (srt (kp.1 ++ lot), kp.2 ++ [lot]) ∈ seen ++ [(srt (kp.1 ++ lot), kp.2 ++ [lot])] := List.mem_append_right _ List.mem_cons_self
    have ln : (kp.2 ++ [lot]).length = kp.2.length + 1 := by simp
    refine ⟨?_, fun p hp => ?_, fun p hp => ?_, mono _ h.z, mono _ h.k, fun p hp n1 n2 l hl => ?_, fun l hl => ?_, ?_, fun p hp => ?_, fun q hq => ?_, ?_⟩
    · rw [List.map_append]
      refine List.nodup_append.mpr ⟨h.nd, by simp, fun a ha b hb e => ?_⟩
      rw [List.map_cons, List.map_nil, List.mem_singleton] at hb
      exact c (by have := ha; rw [e, hb] at this; exact this)
    · rcases List.mem_append.mp hp with hp | hp
      · exact h.pth p hp
      · rw [List.mem_singleton.mp hp]; exact .snoc (h.pth kp h.k) hl
    · rcases List.mem_append.mp hp with hp | hp
      · exact mono p (h.sub p hp)
      · rw [List.mem_singleton.mp hp]; exact last
    · rcases List.mem_append.mp hp with hp | hp
      · obtain ⟨p', h1, h2⟩ := h.ex p hp (fun z => n1 (List.mem_append_left _ z)) n2 l hl
        exact ⟨p', mono _ h1, h2⟩
      · exact absurd (List.mem_append_right _ hp) n1
    · rcases List.mem_append.mp hl with hl | hl
      · obtain ⟨p', h1, h2⟩ := h.me l hl
        exact ⟨p', mono _ h1, h2⟩
      · rw [List.mem_singleton.mp hl]
        exact ⟨_, last, rfl, by rw [ln]; exact Nat.le_refl _⟩
    · refine List.pairwise_append.mpr ⟨h.pw, List.pairwise_singleton _ _, fun a ha b hb => ?_⟩
      rw [List.mem_singleton.mp hb]
      show a.2.length ≤ (kp.2 ++ [lot]).length
      rw [ln]
      exact h.hi a (h.sub a ha)
    · rcases List.mem_append.mp hp with hp | hp
      · exact h.hi p hp
      · rw [List.mem_singleton.mp hp]
        show (kp.2 ++ [lot]).length ≤ _
        rw [ln]
        exact Nat.le_refl _
    · rcases List.mem_append.mp hq with hq | hq
      · exact h.lo q hq
      · rw [List.mem_singleton.mp hq]
        show kp.2.length ≤ (kp.2 ++ [lot]).length
        omega
    · have := h.le
      show (row ++ [_]).length + 1 ≤ (seen ++ [_]).length
      rw [List.length_append, List.length_append]
      simp only [List.length_singleton]
      omega
theorem mid_end {dn : List (List Str)} (h : Mid R N lim kp dn row seen) (all : ∀ lot ∈ lotsL R lim (freeF R N kp.1), lot ∈ dn) : Bfs R N lim row seen := by
  refine ⟨h.nd, h.pth, h.sub, h.z, fun p hp n1 => ?_, h.pw, fun p hp q hq => Nat.le_trans (h.hi p hp) (Nat.succ_le_succ (h.lo q hq)), by have := h.le; omega⟩
  by_cases e : p = kp
  · subst e
    exact fun lot hl => h.me lot (all lot hl)
  · exact h.ex p hp n1 e
theorem bfs_start : Bfs R N lim [([], [])] [([], [])] :=
  ⟨by simp, fun p hp => by rw [List.mem_singleton.mp hp]; exact .nil, fun p hp => hp, List.mem_cons_self, fun p hp n => absurd hp n, List.pairwise_singleton _ _, fun p hp q hq => by rw [List.mem_singleton.mp hp]; exact Nat.zero_le _, Nat.le_refl _⟩
theorem bfs_lead (h : Bfs R N lim row seen) {K : List Str} {P : List (List Str)} (hp : Pth R N lim K P) : (∃ p ∈ seen, p.1 = K ∧ p.2.length ≤ P.length) ∨ ∃ q ∈ row, q.2.length + 1 ≤ P.length := by
  induction hp with
  | nil => exact .inl ⟨_, h.z, rfl, Nat.le_refl _⟩
  | @snoc K P lot hp hl ih =>
    have ln : (P ++ [lot]).length = P.length + 1 := by simp
    rw [ln]
    rcases ih with ⟨p, h1, h2, h3⟩ | ⟨q, h1, h2⟩
    · by_cases hr : p ∈ row
      · exact .inr ⟨p, hr, by omega⟩
      · obtain ⟨p', e1, e2, e3⟩ := h.ex p h1 hr lot (by rw [h2]; exact hl)
        exact .inl ⟨p', e1, by rw [e2, h2], by omega⟩
    · exact .inr ⟨q, h1, by omega⟩
def lk (seen : QQ) (K : List Str) : Option (List (List Str)) := (seen.find? fun p => decide (p.1 = K)).map (·.2)
theorem lk_some {K : List Str} {P : List (List Str)} (nd : (seen.map (·.1)).Nodup) (h : (K, P) ∈ seen) : lk seen K = some P := by
  unfold lk
  induction seen with
  | nil => cases h
  | cons a l ih =>
    rw [List.map_cons] at nd
    have nd' := List.nodup_cons.mp nd
    rcases List.mem_cons.mp h with e | h
    · subst e; simp
    · have : a.1 ≠ K := fun e => nd'.1 (by rw [e]; exact List.mem_map.mpr ⟨_, h, rfl⟩)
      rw [List.find?_cons_of_neg (by simpa using this)]
      exact ih nd'.2 h
theorem lk_none {K : List Str} (h : K ∉ seen.map (·.1)) : lk seen K = none := by
  unfold lk
  rw [List.find?_eq_none.mpr fun p hp e => h (List.mem_map.mpr ⟨p, hp, of_decide_eq_true e⟩)]
  rfl
theorem bfs_end (h : Bfs R N lim row seen) (stop : row = [] ∨ N ∈ seen.map (·.1)) : (∃ P, lk seen N = some P ∧ Pth R N lim N P ∧ ∀ P', Pth R N lim N P' → P.length ≤ P'.length) ∨ (lk seen N = none ∧ ∀ P', ¬ Pth R N lim N P') := by
  by_cases hN : N ∈ seen.map (·.1)
  · obtain ⟨p, hp, e⟩ := List.mem_map.mp hN
    have h1 := lk_some h.nd (show (N, p.2) ∈ seen by rw [← e]; exact hp)
    refine .inl ⟨p.2, h1, by have := h.pth p hp; rwa [e] at this, fun P' hP => ?_⟩
    rcases bfs_lead h hP with ⟨p', h2, h3, h4⟩ | ⟨q, h2, h3⟩
    · have := lk_some h.nd (show (N, p'.2) ∈ seen by rw [← h3]; exact h2)
      rw [h1] at this
      rw [Option.some.inj this]
      exact h4
    · exact Nat.le_trans (h.lv p hp q h2) h3
  · refine .inr ⟨lk_none hN, fun P' hP => ?_⟩
    have hr := stop.resolve_right hN
    subst hr
    rcases bfs_lead h hP with ⟨p', h2, h3, h4⟩ | ⟨q, h2, h3⟩
    · exact hN (List.mem_map.mpr ⟨p', h2, h3⟩)
    · cases h2
end
/-! what is done stays within what is wanted -/
theorem srt_filter {N : List Str} (hs : srt N = N) (p : Str → Bool) : srt (N.filter p) = N.filter p := by
  have pw : N.Pairwise fun a b => sgs a ≤ sgs b := by rw [← hs]; exact srt_pw N
  exact List.Perm.eq_of_pairwise (le := fun a b => sgs a ≤ sgs b) (fun a b _ _ h1 h2 => str_ext (List.le_antisymm h1 h2)) (srt_pw _) (pw.filter p) (srt_perm _)
theorem srt_sub {N L : List Str} (hs : srt N = N) (nN : N.Nodup) (nL : L.Nodup) (h : ∀ x ∈ L, x ∈ N) : srt L = N.filter fun x => decide (x ∈ L) := by
  rw [← srt_filter hs]
  exact srt_same (perm_same nL (nN.filter _) fun s => by
    rw [List.mem_filter, decide_eq_true_eq]
    exact ⟨fun hm => ⟨h s hm, hm⟩, fun hm => hm.2⟩)
structure WOk (R : Rows) (N : List Str) : Prop where
  nd : N.Nodup
  sr : srt N = N
  sub : ∀ x ∈ N, x ∈ nms R
  cl : ∀ x ∈ N, ∀ y ∈ nb R x, y ∈ N
theorem wants_ok {R : Rows} (ok : RowsOk R) {gs : List Str} (h : ∀ g ∈ gs, g ∈ nms R) : WOk R (wants R gs) := ⟨wants_nd R gs, wants_srt R gs, wants_sub ok h, wants_cl ok⟩
section
variable {R : Rows} {N : List Str} {lim : Int}
theorem free_sub (K : List Str) : (freeF R N K).Sublist N := List.filter_sublist
theorem lot_in (pl : PlOk R) (w : WOk R N) (h0 : 0 ≤ lim) {K lot : List Str} : lot ∈ lotsL R lim (freeF R N K) ↔ lot.Sublist (freeF R N K) ∧ lot ≠ [] ∧ wsum R lot ≤ lim :=
  mem_lotsL h0 fun x hx => by
    have := (pl.wt1 (w.sub x ((free_sub K).subset hx))).1
    omega
theorem lot_nd (w : WOk R N) {K lot : List Str} (nK : K.Nodup) (h : lot.Sublist (freeF R N K)) : (K ++ lot).Nodup := by
  refine List.nodup_append.mpr ⟨nK, ((w.nd.sublist (free_sub K)).sublist h), fun a ha b hb e => ?_⟩
  have := (List.mem_filter.mp (h.subset hb)).2
  rw [Bool.and_eq_true, decide_eq_true_eq] at this
  exact this.1 (e ▸ ha)
theorem pth_sub (pl : PlOk R) (w : WOk R N) (h0 : 0 ≤ lim) {K : List Str} {P : List (List Str)} (h : Pth R N lim K P) : K.Sublist N ∧ P.length ≤ K.length ∧ ∀ lot ∈ P, lot.Sublist N ∧ lot ≠ [] := by
  induction h with
  | nil => exact ⟨List.nil_sublist _, Nat.le_refl _, fun l hl => by cases hl⟩
  | @snoc K P lot hp hl ih =>
    obtain ⟨h1, h2, h3⟩ := ih
    obtain ⟨l1, l2, _⟩ := (lot_in pl w h0).mp hl
    have nd := lot_nd w (w.nd.sublist h1) l1
    have sub : ∀ x ∈ K ++ lot, x ∈ N := fun x hx => (List.mem_append.mp hx).elim (fun z => h1.subset z) fun z => (free_sub K).subset (l1.subset z)
    refine ⟨by rw [srt_sub w.sr w.nd nd sub]; exact List.filter_sublist, ?_, fun l hl => ?_⟩
    · rw [(srt_perm _).length_eq, List.length_append, List.length_append, List.length_singleton]
      have := List.length_pos_iff.mpr l2
      omega
    · rcases List.mem_append.mp hl with hl | hl
      · exact h3 l hl
      · rw [List.mem_singleton.mp hl]
        exact ⟨l1.trans (free_sub K), l2⟩
end
/-! how many there can be -/
def subs : List Str → List (List Str)
  | [] => [[]]
  | a :: l => subs l ++ (subs l).map (a :: ·)
theorem subs_len : ∀ l, (subs l).length = 2 ^ l.length
  | [] => rfl
  | a :: l => by
    show (subs l ++ (subs l).map (a :: ·)).length = 2 ^ (l.length + 1)
    rw [List.length_append, List.length_map, subs_len l, Nat.pow_succ]; omega
theorem mem_subs : ∀ {l m : List Str}, m.Sublist l → m ∈ subs l
  | [], m, h => by cases h; exact List.mem_cons_self
  | a :: l, m, h => by
    unfold subs
    cases h with
    | cons _ h => exact List.mem_append_left _ (mem_subs h)
    | cons_cons _ h => exact List.mem_append_right _ (List.mem_map.mpr ⟨_, mem_subs h, rfl⟩)
theorem sub_len' {α : Type} [DecidableEq α] : ∀ {l m : List α}, l.Nodup → (∀ x ∈ l, x ∈ m) → l.length ≤ m.length
  | [], _, _, _ => Nat.zero_le _
  | a :: l, m, nd, h => by
    have nd' := List.nodup_cons.mp nd
    have ha : a ∈ m := h a List.mem_cons_self
    have ih := sub_len' (l := l) (m := m.erase a) nd'.2 fun x hx => (List.mem_erase_of_ne (fun (e : x = a) => nd'.1 (by rw [← e]; exact hx))).mpr (h x (List.mem_cons_of_mem _ hx))
    rw [List.length_erase_of_mem ha] at ih
    have := List.length_pos_of_mem ha
    rw [List.length_cons]; omega
/-- never more than so many sets -/
def Few (R : Rows) (N : List Str) (lim : Int) (B : Nat) : Prop := ∀ ks : List (List Str), ks.Nodup → (∀ K ∈ ks, ∃ P, Pth R N lim K P) → ks.length ≤ B
theorem few_pow {R : Rows} {N : List Str} {lim : Int} (pl : PlOk R) (w : WOk R N) (h0 : 0 ≤ lim) : Few R N lim (2 ^ N.length) := fun ks nd h => by
  rw [← subs_len]
  exact sub_len' nd fun K hK => by
    obtain ⟨P, hP⟩ := h K hK
    exact mem_subs (pth_sub pl w h0 hP).1
/-! a plan is there when each course fits -/
theorem pth_there {R : Rows} {N : List Str} {lim : Int} (pl : PlOk R) (w : WOk R N) (h0 : 0 ≤ lim) (fit : ∀ x ∈ N, wtOf R x ≤ lim) : ∃ P, Pth R N lim N P := by
  obtain ⟨f, hf⟩ := pl.tp
  have go : ∀ n K P, Pth R N lim K P → N.length - K.length ≤ n → ∃ P, Pth R N lim N P := fun n => by
    induction n with
    | zero =>
      intro K P h hn
      obtain ⟨h1, _, _⟩ := pth_sub pl w h0 h
      have := h1.eq_of_length (Nat.le_antisymm h1.length_le (by omega))
      exact ⟨P, this ▸ h⟩
    | succ n ih =>
      intro K P h hn
      obtain ⟨h1, _, _⟩ := pth_sub pl w h0 h
      by_cases hK : K = N
      · exact ⟨P, hK ▸ h⟩
      · -- the least of those that are left
        have ex : ∃ x ∈ N, x ∉ K := Classical.byContradiction fun z => hK (h1.eq_of_length (Nat.le_antisymm h1.length_le (sub_len w.nd fun x hx => Classical.byContradiction fun q => z ⟨x, hx, q⟩)))
        have least : ∀ m x, f x ≤ m → x ∈ N → x ∉ K → ∃ y ∈ N, y ∉ K ∧ ∀ s ∈ nb R y, s ∈ K := fun m => by
          induction m with
          | zero =>
            intro x hm hx hk
            refine ⟨x, hx, hk, fun s hs => ?_⟩
            obtain ⟨r, hr, e, hs'⟩ := nb_row' hs
            have := hf r hr s hs'
            rw [e] at this; omega
          | succ m ihm =>
            intro x hm hx hk
            by_cases q : ∀ s ∈ nb R x, s ∈ K
            · exact ⟨x, hx, hk, q⟩
            · obtain ⟨s, hs⟩ := Classical.not_forall.mp q
              obtain ⟨hs, hsk⟩ := Classical.not_imp.mp hs
              obtain ⟨r, hr, e, hs'⟩ := nb_row' hs
              have := hf r hr s hs'
              rw [e] at this
              exact ihm s (by omega) (w.cl x hx s hs) hsk
        obtain ⟨x, hx, hk⟩ := ex
        obtain ⟨y, hy, hyk, hyn⟩ := least (f x) x (Nat.le_refl _) hx hk
        have hfree : y ∈ freeF R N K := List.mem_filter.mpr ⟨hy, by
          rw [Bool.and_eq_true, decide_eq_true_eq, List.all_eq_true]
          exact ⟨hyk, fun s hs => decide_eq_true (hyn s hs)⟩⟩
        have hl : [y] ∈ lotsL R lim (freeF R N K) := (lot_in pl w h0).mpr ⟨List.singleton_sublist.mpr hfree, by simp, by rw [wsum_one]; exact fit y hy⟩
        refine ih _ _ (.snoc h hl) ?_
        rw [(srt_perm _).length_eq, List.length_append, List.length_singleton]
        omega
  exact go N.length [] [] .nil (by simp)
end Y

set_option Elab.async false
set_option linter.all false
set_option maxRecDepth 100000
set_option maxHeartbeats 4000000
/-! the search, as the program does it -/
namespace Y
open PySem PySem.Spec PyProof.Rows L2 PySem.W
def planD (P : List (List Str)) : D := .nd .lst (P.map lD)
def seenD (seen : QQ) : D := .nd (.dT (seen.map fun p => p.1.map Sum.inr)) (seen.map fun p => planD p.2)
def rowsD (row : QQ) : D := .nd .lst (row.map fun p => tD p.1)
theorem inr_inj {K L : List Str} : (K.map (Sum.inr : Str → Key)) = L.map Sum.inr ↔ K = L := by
  constructor
  · intro h
    have := congrArg (List.map kD) h
    rw [List.map_map, List.map_map] at this
    exact map_inj_str this
  · intro h; rw [h]
theorem get_seen (seen : QQ) (K : List Str) : getK (seen.map fun p => p.1.map (Sum.inr : Str → Key)) (seen.map fun p => planD p.2) (K.map Sum.inr) = (lk seen K).map planD := by
  unfold getK lk
  induction seen with
  | nil => rfl
  | cons p l ih =>
    rw [List.map_cons, List.map_cons, List.zip_cons_cons]
    by_cases e : p.1 = K
    · rw [List.find?_cons_of_pos (by simpa [inr_inj] using e), List.find?_cons_of_pos (by simpa using e)]
      rfl
    · rw [List.find?_cons_of_neg (by simpa [inr_inj] using e), List.find?_cons_of_neg (by simpa using e)]
      exact ih
theorem look_seen (seen : QQ) (K : List Str) : lookD (seenD seen) (tD K) = some ((lk seen K).map planD) := by
  show (keysD (nD K)).map (fun q => getK (seen.map fun p => p.1.map (Sum.inr : Str → Key)) (seen.map fun p => planD p.2) q) = _
  rw [keysD_names, Option.map_some, get_seen]
theorem lk_mem {seen : QQ} {K : List Str} : (lk seen K).isSome = decide (K ∈ seen.map (·.1)) := by
  unfold lk
  induction seen with
  | nil => rfl
  | cons p l ih =>
    by_cases e : p.1 = K
    · rw [List.find?_cons_of_pos (by simpa using e)]
      simp [e]
    · rw [List.find?_cons_of_neg (by simpa using e), ih, List.map_cons]
      congr 1
      rw [List.mem_cons, eq_iff_iff]
      exact ⟨.inr, fun z => z.elim (fun q => absurd q.symm e) id⟩
theorem in_seen (seen : QQ) (K : List Str) : dNotIn (tD K) (seenD seen) = some (!decide (K ∈ seen.map (·.1))) := by
  have : dIn (tD K) (seenD seen) = (lookD (seenD seen) (tD K)).map (·.isSome) := rfl
  unfold dNotIn
  rw [this, look_seen, Option.map_some, Option.map_some, Option.isSome_map, lk_mem]
theorem put_seen {seen : QQ} {K : List Str} {P : List (List Str)} (h : K ∉ seen.map (·.1)) (hl : seen.length < sizeLine) : gSetD (seenD seen) (tD K) (planD P) = some (seenD (seen ++ [(K, P)])) := by
  have hn : ¬ K.map (Sum.inr : Str → Key) ∈ seen.map fun p => p.1.map (Sum.inr : Str → Key) := fun z => by
    obtain ⟨p, h1, h2⟩ := List.mem_map.mp z
    exact h (List.mem_map.mpr ⟨p, h1, inr_inj.mp h2⟩)
  show (match keysD (nD K) with
    | some q => if (seen.map fun p : List Str × List (List Str) => p.1.map (Sum.inr : Str → Key)).length < sizeLine then some (D.nd (.dT (putKs (seen.map fun p : List Str × List (List Str) => p.1.map Sum.inr) q)) (putDs (seen.map fun p : List Str × List (List Str) => p.1.map Sum.inr) (seen.map fun p : List Str × List (List Str) => planD p.2) q (planD P))) else none
    | none => none) = _
  rw [keysD_names]
  dsimp only
  rw [if_pos (by rw [List.length_map]; exact hl)]
  unfold putKs putDs seenD
  rw [if_neg hn, if_neg hn, List.map_append, List.map_append]
  rfl
theorem ix_seen {seen : QQ} {K : List Str} {P : List (List Str)} (nd : (seen.map (·.1)).Nodup) (h : (K, P) ∈ seen) : dIx (seenD seen) (tD K) = some (planD P) := by
  have : dIx (seenD seen) (tD K) = (lookD (seenD seen) (tD K)).bind id := rfl
  rw [this, look_seen, lk_some nd h]
  rfl
theorem dok_tup {l : List Str} (h : NmsOk l) : dok (tD l) = true := dk_dok (n := 1) (by decide) (dk_nd (.inr rfl) fun x hx => by
  obtain ⟨s, hs, rfl⟩ := List.mem_map.mp hx
  exact dk_str _ (h s hs))
theorem dIn_tup {l : List Str} {s : Str} (h : NmsOk l) (hs : strG s = true) : dIn (.str s) (tD l) = some (decide (s ∈ l)) := by
  show (if dok (.str s) = true ∧ dok (tD l) = true then some ((nD l).any fun z => PyData.eqv (py z) (py (.str s))) else none) = _
  rw [if_pos ⟨dok_str hs, dok_tup h⟩, any_names]
theorem dNotIn_tup {l : List Str} {s : Str} (h : NmsOk l) (hs : strG s = true) : dNotIn (.str s) (tD l) = some (!decide (s ∈ l)) := by
  unfold dNotIn
  rw [dIn_tup h hs]
  rfl
theorem and_both {t u : En → Y.R Bool} {ρ : En} {a b : Bool} (e : t ρ = .ok a ρ) (e2 : a = true → u ρ = .ok b ρ) : sAndT t u ρ = .ok (a && b) ρ := by
  cases a with
  | true => exact and_go e (e2 rfl)
  | false => exact and_off e
theorem all_gen {α : Type} (p : α → Bool) (l : List α) : dAll (.nd .lst (l.map fun a => D.bl (p a))) = some (.bl (l.all p)) := by
  have key : ∀ l : List α, blsD (l.map fun a => D.bl (p a)) = some (l.map p) := fun l => by
    induction l with
    | nil => rfl
    | cons a l ih =>
      rw [List.map_cons, List.map_cons]
      unfold blsD
      rw [ih]
      rfl
  show Option.map (fun bs : List Bool => D.bl (bs.all id)) (blsD _) = _
  rw [key]
  show some (D.bl ((l.map p).all id)) = _
  rw [List.all_map]
  rfl
theorem any_gen {α : Type} (p : α → Bool) (l : List α) : dAny (.nd .lst (l.map fun a => D.bl (p a))) = some (.bl (l.any p)) := by
  have key : ∀ l : List α, blsD (l.map fun a => D.bl (p a)) = some (l.map p) := fun l => by
    induction l with
    | nil => rfl
    | cons a l ih =>
      rw [List.map_cons, List.map_cons]
      unfold blsD
      rw [ih]
      rfl
  show Option.map (fun bs : List Bool => D.bl (bs.any id)) (blsD _) = _
  rw [key]
  show some (D.bl ((l.map p).any id)) = _
  rw [List.any_map]
  rfl
def plE (R : Rows) (gs N : List Str) (lim : Int) (row seen : QQ) (x8 x9 x10 x11 : Option S) : En := [some (.f (coursesD R)), some (.f (lD gs)), some (.f (.int lim)), some (.o (seenD seen)), some (.o (rowsD row)), some (.f (lD N)), some (.f (dictD R)), some (.f (wdictD R)), x8, x9, x10, x11, none, none]
section
variable {R : Rows} {gs N : List Str} {lim : Int} {row seen : QQ}
theorem dIx_needs {x : Str} {ρ : En} {i j : Nat} (hx : x ∈ nms R) (v1 : sVar i ρ = .ok (dictD R) ρ) (v2 : sVar j ρ = .ok (.str x) ρ) : sIt (sBin dIx (sVar i) (sVar j)) ρ = .ok (nD (nb R x)) ρ := it_ok (bin_ok v1 v2 (ix_needs hx)) rfl
theorem free_run (ok : RowsOk R) (w : WOk R N) (hN : N.length ≤ 100) {K : List Str} (hK : NmsOk K) (x9 x10 x11 : Option S) : sSet 9 (sLc (sIt (sVar 5)) (hName 12) (sAndT (sBin dNotIn (sVar 12) (sBor 8)) (sTru (s1 dAll (sLc (sIt (sBin dIx (sVar 6) (sVar 12))) (hName 13) sYes (sCmp dIn (sVar 13) (sBor 8)) [13])))) (sVar 12) [12]) (plE R gs N lim row seen (some (.f (tD K))) x9 x10 x11) = .ok .nx (plE R gs N lim row seen (some (.f (tD K))) (some (.f (lD (freeF R N K)))) x10 x11) := by
  refine set_call (i := 9) (ρ1 := plE R gs N lim row seen (some (.f (tD K))) x9 x10 x11) ?_
  refine slc_ty2 (ρ1 := plE R gs N lim row seen (some (.f (tD K))) x9 x10 x11) D.str (fun x => decide (x ∉ K) && (nb R x).all fun y => decide (y ∈ K)) D.str N rfl rfl (fun x hx => ⟨(plE R gs N lim row seen (some (.f (tD K))) x9 x10 x11).set 12 (some (.f (.str x))), rfl, ?_, fun _ => rfl, rfl⟩) (by omega) rfl
  have hs := ok.ok x (w.sub x hx)
  refine and_both (bin_ok (x := .str x) (y := tD K) rfl rfl (by rw [dNotIn_tup hK hs]; congr 1; by_cases c : x ∈ K <;> simp [c])) fun _ => tru_ok (s1_ok (d := .nd .lst ((nb R x).map fun y => D.bl (decide (y ∈ K)))) ?_ (all_gen _ _))
  have nf := nb_few ok x
  exact slc_ty2 (ρ1 := (plE R gs N lim row seen (some (.f (tD K))) x9 x10 x11).set 12 (some (.f (.str x)))) D.str (fun _ => true) (fun y => D.bl (decide (y ∈ K))) (nb R x) (dIx_needs (w.sub x hx) rfl rfl) rfl (fun y hy => ⟨((plE R gs N lim row seen (some (.f (tD K))) x9 x10 x11).set 12 (some (.f (.str x)))).set 13 (some (.f (.str y))), rfl, rfl, fun _ => by
    unfold sCmp
    exact bin_ok (x := .str y) (y := tD K) rfl rfl (by rw [dIn_tup hK (nb_ok ok x y hy)]; rfl), rfl⟩) (by omega) (by rw [List.filter_eq_self.mpr fun _ _ => rfl])
abbrev lotB : En → Y.R Fl := (sSeq (sSet 11 (s1 dTuple (s1 dSorted (sBin dPlus (s1 dList (sBor 8)) (sBor 10)))))
  (sIfS (sBin dNotIn (sVar 11) (sBor 3))
  (sSeq (sPut 3 gSetD (sVar 11) (sBin dPlus (sIxV 3 (sVar 8)) (sMk .lst (sCons (sVar 10) sNil))))
  (sDrop (sMeth 4 gAppend (sCons (sVar 11) sNil))))
  sNx))
theorem lot_stepE {kp : List Str × List (List Str)} {lot : List Str} (nd : (seen.map (·.1)).Nodup) (hk : kp ∈ seen) (hn : NmsOk (kp.1 ++ lot)) (l1 : (kp.1 ++ lot).length ≤ 1000) (l2 : kp.2.length ≤ 1000) (l3 : seen.length ≤ 5000) (l4 : row.length ≤ 5000) (x9 x11 : Option S) : lotB (plE R gs N lim row seen (some (.f (tD kp.1))) x9 (some (.f (lD lot))) x11) = .ok .nx (plE R gs N lim (addL kp (row, seen) lot).1 (addL kp (row, seen) lot).2 (some (.f (tD kp.1))) x9 (some (.f (lD lot))) (some (.f (tD (srt (kp.1 ++ lot)))))) := by
  have f1 : sSet 11 (s1 dTuple (s1 dSorted (sBin dPlus (s1 dList (sBor 8)) (sBor 10)))) (plE R gs N lim row seen (some (.f (tD kp.1))) x9 (some (.f (lD lot))) x11) = .ok .nx (plE R gs N lim row seen (some (.f (tD kp.1))) x9 (some (.f (lD lot))) (some (.f (tD (srt (kp.1 ++ lot)))))) := by
    refine set_call (i := 11) (ρ1 := plE R gs N lim row seen (some (.f (tD kp.1))) x9 (some (.f (lD lot))) x11) (s1_ok (d := lD (srt (kp.1 ++ lot))) (s1_ok (d := lD (kp.1 ++ lot)) (bin_ok (x := lD kp.1) (y := lD lot) (s1_ok (d := tD kp.1) rfl rfl) rfl ?_) (sortD_names hn (small (by omega)))) rfl)
    rw [show lD (kp.1 ++ lot) = .nd .lst (nD kp.1 ++ nD lot) by rw [lD, nD, List.map_append]]
    rw [List.length_append] at l1
    exact cat_ok (small (by rw [List.length_map, List.length_map]; omega))
  refine (seq_ok f1).trans ?_
  have t := in_seen seen (srt (kp.1 ++ lot))
  unfold addL
  by_cases c : srt (kp.1 ++ lot) ∈ seen.map (·.1)
  · rw [if_pos c]
    rw [decide_eq_true c] at t
    exact (if_no (ρ1 := plE R gs N lim row seen (some (.f (tD kp.1))) x9 (some (.f (lD lot))) (some (.f (tD (srt (kp.1 ++ lot)))))) (bin_ok (x := tD (srt (kp.1 ++ lot))) (y := seenD seen) rfl rfl t)).trans rfl
  · rw [if_neg c]
    rw [decide_eq_false c] at t
    refine (if_yes (ρ1 := plE R gs N lim row seen (some (.f (tD kp.1))) x9 (some (.f (lD lot))) (some (.f (tD (srt (kp.1 ++ lot)))))) (bin_ok (x := tD (srt (kp.1 ++ lot))) (y := seenD seen) rfl rfl t)).trans ?_
    have f2 : sPut 3 gSetD (sVar 11) (sBin dPlus (sIxV 3 (sVar 8)) (sMk .lst (sCons (sVar 10) sNil))) (plE R gs N lim row seen (some (.f (tD kp.1))) x9 (some (.f (lD lot))) (some (.f (tD (srt (kp.1 ++ lot)))))) = .ok .nx (plE R gs N lim row (seen ++ [(srt (kp.1 ++ lot), kp.2 ++ [lot])]) (some (.f (tD kp.1))) x9 (some (.f (lD lot))) (some (.f (tD (srt (kp.1 ++ lot)))))) := by
      refine put_ok (i := 3) (ρ1 := plE R gs N lim row seen (some (.f (tD kp.1))) x9 (some (.f (lD lot))) (some (.f (tD (srt (kp.1 ++ lot)))))) (e := planD (kp.2 ++ [lot])) (k := tD (srt (kp.1 ++ lot))) (d0 := seenD seen) (bin_ok (x := planD kp.2) (y := .nd .lst [lD lot]) (ixv_ok (d := seenD seen) (k := tD kp.1) rfl rfl (ix_seen nd hk)) (mk_ok (ds := [lD lot]) rfl (small (show 1 ≤ 100000 by decide))) ?_) rfl rfl (put_seen c (Nat.lt_of_le_of_lt l3 (by decide)))
      rw [show planD (kp.2 ++ [lot]) = .nd .lst (kp.2.map lD ++ [lD lot]) by rw [planD, List.map_append]; rfl]
      exact cat_ok (small (by rw [List.length_map]; show kp.2.length + 1 ≤ 100000; omega))
    refine (seq_ok f2).trans ?_
    refine (app_ok (i := 4) (ds := row.map fun p : List Str × List (List Str) => tD p.1) (ρ1 := plE R gs N lim row (seen ++ [(srt (kp.1 ++ lot), kp.2 ++ [lot])]) (some (.f (tD kp.1))) x9 (some (.f (lD lot))) (some (.f (tD (srt (kp.1 ++ lot)))))) (d := tD (srt (kp.1 ++ lot))) rfl rfl rfl (by rw [List.length_map]; exact Nat.lt_of_le_of_lt l4 (by decide))).trans ?_
    have : (row ++ [(srt (kp.1 ++ lot), kp.2 ++ [lot])]).map (fun p => tD p.1) = (row.map fun p => tD p.1) ++ [tD (srt (kp.1 ++ lot))] := by rw [List.map_append]; rfl
    show Y.R.ok Fl.nx _ = Y.R.ok Fl.nx (plE R gs N lim (row ++ [(srt (kp.1 ++ lot), kp.2 ++ [lot])]) (seen ++ [(srt (kp.1 ++ lot), kp.2 ++ [lot])]) _ _ _ _)
    unfold plE rowsD
    rw [this]
    rfl
end
/-- what the search knows of its courses -/
structure Pl (R : Rows) (gs : List Str) (lim : Int) (B : Nat) : Prop where
  pl : PlOk R
  go : GoalsOk R gs
  h0 : 0 ≤ lim
  few : Few R (wants R gs) lim B
  hB : B ≤ 900
section
variable {R : Rows} {gs : List Str} {lim : Int} {B : Nat}
theorem Pl.w (h : Pl R gs lim B) : WOk R (wants R gs) := wants_ok h.pl.ok h.go.mem
theorem Pl.n10 (h : Pl R gs lim B) : (wants R gs).length ≤ 10 := Nat.le_trans (wants_len h.pl.ok h.go.mem) h.pl.ok.len
theorem mid_few {N : List Str} {kp : List Str × List (List Str)} {dn : List (List Str)} {row seen : QQ} (f : Few R N lim B) (m : Mid R N lim kp dn row seen) : seen.length ≤ B := by
  have := f (seen.map (·.1)) m.nd fun K hK => by
    obtain ⟨p, hp, e⟩ := List.mem_map.mp hK
    exact ⟨p.2, by have := m.pth p hp; rwa [e] at this⟩
  rwa [List.length_map] at this
theorem lots_runE (h : Pl R gs lim B) {kp : List Str × List (List Str)} (x9 : Option S) : ∀ (lots dn : List (List Str)) (row seen : QQ) (x10 x11 : Option S), Mid R (wants R gs) lim kp dn row seen → (∀ lot ∈ lots, lot ∈ lotsL R lim (freeF R (wants R gs) kp.1)) →
    ∃ row' seen' y10 y11, forL (hName 10) lotB (lots.map lD) (plE R gs (wants R gs) lim row seen (some (.f (tD kp.1))) x9 x10 x11) = .ok .nx (plE R gs (wants R gs) lim row' seen' (some (.f (tD kp.1))) x9 y10 y11) ∧ Mid R (wants R gs) lim kp (dn ++ lots) row' seen' ∧ row'.length + seen.length = row.length + seen'.length
  | [], dn, row, seen, x10, x11, m, _ => ⟨row, seen, x10, x11, rfl, by rw [List.append_nil]; exact m, rfl⟩
  | lot :: lots, dn, row, seen, x10, x11, m, hl => by
    have hlot := hl lot List.mem_cons_self
    have w := h.w
    have m2 := mid_step m hlot
    have kp1 := pth_sub h.pl w h.h0 (m.pth kp m.k)
    have l1 := ((lot_in h.pl w h.h0).mp hlot).1
    have n10 := h.n10
    have sb := mid_few h.few m
    have hB := h.hB
    have ml := m.le
    have kl := kp1.1.length_le
    have ll := (l1.trans (free_sub kp.1)).length_le
    have kpl := kp1.2.1
    have hn : NmsOk (kp.1 ++ lot) := fun s hs => h.pl.ok.ok s (w.sub s ((List.mem_append.mp hs).elim (fun z => kp1.1.subset z) fun z => (free_sub kp.1).subset (l1.subset z)))
    obtain ⟨row', seen', y10, y11, e, m3, hc⟩ := lots_runE h x9 lots (dn ++ [lot]) _ _ (some (.f (lD lot))) (some (.f (tD (srt (kp.1 ++ lot))))) m2 fun l hl' => hl l (List.mem_cons_of_mem _ hl')
    refine ⟨row', seen', y10, y11, ?_, by rw [List.append_assoc] at m3; exact m3, ?_⟩
    · rw [List.map_cons]
      conv => lhs; unfold forL
      rw [show hName 10 (lD lot) (plE R gs (wants R gs) lim row seen (some (.f (tD kp.1))) x9 x10 x11) = some (plE R gs (wants R gs) lim row seen (some (.f (tD kp.1))) x9 (some (.f (lD lot))) x11) from rfl]
      dsimp only
      rw [lot_stepE m.nd m.k hn (by rw [List.length_append]; omega) (by omega) (by omega) (by omega)]
      exact e
    · have : (addL kp (row, seen) lot).1.length + seen.length = row.length + (addL kp (row, seen) lot).2.length := by
        unfold addL
        split
        · rfl
        · show (row ++ [_]).length + seen.length = row.length + (seen ++ [_]).length
          rw [List.length_append, List.length_append]
          simp only [List.length_singleton]
          omega
      omega
abbrev whlT : En → Y.R Bool := (sAndT (sTru (sBor 4)) (sBin dNotIn (s1 dTuple (sBor 5)) (sBor 3)))
abbrev whlB : En → Y.R Fl := (sSeq (sSet 8 (sMeth 4 gPopAt (sCons (sC (.int 0)) sNil)))
  (sSeq (sSet 9 (sLc (sIt (sVar 5)) (hName 12) (sAndT (sBin dNotIn (sVar 12) (sBor 8)) (sTru (s1 dAll (sLc (sIt (sBin dIx (sVar 6) (sVar 12))) (hName 13) sYes (sCmp dIn (sVar 13) (sBor 8)) [13])))) (sVar 12) [12]))
  (sFor (sIt (sCall fs_lots (sCons (sVar 9) (sCons (sVar 7) (sCons (sVar 2) sNil))))) (hName 10) lotB)))
theorem pop0 (d : D) (ds : List D) : gPopAt (.nd .lst (d :: ds)) [.int 0] = some (.nd .lst ds, d) := by
  show (if -(2 ^ 63) ≤ (0 : Int) ∧ (0 : Int) < 2 ^ 63 then (match seqIndex? 0 (d :: ds).length with
    | some k => (match (d :: ds)[k]? with
      | some x => some (D.nd .lst ((d :: ds).eraseIdx k), x)
      | none => none)
    | none => none) else none) = _
  rw [if_pos ⟨by decide, by decide⟩]
  have : seqIndex? 0 (d :: ds).length = some 0 := by
    unfold seqIndex?
    simp
  rw [this]
  rfl
theorem meth_ok {i : Nat} {g : D → List D → Option (D × D)} {f : En → Y.R (List D)} {ρ : En} {xs : List D} {as : List D} {d r : D} (h0 : ownD i ρ = some (.nd .lst xs)) (e : f ρ = .ok as ρ) (e2 : g (.nd .lst xs) as = some (d, r)) : sMeth i g f ρ = .ok r (chg i d ρ) := by
  unfold sMeth ownL
  rw [h0]
  simp only [lift, bnd, e, h0, e2]
  rfl
theorem whl_step (h : Pl R gs lim B) {kp : List Str × List (List Str)} {row seen : QQ} (b : Bfs R (wants R gs) lim (kp :: row) seen) (x8 x9 x10 x11 : Option S) : ∃ row' seen' y8 y9 y10 y11, whlB (plE R gs (wants R gs) lim (kp :: row) seen x8 x9 x10 x11) = .ok .nx (plE R gs (wants R gs) lim row' seen' y8 y9 y10 y11) ∧ Bfs R (wants R gs) lim row' seen' ∧ row'.length + seen.length = row.length + seen'.length := by
  have w := h.w
  have m := mid_start b
  have kp1 := pth_sub h.pl w h.h0 (m.pth kp m.k)
  have n10 := h.n10
  have hK : NmsOk kp.1 := fun s hs => h.pl.ok.ok s (w.sub s (kp1.1.subset hs))
  have f1 : sSet 8 (sMeth 4 gPopAt (sCons (sC (.int 0)) sNil)) (plE R gs (wants R gs) lim (kp :: row) seen x8 x9 x10 x11) = .ok .nx (plE R gs (wants R gs) lim row seen (some (.f (tD kp.1))) x9 x10 x11) :=
    set_call (i := 8) (ρ1 := plE R gs (wants R gs) lim row seen x8 x9 x10 x11) (meth_ok (i := 4) (xs := (kp :: row).map fun p : List Str × List (List Str) => tD p.1) (as := [.int 0]) (ρ := plE R gs (wants R gs) lim (kp :: row) seen x8 x9 x10 x11) rfl rfl (pop0 _ _))
  have f2 := free_run (gs := gs) (lim := lim) (row := row) (seen := seen) h.pl.ok w (by omega) hK x9 x10 x11
  have fl := (free_sub (R := R) (N := wants R gs) kp.1).length_le
  obtain ⟨row', seen', y10, y11, e, m3, hc⟩ := lots_runE h (kp := kp) (some (.f (lD (freeF R (wants R gs) kp.1)))) (lotsL R lim (freeF R (wants R gs) kp.1)) [] row seen x10 x11 m fun _ z => z
  refine ⟨row', seen', _, _, y10, y11, (seq_ok f1).trans ((seq_ok f2).trans (for_ok (it_ok (call_ok (ds := [lD (freeF R (wants R gs) kp.1), wdictD R, .int lim]) rfl (lots_ok (fun x hx => w.sub x ((free_sub kp.1).subset hx)) (by omega) lim)) rfl) e)), mid_end m3 fun l hl => by rw [List.nil_append]; exact hl, hc⟩
theorem bfs_few {N : List Str} {row seen : QQ} (f : Few R N lim B) (m : Bfs R N lim row seen) : seen.length ≤ B := by
  have := f (seen.map (·.1)) m.nd fun K hK => by
    obtain ⟨p, hp, e⟩ := List.mem_map.mp hK
    exact ⟨p.2, by have := m.pth p hp; rwa [e] at this⟩
  rwa [List.length_map] at this
theorem whl_run (h : Pl R gs lim B) : ∀ (n : Nat) (row seen : QQ) (x8 x9 x10 x11 : Option S), Bfs R (wants R gs) lim row seen → (B - seen.length) + row.length < n →
    ∃ row' seen' y8 y9 y10 y11, whL whlT whlB n (plE R gs (wants R gs) lim row seen x8 x9 x10 x11) = .ok .nx (plE R gs (wants R gs) lim row' seen' y8 y9 y10 y11) ∧ Bfs R (wants R gs) lim row' seen' ∧ (row' = [] ∨ wants R gs ∈ seen'.map (·.1))
  | 0, _, _, _, _, _, _, _, hn => by omega
  | n + 1, row, seen, x8, x9, x10, x11, b, hn => by
    have t1 : ∀ (row : QQ), sTru (sBor 4) (plE R gs (wants R gs) lim row seen x8 x9 x10 x11) = .ok (!row.isEmpty) (plE R gs (wants R gs) lim row seen x8 x9 x10 x11) := fun row => by cases row <;> rfl
    have t2 := in_seen seen (wants R gs)
    have tt : whlT (plE R gs (wants R gs) lim row seen x8 x9 x10 x11) = .ok ((!row.isEmpty) && !decide (wants R gs ∈ seen.map (·.1))) (plE R gs (wants R gs) lim row seen x8 x9 x10 x11) := and_both (t1 row) fun _ => bin_ok (x := tD (wants R gs)) (y := seenD seen) (s1_ok (d := lD (wants R gs)) rfl rfl) rfl t2
    cases row with
    | nil =>
      refine ⟨[], seen, x8, x9, x10, x11, ?_, b, .inl rfl⟩
      unfold whL
      rw [tt]
      rfl
    | cons kp row =>
      by_cases c : wants R gs ∈ seen.map (·.1)
      · rw [decide_eq_true c] at tt
        refine ⟨kp :: row, seen, x8, x9, x10, x11, ?_, b, .inr c⟩
        unfold whL
        rw [tt]
        rfl
      · rw [decide_eq_false c] at tt
        obtain ⟨row1, seen1, y8, y9, y10, y11, e, b1, hc⟩ := whl_step h b x8 x9 x10 x11
        have f1 := bfs_few h.few b1
        have f0 := bfs_few h.few b
        rw [List.length_cons] at hn
        obtain ⟨row', seen', z8, z9, z10, z11, e2, b2, st⟩ := whl_run h n row1 seen1 y8 y9 y10 y11 b1 (by omega)
        refine ⟨row', seen', z8, z9, z10, z11, ?_, b2, st⟩
        unfold whL
        rw [tt]
        simp only [bnd, List.isEmpty_cons, Bool.not_false, Bool.and_self, if_true, e]
        exact e2
/-- the told plan has as few years as can be -/
theorem plan_ok (h : Pl R gs lim B) : ∃ r, fs_plan [coursesD R, lD gs, .int lim] = .val false r none ∧ ((∃ P, r = planD P ∧ Pth R (wants R gs) lim (wants R gs) P ∧ ∀ P', Pth R (wants R gs) lim (wants R gs) P' → P.length ≤ P'.length) ∨ (r = .non ∧ ∀ P', ¬ Pth R (wants R gs) lim (wants R gs) P')) := by
  have ok := h.pl.ok
  have hB := h.hB
  obtain ⟨row', seen', y8, y9, y10, y11, e, b, st⟩ := whl_run h 1000 [([], [])] [([], [])] none none none none bfs_start (by show B - 1 + 1 < 1000; omega)
  have f1 : sAsg (hTup 3 (hCons (hName 5) (hCons (hName 6) (hCons (hName 7) hNil)))) (sMk .tup (sCons (sCall fs_wanted (sCons (sVar 0) (sCons (sVar 1) sNil))) (sCons (sCall fs_needs_of (sCons (sVar 0) sNil)) (sCons (sCall fs_weights_of (sCons (sVar 0) sNil)) sNil)))) [some (.f (coursesD R)), some (.f (lD gs)), some (.f (.int lim)), none, none, none, none, none, none, none, none, none, none, none] = .ok .nx [some (.f (coursesD R)), some (.f (lD gs)), some (.f (.int lim)), none, none, some (.f (lD (wants R gs))), some (.f (dictD R)), some (.f (wdictD R)), none, none, none, none, none, none] :=
    asg_ok (mk_ok (ds := [lD (wants R gs), dictD R, wdictD R]) (cons_ok (call_ok (ds := [coursesD R, lD gs]) rfl (wanted_ok ok h.go)) (cons_ok (call_ok (ds := [coursesD R]) rfl (needs_ok ok)) (one_ok (call_ok (ds := [coursesD R]) rfl (weights_ok ok))))) (small (show 3 ≤ 100000 by decide))) rfl
  have f2 : sSetO 3 (sDisp1 (sMk .tup sNil) (sMk .lst sNil)) [some (.f (coursesD R)), some (.f (lD gs)), some (.f (.int lim)), none, none, some (.f (lD (wants R gs))), some (.f (dictD R)), some (.f (wdictD R)), none, none, none, none, none, none] = .ok .nx [some (.f (coursesD R)), some (.f (lD gs)), some (.f (.int lim)), some (.o (seenD [([], [])])), none, some (.f (lD (wants R gs))), some (.f (dictD R)), some (.f (wdictD R)), none, none, none, none, none, none] := by
    refine setO_ok (ρ1 := [some (.f (coursesD R)), some (.f (lD gs)), some (.f (.int lim)), none, none, some (.f (lD (wants R gs))), some (.f (dictD R)), some (.f (wdictD R)), none, none, none, none, none, none]) (d := seenD [([], [])]) ?_
    unfold sDisp1
    rw [mk_ok (k := .tup) (f := sNil) (ds := []) rfl (small (by decide))]
    simp only [bnd]
    rw [mk_ok (k := .lst) (f := sNil) (ds := []) rfl (small (by decide))]
    rfl
  have f3 : sSetO 4 (sMk .lst (sCons (sMk .tup sNil) sNil)) [some (.f (coursesD R)), some (.f (lD gs)), some (.f (.int lim)), some (.o (seenD [([], [])])), none, some (.f (lD (wants R gs))), some (.f (dictD R)), some (.f (wdictD R)), none, none, none, none, none, none] = .ok .nx (plE R gs (wants R gs) lim [([], [])] [([], [])] none none none none) :=
    setO_ok (ρ1 := [some (.f (coursesD R)), some (.f (lD gs)), some (.f (.int lim)), some (.o (seenD [([], [])])), none, some (.f (lD (wants R gs))), some (.f (dictD R)), some (.f (wdictD R)), none, none, none, none, none, none]) (d := rowsD [([], [])]) (mk_ok (ds := [tD []]) (one_ok (mk_ok (ds := []) rfl (small (by decide)))) (small (show 1 ≤ 100000 by decide)))
  have f4 : sRet (sGet 3 (s1 dTuple (sBor 5)) (sC .non)) (plE R gs (wants R gs) lim row' seen' y8 y9 y10 y11) = .ok (.rt (((lk seen' (wants R gs)).map planD).getD .non)) (plE R gs (wants R gs) lim row' seen' y8 y9 y10 y11) := by
    refine ret_ok ?_
    show (lift ((lookD (seenD seen') (tD (wants R gs))).map (·.getD D.non)) (plE R gs (wants R gs) lim row' seen' y8 y9 y10 y11)) = _
    rw [look_seen]
    rfl
  have eE : m_plan [some (.f (coursesD R)), some (.f (lD gs)), some (.f (.int lim)), none, none, none, none, none, none, none, none, none, none, none] = .ok (.rt (((lk seen' (wants R gs)).map planD).getD .non)) (plE R gs (wants R gs) lim row' seen' y8 y9 y10 y11) := by
    unfold m_plan
    exact (seq_ok f1).trans ((seq_ok f2).trans ((seq_ok f3).trans ((seq_ok e).trans f4)))
  refine ⟨((lk seen' (wants R gs)).map planD).getD .non, ?_, ?_⟩
  · show finF false (m_plan _) = _
    rw [show (argS false [coursesD R, lD gs, .int lim] ++ List.replicate (14 - 3) none : En) = [some (.f (coursesD R)), some (.f (lD gs)), some (.f (.int lim)), none, none, none, none, none, none, none, none, none, none, none] from rfl, eE]
    rfl
  · rcases bfs_end b st with ⟨P, h1, h2, h3⟩ | ⟨h1, h2⟩
    · exact .inl ⟨P, by rw [h1]; rfl, h2, h3⟩
    · exact .inr ⟨by rw [h1]; rfl, h2⟩
end
end Y

set_option Elab.async false
set_option linter.all false
set_option maxRecDepth 100000
set_option maxHeartbeats 4000000
/-! what a plan is: words for both tests -/
namespace Y
open PySem PySem.Spec PyProof.Rows L2 PySem.W
def lstB : D → Bool
  | .nd .lst _ => true
  | _ => false
def itemsL : D → List D
  | .nd .lst xs => xs
  | _ => []
def strIn (N : List Str) : D → Bool
  | .str s => decide (s ∈ N)
  | _ => false
def fullB (d : D) : Bool := lstB d && !(itemsL d).isEmpty
def yearB (N : List Str) (d : D) : Bool := fullB d && (itemsL d).all (strIn N)
def namesOf (d : D) : List Str := (itemsL d).map sO
def freeB (R : Rows) (dn : List Str) (x : Str) : Bool := decide (x ∉ dn) && (nb R x).all fun z => decide (z ∈ dn)
def yrB (R : Rows) (lim : Int) (dn y : List Str) : Bool := (risB y && decide (wsum R y ≤ lim)) && y.all (freeB R dn)
def seqB (R : Rows) (lim : Int) : List Str → List (List Str) → Bool
  | _, [] => true
  | dn, y :: ys => yrB R lim dn y && seqB R lim (dn ++ y) ys
def plnB (R : Rows) (N : List Str) (lim : Int) (d : D) : Bool := (lstB d && (itemsL d).all (yearB N)) && (seqB R lim [] ((itemsL d).map namesOf) && decide (((itemsL d).map namesOf).flatten.length = N.length))
theorem isi_lst {m n : Nat} {d : D} (h : vv m n d = true) : dIsi [d, .ty "list"] = some (.bl (lstB d)) := by
  cases d with
  | nd k xs =>
    cases n with
    | zero => simp [vv] at h
    | succ n => cases k <;> first | simp [vv] at h; done | simp [dIsi, isTy, tyN, isA, lstB]
  | ty _ => cases n <;> simp [vv] at h
  | _ => simp [dIsi, isTy, tyN, isA, lstB]
theorem lst_of {d : D} (h : lstB d = true) : ∃ xs, d = .nd .lst xs := by
  unfold lstB at h
  split at h
  · exact ⟨_, rfl⟩
  · cases h
theorem ris_nd {y : List Str} (h : risB y = true) : y.Nodup := ((risB_iff y).mp h).imp fun {a b} q e => by rw [e] at q; exact List.lt_irrefl _ q
theorem strs_in {N : List Str} {us : List D} (h : us.all (strIn N) = true) : us = nD (us.map sO) ∧ ∀ s ∈ us.map sO, s ∈ N := by
  induction us with
  | nil => exact ⟨rfl, fun s h => by cases h⟩
  | cons u us ih =>
    rw [List.all_cons, Bool.and_eq_true] at h
    obtain ⟨h1, h2⟩ := ih h.2
    have hu := h.1
    unfold strIn at hu
    split at hu
    · rename_i s
      refine ⟨?_, fun x hx => ?_⟩
      · rw [List.map_cons]
        show _ = D.str s :: nD (us.map sO)
        rw [← h1]
      · rw [List.map_cons] at hx
        rcases List.mem_cons.mp hx with rfl | hx
        · exact of_decide_eq_true hu
        · exact h2 x hx
    · cases hu
theorem year_of {N : List Str} {d : D} (h : yearB N d = true) : d = lD (namesOf d) ∧ namesOf d ≠ [] ∧ ∀ s ∈ namesOf d, s ∈ N := by
  unfold yearB fullB at h
  rw [Bool.and_eq_true, Bool.and_eq_true] at h
  obtain ⟨us, rfl⟩ := lst_of h.1.1
  obtain ⟨h1, h2⟩ := strs_in h.2
  refine ⟨?_, fun e => ?_, h2⟩
  · have h1' : us = nD (us.map sO) := h1
    show D.nd .lst us = .nd .lst (nD (us.map sO))
    rw [← h1']
  · have e' : us.map sO = [] := e
    have := h.1.2
    have h1' : us = nD (us.map sO) := h1
    rw [e'] at h1'
    subst h1'
    cases this
theorem seq_nd {R : Rows} {lim : Int} {N : List Str} : ∀ {ys : List (List Str)} {dn : List Str}, seqB R lim dn ys = true → dn.Nodup → (∀ s ∈ dn, s ∈ N) → (∀ y ∈ ys, ∀ s ∈ y, s ∈ N) → (dn ++ ys.flatten).Nodup ∧ ∀ s ∈ dn ++ ys.flatten, s ∈ N
  | [], dn, _, nd, hN, _ => by
    rw [List.flatten_nil, List.append_nil]
    exact ⟨nd, hN⟩
  | y :: ys, dn, h, nd, hN, hy => by
    unfold seqB at h
    rw [Bool.and_eq_true] at h
    have h1 := h.1
    unfold yrB at h1
    rw [Bool.and_eq_true, Bool.and_eq_true, List.all_eq_true] at h1
    have ny := ris_nd h1.1.1
    have nd2 : (dn ++ y).Nodup := List.nodup_append.mpr ⟨nd, ny, fun a ha b hb e => by
      have := h1.2 b hb
      unfold freeB at this
      rw [Bool.and_eq_true, decide_eq_true_eq] at this
      exact this.1 (e ▸ ha)⟩
    have := seq_nd h.2 nd2 (fun s hs => (List.mem_append.mp hs).elim (hN s) (hy y List.mem_cons_self s)) fun z hz => hy z (List.mem_cons_of_mem _ hz)
    rw [List.append_assoc] at this
    rw [List.flatten_cons]
    exact this
theorem full_iff {N L : List Str} (hs : srt N = N) (nN : N.Nodup) (nL : L.Nodup) (h : ∀ s ∈ L, s ∈ N) : srt L = N ↔ L.length = N.length := by
  constructor
  · intro e
    rw [← (srt_perm L).length_eq, e]
  · intro e
    have back : ∀ x ∈ N, x ∈ L := fun x hx => Classical.byContradiction fun z => by
      have := sub_len (l := x :: L) (m := N) (List.nodup_cons.mpr ⟨z, nL⟩) fun y hy => (List.mem_cons.mp hy).elim (fun q => q ▸ hx) (h y)
      rw [List.length_cons] at this
      omega
    rw [← hs]
    exact srt_same (perm_same nL nN fun s => ⟨h s, back s⟩)
theorem eqv_strs {xs ys : List Str} : PyData.eqvAll (pys (nD xs)) (pys (nD ys)) = true ↔ nD xs = nD ys := eqvAll_iff fun x hx y hy => by
  obtain ⟨a, _, rfl⟩ := List.mem_map.mp hx
  obtain ⟨b, _, rfl⟩ := List.mem_map.mp hy
  rw [eqv_str, decide_eq_true_eq]
  exact ⟨fun e => by rw [e], inj_str⟩
theorem sum_gen {α : Type} (f : α → Int) (l : List α) : dSum (.nd .lst (l.map fun a => D.int (f a))) = some (.int (l.map f).sum) := by
  have key : ∀ l : List α, intsD (l.map fun a => D.int (f a)) = some (l.map f) := fun l => by
    induction l with
    | nil => rfl
    | cons a l ih =>
      rw [List.map_cons, List.map_cons]
      show (intsD (l.map fun a => D.int (f a))).map (f a :: ·) = _
      rw [ih]
      rfl
  show (intsD _).map (fun bs => D.int bs.sum) = _
  rw [key]
  rfl
theorem guard_q {t : En → Y.R Bool} {rest : En → Y.R Fl} {ρ ρ' : En} {c q : Bool} (e : t ρ = .ok (!c) ρ) (hn : c = false → ρ' = ρ) (hr : c = true → rest ρ = .ok (if q = true then .nx else .rt (.bl false)) ρ') : sSeq (sIfS t (sRet (sC (.bl false))) sNx) rest ρ = .ok (if (c && q) = true then .nx else .rt (.bl false)) ρ' := by
  cases c with
  | true => exact (out_go e).trans (hr rfl)
  | false =>
    rw [hn rfl]
    exact out_no e
/-- a block of two fors without ifs -/
theorem lc2I_ty {α : Type} {g1 : D → En → Option En} {e : En → Y.R D} {vs1 : List Nat} {k : En → List D → Y.R D} {ρ : En} (f p : α → D) : ∀ (xs : List α) (acc : List D), (∀ x ∈ xs, ∃ ρ2, g1 (f x) ρ = some ρ2 ∧ e ρ2 = .ok (p x) ρ2 ∧ wipeE vs1 ρ2 = ρ) → acc.length + xs.length ≤ 100000 → lc2I g1 sYes e vs1 k (xs.map f) ρ acc = k ρ (acc ++ xs.map p)
  | [], acc, _, _ => by simp only [List.map_nil, List.append_nil]; rfl
  | x :: xs, acc, h, hl => by
    rw [List.length_cons] at hl
    obtain ⟨ρ2, h1, h2, h3⟩ := h x List.mem_cons_self
    have ih := lc2I_ty (k := k) f p xs (acc ++ [p x]) (fun y hy => h y (List.mem_cons_of_mem _ hy)) (by rw [List.length_append, List.length_singleton]; omega)
    rw [List.map_cons]
    conv => lhs; unfold lc2I
    rw [h1]
    have y : (sYes : En → Y.R Bool) ρ2 = .ok true ρ2 := rfl
    simp only [noX, bnd, y, if_true, h2]
    rw [if_pos (Nat.lt_of_le_of_lt (show acc.length ≤ 100000 by omega) (by decide)), h3, ih, List.map_cons, List.append_assoc]
    rfl
theorem lc2L_ty {β : Type} {g g1 : D → En → Option En} {s1 : En → Y.R (List D)} {e : En → Y.R D} {vs vs1 : List Nat} {ρ : En} {c : Nat} (F : β → D) (L : β → List D) (p : D → D) : ∀ (ys : List β) (acc : List D), (∀ y ∈ ys, (L y).length ≤ c ∧ ∃ ρ1, g (F y) ρ = some ρ1 ∧ s1 ρ1 = .ok (L y) ρ1 ∧ wipeE vs1 ρ1 = ρ1 ∧ wipeE vs ρ1 = ρ ∧ ∀ x ∈ L y, ∃ ρ2, g1 x ρ1 = some ρ2 ∧ e ρ2 = .ok (p x) ρ2 ∧ wipeE vs1 ρ2 = ρ1) → acc.length + c * ys.length ≤ 100000 → lc2L g sYes s1 g1 sYes e vs vs1 (ys.map F) ρ acc = .ok (.nd .lst (acc ++ (ys.flatMap L).map p)) ρ
  | [], acc, _, _ => by simp only [List.flatMap_nil, List.map_nil, List.append_nil]; rfl
  | y :: ys, acc, h, hl => by
    rw [List.length_cons, Nat.mul_succ] at hl
    obtain ⟨hc, ρ1, h1, h2, h3, h4, h5⟩ := h y List.mem_cons_self
    have ih := lc2L_ty (c := c) (g := g) (g1 := g1) (s1 := s1) (e := e) (vs := vs) (vs1 := vs1) (ρ := ρ) F L p ys (acc ++ (L y).map p) (fun z hz => h z (List.mem_cons_of_mem _ hz)) (by rw [List.length_append, List.length_map]; omega)
    have inner := lc2I_ty (g1 := g1) (e := e) (vs1 := vs1) (ρ := ρ1) (k := fun ρ acc => lc2L g sYes s1 g1 sYes e vs vs1 (ys.map F) (wipeE vs ρ) acc) id p (L y) acc h5 (by omega)
    rw [List.map_id] at inner
    rw [List.map_cons]
    conv => lhs; unfold lc2L
    rw [h1]
    have yy : (sYes : En → Y.R Bool) ρ1 = .ok true ρ1 := rfl
    simp only [noX, bnd, yy, if_true, h2, h3]
    refine (show lc2I _ _ _ _ _ _ ρ1 _ = _ from inner).trans ?_
    rw [h4, ih, List.flatMap_cons, List.map_append, List.append_assoc]
end Y

set_option Elab.async false
set_option linter.all false
set_option maxRecDepth 100000
set_option maxHeartbeats 4000000
/-! is_plan, and the law's own test -/
namespace Y
open PySem PySem.Spec PyProof.Rows L2 PySem.W
def ipE (R : Rows) (gs N : List Str) (lim : Int) (d : D) (x4 x5 : Option S) : En := [some (.f (coursesD R)), some (.f (lD gs)), some (.f (.int lim)), some (.f d), x4, x5, some (.f (dictD R)), some (.f (wdictD R)), some (.f (lD N)), none, none]
section
variable {R : Rows} {gs N : List Str} {lim : Int}
theorem wsum_ok {y : List Str} (hy : ∀ s ∈ y, s ∈ nms R) (hl : y.length ≤ 1000) {ρ : En} {i j l : Nat} (hi : ρ[i]? = some none) (vj : sVar j ρ = .ok (lD y) ρ) (vl : ∀ x, sVar l (ρ.set i x) = .ok (wdictD R) (ρ.set i x)) : s1 dSum (sLc (sIt (sVar j)) (hName i) sYes (sBin dIx (sVar l) (sVar i)) [i]) ρ = .ok (.int (wsum R y)) ρ := by
  refine s1_ok (d := .nd .lst (y.map fun x => D.int (wtOf R x))) ?_ (sum_gen _ _)
  refine slc_ty2 (ρ1 := ρ) (ρ2 := ρ) D.str (fun _ => true) (fun x => D.int (wtOf R x)) y (it_ok vj rfl) ?_ (fun x hx => ⟨ρ.set i (some (.f (.str x))), rfl, rfl, fun _ => bin_ok (x := wdictD R) (y := .str x) (vl _) (var_set hi) (ix_wt (hy x hx)), wipe_back hi⟩) (by omega) (by rw [List.filter_eq_self.mpr fun _ _ => rfl])
  show ρ.set i none = ρ
  exact set_none hi
abbrev yrBd : En → Y.R Fl := (sSeq (sIfS (sOrT (sNotT (sTru (sCall fs_rises (sCons (sVar 5) sNil)))) (sBin dGt (s1 dSum (sLc (sIt (sVar 5)) (hName 9) sYes (sBin dIx (sVar 7) (sVar 9)) [9])) (sBor 2)))
  (sRet (sC (.bl false)))
  sNx)
  (sSeq (sIfS (sTru (s1 dAny (sLc (sIt (sVar 5)) (hName 9) sYes (sOrV (sCmp dIn (sVar 9) (sBor 4)) (sNotV (s1 dAll (sLc (sIt (sBin dIx (sVar 6) (sVar 9))) (hName 10) sYes (sCmp dIn (sVar 10) (sBor 4)) [10])))) [9])))
  (sRet (sC (.bl false)))
  sNx)
  (sAugL 4 (sVar 5))))
theorem orv_both {a b : En → Y.R D} {ρ : En} {c d : Bool} (e : a ρ = .ok (.bl c) ρ) (e2 : c = false → b ρ = .ok (.bl d) ρ) : sOrV a b ρ = .ok (.bl (c || d)) ρ := by
  cases c with
  | true => exact orv_yes e
  | false => exact orv_no e (e2 rfl)
theorem notv_ok {a : En → Y.R D} {ρ : En} {c : Bool} (e : a ρ = .ok (.bl c) ρ) : sNotV a ρ = .ok (.bl (!c)) ρ := by
  unfold sNotV
  rw [e]
  rfl
theorem yr_one (ok : RowsOk R) (hN : ∀ s ∈ N, s ∈ nms R) (d : D) {dn y : List Str} (hd : ∀ s ∈ dn, s ∈ N) (ld : dn.length ≤ 100) (hy : ∀ s ∈ y, s ∈ N) (ly : y.length ≤ 1000) : ∃ ρ', yrBd (ipE R gs N lim d (some (.o (lD dn))) (some (.f (lD y)))) = .ok (if yrB R lim dn y = true then .nx else .rt (.bl false)) ρ' ∧ (yrB R lim dn y = true → ρ' = ipE R gs N lim d (some (.o (lD (dn ++ y)))) (some (.f (lD y)))) := by
  have hdn : NmsOk dn := fun s hs => ok.ok s (hN s (hd s hs))
  have hyn : NmsOk y := fun s hs => ok.ok s (hN s (hy s hs))
  have g1 : sOrT (sNotT (sTru (sCall fs_rises (sCons (sVar 5) sNil)))) (sBin dGt (s1 dSum (sLc (sIt (sVar 5)) (hName 9) sYes (sBin dIx (sVar 7) (sVar 9)) [9])) (sBor 2)) (ipE R gs N lim d (some (.o (lD dn))) (some (.f (lD y)))) = .ok (!(risB y && decide (wsum R y ≤ lim))) (ipE R gs N lim d (some (.o (lD dn))) (some (.f (lD y)))) := by
    refine or_ans (notru (call_ok (ds := [lD y]) rfl (rises_ok (.inl rfl) ly))) fun _ => bin_ok (y := .int lim) (wsum_ok (i := 9) (j := 5) (l := 7) (fun s hs => hN s (hy s hs)) ly rfl rfl fun _ => rfl) rfl ?_
    rw [gt_int]
    congr 1
    by_cases c : wsum R y ≤ lim
    · rw [decide_eq_true c, decide_eq_false (by omega)]; rfl
    · rw [decide_eq_false c, decide_eq_true (by omega)]; rfl
  have g2 : sTru (s1 dAny (sLc (sIt (sVar 5)) (hName 9) sYes (sOrV (sCmp dIn (sVar 9) (sBor 4)) (sNotV (s1 dAll (sLc (sIt (sBin dIx (sVar 6) (sVar 9))) (hName 10) sYes (sCmp dIn (sVar 10) (sBor 4)) [10])))) [9])) (ipE R gs N lim d (some (.o (lD dn))) (some (.f (lD y)))) = .ok (!(y.all (freeB R dn))) (ipE R gs N lim d (some (.o (lD dn))) (some (.f (lD y)))) := by
    have key : s1 dAny (sLc (sIt (sVar 5)) (hName 9) sYes (sOrV (sCmp dIn (sVar 9) (sBor 4)) (sNotV (s1 dAll (sLc (sIt (sBin dIx (sVar 6) (sVar 9))) (hName 10) sYes (sCmp dIn (sVar 10) (sBor 4)) [10])))) [9]) (ipE R gs N lim d (some (.o (lD dn))) (some (.f (lD y)))) = .ok (.bl (y.any fun x => !freeB R dn x)) (ipE R gs N lim d (some (.o (lD dn))) (some (.f (lD y)))) := by
      refine s1_ok (d := .nd .lst (y.map fun x => D.bl (!freeB R dn x))) ?_ (any_gen _ _)
      refine slc_ty2 (ρ1 := ipE R gs N lim d (some (.o (lD dn))) (some (.f (lD y)))) D.str (fun _ => true) (fun x => D.bl (!freeB R dn x)) y rfl rfl (fun x hx => ⟨(ipE R gs N lim d (some (.o (lD dn))) (some (.f (lD y)))).set 9 (some (.f (.str x))), rfl, rfl, fun _ => ?_, rfl⟩) (by omega) (by rw [List.filter_eq_self.mpr fun _ _ => rfl])
      have nf := nb_few ok x
      have e : (!freeB R dn x) = (decide (x ∈ dn) || !((nb R x).all fun z => decide (z ∈ dn))) := by
        unfold freeB
        by_cases c : x ∈ dn <;> simp [c]
      rw [e]
      refine orv_both ?_ fun _ => notv_ok (s1_ok (d := .nd .lst ((nb R x).map fun z => D.bl (decide (z ∈ dn)))) ?_ (all_gen _ _))
      · unfold sCmp
        exact bin_ok (x := .str x) (y := lD dn) rfl rfl (by rw [dIn_lst hdn (hyn x hx)]; rfl)
      · exact slc_ty2 (ρ1 := (ipE R gs N lim d (some (.o (lD dn))) (some (.f (lD y)))).set 9 (some (.f (.str x)))) D.str (fun _ => true) (fun z => D.bl (decide (z ∈ dn))) (nb R x) (dIx_needs (hN x (hy x hx)) rfl rfl) rfl (fun z hz => ⟨((ipE R gs N lim d (some (.o (lD dn))) (some (.f (lD y)))).set 9 (some (.f (.str x)))).set 10 (some (.f (.str z))), rfl, rfl, fun _ => by
          unfold sCmp
          exact bin_ok (x := .str z) (y := lD dn) rfl rfl (by rw [dIn_lst hdn (nb_ok ok x z hz)]; rfl), rfl⟩) (by omega) (by rw [List.filter_eq_self.mpr fun _ _ => rfl])
    have e : (y.any fun x => !freeB R dn x) = !(y.all (freeB R dn)) := by rw [← List.not_all_eq_any_not]
    rw [← e]
    exact tru_ok key
  have g3 : sAugL 4 (sVar 5) (ipE R gs N lim d (some (.o (lD dn))) (some (.f (lD y)))) = .ok .nx (ipE R gs N lim d (some (.o (lD (dn ++ y)))) (some (.f (lD y)))) := by
    refine (augL_ok (i := 4) (xs := nD dn) (ys := nD y) (zs := nD dn) (ρ1 := ipE R gs N lim d (some (.o (lD dn))) (some (.f (lD y)))) rfl rfl rfl (small (by rw [List.length_map, List.length_map]; omega))).trans ?_
    rw [show nD dn ++ nD y = nD (dn ++ y) from List.map_append.symm]
    rfl
  unfold yrB
  cases c1 : risB y && decide (wsum R y ≤ lim) with
  | false =>
    rw [c1] at g1
    exact ⟨_, out_no g1, fun z => by cases z⟩
  | true =>
    rw [c1] at g1
    cases c2 : y.all (freeB R dn) with
    | false =>
      rw [c2] at g2
      exact ⟨_, (out_go g1).trans (out_no g2), fun z => by cases z⟩
    | true =>
      rw [c2] at g2
      exact ⟨_, (out_go g1).trans ((out_go g2).trans g3), fun _ => rfl⟩
theorem yrs_run (ok : RowsOk R) (hN : ∀ s ∈ N, s ∈ nms R) (l10 : N.length ≤ 10) (d : D) : ∀ (ys : List (List Str)) (dn : List Str) (x5 : Option S), dn.Nodup → (∀ s ∈ dn, s ∈ N) → (∀ y ∈ ys, (∀ s ∈ y, s ∈ N) ∧ y.length ≤ 1000) → ∃ ρ', forL (hName 5) yrBd (ys.map lD) (ipE R gs N lim d (some (.o (lD dn))) x5) = .ok (if seqB R lim dn ys = true then .nx else .rt (.bl false)) ρ' ∧ (seqB R lim dn ys = true → ∃ y5, ρ' = ipE R gs N lim d (some (.o (lD (dn ++ ys.flatten)))) y5)
  | [], dn, x5, _, _, _ => ⟨_, rfl, fun _ => ⟨x5, by rw [List.flatten_nil, List.append_nil]⟩⟩
  | y :: ys, dn, x5, nd, hd, hy => by
    have ld := sub_len nd hd
    obtain ⟨hy1, hy2⟩ := hy y List.mem_cons_self
    obtain ⟨ρ1, e1, q1⟩ := yr_one (gs := gs) (lim := lim) ok hN d hd (by omega) hy1 hy2
    have stp : forL (hName 5) yrBd ((y :: ys).map lD) (ipE R gs N lim d (some (.o (lD dn))) x5) = (match yrBd (ipE R gs N lim d (some (.o (lD dn))) (some (.f (lD y)))) with
        | .ok .nx ρ2 => forL (hName 5) yrBd (ys.map lD) ρ2
        | .ok .ct ρ2 => forL (hName 5) yrBd (ys.map lD) ρ2
        | .ok .bk ρ2 => .ok .nx ρ2
        | r => r) := by
      rw [List.map_cons]
      conv => lhs; unfold forL
      rfl
    rw [stp, e1]
    unfold seqB
    cases c : yrB R lim dn y with
    | false => exact ⟨ρ1, rfl, fun z => by cases z⟩
    | true =>
      have r1 := q1 c
      subst r1
      have nd2 : (dn ++ y).Nodup := by
        have h1 := c
        unfold yrB at h1
        rw [Bool.and_eq_true, Bool.and_eq_true, List.all_eq_true] at h1
        refine List.nodup_append.mpr ⟨nd, ris_nd h1.1.1, fun a ha b hb e => ?_⟩
        have := h1.2 b hb
        unfold freeB at this
        rw [Bool.and_eq_true, decide_eq_true_eq] at this
        exact this.1 (e ▸ ha)
      obtain ⟨ρ', e2, q2⟩ := yrs_run ok hN l10 d ys (dn ++ y) (some (.f (lD y))) nd2 (fun s hs => (List.mem_append.mp hs).elim (hd s) (hy1 s)) fun z hz => hy z (List.mem_cons_of_mem _ hz)
      refine ⟨ρ', by rw [Bool.true_and]; exact e2, fun hs => ?_⟩
      rw [Bool.true_and] at hs
      obtain ⟨y5, e⟩ := q2 hs
      exact ⟨y5, by rw [e, List.flatten_cons, List.append_assoc]⟩
/-- a thing whose years are all lists of names -/
theorem lists_of {xs : List D} (h : xs.all (yearB N) = true) : xs = (xs.map namesOf).map lD ∧ ∀ y ∈ xs.map namesOf, ∀ s ∈ y, s ∈ N := by
  refine ⟨?_, fun y hy => ?_⟩
  · rw [List.map_map]
    conv => lhs; rw [← List.map_id xs]
    exact List.map_congr_left fun x hx => (year_of (List.all_eq_true.mp h x hx)).1
  · obtain ⟨x, hx, rfl⟩ := List.mem_map.mp hy
    exact (year_of (List.all_eq_true.mp h x hx)).2.2
theorem split_year (xs : List D) : xs.all (yearB N) = (xs.all fullB && (xs.flatMap itemsL).all (strIn N)) := by
  induction xs with
  | nil => rfl
  | cons x xs ih =>
    rw [List.all_cons, ih, List.all_cons, List.flatMap_cons, List.all_append]
    unfold yearB
    cases fullB x <;> cases (itemsL x).all (strIn N) <;> cases xs.all fullB <;> cases (xs.flatMap itemsL).all (strIn N) <;> rfl
theorem isplan_ok (pl : PlOk R) (go : GoalsOk R gs) {m n : Nat} {d : D} (h : vv m n d = true) (hm : m ≤ 300) (hn : n ≤ 60) : fs_is_plan [coursesD R, lD gs, .int lim, d] = .val false (.bl (plnB R (wants R gs) lim d)) none := by
  have ok := pl.ok
  have w := wants_ok ok go.mem
  have l10 : (wants R gs).length ≤ 10 := Nat.le_trans (wants_len ok go.mem) ok.len
  have hNm : NmsOk (wants R gs) := fun s hs => ok.ok s (w.sub s hs)
  refine run_ans rfl ?_
  show Ans m_is_plan [some (.f (coursesD R)), some (.f (lD gs)), some (.f (.int lim)), some (.f d), none, none, none, none, none, none, none] _
  unfold m_is_plan
  refine ans_seq (ρ1 := ipE R gs (wants R gs) lim d none none) (asg_ok (mk_ok (ds := [dictD R, wdictD R, lD (wants R gs)]) (cons_ok (call_ok (ds := [coursesD R]) rfl (needs_ok ok)) (cons_ok (call_ok (ds := [coursesD R]) rfl (weights_ok ok)) (one_ok (call_ok (ds := [coursesD R, lD gs]) rfl (wanted_ok ok go))))) (small (show 3 ≤ 100000 by decide))) rfl) ?_
  have e0 : plnB R (wants R gs) lim d = ((lstB d && (itemsL d).all fullB) && (((itemsL d).flatMap itemsL).all (strIn (wants R gs)) && (seqB R lim [] ((itemsL d).map namesOf) && decide (((itemsL d).map namesOf).flatten.length = (wants R gs).length)))) := by
    unfold plnB
    rw [split_year]
    cases lstB d <;> cases (itemsL d).all fullB <;> cases ((itemsL d).flatMap itemsL).all (strIn (wants R gs)) <;> rfl
  rw [e0]
  refine ans_guard (or_ans (notru (n_ok (ds := [d, .ty "list"]) rfl (isi_lst h))) fun hb => ?_) fun hc => ?_
  · obtain ⟨xs, rfl⟩ := lst_of hb
    obtain ⟨j, ej, hl, hv⟩ := vv_lst h
    refine notru (all_rows fullB (ρ1 := ipE R gs (wants R gs) lim (.nd .lst xs) none none) rfl rfl (fun x hx => ⟨ipE R gs (wants R gs) lim (.nd .lst xs) none (some (.f x)), rfl, ?_, rfl⟩) (by show xs.length ≤ 1000; omega))
    refine and_ans (n_ok (ds := [x, .ty "list"]) rfl (isi_lst (hv x hx))) fun hx1 => ?_
    obtain ⟨us, rfl⟩ := lst_of hx1
    unfold sCmp
    refine bin_ok (x := iN us.length) (y := iN 0) (s1_ok (d := .nd .lst us) rfl (len_nd (.inl rfl) us)) rfl ?_
    rw [gt_nat]
    cases us <;> rfl
  · obtain ⟨hb, hf⟩ := (Bool.and_eq_true _ _).mp hc
    obtain ⟨xs, rfl⟩ := lst_of hb
    obtain ⟨j, ej, hl, hv⟩ := vv_lst h
    have hf' : xs.all fullB = true := hf
    refine ans_guard (notru (s1_ok (d := .nd .lst ((xs.flatMap itemsL).map fun u => D.bl (strIn (wants R gs) u))) ?_ (all_gen _ _))) fun hs => ?_
    · show lc2L _ _ _ _ _ _ _ _ xs (ipE R gs (wants R gs) lim (.nd .lst xs) none none) [] = _
      have := lc2L_ty (g := hName 5) (g1 := hName 9) (s1 := sIt (sVar 5)) (e := sAndV (sN dIsi (sCons (sVar 9) (sCons (sC (.ty "str")) sNil))) (sCmp dIn (sVar 9) (sBor 8))) (vs := [5, 9]) (vs1 := [9]) (ρ := ipE R gs (wants R gs) lim (.nd .lst xs) none none) (c := 300) id itemsL (fun u => D.bl (strIn (wants R gs) u)) xs [] (fun x hx => by
        have fx := List.all_eq_true.mp hf' x hx
        unfold fullB at fx
        obtain ⟨us, rfl⟩ := lst_of ((Bool.and_eq_true _ _).mp fx).1
        obtain ⟨i, ei, hl2, hv2⟩ := vv_lst (hv _ hx)
        refine ⟨by show us.length ≤ 300; omega, ipE R gs (wants R gs) lim (.nd .lst xs) none (some (.f (.nd .lst us))), rfl, rfl, rfl, rfl, fun u hu => ⟨(ipE R gs (wants R gs) lim (.nd .lst xs) none (some (.f (.nd .lst us)))).set 9 (some (.f u)), rfl, ?_, rfl⟩⟩
        have vu := hv2 u hu
        have a1 : sN dIsi (sCons (sVar 9) (sCons (sC (.ty "str")) sNil)) ((ipE R gs (wants R gs) lim (.nd .lst xs) none (some (.f (.nd .lst us)))).set 9 (some (.f u))) = .ok (.bl (isStr u)) ((ipE R gs (wants R gs) lim (.nd .lst xs) none (some (.f (.nd .lst us)))).set 9 (some (.f u))) := n_ok (ds := [u, .ty "str"]) rfl (isi_str u (vv_ty vu))
        have eu : strIn (wants R gs) u = (isStr u && strIn (wants R gs) u) := by cases u <;> rfl
        rw [eu]
        refine and_ans a1 fun hu => ?_
        cases u with
        | str s =>
          unfold sCmp
          exact bin_ok (x := .str s) (y := lD (wants R gs)) rfl rfl (by rw [dIn_lst hNm (vv_str vu).1]; rfl)
        | _ => simp [isStr] at hu) (by simp only [List.length_nil]; have : 300 * xs.length ≤ 300 * 300 := Nat.mul_le_mul_left 300 (by omega); omega)
      rw [List.map_id, List.nil_append] at this
      exact this
    · have hs' : (xs.flatMap itemsL).all (strIn (wants R gs)) = true := hs
      have hy : xs.all (yearB (wants R gs)) = true := by rw [split_year, hf', hs']; rfl
      obtain ⟨ex, hn2⟩ := lists_of hy
      have f0 : sSetO 4 (sMk .lst sNil) (ipE R gs (wants R gs) lim (.nd .lst xs) none none) = .ok .nx (ipE R gs (wants R gs) lim (.nd .lst xs) (some (.o (lD []))) none) := setO_ok (ρ1 := ipE R gs (wants R gs) lim (.nd .lst xs) none none) (d := lD []) (mk_ok (ds := []) rfl (small (by decide)))
      refine ans_seq f0 ?_
      obtain ⟨ρ', e, q⟩ := yrs_run (gs := gs) (lim := lim) ok w.sub l10 (.nd .lst xs) (xs.map namesOf) [] none List.nodup_nil (fun s hs => by cases hs) (fun y hy' => ⟨hn2 y hy', by
        obtain ⟨x, hx, rfl⟩ := List.mem_map.mp hy'
        have fx := List.all_eq_true.mp hf' x hx
        unfold fullB at fx
        obtain ⟨us, rfl⟩ := lst_of ((Bool.and_eq_true _ _).mp fx).1
        obtain ⟨i, ei, hl2, hv2⟩ := vv_lst (hv _ hx)
        show (us.map sO).length ≤ 1000
        rw [List.length_map]; omega⟩)
      rw [← ex] at e
      refine ans_loop (for_ok (src := sIt (sVar 3)) (ρ1 := ipE R gs (wants R gs) lim (.nd .lst xs) (some (.o (lD []))) none) rfl e) fun hq => ?_
      obtain ⟨y5, e5⟩ := q hq
      rw [List.nil_append] at e5
      subst e5
      refine ans_ret1 ?_
      unfold sCmp
      refine bin_ok (s1_ok (d := lD (xs.map namesOf).flatten) rfl (len_nd (.inl rfl) _)) (s1_ok (d := lD (wants R gs)) rfl (len_nd (.inl rfl) _)) ?_
      rw [dEq_ints, List.length_map, List.length_map]
      rfl
end
end Y

set_option Elab.async false
set_option linter.all false
set_option maxRecDepth 100000
set_option maxHeartbeats 4000000
/-! the law's own test of plans -/
namespace Y
open PySem PySem.Spec PyProof.Rows L2 PySem.W
def lqE (R : Rows) (gs N : List Str) (lim : Int) (d : D) (x6 x8 x9 : Option S) : En := [some (.f (coursesD R)), some (.f (lD gs)), some (.f (.int lim)), some (.f d), some (.f (wdictD R)), some (.f (dictD R)), x6, some (.f (lD N)), x8, x9, none]
section
variable {R : Rows} {gs N : List Str} {lim : Int}
theorem dNe_namesN {l : List Str} (h : NmsOk l) : dNe (lD l) (.nd .lst []) = some (!l.isEmpty) := by
  rw [dNe_nil (dok_lst h)]
  cases l <;> rfl
theorem nonempty_filter {α : Type} (p : α → Bool) (l : List α) : (!(l.filter fun x => !p x).isEmpty) = !l.all p := by
  congr 1
  induction l with
  | nil => rfl
  | cons a l ih =>
    rw [List.filter_cons, List.all_cons]
    cases h : p a <;> simp [h, ih]
theorem strs_all {us : List D} (h : us.all isStr = true) : us = nD (us.map sO) := by
  induction us with
  | nil => rfl
  | cons u us ih =>
    rw [List.all_cons, Bool.and_eq_true] at h
    have := ih h.2
    cases u with
    | str s =>
      rw [List.map_cons]
      show _ = D.str s :: nD (us.map sO)
      rw [← this]
    | _ => simp [isStr] at h
theorem all_nD (y : List Str) : (nD y).all (strIn N) = y.all fun s => decide (s ∈ N) := by
  rw [List.all_map]
  rfl
theorem needs_for (ok : RowsOk R) (hN : ∀ s ∈ N, s ∈ nms R) (d : D) {th : List Str} (hth : NmsOk th) (x6 : Option S) : ∀ (y : List Str) (x9 : Option S), (∀ s ∈ y, s ∈ N) → ∃ y9, forL (hName 9) (sIfS (sBin dNe (sLc (sIt (sBin dIx (sVar 5) (sVar 9))) (hName 10) (sBin dNotIn (sVar 10) (sBor 8)) (sVar 10) [10]) (sMk .lst sNil))
  (sRet (sC (.bl false)))
  sNx) (nD y) (lqE R gs N lim d x6 (some (.f (lD th))) x9) = .ok (if (y.all fun x => (nb R x).all fun z => decide (z ∈ th)) = true then .nx else .rt (.bl false)) (lqE R gs N lim d x6 (some (.f (lD th))) y9)
  | [], x9, _ => ⟨x9, rfl⟩
  | x :: y, x9, h => by
    have hx := hN x (h x List.mem_cons_self)
    have nf := nb_few ok x
    obtain ⟨y9, e2⟩ := needs_for ok hN d hth x6 y (some (.f (.str x))) fun s hs => h s (List.mem_cons_of_mem _ hs)
    have f : sLc (sIt (sBin dIx (sVar 5) (sVar 9))) (hName 10) (sBin dNotIn (sVar 10) (sBor 8)) (sVar 10) [10] (lqE R gs N lim d x6 (some (.f (lD th))) (some (.f (.str x)))) = .ok (lD ((nb R x).filter fun z => !decide (z ∈ th))) (lqE R gs N lim d x6 (some (.f (lD th))) (some (.f (.str x)))) :=
      slc_ty2 (ρ1 := lqE R gs N lim d x6 (some (.f (lD th))) (some (.f (.str x)))) D.str (fun z => !decide (z ∈ th)) D.str (nb R x) (dIx_needs hx rfl rfl) rfl (fun z hz => ⟨(lqE R gs N lim d x6 (some (.f (lD th))) (some (.f (.str x)))).set 10 (some (.f (.str z))), rfl, bin_ok (x := .str z) (y := lD th) rfl rfl (by unfold dNotIn; rw [dIn_lst hth (nb_ok ok x z hz)]; rfl), fun _ => rfl, rfl⟩) (by omega) rfl
    have t : sBin dNe (sLc (sIt (sBin dIx (sVar 5) (sVar 9))) (hName 10) (sBin dNotIn (sVar 10) (sBor 8)) (sVar 10) [10]) (sMk .lst sNil) (lqE R gs N lim d x6 (some (.f (lD th))) (some (.f (.str x)))) = .ok (!((nb R x).all fun z => decide (z ∈ th))) (lqE R gs N lim d x6 (some (.f (lD th))) (some (.f (.str x)))) :=
      bin_ok f (mk_ok (ds := []) rfl (small (by decide))) (by rw [dNe_namesN fun s hs => nb_ok ok x s (List.mem_filter.mp hs).1, nonempty_filter])
    rw [show nD (x :: y) = .str x :: nD y from rfl]
    have stp : forL (hName 9) (sIfS (sBin dNe (sLc (sIt (sBin dIx (sVar 5) (sVar 9))) (hName 10) (sBin dNotIn (sVar 10) (sBor 8)) (sVar 10) [10]) (sMk .lst sNil)) (sRet (sC (.bl false))) sNx) (.str x :: nD y) (lqE R gs N lim d x6 (some (.f (lD th))) x9) = (match sIfS (sBin dNe (sLc (sIt (sBin dIx (sVar 5) (sVar 9))) (hName 10) (sBin dNotIn (sVar 10) (sBor 8)) (sVar 10) [10]) (sMk .lst sNil)) (sRet (sC (.bl false))) sNx (lqE R gs N lim d x6 (some (.f (lD th))) (some (.f (.str x)))) with
        | .ok .nx ρ2 => forL (hName 9) (sIfS (sBin dNe (sLc (sIt (sBin dIx (sVar 5) (sVar 9))) (hName 10) (sBin dNotIn (sVar 10) (sBor 8)) (sVar 10) [10]) (sMk .lst sNil)) (sRet (sC (.bl false))) sNx) (nD y) ρ2
        | .ok .ct ρ2 => forL (hName 9) (sIfS (sBin dNe (sLc (sIt (sBin dIx (sVar 5) (sVar 9))) (hName 10) (sBin dNotIn (sVar 10) (sBor 8)) (sVar 10) [10]) (sMk .lst sNil)) (sRet (sC (.bl false))) sNx) (nD y) ρ2
        | .ok .bk ρ2 => .ok .nx ρ2
        | r => r) := by
      conv => lhs; unfold forL
      rfl
    rw [stp, List.all_cons]
    cases c : (nb R x).all fun z => decide (z ∈ th) with
    | false =>
      rw [c] at t
      refine ⟨some (.f (.str x)), ?_⟩
      rw [show sIfS _ (sRet (sC (.bl false))) sNx _ = _ from (if_yes t).trans rfl]
      rfl
    | true =>
      rw [c] at t
      refine ⟨y9, ?_⟩
      rw [show sIfS _ (sRet (sC (.bl false))) sNx _ = _ from (if_no t).trans rfl, Bool.true_and]
      exact e2
end
end Y

set_option Elab.async false
set_option linter.all false
set_option maxRecDepth 100000
set_option maxHeartbeats 4000000
/-! k32: plans of easier courses -/
namespace Y
open PySem PySem.Spec PyProof.Rows L2 PySem.W
theorem dtcat {a b : List D} (h : a.length + b.length ≤ sizeLine) : dPlus (.nd .lst a) (.nd .lst b) = some (.nd .lst (a ++ b)) := cat_ok h
theorem count_ok {m : Nat} (hm : m ≤ 1000) (ns : List Int) (t : List (Option S)) : sRg rg1 (sCons (sBin dPlus (sN dMin2 (sCons (s1 dLen' (sBor 0)) (sCons (sC (.int (m : Int))) sNil))) (sC (.int 2))) sNil) (some (.f (.nd .scr (ns.map D.int))) :: t) = .ok ((List.range' 0 (min ns.length m + 2)).map fun i : Nat => D.int (i : Int)) (some (.f (.nd .scr (ns.map D.int))) :: t) := by
  have d1 : dLen' (.nd .scr (ns.map D.int)) = some (iN ns.length) := by simp [dLen', dLen]
  have d4 := rg1_nat (n := min ns.length m + 2) (by omega)
  rw [rg_nat] at d4
  exact rg_ok (one_ok (bin_ok (n_ok (cons_ok (s1_ok (f := sBor 0) rfl d1) (cons_ok (d := iN m) rfl rfl)) (min_nat _ _)) (y := iN 2) rfl (add_nat _ _))) d4
theorem rgs {n : Nat} (hn : n ≤ 1000) (ρ ρ1 : En) {f : En → Y.R D} (e : f ρ = .ok (iN n) ρ1) : sRg rg1 (sCons f sNil) ρ = .ok ((List.range' 0 n).map fun i : Nat => D.int (i : Int)) ρ1 := by
  have h := rg1_nat (n := n) (by omega)
  rw [rg_nat] at h
  exact rg_ok (one_ok e) h
theorem names10_len : ∀ s ∈ names10, s.length ≤ 20 := by
  have h : (names10.all fun s => decide (s.length ≤ 20)) = true := by decide +kernel
  exact fun s hs => of_decide_eq_true (List.all_eq_true.mp h s hs)
theorem vS10 {m n : Nat} {s : Str} (h : s ∈ names10) : vv m n (.str s) = true := by
  have h1 := names10_ok s h
  have h2 := names10_len s h
  cases n <;> simp [vv, h1, h2]
theorem vL {m j : Nat} {ys : List D} (hl : ys.length ≤ m) (h : ∀ y ∈ ys, vv m j y = true) : vv m (j + 1) (.nd .lst ys) = true := node_vv (.inl rfl) hl h
theorem vLot {m : Nat} {l : List Str} (h : ∀ s ∈ l, s ∈ names10) (hl : l.length ≤ m) : vv m 1 (lD l) = true := vL (by rw [List.length_map]; exact hl) fun y hy => by
  obtain ⟨s, hs, rfl⟩ := List.mem_map.mp hy
  exact vS10 (h s hs)
theorem dok_courses {R : Rows} (ok : RowsOk R) : dok (coursesD R) = true := dk_dok (n := 3) (by decide) (dk_nd (.inr rfl) fun x hx => by
  obtain ⟨r, hr, rfl⟩ := List.mem_map.mp hx
  refine dk_nd (.inr rfl) fun y hy => ?_
  simp only [List.mem_cons, List.not_mem_nil, or_false] at hy
  rcases hy with rfl | rfl | rfl
  · exact dk_str _ (ok.ok _ (List.mem_map.mpr ⟨r, hr, rfl⟩))
  · exact dk_int _ _
  · refine dk_nd (.inr rfl) fun z hz => ?_
    obtain ⟨s, hs, rfl⟩ := List.mem_map.mp hz
    exact dk_str _ (ok.ok s (ok.sub r hr s hs)))
theorem pth_flat {R : Rows} {N : List Str} {lim : Int} {K : List Str} {P : List (List Str)} (h : Pth R N lim K P) : P.flatten.length = K.length := by
  induction h with
  | nil => rfl
  | snoc _ _ ih => rw [List.flatten_append, List.length_append, ih, (srt_perm _).length_eq, List.length_append]; simp
/-! a path is a plan -/
section
variable {R : Rows} {N : List Str} {lim : Int}
theorem pth_mem {K : List Str} {P : List (List Str)} (h : Pth R N lim K P) : ∀ x, x ∈ P.flatten ↔ x ∈ K := by
  induction h with
  | nil => intro x; rfl
  | snoc _ _ ih =>
    intro x
    rw [List.flatten_append, List.mem_append, ih, (srt_perm _).mem_iff, List.mem_append]
    simp
theorem seq_app : ∀ (ys zs : List (List Str)) (dn : List Str), seqB R lim dn (ys ++ zs) = (seqB R lim dn ys && seqB R lim (dn ++ ys.flatten) zs)
  | [], zs, dn => by rw [List.flatten_nil, List.append_nil]; rfl
  | y :: ys, zs, dn => by
    show (yrB R lim dn y && seqB R lim (dn ++ y) (ys ++ zs)) = ((yrB R lim dn y && seqB R lim (dn ++ y) ys) && _)
    rw [seq_app ys zs, List.flatten_cons, List.append_assoc, Bool.and_assoc]
theorem sub_ris (w : WOk R N) {l : List Str} (h : l.Sublist N) : risB l = true := by
  rw [risB_iff]
  have pw : N.Pairwise fun a b => sgs a ≤ sgs b := by rw [← w.sr]; exact srt_pw N
  exact ((pw.and w.nd).imp fun {a b} q => List.not_le.mp fun z => q.2 (str_ext (List.le_antisymm q.1 z))).sublist h
theorem pth_seq (pl : PlOk R) (w : WOk R N) (h0 : 0 ≤ lim) {K : List Str} {P : List (List Str)} (h : Pth R N lim K P) : seqB R lim [] P = true := by
  induction h with
  | nil => rfl
  | @snoc K P lot hp hl ih =>
    obtain ⟨l1, l2, l3⟩ := (lot_in pl w h0).mp hl
    have m := pth_mem hp
    rw [seq_app, ih, Bool.true_and, List.nil_append]
    show (yrB R lim P.flatten lot && true) = true
    rw [Bool.and_true]
    unfold yrB
    rw [sub_ris w (l1.trans (free_sub K)), decide_eq_true l3, Bool.true_and, Bool.true_and, List.all_eq_true]
    intro x hx
    have hf := (List.mem_filter.mp (l1.subset hx)).2
    rw [Bool.and_eq_true, decide_eq_true_eq, List.all_eq_true] at hf
    unfold freeB
    rw [Bool.and_eq_true, decide_eq_true_eq, List.all_eq_true]
    exact ⟨fun z => hf.1 ((m x).mp z), fun s hs => decide_eq_true ((m s).mpr (of_decide_eq_true (hf.2 s hs)))⟩
theorem pln_true (pl : PlOk R) (w : WOk R N) (h0 : 0 ≤ lim) {P : List (List Str)} (h : Pth R N lim N P) : plnB R N lim (planD P) = true := by
  obtain ⟨_, _, hs⟩ := pth_sub pl w h0 h
  have e : (P.map lD).map namesOf = P := by
    rw [List.map_map]
    conv => rhs; rw [← List.map_id P]
    exact List.map_congr_left fun l _ => sO_names l
  have hy : (P.map lD).all (yearB N) = true := by
    rw [List.all_eq_true]
    intro d hd
    obtain ⟨l, hl, rfl⟩ := List.mem_map.mp hd
    obtain ⟨s1, s2⟩ := hs l hl
    unfold yearB fullB
    have e1 : (itemsL (lD l)).isEmpty = false := by
      cases l with
      | nil => exact absurd rfl s2
      | cons a l => rfl
    rw [e1]
    show (nD l).all (strIn N) = true
    rw [all_nD, List.all_eq_true]
    exact fun s hs' => decide_eq_true (s1.subset hs')
  unfold plnB
  show (true && (P.map lD).all (yearB N) && (seqB R lim [] ((P.map lD).map namesOf) && decide (((P.map lD).map namesOf).flatten.length = N.length))) = true
  rw [hy, e, pth_seq pl w h0 h, decide_eq_true (pth_flat h)]
  rfl
theorem pth_wide (pl : PlOk R) (w : WOk R N) (h0 : 0 ≤ lim) {lim' : Int} (hl : lim ≤ lim') {K : List Str} {P : List (List Str)} (h : Pth R N lim K P) : Pth R N lim' K P := by
  induction h with
  | nil => exact .nil
  | @snoc K P lot hp hm ih =>
    obtain ⟨l1, l2, l3⟩ := (lot_in pl w h0).mp hm
    exact .snoc ih ((lot_in pl w (by omega)).mpr ⟨l1, l2, by omega⟩)
end
theorem len_plan (P : List (List Str)) : dLen' (planD P) = some (iN P.length) := by
  rw [planD, len_nd (.inl rfl), List.length_map]

/-! weights -/
theorem wsum_cons (R : Rows) (a : Str) (l : List Str) : wsum R (a :: l) = wtOf R a + wsum R l := by
  show wsum R ([a] ++ l) = _
  rw [wsum_app, wsum_one]
theorem wsum_perm {R : Rows} {l m : List Str} (p : l.Perm m) : wsum R l = wsum R m := by
  induction p with
  | nil => rfl
  | cons a _ ih => rw [wsum_cons, wsum_cons, ih]
  | swap a b l => rw [wsum_cons, wsum_cons, wsum_cons, wsum_cons]; omega
  | trans _ _ h1 h2 => rw [h1, h2]
theorem wsum_nn {R : Rows} : ∀ {l : List Str}, (∀ x ∈ l, 0 ≤ wtOf R x) → 0 ≤ wsum R l
  | [], _ => Int.le_refl _
  | a :: l, h => by
    have := wsum_nn fun x hx => h x (List.mem_cons_of_mem _ hx)
    have := h a List.mem_cons_self
    rw [wsum_cons]; omega
/-- fewer and lighter names weigh less -/
theorem wsum_sub {R R' : Rows} : ∀ {l' l : List Str}, l'.Nodup → (∀ x ∈ l', x ∈ l) → (∀ x ∈ l, 0 ≤ wtOf R x) → (∀ x ∈ l', wtOf R' x ≤ wtOf R x) → wsum R' l' ≤ wsum R l
  | [], l, _, _, h, _ => wsum_nn h
  | a :: t, l, nd, sub, h, hw => by
    have nd' := List.nodup_cons.mp nd
    have ha := sub a List.mem_cons_self
    have p := List.perm_cons_erase ha
    have ih := wsum_sub (R := R) (R' := R') (l' := t) (l := l.erase a) nd'.2 (fun x hx => (List.mem_erase_of_ne fun (e : x = a) => nd'.1 (e ▸ hx)).mpr (sub x (List.mem_cons_of_mem _ hx))) (fun x hx => h x (List.mem_of_mem_erase hx)) fun x hx => hw x (List.mem_cons_of_mem _ hx)
    have := hw a List.mem_cons_self
    rw [wsum_perm p, wsum_cons, wsum_cons]
    omega
structure Easy (R R' : Rows) (N N' : List Str) (lim lim' : Int) : Prop where
  nb : ∀ x ∈ N', ∀ y ∈ nb R' x, y ∈ nb R x
  wt : ∀ x ∈ N', wtOf R' x ≤ wtOf R x
  sub : ∀ x ∈ N', x ∈ N
  lim : lim ≤ lim'
theorem pth_easy {R R' : Rows} {N N' : List Str} {lim lim' : Int} (pl : PlOk R) (pl' : PlOk R') (w : WOk R N) (w' : WOk R' N') (h0 : 0 ≤ lim) (e : Easy R R' N N' lim lim') {K : List Str} {P : List (List Str)} (h : Pth R N lim K P) : ∃ P', Pth R' N' lim' (N'.filter fun x => decide (x ∈ K)) P' ∧ P'.length ≤ P.length := by
  have h0' : 0 ≤ lim' := by have := e.lim; omega
  induction h with
  | nil =>
    refine ⟨[], ?_, Nat.le_refl _⟩
    rw [List.filter_eq_nil_iff.mpr fun x _ => by simp]
    exact .nil
  | @snoc K P lot hp hl ih =>
    obtain ⟨P1, h1, l1⟩ := ih
    obtain ⟨m1, m2, m3⟩ := (lot_in pl w h0).mp hl
    have pw := pth_sub pl w h0 hp
    have inlot : ∀ x ∈ lot, x ∉ K ∧ ∀ y ∈ nb R x, y ∈ K := fun x hx => by
      have := (List.mem_filter.mp (m1.subset hx)).2
      rw [Bool.and_eq_true, decide_eq_true_eq, List.all_eq_true] at this
      exact ⟨this.1, fun y hy => of_decide_eq_true (this.2 y hy)⟩
    have mem : ∀ x, x ∈ srt (K ++ lot) ↔ x ∈ K ∨ x ∈ lot := fun x => by rw [(srt_perm _).mem_iff, List.mem_append]
    have ln : (P ++ [lot]).length = P.length + 1 := by simp
    by_cases c : (N'.filter fun x => decide (x ∈ lot)) = []
    · have : (N'.filter fun x => decide (x ∈ srt (K ++ lot))) = N'.filter fun x => decide (x ∈ K) := List.filter_congr fun x hx => by
        have hn : x ∉ lot := fun z => by
          have := List.filter_eq_nil_iff.mp c x hx
          simp [z] at this
        rw [decide_eq_decide, mem]
        exact ⟨fun z => z.resolve_right hn, .inl⟩
      rw [this]
      exact ⟨P1, h1, by omega⟩
    · have sub2 : (N'.filter fun x => decide (x ∈ lot)).Sublist (freeF R' N' (N'.filter fun x => decide (x ∈ K))) := by
        have : (N'.filter fun x => decide (x ∈ lot)) = (freeF R' N' (N'.filter fun x => decide (x ∈ K))).filter fun x => decide (x ∈ lot) := by
          unfold freeF
          rw [List.filter_filter]
          refine List.filter_congr fun x hx => ?_
          by_cases z : x ∈ lot
          · obtain ⟨z1, z2⟩ := inlot x z
            have a1 : decide (x ∉ N'.filter fun x => decide (x ∈ K)) = true := decide_eq_true fun q => z1 (of_decide_eq_true (List.mem_filter.mp q).2)
            have a2 : ((nb R' x).all fun y => decide (y ∈ N'.filter fun x => decide (x ∈ K))) = true := List.all_eq_true.mpr fun y hy => decide_eq_true (List.mem_filter.mpr ⟨w'.cl x hx y hy, decide_eq_true (z2 y (e.nb x hx y hy))⟩)
            rw [decide_eq_true z, a1, a2]
            rfl
          · rw [decide_eq_false z]
            rfl
        rw [this]
        exact List.filter_sublist
      have nd2 : (N'.filter fun x => decide (x ∈ lot)).Nodup := w'.nd.filter _
      have nonneg : ∀ x ∈ lot, 0 ≤ wtOf R x := fun x hx => by
        have := (pl.wt1 (w.sub x ((free_sub K).subset (m1.subset hx)))).1
        omega
      have ws : wsum R' (N'.filter fun x => decide (x ∈ lot)) ≤ lim' := Int.le_trans (wsum_sub nd2 (fun x hx => of_decide_eq_true (List.mem_filter.mp hx).2) nonneg fun x hx => e.wt x (List.mem_filter.mp hx).1) (Int.le_trans m3 e.lim)
      have st := Pth.snoc h1 ((lot_in pl' w' h0').mpr ⟨sub2, c, ws⟩)
      have nd3 : ((N'.filter fun x => decide (x ∈ K)) ++ N'.filter fun x => decide (x ∈ lot)).Nodup := lot_nd w' (w'.nd.filter _) sub2
      have sub3 : ∀ x ∈ (N'.filter fun x => decide (x ∈ K)) ++ N'.filter fun x => decide (x ∈ lot), x ∈ N' := fun x hx => (List.mem_append.mp hx).elim (fun z => (List.mem_filter.mp z).1) fun z => (List.mem_filter.mp z).1
      rw [srt_sub w'.sr w'.nd nd3 sub3] at st
      refine ⟨P1 ++ [N'.filter fun x => decide (x ∈ lot)], ?_, by rw [List.length_append, List.length_append]; simp only [List.length_singleton]; omega⟩
      · have : (N'.filter fun x => decide (x ∈ srt (K ++ lot))) = N'.filter fun x => decide (x ∈ (N'.filter fun x => decide (x ∈ K)) ++ N'.filter fun x => decide (x ∈ lot)) := List.filter_congr fun x hx => by
          rw [decide_eq_decide, mem, List.mem_append, List.mem_filter, List.mem_filter, decide_eq_true_eq, decide_eq_true_eq]
          exact ⟨fun z => z.imp (fun q => ⟨hx, q⟩) fun q => ⟨hx, q⟩, fun z => z.imp And.right And.right⟩
        rw [this]
        exact st
theorem pth_easyN {R R' : Rows} {N N' : List Str} {lim lim' : Int} (pl : PlOk R) (pl' : PlOk R') (w : WOk R N) (w' : WOk R' N') (h0 : 0 ≤ lim) (e : Easy R R' N N' lim lim') {P : List (List Str)} (h : Pth R N lim N P) : ∃ P', Pth R' N' lim' N' P' ∧ P'.length ≤ P.length := by
  have := pth_easy pl pl' w w' h0 e h
  rwa [List.filter_eq_self.mpr fun x hx => decide_eq_true (e.sub x hx)] at this
/-! how many years: 99 for none -/
def Yr (R : Rows) (gs : List Str) (lim : Int) (y : Nat) : Prop := (∃ P, Pth R (wants R gs) lim (wants R gs) P ∧ (∀ P', Pth R (wants R gs) lim (wants R gs) P' → P.length ≤ P'.length) ∧ y = P.length) ∨ (y = 99 ∧ ∀ P', ¬ Pth R (wants R gs) lim (wants R gs) P')
theorem yr_le {R R' : Rows} {gs gs' : List Str} {lim lim' : Int} (pl : PlOk R) (pl' : PlOk R') (go : GoalsOk R gs) (go' : GoalsOk R' gs') (h0 : 0 ≤ lim) (e : Easy R R' (wants R gs) (wants R' gs') lim lim') {y y' : Nat} (h : Yr R gs lim y) (h' : Yr R' gs' lim' y') : y' ≤ y := by
  have w := wants_ok pl.ok go.mem
  have w' := wants_ok pl'.ok go'.mem
  have h0' : 0 ≤ lim' := by have := e.lim; omega
  rcases h with ⟨P, h1, h2, rfl⟩ | ⟨rfl, _⟩
  · obtain ⟨P', q1, q2⟩ := pth_easyN pl pl' w w' h0 e h1
    rcases h' with ⟨P2, _, q4, rfl⟩ | ⟨_, q⟩
    · exact Nat.le_trans (q4 P' q1) q2
    · exact absurd q1 (q P')
  · rcases h' with ⟨P2, q3, _, rfl⟩ | ⟨rfl, _⟩
    · have a := (pth_sub pl' w' h0' q3).2.1
      have b := wants_len pl'.ok go'.mem
      have c := pl'.ok.len
      omega
    · exact Nat.le_refl _
/-! bounds of a plan -/
section
variable {R : Rows} {N : List Str} {lim : Int}
theorem pth_weigh (pl : PlOk R) (w : WOk R N) (h0 : 0 ≤ lim) {K : List Str} {P : List (List Str)} (h : Pth R N lim K P) : wsum R P.flatten ≤ (P.length : Int) * lim ∧ ∀ lot ∈ P, wsum R lot ≤ lim := by
  induction h with
  | nil => exact ⟨by show (0 : Int) ≤ ((0 : Nat) : Int) * lim; simp, fun l hl => by cases hl⟩
  | @snoc K P lot hp hl ih =>
    have m3 := ((lot_in pl w h0).mp hl).2.2
    refine ⟨?_, fun l hl => ?_⟩
    · rw [List.flatten_append, wsum_app, List.length_append, List.length_singleton]
      have : wsum R [lot].flatten = wsum R lot := by simp
      rw [this, Int.natCast_add, Int.add_mul]
      have := ih.1
      simp only [Int.natCast_one, Int.one_mul]
      omega
    · rcases List.mem_append.mp hl with hl | hl
      · exact ih.2 l hl
      · rw [List.mem_singleton.mp hl]; exact m3
theorem wt_le_sum {l : List Str} (h : ∀ x ∈ l, 0 ≤ wtOf R x) {x : Str} (hx : x ∈ l) : wtOf R x ≤ wsum R l := by
  have := wsum_sub (R := R) (R' := R) (l' := [x]) (l := l) (by simp) (fun y hy => by rw [List.mem_singleton.mp hy]; exact hx) h fun _ _ => Int.le_refl _
  rwa [wsum_one] at this
theorem pth_perm (pl : PlOk R) (w : WOk R N) (h0 : 0 ≤ lim) {P : List (List Str)} (h : Pth R N lim N P) : P.flatten.Perm N := by
  have nd := (seq_nd (N := N) (pth_seq pl w h0 h) List.nodup_nil (fun s hs => by cases hs) fun y hy s hs => ((pth_sub pl w h0 h).2.2 y hy).1.subset hs).1
  rw [List.nil_append] at nd
  exact perm_same nd w.nd (pth_mem h)
/-- in which year each course stands -/
theorem pth_pos {K : List Str} {P : List (List Str)} (h : Pth R N lim K P) (pl : PlOk R) (w : WOk R N) (h0 : 0 ≤ lim) : ∃ pos : Str → Nat, ∀ x ∈ K, 1 ≤ pos x ∧ pos x ≤ P.length ∧ ∀ y ∈ nb R x, y ∈ K ∧ pos y + 1 ≤ pos x := by
  induction h with
  | nil => exact ⟨fun _ => 0, fun x hx => by cases hx⟩
  | @snoc K P lot hp hl ih =>
    obtain ⟨pos, hpos⟩ := ih
    have m1 := ((lot_in pl w h0).mp hl).1
    have inlot : ∀ x ∈ lot, x ∉ K ∧ ∀ y ∈ nb R x, y ∈ K := fun x hx => by
      have := (List.mem_filter.mp (m1.subset hx)).2
      rw [Bool.and_eq_true, decide_eq_true_eq, List.all_eq_true] at this
      exact ⟨this.1, fun y hy => of_decide_eq_true (this.2 y hy)⟩
    have mem : ∀ x, x ∈ srt (K ++ lot) ↔ x ∈ K ∨ x ∈ lot := fun x => by rw [(srt_perm _).mem_iff, List.mem_append]
    have ln : (P ++ [lot]).length = P.length + 1 := by simp
    refine ⟨fun x => if x ∈ lot then P.length + 1 else pos x, fun x hx => ?_⟩
    rw [ln]
    show 1 ≤ (if x ∈ lot then P.length + 1 else pos x) ∧ (if x ∈ lot then P.length + 1 else pos x) ≤ P.length + 1 ∧ ∀ y ∈ nb R x, y ∈ srt (K ++ lot) ∧ (if y ∈ lot then P.length + 1 else pos y) + 1 ≤ (if x ∈ lot then P.length + 1 else pos x)
    by_cases c : x ∈ lot
    · obtain ⟨_, z2⟩ := inlot x c
      refine ⟨by rw [if_pos c]; omega, by rw [if_pos c]; omega, fun y hy => ⟨(mem y).mpr (.inl (z2 y hy)), ?_⟩⟩
      have hy' := z2 y hy
      rw [if_pos c, if_neg fun q => (inlot y q).1 hy']
      have := (hpos y hy').2.1
      omega
    · have hk := ((mem x).mp hx).resolve_right c
      obtain ⟨a1, a2, a3⟩ := hpos x hk
      refine ⟨by rw [if_neg c]; exact a1, by rw [if_neg c]; omega, fun y hy => ⟨(mem y).mpr (.inl (a3 y hy).1), ?_⟩⟩
      rw [if_neg c, if_neg fun q => (inlot y q).1 (a3 y hy).1]
      exact (a3 y hy).2
end
end Y

set_option Elab.async false
set_option linter.all false
set_option maxRecDepth 100000
set_option maxHeartbeats 4000000
/-! k32: the law's depths -/
namespace Y
open PySem PySem.Spec PyProof.Rows L2 PySem.W
def depD (R : Rows) (f : Str → Int) : D := .nd (.dK ((nms R).map Sum.inr)) ((nms R).map fun s => D.int (f s))
theorem getK_map (f : Str → D) : ∀ {l : List Str} {s : Str}, s ∈ l → getK (l.map (Sum.inr : Str → Key)) (l.map f) (Sum.inr s) = some (f s)
  | a :: l, s, h => by
    by_cases e : a = s
    · subst e; simp [getK]
    · have h' : s ∈ l := (List.mem_cons.mp h).resolve_left fun q => e q.symm
      have e2 : getK ((a :: l).map (Sum.inr : Str → Key)) ((a :: l).map f) (Sum.inr s) = getK (l.map (Sum.inr : Str → Key)) (l.map f) (Sum.inr s) := by
        have : ¬ (Sum.inr a : Key) = Sum.inr s := fun z => e (Sum.inr.inj z)
        simp [getK, this]
      rw [e2]
      exact getK_map f h'
theorem ix_dep {R : Rows} {f : Str → Int} {s : Str} (h : s ∈ nms R) : dIx (depD R f) (.str s) = some (.int (f s)) := by
  have : dIx (depD R f) (.str s) = (lookD (depD R f) (.str s)).bind id := rfl
  rw [this]
  show (some (getK ((nms R).map (Sum.inr : Str → Key)) ((nms R).map fun s => D.int (f s)) (Sum.inr s))).bind id = _
  rw [getK_map _ h]
  rfl
def updI (f : Str → Int) (s : Str) (v : Int) : Str → Int := fun x => if x = s then v else f x
theorem zip_upd (f : Str → Int) (s : Str) (v : Int) : ∀ l : List Str, List.zipWith (fun (k' : Key) (d' : D) => if k' = Sum.inr s then D.int v else d') (l.map Sum.inr) (l.map fun s => D.int (f s)) = l.map fun x => D.int (updI f s v x)
  | [] => rfl
  | a :: l => by
    rw [List.map_cons, List.map_cons, List.zipWith_cons_cons, zip_upd f s v l, List.map_cons]
    congr 1
    unfold updI
    by_cases e : a = s
    · subst e; simp
    · have : ¬ (Sum.inr a : Key) = Sum.inr s := fun z => e (Sum.inr.inj z)
      rw [if_neg this, if_neg e]
theorem put_dep {R : Rows} (ok : RowsOk R) {f : Str → Int} {s : Str} (h : s ∈ nms R) (v : Int) : gSetD (depD R f) (.str s) (.int v) = some (depD R (updI f s v)) := by
  have hin : (Sum.inr s : Key) ∈ (nms R).map (Sum.inr : Str → Key) := List.mem_map.mpr ⟨s, h, rfl⟩
  have l10 := names_len ok
  show (if ((nms R).map (Sum.inr : Str → Key)).length < sizeLine then some (D.nd (.dK (putKs ((nms R).map Sum.inr) (Sum.inr s))) (putDs ((nms R).map Sum.inr) ((nms R).map fun s => D.int (f s)) (Sum.inr s) (.int v))) else none) = _
  rw [if_pos (by rw [List.length_map]; exact Nat.lt_of_le_of_lt (show _ ≤ 10 from l10) (by decide))]
  unfold putKs putDs
  rw [if_pos hin, if_pos hin, zip_upd]
  rfl
def Dep (R : Rows) (f : Str → Int) : Prop := ∀ (N : List Str) (pos : Str → Nat), (∀ x ∈ N, 1 ≤ pos x ∧ ∀ y ∈ nb R x, y ∈ N ∧ pos y + 1 ≤ pos x) → ∀ x ∈ N, f x ≤ (pos x : Int)
theorem dep_upd {R : Rows} {f : Str → Int} (h : Dep R f) (s : Str) : Dep R (updI f s (maxL (1 :: (nb R s).map fun y => 1 + f y))) := fun N pos hp x hx => by
  unfold updI
  by_cases e : x = s
  · rw [if_pos e]
    subst e
    obtain ⟨a1, a2⟩ := hp x hx
    have hm := maxL_mem (l := 1 :: (nb R x).map fun y => 1 + f y) (by simp)
    rcases List.mem_cons.mp hm with q | q
    · rw [q]; omega
    · obtain ⟨y, hy, q⟩ := List.mem_map.mp q
      rw [← q]
      obtain ⟨b1, b2⟩ := a2 y hy
      have := h N pos hp y b1
      omega
  · rw [if_neg e]; exact h N pos hp x hx
def dpE (R : Rows) (f : Str → Int) (x3 x4 : Option S) : En := [some (.f (coursesD R)), some (.f (dictD R)), some (.o (depD R f)), x3, x4, none]
abbrev depB : En → Y.R Fl := (sPut 2 gSetD (sVar 4) (s1 dMaxL (sBin dPlus (sMk .lst (sCons (sC (.int 1)) sNil)) (sLc (sIt (sBin dIx (sVar 1) (sVar 4))) (hName 5) sYes (sBin dPlus (sC (.int 1)) (sIxV 2 (sVar 5))) [5]))))
theorem intsD_map {α : Type} (f : α → Int) (l : List α) : intsD (l.map fun a => D.int (f a)) = some (l.map f) := by
  induction l with
  | nil => rfl
  | cons a l ih =>
    rw [List.map_cons, List.map_cons]
    show (intsD (l.map fun a => D.int (f a))).map (f a :: ·) = _
    rw [ih]
    rfl
theorem max_ok {l : List Int} (h : l ≠ []) : dMaxL (.nd .lst (l.map D.int)) = some (.int (maxL l)) := by
  show (match intsD (l.map D.int) with | some bs => if bs = [] then none else some (D.int (maxL bs)) | none => none) = _
  have := intsD_map id l
  rw [List.map_id] at this
  rw [show l.map D.int = l.map fun a => D.int (id a) from rfl, this]
  dsimp only
  rw [if_neg h]
theorem dep_one {R : Rows} (ok : RowsOk R) (f : Str → Int) {s : Str} (h : s ∈ nms R) (x3 : Option S) : depB (dpE R f x3 (some (.f (.str s)))) = .ok .nx (dpE R (updI f s (maxL (1 :: (nb R s).map fun y => 1 + f y))) x3 (some (.f (.str s)))) := by
  have nf := nb_few ok s
  have e1 : sLc (sIt (sBin dIx (sVar 1) (sVar 4))) (hName 5) sYes (sBin dPlus (sC (.int 1)) (sIxV 2 (sVar 5))) [5] (dpE R f x3 (some (.f (.str s)))) = .ok (.nd .lst ((nb R s).map fun y => D.int (1 + f y))) (dpE R f x3 (some (.f (.str s)))) :=
    slc_ty2 (ρ1 := dpE R f x3 (some (.f (.str s)))) D.str (fun _ => true) (fun y => D.int (1 + f y)) (nb R s) (dIx_needs h rfl rfl) rfl (fun y hy => ⟨(dpE R f x3 (some (.f (.str s)))).set 5 (some (.f (.str y))), rfl, rfl, fun _ => bin_ok (x := .int 1) (y := .int (f y)) rfl (ixv_ok (d := depD R f) (k := .str y) rfl rfl (ix_dep (nb_sub ok hy))) rfl, rfl⟩) (by omega) (by rw [List.filter_eq_self.mpr fun _ _ => rfl])
  have e2 : s1 dMaxL (sBin dPlus (sMk .lst (sCons (sC (.int 1)) sNil)) (sLc (sIt (sBin dIx (sVar 1) (sVar 4))) (hName 5) sYes (sBin dPlus (sC (.int 1)) (sIxV 2 (sVar 5))) [5])) (dpE R f x3 (some (.f (.str s)))) = .ok (.int (maxL (1 :: (nb R s).map fun y => 1 + f y))) (dpE R f x3 (some (.f (.str s)))) := by
    refine s1_ok (d := .nd .lst ((1 :: (nb R s).map fun y => 1 + f y).map D.int)) (bin_ok (x := .nd .lst [.int 1]) (mk_ok (ds := [.int 1]) rfl (small (show 1 ≤ 100000 by decide))) e1 ?_) (max_ok (by simp))
    have := dtcat (a := [.int 1]) (b := (nb R s).map fun y => D.int (1 + f y)) (small (by rw [List.length_map]; show 1 + _ ≤ 100000; omega))
    rw [this]
    show some (D.nd .lst _) = some (D.nd .lst _)
    congr 2
    rw [List.map_cons, List.map_map]
    rfl
  exact (put_ok (i := 2) (fk := sVar 4) (k := .str s) (d0 := depD R f) e2 rfl rfl (put_dep ok h _)).trans rfl
theorem deps_run {R : Rows} (ok : RowsOk R) (x3 : Option S) : ∀ (l : List Str) (f : Str → Int) (x4 : Option S), (∀ s ∈ l, s ∈ nms R) → Dep R f → ∃ f' y4, forL (hName 4) depB (nD l) (dpE R f x3 x4) = .ok .nx (dpE R f' x3 y4) ∧ Dep R f'
  | [], f, x4, _, h => ⟨f, x4, rfl, h⟩
  | s :: l, f, x4, hl, h => by
    obtain ⟨f', y4, e, h'⟩ := deps_run ok x3 l _ (some (.f (.str s))) (fun x hx => hl x (List.mem_cons_of_mem _ hx)) (dep_upd h s)
    refine ⟨f', y4, ?_, h'⟩
    rw [show nD (s :: l) = .str s :: nD l from rfl]
    conv => lhs; unfold forL
    rw [show hName 4 (.str s) (dpE R f x3 x4) = some (dpE R f x3 (some (.f (.str s)))) from rfl]
    dsimp only
    rw [dep_one ok f (hl s List.mem_cons_self)]
    exact e
theorem ky_names (R : Rows) (ds : List D) : kyD ((nms R).map Sum.inr) ds = nD (nms R) := by
  show ((nms R).map (Sum.inr : Str → Key)).map kD = _
  rw [List.map_map]
  rfl
theorem dep_turn {R : Rows} (ok : RowsOk R) (f : Str → Int) (x3 x4 : Option S) (h : Dep R f) : ∃ f' y4, sForD 1 kyD (hName 4) depB (dpE R f x3 x4) = .ok .nx (dpE R f' x3 y4) ∧ Dep R f' := by
  obtain ⟨f', y4, e, h'⟩ := deps_run ok x3 (nms R) f x4 (fun s hs => hs) h
  refine ⟨f', y4, ?_, h'⟩
  show noX (forL (hName 4) depB (kyD ((nms R).map Sum.inr) (R.map fun r => tD r.2.2)) (dpE R f x3 x4)) = _
  rw [ky_names, e]
  rfl
theorem pairs_dep (f : Str → Int) : ∀ l : List Str, pairsD (l.map fun s => D.nd .tup [.str s, .int (f s)]) = some (l.map Sum.inr, l.map fun s => D.int (f s))
  | [] => rfl
  | s :: l => by
    show (match keyD (D.str s), pairsD (l.map fun s => D.nd .tup [.str s, .int (f s)]) with | some q, some (qs, es) => some (q :: qs, D.int (f s) :: es) | _, _ => none) = _
    rw [pairs_dep f l]
    rfl
theorem depths_ok {R : Rows} (ok : RowsOk R) : ∃ f, fs__law_depths [coursesD R] = .val true (depD R f) none ∧ Dep R f := by
  have l10 := ok.len
  have n10 := names_len ok
  have p1 : sSet 1 (s1 dDict (sLc (sIt (sVar 0)) (hName 5) sYes (sMk .tup (sCons (sBin dIx (sVar 5) (sC (.int 0))) (sCons (sBin dIx (sVar 5) (sC (.int 2))) sNil))) [5])) [some (.f (coursesD R)), none, none, none, none, none] = .ok .nx [some (.f (coursesD R)), some (.f (dictD R)), none, none, none, none] :=
    set_call (i := 1) (ρ1 := [some (.f (coursesD R)), none, none, none, none, none]) (s1_ok (d := .nd .lst (R.map pairD)) (slc_ty2 (ρ1 := [some (.f (coursesD R)), none, none, none, none, none]) rowD (fun _ => true) pairD R rfl rfl (fun r _ => ⟨[some (.f (coursesD R)), none, none, none, none, some (.f (rowD r))], rfl, rfl, fun _ => mk_ok (ds := [.str r.1, tD r.2.2]) (cons_ok (bin_ok (x := rowD r) rfl rfl rfl) (one_ok (bin_ok (x := rowD r) rfl rfl rfl))) (small (show 2 ≤ 100000 by decide)), rfl⟩) (by omega) (by rw [List.filter_eq_self.mpr fun _ _ => rfl])) (dict_rows ok))
  have p2 : sSetO 2 (s1 dDict (sLcD 1 kyD (hName 4) sYes (sMk .tup (sCons (sVar 4) (sCons (sC (.int 1)) sNil))) [4])) [some (.f (coursesD R)), some (.f (dictD R)), none, none, none, none] = .ok .nx (dpE R (fun _ => 1) none none) := by
    refine setO_ok (ρ1 := [some (.f (coursesD R)), some (.f (dictD R)), none, none, none, none]) (d := depD R fun _ => 1) (s1_ok (d := .nd .lst ((nms R).map fun s => D.nd .tup [.str s, .int 1])) ?_ ?_)
    · show lcL (hName 4) sYes (sMk .tup (sCons (sVar 4) (sCons (sC (.int 1)) sNil))) [4] (kyD ((nms R).map Sum.inr) (R.map fun r => tD r.2.2)) [some (.f (coursesD R)), some (.f (dictD R)), none, none, none, none] [] = _
      rw [ky_names]
      have := lc_ty (g := hName 4) (t := sYes) (e := sMk .tup (sCons (sVar 4) (sCons (sC (.int 1)) sNil))) (vs := [4]) (ρ := [some (.f (coursesD R)), some (.f (dictD R)), none, none, none, none]) D.str (fun _ => true) (fun s => D.nd .tup [.str s, .int 1]) (nms R) [] (fun s _ => ⟨[some (.f (coursesD R)), some (.f (dictD R)), none, none, some (.f (.str s)), none], rfl, rfl, fun _ => mk_ok (ds := [.str s, .int 1]) rfl (small (show 2 ≤ 100000 by decide)), rfl⟩) (by simp; omega)
      rw [List.filter_eq_self.mpr fun _ _ => rfl, List.nil_append] at this
      exact this
    · show (pairsD ((nms R).map fun s => D.nd .tup [.str s, .int 1])).map (fun p => D.nd (.dK (mergeD [] [] p.1 p.2).1) (mergeD [] [] p.1 p.2).2) = _
      rw [pairs_dep (fun _ => 1), Option.map_some, merge_new _ [] _ [] (by simpa using nodup_inr ok.nd) (by simp)]
      rfl
  have d0 : Dep R fun _ => 1 := fun N pos hp x hx => by
    have := (hp x hx).1
    show (1 : Int) ≤ _
    omega
  have rg : sRg rg1 (sCons (s1 dLen' (sBor 0)) sNil) (dpE R (fun _ => 1) none none) = .ok ((List.range' 0 R.length).map fun i : Nat => D.int (i : Int)) (dpE R (fun _ => 1) none none) :=
    rgs (n := R.length) (by omega) _ _ (s1_ok (g := dLen') (d := coursesD R) rfl (by show dLen' (.nd .tup (R.map rowD)) = _; rw [len_nd (.inr rfl), List.length_map]))
  obtain ⟨ρ', e, f, y3, y4, h1, h2⟩ := forL_inv (g := hName 3) (b := sForD 1 kyD (hName 4) depB) (fun j ρ => ∃ f x3 x4, ρ = dpE R f x3 x4 ∧ Dep R f) ((List.range' 0 R.length).map fun i : Nat => D.int (i : Int)) 0 _ ⟨fun _ => 1, none, none, rfl, d0⟩ (fun i d ρ hd ⟨f, x3, x4, e, h⟩ => by
    subst e
    obtain ⟨f', y4, e, h'⟩ := dep_turn ok f (some (.f d)) x4 h
    exact ⟨_, _, rfl, e, f', _, _, rfl, h'⟩)
  subst h1
  refine ⟨f, ?_, h2⟩
  have ee : m__law_depths [some (.f (coursesD R)), none, none, none, none, none] = .ok (.ro (depD R f)) [some (.f (coursesD R)), some (.f (dictD R)), none, y3, y4, none] := by
    unfold m__law_depths
    exact (seq_ok p1).trans ((seq_ok p2).trans ((seq_ok (for_ok rg e)).trans rfl))
  show finF false (m__law_depths _) = _
  rw [show (argS false [coursesD R] ++ List.replicate (6 - 1) none : En) = [some (.f (coursesD R)), none, none, none, none, none] from rfl, ee]
  rfl
end Y

set_option Elab.async false
set_option linter.all false
set_option maxRecDepth 100000
set_option maxHeartbeats 4000000
/-! k32: years, bounds -/
namespace Y
open PySem PySem.Spec PyProof.Rows L2 PySem.W
theorem lt_int (a b : Int) : dLt (.int a) (.int b) = some (decide (a < b)) := rfl
theorem mul_lim {n : Nat} (h : n ≤ 1000) (l : Int) : dMul (iN n) (.int l) = some (.int ((n : Int) * l)) := by
  rw [iN, dMul_int (by omega)]
theorem years_ok {R : Rows} {gs : List Str} {lim : Int} {B : Nat} (h : Pl R gs lim B) : ∃ y, fs__law_years [coursesD R, lD gs, .int lim] = .val false (iN y) none ∧ Yr R gs lim y := by
  obtain ⟨r, e1, hr⟩ := plan_ok h
  have f : sSet 3 (sCall fs_plan (sCons (sVar 0) (sCons (sVar 1) (sCons (sVar 2) sNil)))) [some (.f (coursesD R)), some (.f (lD gs)), some (.f (.int lim)), none] = .ok .nx [some (.f (coursesD R)), some (.f (lD gs)), some (.f (.int lim)), some (.f r)] := set_call (i := 3) (ρ1 := [some (.f (coursesD R)), some (.f (lD gs)), some (.f (.int lim)), none]) (call_ok (ds := [coursesD R, lD gs, .int lim]) rfl e1)
  rcases hr with ⟨P, rfl, h1, h2⟩ | ⟨rfl, h1⟩
  · refine ⟨P.length, fin_ok (ρ := [some (.f (coursesD R)), some (.f (lD gs)), some (.f (.int lim)), some (.f (planD P))]) rfl ?_, .inl ⟨P, h1, h2, rfl⟩⟩
    show m__law_years [some (.f (coursesD R)), some (.f (lD gs)), some (.f (.int lim)), none] = _
    unfold m__law_years
    refine (seq_ok f).trans (ret_ok ?_)
    have t : sBin dIs (sVar 3) (sC .non) [some (.f (coursesD R)), some (.f (lD gs)), some (.f (.int lim)), some (.f (planD P))] = .ok false [some (.f (coursesD R)), some (.f (lD gs)), some (.f (.int lim)), some (.f (planD P))] := bin_ok (x := planD P) (y := .non) rfl rfl rfl
    unfold sIf
    rw [t]
    exact s1_ok (d := planD P) rfl (len_plan P)
  · refine ⟨99, fin_ok (ρ := [some (.f (coursesD R)), some (.f (lD gs)), some (.f (.int lim)), some (.f .non)]) rfl ?_, .inr ⟨rfl, h1⟩⟩
    show m__law_years [some (.f (coursesD R)), some (.f (lD gs)), some (.f (.int lim)), none] = _
    unfold m__law_years
    exact (seq_ok f).trans rfl
theorem callO_ok {fs : List D → FO} {f : En → Y.R (List D)} {ρ ρ1 : En} {ds : List D} {d : D} {x : Option D} (e : f ρ = .ok ds ρ1) (e2 : fs ds = .val true d x) : sCallO fs f ρ = .ok d ρ1 := by
  unfold sCallO
  rw [e]
  show (match fs ds with | .val true d _ => R.ok d ρ1 | _ => .bad) = _
  rw [e2]
theorem aheads_ok {R : Rows} (ok : RowsOk R) {g : Str} (h : g ∈ nms R) : fs_ahead [coursesD R, .str g] = .val true (lD (turns R g 10)) none := by
  have e0 : sCallO fs_all_ahead (sCons (sCall fs_needs_of (sCons (sVar 0) sNil)) (sCons (sVar 1) sNil)) [some (.f (coursesD R)), some (.f (.str g))] = .ok (lD (turns R g 10)) [some (.f (coursesD R)), some (.f (.str g))] := callO_ok (ds := [dictD R, .str g]) (cons_ok (call_ok (ds := [coursesD R]) rfl (needs_ok ok)) rfl) (ahead_turns ok h)
  have e : m_ahead [some (.f (coursesD R)), some (.f (.str g))] = .ok (.ro (lD (turns R g 10))) [some (.f (coursesD R)), some (.f (.str g))] := by
    unfold m_ahead sRetO
    rw [e0]
    rfl
  show finF false (m_ahead _) = _
  rw [show (argS false [coursesD R, .str g] ++ List.replicate (2 - 2) none : En) = [some (.f (coursesD R)), some (.f (.str g))] from rfl, e]
  rfl
/-! weights of the chosen -/
theorem row_uniq : ∀ {R : Rows} {r r' : Str × Int × List Str}, (nms R).Nodup → r ∈ R → r' ∈ R → r.1 = r'.1 → r = r'
  | a :: R, r, r', nd, h, h', e => by
    have nd' := List.nodup_cons.mp (show (a.1 :: nms R).Nodup from nd)
    have hin : ∀ x : Str × Int × List Str, x ∈ R → x.1 ∈ nms R := fun x hx => List.mem_map.mpr ⟨x, hx, rfl⟩
    rcases List.mem_cons.mp h with q | q
    · rcases List.mem_cons.mp h' with q' | q'
      · rw [q, q']
      · exact absurd (show a.1 ∈ nms R by rw [← q, e]; exact hin r' q') nd'.1
    · rcases List.mem_cons.mp h' with q' | q'
      · exact absurd (show a.1 ∈ nms R by rw [← q', ← e]; exact hin r q) nd'.1
      · exact row_uniq nd'.2 q q' e
theorem wt_row {R : Rows} (ok : RowsOk R) {r : Str × Int × List Str} (h : r ∈ R) : wtOf R r.1 = r.2.1 := by
  obtain ⟨r', h1, h2, h3⟩ := wtOf_row (List.mem_map.mpr ⟨r, h, rfl⟩ : r.1 ∈ nms R)
  rw [h3, row_uniq ok.nd h1 h h2]
def chosenL (R : Rows) (gs : List Str) : List Str := gs ++ gs.flatMap fun g => turns R g 10
theorem chosen_mem {R : Rows} {gs : List Str} {x : Str} : x ∈ chosenL R gs ↔ x ∈ wants R gs := by
  unfold chosenL
  rw [List.mem_append, List.mem_flatMap, wants_mem]
  constructor
  · rintro (q | ⟨g, hg, q⟩)
    · exact ⟨x, q, .inl rfl⟩
    · exact ⟨g, hg, .inr q⟩
  · rintro ⟨g, hg, rfl | q⟩
    · exact .inl hg
    · exact .inr ⟨g, hg, q⟩
def rowsW (R : Rows) (gs : List Str) : Rows := R.filter fun r => decide (r.1 ∈ chosenL R gs)
def weiL (R : Rows) (gs : List Str) : List Int := (rowsW R gs).map (·.2.1)
theorem wei_perm {R : Rows} (ok : RowsOk R) {gs : List Str} (hg : ∀ g ∈ gs, g ∈ nms R) : ((rowsW R gs).map (·.1)).Perm (wants R gs) :=
  perm_same (ok.nd.sublist (List.filter_sublist.map _)) (wants_nd R gs) fun x => by
    rw [List.mem_map]
    constructor
    · rintro ⟨r, hr, rfl⟩
      exact chosen_mem.mp (of_decide_eq_true (List.mem_filter.mp hr).2)
    · intro h
      obtain ⟨r, hr, rfl⟩ := List.mem_map.mp (wants_sub ok hg x h)
      exact ⟨r, List.mem_filter.mpr ⟨hr, decide_eq_true (chosen_mem.mpr h)⟩, rfl⟩
theorem wei_eq {R : Rows} (ok : RowsOk R) (gs : List Str) : weiL R gs = ((rowsW R gs).map (·.1)).map (wtOf R) := by
  unfold weiL
  rw [List.map_map]
  exact List.map_congr_left fun r hr => (wt_row ok (List.mem_filter.mp hr).1).symm
theorem wei_sum {R : Rows} (ok : RowsOk R) {gs : List Str} (hg : ∀ g ∈ gs, g ∈ nms R) : (weiL R gs).sum = wsum R (wants R gs) := by
  rw [wei_eq ok]
  exact wsum_perm (wei_perm ok hg)
theorem wei_len {R : Rows} (ok : RowsOk R) {gs : List Str} (hg : ∀ g ∈ gs, g ∈ nms R) : (weiL R gs).length = (wants R gs).length := by
  rw [wei_eq ok, List.length_map]
  exact (wei_perm ok hg).length_eq
theorem wei_mem {R : Rows} (ok : RowsOk R) {gs : List Str} (hg : ∀ g ∈ gs, g ∈ nms R) {z : Int} : z ∈ weiL R gs ↔ ∃ x ∈ wants R gs, wtOf R x = z := by
  rw [wei_eq ok, List.mem_map]
  exact ⟨fun ⟨x, hx, e⟩ => ⟨x, (wei_perm ok hg).mem_iff.mp hx, e⟩, fun ⟨x, hx, e⟩ => ⟨x, (wei_perm ok hg).mem_iff.mpr hx, e⟩⟩
def brE (R : Rows) (gs : List Str) (lim : Int) (x3 x4 x5 x6 x7 x8 x9 x10 : Option S) : En := [some (.f (coursesD R)), some (.f (lD gs)), some (.f (.int lim)), x3, x4, x5, x6, x7, x8, x9, x10, none, none]
section
variable {R : Rows} {gs : List Str} {lim : Int}
theorem chosen_run (ok : RowsOk R) (gs : List Str) : ∀ (l m : List Str) (x4 : Option S), (∀ g ∈ l, g ∈ nms R) → m.length + 10 * l.length ≤ 10000 → ∃ y4, forL (hName 4) (sSet 3 (sBin dPlus (sVar 3) (sCall fs_ahead (sCons (sVar 0) (sCons (sVar 4) sNil))))) (nD l) (brE R gs lim (some (.f (lD m))) x4 none none none none none none) = .ok .nx (brE R gs lim (some (.f (lD (m ++ l.flatMap fun g => turns R g 10)))) y4 none none none none none none)
  | [], m, x4, _, _ => ⟨x4, by rw [List.flatMap_nil, List.append_nil]; rfl⟩
  | g :: l, m, x4, hm, hl => by
    rw [List.length_cons] at hl
    have lt := turns_len ok g 10
    obtain ⟨y4, e⟩ := chosen_run ok gs l (m ++ turns R g 10) (some (.f (.str g))) (fun x hx => hm x (List.mem_cons_of_mem _ hx)) (by rw [List.length_append]; omega)
    refine ⟨y4, ?_⟩
    rw [show nD (g :: l) = .str g :: nD l from rfl]
    conv => lhs; unfold forL
    rw [show hName 4 (.str g) (brE R gs lim (some (.f (lD m))) x4 none none none none none none) = some (brE R gs lim (some (.f (lD m))) (some (.f (.str g))) none none none none none none) from rfl]
    dsimp only
    have f : sSet 3 (sBin dPlus (sVar 3) (sCall fs_ahead (sCons (sVar 0) (sCons (sVar 4) sNil)))) (brE R gs lim (some (.f (lD m))) (some (.f (.str g))) none none none none none none) = .ok .nx (brE R gs lim (some (.f (lD (m ++ turns R g 10)))) (some (.f (.str g))) none none none none none none) := by
      refine set_call (i := 3) (ρ1 := brE R gs lim (some (.f (lD m))) (some (.f (.str g))) none none none none none none) (bin_ok (x := lD m) (y := lD (turns R g 10)) rfl (call_ok (ds := [coursesD R, .str g]) rfl (aheads_ok ok (hm g List.mem_cons_self))) ?_)
      rw [show lD (m ++ turns R g 10) = .nd .lst (nD m ++ nD (turns R g 10)) by rw [lD, nD, List.map_append]]
      exact dtcat (small (by rw [List.length_map, List.length_map]; omega))
    rw [f]
    dsimp only
    rw [e, List.flatMap_cons, List.append_assoc]
theorem flat_run (x3 x4 x5 x6 x7 x8 : Option S) : ∀ (P : List (List Str)) (m : List Str) (x10 : Option S), m.length + P.flatten.length ≤ 10000 → ∃ y10, forL (hName 10) (sSet 9 (sBin dPlus (sVar 9) (sBor 10))) (P.map lD) (brE R gs lim x3 x4 x5 x6 x7 x8 (some (.f (lD m))) x10) = .ok .nx (brE R gs lim x3 x4 x5 x6 x7 x8 (some (.f (lD (m ++ P.flatten)))) y10)
  | [], m, x10, _ => ⟨x10, by rw [List.flatten_nil, List.append_nil]; rfl⟩
  | l :: P, m, x10, hl => by
    rw [List.flatten_cons, List.length_append] at hl
    obtain ⟨y10, e⟩ := flat_run x3 x4 x5 x6 x7 x8 P (m ++ l) (some (.f (lD l))) (by rw [List.length_append]; omega)
    refine ⟨y10, ?_⟩
    rw [List.map_cons]
    conv => lhs; unfold forL
    rw [show hName 10 (lD l) (brE R gs lim x3 x4 x5 x6 x7 x8 (some (.f (lD m))) x10) = some (brE R gs lim x3 x4 x5 x6 x7 x8 (some (.f (lD m))) (some (.f (lD l)))) from rfl]
    dsimp only
    have f : sSet 9 (sBin dPlus (sVar 9) (sBor 10)) (brE R gs lim x3 x4 x5 x6 x7 x8 (some (.f (lD m))) (some (.f (lD l)))) = .ok .nx (brE R gs lim x3 x4 x5 x6 x7 x8 (some (.f (lD (m ++ l)))) (some (.f (lD l)))) := by
      refine set_call (i := 9) (ρ1 := brE R gs lim x3 x4 x5 x6 x7 x8 (some (.f (lD m))) (some (.f (lD l)))) (bin_ok (x := lD m) (y := lD l) rfl rfl ?_)
      rw [show lD (m ++ l) = .nd .lst (nD m ++ nD l) by rw [lD, nD, List.map_append]]
      exact dtcat (small (by rw [List.length_map, List.length_map]; omega))
    rw [f]
    dsimp only
    rw [e, List.flatten_cons, List.append_assoc]
theorem dok_ints (l : List Int) : dok (.nd .lst (l.map D.int)) = true := dk_dok (n := 1) (by decide) (dk_nd (.inl rfl) fun x hx => by
  obtain ⟨i, _, rfl⟩ := List.mem_map.mp hx
  exact dk_int _ _)
theorem bounds_ok (cr : CrsOk R) {B : Nat} (hp : Pl R gs lim B) : fs__law_bounds_right [coursesD R, lD gs, .int lim] = .val false (.bl true) none := by
  have pl := cr.pl
  have ok := pl.ok
  have go := hp.go
  have w := hp.w
  have h0 := hp.h0
  have gl := go.len
  have l10 := ok.len
  have n10 := hp.n10
  obtain ⟨told, e1, ht⟩ := plan_ok hp
  obtain ⟨f, e2, hf⟩ := depths_ok ok
  have fl : ∀ l : List Str, (l.flatMap fun g => turns R g 10).length ≤ 10 * l.length := fun l => by
    induction l with
    | nil => exact Nat.zero_le _
    | cons g l ih =>
      have := turns_len ok g 10
      rw [List.flatMap_cons, List.length_append, List.length_cons]; omega
  have flg := fl gs
  have csub : ∀ x ∈ chosenL R gs, x ∈ nms R := fun x hx => w.sub x (chosen_mem.mp hx)
  have cn : NmsOk (chosenL R gs) := fun s hs => ok.ok s (csub s hs)
  have clen : (chosenL R gs).length ≤ 300 := by unfold chosenL; rw [List.length_append]; omega
  obtain ⟨y4, r1⟩ := chosen_run (lim := lim) ok gs gs gs none go.mem (by omega)
  have W := wei_len ok go.mem
  refine run_ans rfl ?_
  show Ans m__law_bounds_right (brE R gs lim none none none none none none none none) _
  unfold m__law_bounds_right
  refine ans_seq (ρ1 := brE R gs lim (some (.f (lD gs))) none none none none none none none) rfl ?_
  refine ans_seq (ρ1 := brE R gs lim (some (.f (lD (chosenL R gs)))) y4 none none none none none none) (for_ok (src := sIt (sVar 1)) (ρ1 := brE R gs lim (some (.f (lD gs))) none none none none none none none) rfl r1) ?_
  have f5 : sSet 5 (sLc (sIt (sVar 0)) (hName 11) (sBin dIn (sBin dIx (sVar 11) (sC (.int 0))) (sBor 3)) (sBin dIx (sVar 11) (sC (.int 1))) [11]) (brE R gs lim (some (.f (lD (chosenL R gs)))) y4 none none none none none none) = .ok .nx (brE R gs lim (some (.f (lD (chosenL R gs)))) y4 (some (.f (.nd .lst ((weiL R gs).map D.int)))) none none none none none) :=
    set_call (i := 5) (ρ1 := brE R gs lim (some (.f (lD (chosenL R gs)))) y4 none none none none none none) (slc_ty2 (ρ1 := brE R gs lim (some (.f (lD (chosenL R gs)))) y4 none none none none none none) rowD (fun r => decide (r.1 ∈ chosenL R gs)) (fun r => D.int r.2.1) R rfl rfl (fun r hr => ⟨(brE R gs lim (some (.f (lD (chosenL R gs)))) y4 none none none none none none).set 11 (some (.f (rowD r))), rfl, bin_ok (x := .str r.1) (y := lD (chosenL R gs)) (bin_ok (x := rowD r) rfl rfl rfl) rfl (dIn_lst cn (ok.ok _ (List.mem_map.mpr ⟨r, hr, rfl⟩))), fun _ => bin_ok (x := rowD r) rfl rfl rfl, rfl⟩) (by omega) (by unfold weiL rowsW; rw [List.map_map]; rfl))
  refine ans_seq f5 ?_
  have f6 : sSet 6 (sCall fs_plan (sCons (sVar 0) (sCons (sVar 1) (sCons (sVar 2) sNil)))) (brE R gs lim (some (.f (lD (chosenL R gs)))) y4 (some (.f (.nd .lst ((weiL R gs).map D.int)))) none none none none none) = .ok .nx (brE R gs lim (some (.f (lD (chosenL R gs)))) y4 (some (.f (.nd .lst ((weiL R gs).map D.int)))) (some (.f told)) none none none none) :=
    set_call (i := 6) (ρ1 := brE R gs lim (some (.f (lD (chosenL R gs)))) y4 (some (.f (.nd .lst ((weiL R gs).map D.int)))) none none none none none) (call_ok (ds := [coursesD R, lD gs, .int lim]) rfl e1)
  refine ans_seq f6 ?_
  -- the right of the first test
  have right : ∀ told : D, ∀ c : Bool, (c = true ↔ ∃ x ∈ wants R gs, lim < wtOf R x) → sAndV (sCmp dNe (sVar 5) (sMk .lst sNil)) (sCmp dGt (s1 dMaxL (sBor 5)) (sBor 2)) (brE R gs lim (some (.f (lD (chosenL R gs)))) y4 (some (.f (.nd .lst ((weiL R gs).map D.int)))) (some (.f told)) none none none none) = .ok (.bl c) (brE R gs lim (some (.f (lD (chosenL R gs)))) y4 (some (.f (.nd .lst ((weiL R gs).map D.int)))) (some (.f told)) none none none none) := fun told c hc => by
    have a1 : sCmp dNe (sVar 5) (sMk .lst sNil) (brE R gs lim (some (.f (lD (chosenL R gs)))) y4 (some (.f (.nd .lst ((weiL R gs).map D.int)))) (some (.f told)) none none none none) = .ok (.bl (!(weiL R gs).isEmpty)) (brE R gs lim (some (.f (lD (chosenL R gs)))) y4 (some (.f (.nd .lst ((weiL R gs).map D.int)))) (some (.f told)) none none none none) := by
      unfold sCmp
      refine bin_ok (x := .nd .lst ((weiL R gs).map D.int)) rfl (mk_ok (ds := []) rfl (small (by decide))) ?_
      rw [dNe_nil (dok_ints _)]
      cases weiL R gs <;> rfl
    have ec : c = ((!(weiL R gs).isEmpty) && decide (lim < maxL (weiL R gs))) := by
      rw [Bool.eq_iff_iff, hc, Bool.and_eq_true, decide_eq_true_eq]
      constructor
      · rintro ⟨x, hx, hlt⟩
        have hm := (wei_mem ok go.mem).mpr ⟨x, hx, rfl⟩
        refine ⟨?_, ?_⟩
        · cases q : weiL R gs with
          | nil => rw [q] at hm; cases hm
          | cons _ _ => rfl
        · have := maxL_ge hm
          omega
      · rintro ⟨h1, h2⟩
        have hne : weiL R gs ≠ [] := fun q => by rw [q] at h1; cases h1
        obtain ⟨x, hx, e⟩ := (wei_mem ok go.mem).mp (maxL_mem hne)
        exact ⟨x, hx, by rw [e]; exact h2⟩
    rw [ec]
    refine and_ans a1 fun hne => ?_
    have hne' : weiL R gs ≠ [] := fun q => by rw [q] at hne; cases hne
    unfold sCmp
    exact bin_ok (x := .int (maxL (weiL R gs))) (y := .int lim) (s1_ok (d := .nd .lst ((weiL R gs).map D.int)) rfl (max_ok hne')) rfl (by show (dGt _ _).map D.bl = _; rw [gt_int]; rfl)
  rcases ht with ⟨P, rfl, hP, hmin⟩ | ⟨rfl, hno⟩
  · obtain ⟨_, pl1, pl2⟩ := pth_sub pl w h0 hP
    obtain ⟨ws, wl⟩ := pth_weigh pl w h0 hP
    have perm := pth_perm pl w h0 hP
    have hnone : (false = true ↔ ∃ x ∈ wants R gs, lim < wtOf R x) := ⟨(fun z => by cases z), fun ⟨x, hx, hlt⟩ => by
      obtain ⟨lot, hlot, hxl⟩ := List.mem_flatten.mp (perm.mem_iff.mpr hx)
      have := wt_le_sum (R := R) (l := lot) (fun y hy => by
        have := (pl.wt1 (w.sub y ((pl2 lot hlot).1.subset hy))).1
        omega) hxl
      have := wl lot hlot
      omega⟩
    have v6 : sCmp dIs (sVar 6) (sC .non) (brE R gs lim (some (.f (lD (chosenL R gs)))) y4 (some (.f (.nd .lst ((weiL R gs).map D.int)))) (some (.f (planD P))) none none none none) = .ok (.bl false) (brE R gs lim (some (.f (lD (chosenL R gs)))) y4 (some (.f (.nd .lst ((weiL R gs).map D.int)))) (some (.f (planD P))) none none none none) := by
      unfold sCmp
      exact bin_ok (x := planD P) (y := .non) rfl rfl rfl
    refine ans_guard (c := true) (v := true) (bin_ok (x := .bl false) (y := .bl false) v6 (right _ _ hnone) (dNe_self rfl)) fun _ => ?_
    have g2 : sBin dIs (sVar 6) (sC .non) (brE R gs lim (some (.f (lD (chosenL R gs)))) y4 (some (.f (.nd .lst ((weiL R gs).map D.int)))) (some (.f (planD P))) none none none none) = .ok false (brE R gs lim (some (.f (lD (chosenL R gs)))) y4 (some (.f (.nd .lst ((weiL R gs).map D.int)))) (some (.f (planD P))) none none none none) := bin_ok (x := planD P) (y := .non) rfl rfl rfl
    refine ans_seq (ρ1 := brE R gs lim (some (.f (lD (chosenL R gs)))) y4 (some (.f (.nd .lst ((weiL R gs).map D.int)))) (some (.f (planD P))) none none none none) ((if_no g2).trans rfl) ?_
    have f7 : sSet 7 (sCall fs__law_depths (sCons (sVar 0) sNil)) (brE R gs lim (some (.f (lD (chosenL R gs)))) y4 (some (.f (.nd .lst ((weiL R gs).map D.int)))) (some (.f (planD P))) none none none none) = .ok .nx (brE R gs lim (some (.f (lD (chosenL R gs)))) y4 (some (.f (.nd .lst ((weiL R gs).map D.int)))) (some (.f (planD P))) (some (.f (depD R f))) none none none) :=
      set_call (i := 7) (ρ1 := brE R gs lim (some (.f (lD (chosenL R gs)))) y4 (some (.f (.nd .lst ((weiL R gs).map D.int)))) (some (.f (planD P))) none none none none) (call_ok (ds := [coursesD R]) rfl e2)
    refine ans_seq f7 ?_
    have deep : s1 dMaxL (sBin dPlus (sMk .lst (sCons (sC (.int 0)) sNil)) (sLc (sIt (sVar 1)) (hName 12) sYes (sBin dIx (sVar 7) (sVar 12)) [12])) (brE R gs lim (some (.f (lD (chosenL R gs)))) y4 (some (.f (.nd .lst ((weiL R gs).map D.int)))) (some (.f (planD P))) (some (.f (depD R f))) none none none) = .ok (.int (maxL (0 :: gs.map f))) (brE R gs lim (some (.f (lD (chosenL R gs)))) y4 (some (.f (.nd .lst ((weiL R gs).map D.int)))) (some (.f (planD P))) (some (.f (depD R f))) none none none) := by
      refine s1_ok (d := .nd .lst ((0 :: gs.map f).map D.int)) (bin_ok (x := .nd .lst [.int 0]) (y := .nd .lst (gs.map fun g => D.int (f g))) (mk_ok (ds := [.int 0]) rfl (small (show 1 ≤ 100000 by decide))) (slc_ty2 (ρ1 := brE R gs lim (some (.f (lD (chosenL R gs)))) y4 (some (.f (.nd .lst ((weiL R gs).map D.int)))) (some (.f (planD P))) (some (.f (depD R f))) none none none) D.str (fun _ => true) (fun g => D.int (f g)) gs rfl rfl (fun g hg => ⟨(brE R gs lim (some (.f (lD (chosenL R gs)))) y4 (some (.f (.nd .lst ((weiL R gs).map D.int)))) (some (.f (planD P))) (some (.f (depD R f))) none none none).set 12 (some (.f (.str g))), rfl, rfl, fun _ => bin_ok (x := depD R f) (y := .str g) rfl rfl (ix_dep (go.mem g hg)), rfl⟩) (by omega) (by rw [List.filter_eq_self.mpr fun _ _ => rfl])) ?_) (max_ok (by simp))
      have := dtcat (a := [.int 0]) (b := gs.map fun g => D.int (f g)) (small (by rw [List.length_map]; show 1 + _ ≤ 100000; omega))
      rw [this]
      show some (D.nd .lst _) = some (D.nd .lst _)
      congr 2
      rw [List.map_cons, List.map_map]
      rfl
    refine ans_seq (set_call (i := 8) deep) ?_
    show Ans _ (brE R gs lim (some (.f (lD (chosenL R gs)))) y4 (some (.f (.nd .lst ((weiL R gs).map D.int)))) (some (.f (planD P))) (some (.f (depD R f))) (some (.f (.int (maxL (0 :: gs.map f))))) none none) _
    obtain ⟨pos, hpos⟩ := pth_pos hP pl w h0
    have hdeep : maxL (0 :: gs.map f) ≤ (P.length : Int) := by
      have hm := maxL_mem (l := 0 :: gs.map f) (by simp)
      rcases List.mem_cons.mp hm with q | q
      · rw [q]; omega
      · obtain ⟨g, hg, q⟩ := List.mem_map.mp q
        have hgN : g ∈ wants R gs := wants_mem.mpr ⟨g, hg, .inl rfl⟩
        have a := hf (wants R gs) pos (fun x hx => ⟨(hpos x hx).1, (hpos x hx).2.2⟩) g hgN
        have b := (hpos g hgN).2.1
        rw [← q]; omega
    have hsum : (weiL R gs).sum ≤ (P.length : Int) * lim := by
      rw [wei_sum ok go.mem, ← wsum_perm perm]
      exact ws
    have lenW : dLen' (.nd .lst ((weiL R gs).map D.int)) = some (iN (weiL R gs).length) := by rw [len_nd (.inl rfl), List.length_map]
    have ch : sChain dLe dLe id (sVar 8) (s1 dLen' (sBor 6)) (s1 dLen' (sBor 5)) (brE R gs lim (some (.f (lD (chosenL R gs)))) y4 (some (.f (.nd .lst ((weiL R gs).map D.int)))) (some (.f (planD P))) (some (.f (depD R f))) (some (.f (.int (maxL (0 :: gs.map f))))) none none) = .ok true (brE R gs lim (some (.f (lD (chosenL R gs)))) y4 (some (.f (.nd .lst ((weiL R gs).map D.int)))) (some (.f (planD P))) (some (.f (depD R f))) (some (.f (.int (maxL (0 :: gs.map f))))) none none) := by
      have b6 : s1 dLen' (sBor 6) (brE R gs lim (some (.f (lD (chosenL R gs)))) y4 (some (.f (.nd .lst ((weiL R gs).map D.int)))) (some (.f (planD P))) (some (.f (depD R f))) (some (.f (.int (maxL (0 :: gs.map f))))) none none) = .ok (iN P.length) (brE R gs lim (some (.f (lD (chosenL R gs)))) y4 (some (.f (.nd .lst ((weiL R gs).map D.int)))) (some (.f (planD P))) (some (.f (depD R f))) (some (.f (.int (maxL (0 :: gs.map f))))) none none) := s1_ok (d := planD P) rfl (len_plan P)
      have b5 : s1 dLen' (sBor 5) (brE R gs lim (some (.f (lD (chosenL R gs)))) y4 (some (.f (.nd .lst ((weiL R gs).map D.int)))) (some (.f (planD P))) (some (.f (depD R f))) (some (.f (.int (maxL (0 :: gs.map f))))) none none) = .ok (iN (weiL R gs).length) (brE R gs lim (some (.f (lD (chosenL R gs)))) y4 (some (.f (.nd .lst ((weiL R gs).map D.int)))) (some (.f (planD P))) (some (.f (depD R f))) (some (.f (.int (maxL (0 :: gs.map f))))) none none) := s1_ok (d := .nd .lst ((weiL R gs).map D.int)) rfl lenW
      have b8 : sVar 8 (brE R gs lim (some (.f (lD (chosenL R gs)))) y4 (some (.f (.nd .lst ((weiL R gs).map D.int)))) (some (.f (planD P))) (some (.f (depD R f))) (some (.f (.int (maxL (0 :: gs.map f))))) none none) = .ok (.int (maxL (0 :: gs.map f))) (brE R gs lim (some (.f (lD (chosenL R gs)))) y4 (some (.f (.nd .lst ((weiL R gs).map D.int)))) (some (.f (planD P))) (some (.f (depD R f))) (some (.f (.int (maxL (0 :: gs.map f))))) none none) := rfl
      unfold sChain
      rw [b8]
      simp only [bnd, b6, le_int, lift]
      rw [decide_eq_true hdeep]
      simp only [if_true, bnd, b5, le_int, lift]
      rw [decide_eq_true (by rw [W]; omega)]
      rfl
    refine ans_guard (c := true) (v := true) (or_no (not_ok (b := true) ch) (bin_ok (x := .int ((P.length : Int) * lim)) (y := .int (weiL R gs).sum) (bin_ok (x := iN P.length) (y := .int lim) (s1_ok (d := planD P) rfl (len_plan P)) rfl (mul_lim (by omega) lim)) (s1_ok (d := .nd .lst ((weiL R gs).map D.int)) rfl ?_) ?_)) fun _ => ?_
    · have := sum_gen id (weiL R gs)
      rw [List.map_id] at this
      exact this
    · rw [lt_int, decide_eq_false (by omega)]; rfl
    refine ans_seq (ρ1 := brE R gs lim (some (.f (lD (chosenL R gs)))) y4 (some (.f (.nd .lst ((weiL R gs).map D.int)))) (some (.f (planD P))) (some (.f (depD R f))) (some (.f (.int (maxL (0 :: gs.map f))))) (some (.f (lD []))) none) (set_call (i := 9) (d := lD []) (ρ1 := brE R gs lim (some (.f (lD (chosenL R gs)))) y4 (some (.f (.nd .lst ((weiL R gs).map D.int)))) (some (.f (planD P))) (some (.f (depD R f))) (some (.f (.int (maxL (0 :: gs.map f))))) none none) (mk_ok (ds := []) rfl (small (by decide)))) ?_
    have pfl := pth_flat hP
    obtain ⟨y10, e9⟩ := flat_run (R := R) (gs := gs) (lim := lim) (some (.f (lD (chosenL R gs)))) y4 (some (.f (.nd .lst ((weiL R gs).map D.int)))) (some (.f (planD P))) (some (.f (depD R f))) (some (.f (.int (maxL (0 :: gs.map f))))) P [] none (by show 0 + P.flatten.length ≤ 10000; omega)
    rw [List.nil_append] at e9
    refine ans_seq (for_ok (src := sIt (sVar 6)) (ρ1 := brE R gs lim (some (.f (lD (chosenL R gs)))) y4 (some (.f (.nd .lst ((weiL R gs).map D.int)))) (some (.f (planD P))) (some (.f (depD R f))) (some (.f (.int (maxL (0 :: gs.map f))))) (some (.f (lD []))) none) rfl e9) ?_
    have vP : vv 20 2 (planD P) = true := vL (by rw [List.length_map]; omega) fun y hy => by
      obtain ⟨l, hl, rfl⟩ := List.mem_map.mp hy
      exact vLot (fun s hs => cr.n10 s (w.sub s ((pl2 l hl).1.subset hs))) (by have := (pl2 l hl).1.length_le; omega)
    have t2 := isplan_ok pl go (lim := lim) vP (by decide) (by decide)
    rw [pln_true pl w h0 hP] at t2
    have hNn : NmsOk (wants R gs) := fun s hs => ok.ok s (w.sub s hs)
    have hPn : NmsOk P.flatten := fun s hs => hNn s (perm.mem_iff.mp hs)
    refine ans_ret1 (v := true) (and_ans (c := true) (d := true) ?_ fun _ => ?_)
    · unfold sCmp
      exact bin_ok (x := .bl true) (y := .bl true) (call_ok (ds := [coursesD R, lD gs, .int lim, planD P]) rfl t2) rfl rfl
    · unfold sCmp
      refine bin_ok (x := lD (srt P.flatten)) (y := lD (srt (ddS (chosenL R gs)))) (s1_ok (d := lD P.flatten) rfl (sortD_names hPn (small (by omega)))) (s1_ok (d := lD (chosenL R gs)) rfl (sortSet_names (.inl rfl) cn (Nat.lt_of_le_of_lt (show (chosenL R gs).length + 1 ≤ 1000 by omega) (by decide)))) ?_
      have es : srt P.flatten = srt (ddS (chosenL R gs)) := srt_same (perm.trans (perm_same w.nd (nodup_ddS _) fun s => by rw [mem_ddS]; exact chosen_mem.symm))
      rw [es, dEq_names (fun s hs => cn s (mem_ddS.mp ((srt_perm _).mem_iff.mp hs))) (fun s hs => cn s (mem_ddS.mp ((srt_perm _).mem_iff.mp hs)))]
      simp
  · have hyes : (true = true ↔ ∃ x ∈ wants R gs, lim < wtOf R x) := ⟨fun _ => Classical.byContradiction fun n => by
      obtain ⟨P, hP⟩ := pth_there pl w h0 fun x hx => Int.not_lt.mp fun q => n ⟨x, hx, q⟩
      exact hno P hP, fun _ => rfl⟩
    have v6 : sCmp dIs (sVar 6) (sC .non) (brE R gs lim (some (.f (lD (chosenL R gs)))) y4 (some (.f (.nd .lst ((weiL R gs).map D.int)))) (some (.f .non)) none none none none) = .ok (.bl true) (brE R gs lim (some (.f (lD (chosenL R gs)))) y4 (some (.f (.nd .lst ((weiL R gs).map D.int)))) (some (.f .non)) none none none none) := by
      unfold sCmp
      exact bin_ok (x := .non) (y := .non) rfl rfl rfl
    refine ans_guard (c := true) (v := true) (bin_ok (x := .bl true) (y := .bl true) v6 (right _ _ hyes) (dNe_self rfl)) fun _ => ?_
    exact ⟨_, sq_rt ((if_yes (ρ1 := brE R gs lim (some (.f (lD (chosenL R gs)))) y4 (some (.f (.nd .lst ((weiL R gs).map D.int)))) (some (.f .non)) none none none none) (bin_ok (x := .non) (y := .non) rfl rfl rfl)).trans rfl)⟩
end
end Y

set_option Elab.async false
set_option linter.all false
set_option maxRecDepth 100000
set_option maxHeartbeats 4000000
/-! k32: the law -/
namespace Y
open PySem PySem.Spec PyProof.Rows L2 PySem.W
/-! one row otherwise -/
theorem nb_mid (R1 R2 : Rows) (r : Str × Int × List Str) (x : Str) : nb (R1 ++ r :: R2) x = if (R1.find? fun q => decide (q.1 = x)).isSome then nb R1 x else if r.1 = x then r.2.2 else nb R2 x := by
  unfold nb
  rw [List.find?_append]
  cases h : R1.find? fun q => decide (q.1 = x) with
  | some q => rfl
  | none =>
    by_cases e : r.1 = x
    · simp [e]
    · simp [e]
theorem wt_mid (R1 R2 : Rows) (r : Str × Int × List Str) (x : Str) : wtOf (R1 ++ r :: R2) x = if (R1.find? fun q => decide (q.1 = x)).isSome then wtOf R1 x else if r.1 = x then r.2.1 else wtOf R2 x := by
  unfold wtOf
  rw [List.find?_append]
  cases h : R1.find? fun q => decide (q.1 = x) with
  | some q => rfl
  | none =>
    by_cases e : r.1 = x
    · simp [e]
    · simp [e]
structure Lgt (r r' : Str × Int × List Str) : Prop where
  nm : r'.1 = r.1
  nb : ∀ s ∈ r'.2.2, s ∈ r.2.2
  len : r'.2.2.length ≤ r.2.2.length
  w1 : 1 ≤ r'.2.1
  w2 : r'.2.1 ≤ r.2.1
theorem nms_mid {R1 R2 : Rows} {r r' : Str × Int × List Str} (h : Lgt r r') : nms (R1 ++ r' :: R2) = nms (R1 ++ r :: R2) := by
  simp [nms, h.nm]
theorem mem_mid {R1 R2 : Rows} {r r' q : Str × Int × List Str} (h : q ∈ R1 ++ r' :: R2) : q = r' ∨ q ∈ R1 ++ r :: R2 := by
  rcases List.mem_append.mp h with h | h
  · exact .inr (List.mem_append.mpr (.inl h))
  · rcases List.mem_cons.mp h with h | h
    · exact .inl h
    · exact .inr (List.mem_append.mpr (.inr (List.mem_cons_of_mem _ h)))
theorem pl_mid {R1 R2 : Rows} {r r' : Str × Int × List Str} (pl : PlOk (R1 ++ r :: R2)) (h : Lgt r r') : PlOk (R1 ++ r' :: R2) := by
  have hr : r ∈ R1 ++ r :: R2 := List.mem_append.mpr (.inr List.mem_cons_self)
  have ok := pl.ok
  obtain ⟨f, hf⟩ := pl.tp
  refine ⟨⟨by rw [nms_mid h]; exact ok.nd, ?_, by rw [nms_mid h]; exact ok.ok, fun q hq s hs => ?_, fun q hq => ?_⟩, fun q hq => ?_, f, fun q hq s hs => ?_⟩
  · have := ok.len
    rw [List.length_append, List.length_cons] at this ⊢
    exact this
  · rw [nms_mid h]
    rcases mem_mid (r := r) hq with e | hq
    · rw [e] at hs; exact ok.sub r hr s (h.nb s hs)
    · exact ok.sub q hq s hs
  · rcases mem_mid (r := r) hq with e | hq
    · rw [e]; exact Nat.le_trans h.len (ok.few r hr)
    · exact ok.few q hq
  · rcases mem_mid (r := r) hq with e | hq
    · rw [e]; exact ⟨h.w1, Int.le_trans h.w2 (pl.wt r hr).2⟩
    · exact pl.wt q hq
  · rcases mem_mid (r := r) hq with e | hq
    · rw [e] at hs ⊢; rw [h.nm]; exact hf r hr s (h.nb s hs)
    · exact hf q hq s hs
theorem nb_le {R1 R2 : Rows} {r r' : Str × Int × List Str} (h : Lgt r r') (x : Str) : ∀ y ∈ nb (R1 ++ r' :: R2) x, y ∈ nb (R1 ++ r :: R2) x := fun y hy => by
  rw [nb_mid] at hy ⊢
  rw [h.nm] at hy
  split
  · rename_i c; rw [if_pos c] at hy; exact hy
  · rename_i c
    rw [if_neg c] at hy
    split
    · rename_i c2; rw [if_pos c2] at hy; exact h.nb y hy
    · rename_i c2; rw [if_neg c2] at hy; exact hy
theorem wt_le {R1 R2 : Rows} {r r' : Str × Int × List Str} (h : Lgt r r') (x : Str) : wtOf (R1 ++ r' :: R2) x ≤ wtOf (R1 ++ r :: R2) x := by
  rw [wt_mid, wt_mid, h.nm]
  split
  · exact Int.le_refl _
  · split
    · exact h.w2
    · exact Int.le_refl _
theorem wants_le {R R' : Rows} (ok : RowsOk R) (ok' : RowsOk R') (h : ∀ x, ∀ y ∈ nb R' x, y ∈ nb R x) {gs : List Str} : ∀ x ∈ wants R' gs, x ∈ wants R gs := fun x hx => by
  obtain ⟨g, hg, hm⟩ := wants_mem.mp hx
  refine wants_mem.mpr ⟨g, hg, hm.imp id fun hm => ?_⟩
  have f := turns_rch ok g
  exact (turns_rch ok' g).mi (· ∈ turns R g 10) (fun y hy => f.st y (h g y hy)) (fun y hy z hz => f.cl y hy z (h y z hz)) x hm
theorem easy_mid {R1 R2 : Rows} {r r' : Str × Int × List Str} (pl : PlOk (R1 ++ r :: R2)) (h : Lgt r r') (gs : List Str) (lim : Int) : Easy (R1 ++ r :: R2) (R1 ++ r' :: R2) (wants (R1 ++ r :: R2) gs) (wants (R1 ++ r' :: R2) gs) lim lim :=
  ⟨fun x _ => nb_le h x, fun x _ => wt_le h x, wants_le pl.ok (pl_mid pl h).ok (nb_le h), Int.le_refl _⟩
theorem easy_goals {R : Rows} {gs gs' : List Str} (h : ∀ g ∈ gs', g ∈ gs) (lim : Int) : Easy R R (wants R gs) (wants R gs') lim lim :=
  ⟨fun _ _ y hy => hy, fun _ _ => Int.le_refl _, fun x hx => by
    obtain ⟨g, hg, hm⟩ := wants_mem.mp hx
    exact wants_mem.mpr ⟨g, h g hg, hm⟩, Int.le_refl _⟩
theorem easy_lim {R : Rows} {gs : List Str} {lim lim' : Int} (h : lim ≤ lim') : Easy R R (wants R gs) (wants R gs) lim lim' :=
  ⟨fun _ _ y hy => hy, fun _ _ => Int.le_refl _, fun _ hx => hx, h⟩
theorem Lgt.light {r : Str × Int × List Str} (h : 1 ≤ r.2.1) : Lgt r (r.1, 1, r.2.2) := ⟨rfl, fun _ h => h, Nat.le_refl _, Int.le_refl _, h⟩
theorem Lgt.free {r : Str × Int × List Str} (h : 1 ≤ r.2.1) : Lgt r (r.1, r.2.1, r.2.2.drop 1) := ⟨rfl, fun s hs => (List.drop_sublist 1 _).subset hs, (List.drop_sublist 1 _).length_le, h, Int.le_refl _⟩
theorem cut_drop' (xs : List D) (n : Nat) : cutD xs (some (n : Int)) none = xs.drop n := by
  unfold cutD
  have h1 : HT.sIx xs.length 0 (some (n : Int)) = min n xs.length := HT.sIx_nat _ _ n
  have h2 : HT.sIx xs.length xs.length none = xs.length := rfl
  rw [h1, h2]
  by_cases c : n ≤ xs.length
  · rw [Nat.min_eq_left c, List.take_of_length_le (by rw [List.length_drop]; omega)]
  · rw [Nat.min_eq_right (by omega), Nat.sub_self, List.take_zero, List.drop_eq_nil_of_le (by omega)]
/-! the law -/
def kbE (sc : D) (x1 x2 x3 x4 x5 x6 x7 x8 x9 x10 x11 x12 x13 x14 : Option S) : En := [some (.f sc), x1, x2, x3, x4, x5, x6, x7, x8, x9, x10, x11, x12, x13, x14]
theorem goals_ok (sc : D) (x1 x3 : Option S) (x5 x6 x7 x8 x9 x10 x11 x12 x13 x14 : Option S) {b : D} (hb : BagOk b) {ns : List Str} (hn : ns.length ≤ 100) : ∃ b' gs, sSet 5 (sLc (sIt (sVar 4)) (hName 11) (sBin dEq (sCallI 2 fs__law_take (sCons (sC (.int 3)) sNil)) (sC (.int 0))) (sVar 11) [11]) (kbE sc x1 (some (.o b)) x3 (some (.f (lD ns))) x5 x6 x7 x8 x9 x10 x11 x12 x13 x14) = .ok .nx (kbE sc x1 (some (.o b')) x3 (some (.f (lD ns))) (some (.f (lD gs))) x6 x7 x8 x9 x10 none x12 x13 x14) ∧ BagOk b' ∧ (∀ g ∈ gs, g ∈ ns) ∧ gs.length ≤ ns.length := by
  have src : sIt (sVar 4) (kbE sc x1 (some (.o b)) x3 (some (.f (lD ns))) x5 x6 x7 x8 x9 x10 x11 x12 x13 x14) = .ok (nD ns) (kbE sc x1 (some (.o b)) x3 (some (.f (lD ns))) x5 x6 x7 x8 x9 x10 x11 x12 x13 x14) := rfl
  obtain ⟨acc, ρ', e, b', gs, h1, h2, h3, h4, h5⟩ := lcL_inv (g := hName 11) (t := sBin dEq (sCallI 2 fs__law_take (sCons (sC (.int 3)) sNil)) (sC (.int 0))) (e := sVar 11) (vs := [11])
    (fun j ρ acc => ∃ b gs, BagOk b ∧ ρ = kbE sc x1 (some (.o b)) x3 (some (.f (lD ns))) x5 x6 x7 x8 x9 x10 none x12 x13 x14 ∧ acc = nD gs ∧ (∀ g ∈ gs, g ∈ ns) ∧ gs.length ≤ j) (nD ns) 0 (kbE sc x1 (some (.o b)) x3 (some (.f (lD ns))) x5 x6 x7 x8 x9 x10 none x12 x13 x14) [] ⟨b, [], hb, rfl, rfl, fun g h => (by cases h), Nat.le_refl _⟩ (small (by simp; omega)) (fun i d ρ acc hd ⟨b, gs, hb, e1, e2, hg, hl⟩ => by
      subst e1 e2
      obtain ⟨s, hs, rfl⟩ := List.mem_map.mp (List.mem_of_getElem? hd)
      obtain ⟨r, b1, e3, hb1, hr⟩ := take_nat hb (n := 3) (by decide) (by decide)
      obtain ⟨t, et⟩ := eq0 (r : Int)
      have tt : sBin dEq (sCallI 2 fs__law_take (sCons (sC (.int 3)) sNil)) (sC (.int 0)) (kbE sc x1 (some (.o b)) x3 (some (.f (lD ns))) x5 x6 x7 x8 x9 x10 (some (.f (.str s))) x12 x13 x14) = .ok t (kbE sc x1 (some (.o b1)) x3 (some (.f (lD ns))) x5 x6 x7 x8 x9 x10 (some (.f (.str s))) x12 x13 x14) :=
        bin_ok (x := iN r) (y := .int 0) (callI_ok (i := 2) (d0 := b) (ρ := kbE sc x1 (some (.o b)) x3 (some (.f (lD ns))) x5 x6 x7 x8 x9 x10 (some (.f (.str s))) x12 x13 x14) ⟨b, rfl⟩ (ds := [iN 3]) rfl rfl e3) rfl et
      refine ⟨_, t, _, rfl, tt, ?_⟩
      cases t with
      | false => exact ⟨b1, gs, hb1, rfl, rfl, hg, by omega⟩
      | true =>
        rw [if_pos rfl]
        refine ⟨.str s, _, rfl, b1, gs ++ [s], hb1, rfl, by simp, fun g hgm => ?_, by simp; omega⟩
        rcases List.mem_append.mp hgm with hgm | hgm
        · exact hg g hgm
        · rw [List.mem_singleton.mp hgm]; exact hs)
  subst h2 h3
  refine ⟨b', gs, set_call (i := 5) (sLc_ok2 src rfl e), h1, h4, ?_⟩
  rw [List.length_map] at h5
  omega
abbrev inner : En → Y.R Fl := (sSeq (sSet 8 (sCallI 2 fs__law_take (sCons (s1 dLen' (sBor 4)) sNil)))
  (sSeq (sAsg (hTup 3 (hCons (hName 11) (hCons (hName 12) (hCons (hName 13) hNil)))) (sBin dIx (sVar 3) (sVar 8)))
  (sSeq (sSet 9 (sBin dPlus (sBin dPlus (sSlc (sVar 3) sNoPt (sPt (sVar 8))) (sMk .tup (sCons (sMk .tup (sCons (sVar 11) (sCons (sC (.int 1)) (sCons (sVar 13) sNil)))) sNil))) (sSlc (sVar 3) (sPt (sBin dPlus (sVar 8) (sC (.int 1)))) sNoPt)))
  (sSeq (sSet 10 (sBin dPlus (sBin dPlus (sSlc (sVar 3) sNoPt (sPt (sVar 8))) (sMk .tup (sCons (sMk .tup (sCons (sVar 11) (sCons (sVar 12) (sCons (sSlc (sVar 13) (sPt (sC (.int 1))) sNoPt) sNil)))) sNil))) (sSlc (sVar 3) (sPt (sBin dPlus (sVar 8) (sC (.int 1)))) sNoPt)))
  (sIfS (sOrT (sBin dGt (sCall fs__law_years (sCons (sVar 9) (sCons (sVar 5) (sCons (sVar 6) sNil)))) (sBor 7)) (sBin dGt (sCall fs__law_years (sCons (sVar 10) (sCons (sVar 5) (sCons (sVar 6) sNil)))) (sBor 7)))
  (sRet (sC (.bl false)))
  sNx)))))
theorem pl_of {R : Rows} (pl : PlOk R) {gs : List Str} (go : GoalsOk R gs) (l8 : R.length ≤ 8) (lim : Nat) : Pl R gs (lim : Int) (2 ^ (wants R gs).length) := by
  have w := wants_ok pl.ok go.mem
  have wl := wants_len pl.ok go.mem
  have hpow : 2 ^ (wants R gs).length ≤ 2 ^ 8 := Nat.pow_le_pow_right (by decide) (by omega)
  have e256 : (2 : Nat) ^ 8 = 256 := by decide
  exact ⟨pl, go, by omega, few_pow pl w (by omega), by omega⟩
theorem ix_row {R : Rows} {n : Nat} (h : n < R.length) : dIx (coursesD R) (iN n) = some (rowD R[n]) := by
  have := at_nat (xs := R.map rowD) (jj := n) (by rw [List.length_map]; exact h)
  rw [List.getElem_map] at this
  exact this
theorem inner_step (sc : D) (x1 : Option S) {b : D} (hb : BagOk b) {R : Rows} (pl : PlOk R) (l8 : R.length ≤ 8) (h1 : 0 < R.length) {gs : List Str} (go : GoalsOk R gs) (lim : Nat) {y : Nat} (hy : Yr R gs (lim : Int) y) (x8 x9 x10 x11 x12 x13 x14 : Option S) : ∃ b' y8 y9 y10 y11 y12 y13, inner (kbE sc x1 (some (.o b)) (some (.f (coursesD R))) (some (.f (lD (nms R)))) (some (.f (lD gs))) (some (.f (iN lim))) (some (.f (iN y))) x8 x9 x10 x11 x12 x13 x14) = .ok .nx (kbE sc x1 (some (.o b')) (some (.f (coursesD R))) (some (.f (lD (nms R)))) (some (.f (lD gs))) (some (.f (iN lim))) (some (.f (iN y))) y8 y9 y10 y11 y12 y13 x14) := by
  have nl : (nms R).length = R.length := List.length_map _
  obtain ⟨n, b1, e1, hb1, hn⟩ := take_nat hb (n := R.length) (by omega) (by omega)
  have f8 : sSet 8 (sCallI 2 fs__law_take (sCons (s1 dLen' (sBor 4)) sNil)) (kbE sc x1 (some (.o b)) (some (.f (coursesD R))) (some (.f (lD (nms R)))) (some (.f (lD gs))) (some (.f (iN lim))) (some (.f (iN y))) x8 x9 x10 x11 x12 x13 x14) = .ok .nx (kbE sc x1 (some (.o b1)) (some (.f (coursesD R))) (some (.f (lD (nms R)))) (some (.f (lD gs))) (some (.f (iN lim))) (some (.f (iN y))) (some (.f (iN n))) x9 x10 x11 x12 x13 x14) :=
    set_call (i := 8) (callI_ok (i := 2) (d0 := b) (ρ := kbE sc x1 (some (.o b)) (some (.f (coursesD R))) (some (.f (lD (nms R)))) (some (.f (lD gs))) (some (.f (iN lim))) (some (.f (iN y))) x8 x9 x10 x11 x12 x13 x14) ⟨b, rfl⟩ (ds := [iN R.length]) (one_ok (s1_ok (d := lD (nms R)) rfl (by rw [len_nd (.inl rfl), List.length_map, nl]))) rfl e1)
  have eR : R = R.take n ++ R[n] :: R.drop (n + 1) := by
    rw [← List.drop_eq_getElem_cons hn, List.take_append_drop]
  generalize hr : R[n] = r at *
  generalize hR1 : R.take n = R1 at *
  generalize hR2 : R.drop (n + 1) = R2 at *
  have w1 : 1 ≤ r.2.1 := (pl.wt r (by rw [eR]; exact List.mem_append.mpr (.inr List.mem_cons_self))).1
  have fA : sAsg (hTup 3 (hCons (hName 11) (hCons (hName 12) (hCons (hName 13) hNil)))) (sBin dIx (sVar 3) (sVar 8)) (kbE sc x1 (some (.o b1)) (some (.f (coursesD R))) (some (.f (lD (nms R)))) (some (.f (lD gs))) (some (.f (iN lim))) (some (.f (iN y))) (some (.f (iN n))) x9 x10 x11 x12 x13 x14) = .ok .nx (kbE sc x1 (some (.o b1)) (some (.f (coursesD R))) (some (.f (lD (nms R)))) (some (.f (lD gs))) (some (.f (iN lim))) (some (.f (iN y))) (some (.f (iN n))) x9 x10 (some (.f (.str r.1))) (some (.f (.int r.2.1))) (some (.f (tD r.2.2))) x14) :=
    asg_ok (d := rowD r) (bin_ok (x := coursesD R) (y := iN n) rfl rfl (by rw [ix_row hn, hr])) rfl
  have slA : ∀ ρ : En, sVar 3 ρ = .ok (coursesD R) ρ → sVar 8 ρ = .ok (iN n) ρ → sSlc (sVar 3) sNoPt (sPt (sVar 8)) ρ = .ok (.nd .tup (R1.map rowD)) ρ := fun ρ v3 v8 =>
    slc_ok (a := none) (c := some (n : Int)) (d := coursesD R) v3 rfl (by unfold sPt; rw [v8]; rfl) (by
      show some (D.nd .tup (cutD (R.map rowD) none (some (n : Int)))) = _
      rw [cut_take', ← List.map_take, hR1])
  have slB : ∀ ρ : En, sVar 3 ρ = .ok (coursesD R) ρ → sVar 8 ρ = .ok (iN n) ρ → sSlc (sVar 3) (sPt (sBin dPlus (sVar 8) (sC (.int 1)))) sNoPt ρ = .ok (.nd .tup (R2.map rowD)) ρ := fun ρ v3 v8 => by
    have a : sBin dPlus (sVar 8) (sC (.int 1)) ρ = .ok (iN (n + 1)) ρ := bin_ok (x := iN n) (y := iN 1) v8 rfl (add_nat _ _)
    exact slc_ok (a := some ((n + 1 : Nat) : Int)) (c := none) (d := coursesD R) v3 (by unfold sPt; rw [a]; rfl) rfl (by
      show some (D.nd .tup (cutD (R.map rowD) (some ((n + 1 : Nat) : Int)) none)) = _
      rw [cut_drop', ← List.map_drop, hR2])
  have l12 : R1.length + (1 + R2.length) ≤ 8 := by
    have := congrArg List.length eR
    rw [List.length_append, List.length_cons] at this
    omega
  have cat : ∀ (q : Str × Int × List Str) (f : En → Y.R D) (ρ : En), sVar 3 ρ = .ok (coursesD R) ρ → sVar 8 ρ = .ok (iN n) ρ → f ρ = .ok (rowD q) ρ → sBin dPlus (sBin dPlus (sSlc (sVar 3) sNoPt (sPt (sVar 8))) (sMk .tup (sCons f sNil))) (sSlc (sVar 3) (sPt (sBin dPlus (sVar 8) (sC (.int 1)))) sNoPt) ρ = .ok (coursesD (R1 ++ q :: R2)) ρ := fun q f ρ v3 v8 e => by
    refine bin_ok (bin_ok (slA ρ v3 v8) (mk_ok (ds := [rowD q]) (one_ok e) (small (show 1 ≤ 100000 by decide))) (tcat_ok (small (by rw [List.length_map]; show _ + 1 ≤ 100000; omega)))) (slB ρ v3 v8) ?_
    rw [tcat_ok (small (by rw [List.length_append, List.length_map, List.length_map]; show _ + 1 + _ ≤ 100000; omega))]
    unfold coursesD
    rw [List.map_append, List.map_cons, List.append_assoc]
    rfl
  have l8' : ∀ q : Str × Int × List Str, (R1 ++ q :: R2).length ≤ 8 := fun q => by rw [List.length_append, List.length_cons]; omega
  subst eR
  have Ll := Lgt.light w1
  have Lf := Lgt.free w1
  have gomid : ∀ q, Lgt r q → GoalsOk (R1 ++ q :: R2) gs := fun q h => ⟨fun g hg => by rw [nms_mid h]; exact go.mem g hg, go.len⟩
  obtain ⟨yl, el, hl⟩ := years_ok (pl_of (pl_mid pl Ll) (gomid _ Ll) (l8' _) lim)
  obtain ⟨yf, ef, hf⟩ := years_ok (pl_of (pl_mid pl Lf) (gomid _ Lf) (l8' _) lim)
  have h0 : (0 : Int) ≤ (lim : Int) := by omega
  have hle := yr_le pl (pl_mid pl Ll) go (gomid _ Ll) h0 (easy_mid pl Ll gs lim) hy hl
  have hfe := yr_le pl (pl_mid pl Lf) go (gomid _ Lf) h0 (easy_mid pl Lf gs lim) hy hf
  generalize hC : R1 ++ r :: R2 = R at *
  have f9 : sSet 9 (sBin dPlus (sBin dPlus (sSlc (sVar 3) sNoPt (sPt (sVar 8))) (sMk .tup (sCons (sMk .tup (sCons (sVar 11) (sCons (sC (.int 1)) (sCons (sVar 13) sNil)))) sNil))) (sSlc (sVar 3) (sPt (sBin dPlus (sVar 8) (sC (.int 1)))) sNoPt)) (kbE sc x1 (some (.o b1)) (some (.f (coursesD R))) (some (.f (lD (nms R)))) (some (.f (lD gs))) (some (.f (iN lim))) (some (.f (iN y))) (some (.f (iN n))) x9 x10 (some (.f (.str r.1))) (some (.f (.int r.2.1))) (some (.f (tD r.2.2))) x14) = .ok .nx (kbE sc x1 (some (.o b1)) (some (.f (coursesD R))) (some (.f (lD (nms R)))) (some (.f (lD gs))) (some (.f (iN lim))) (some (.f (iN y))) (some (.f (iN n))) (some (.f (coursesD (R1 ++ (r.1, 1, r.2.2) :: R2)))) x10 (some (.f (.str r.1))) (some (.f (.int r.2.1))) (some (.f (tD r.2.2))) x14) :=
    set_call (i := 9) (cat (r.1, 1, r.2.2) _ (kbE sc x1 (some (.o b1)) (some (.f (coursesD R))) (some (.f (lD (nms R)))) (some (.f (lD gs))) (some (.f (iN lim))) (some (.f (iN y))) (some (.f (iN n))) x9 x10 (some (.f (.str r.1))) (some (.f (.int r.2.1))) (some (.f (tD r.2.2))) x14) rfl rfl (mk_ok (ds := [.str r.1, .int 1, tD r.2.2]) rfl (small (show 3 ≤ 100000 by decide))))
  have s13 : sSlc (sVar 13) (sPt (sC (.int 1))) sNoPt (kbE sc x1 (some (.o b1)) (some (.f (coursesD R))) (some (.f (lD (nms R)))) (some (.f (lD gs))) (some (.f (iN lim))) (some (.f (iN y))) (some (.f (iN n))) (some (.f (coursesD (R1 ++ (r.1, 1, r.2.2) :: R2)))) x10 (some (.f (.str r.1))) (some (.f (.int r.2.1))) (some (.f (tD r.2.2))) x14) = .ok (tD (r.2.2.drop 1)) (kbE sc x1 (some (.o b1)) (some (.f (coursesD R))) (some (.f (lD (nms R)))) (some (.f (lD gs))) (some (.f (iN lim))) (some (.f (iN y))) (some (.f (iN n))) (some (.f (coursesD (R1 ++ (r.1, 1, r.2.2) :: R2)))) x10 (some (.f (.str r.1))) (some (.f (.int r.2.1))) (some (.f (tD r.2.2))) x14) :=
    slc_ok (a := some ((1 : Nat) : Int)) (c := none) (d := tD r.2.2) rfl rfl rfl (by
      show some (D.nd .tup (cutD (nD r.2.2) (some ((1 : Nat) : Int)) none)) = _
      rw [cut_drop', nD, ← List.map_drop])
  have f10 : sSet 10 (sBin dPlus (sBin dPlus (sSlc (sVar 3) sNoPt (sPt (sVar 8))) (sMk .tup (sCons (sMk .tup (sCons (sVar 11) (sCons (sVar 12) (sCons (sSlc (sVar 13) (sPt (sC (.int 1))) sNoPt) sNil)))) sNil))) (sSlc (sVar 3) (sPt (sBin dPlus (sVar 8) (sC (.int 1)))) sNoPt)) (kbE sc x1 (some (.o b1)) (some (.f (coursesD R))) (some (.f (lD (nms R)))) (some (.f (lD gs))) (some (.f (iN lim))) (some (.f (iN y))) (some (.f (iN n))) (some (.f (coursesD (R1 ++ (r.1, 1, r.2.2) :: R2)))) x10 (some (.f (.str r.1))) (some (.f (.int r.2.1))) (some (.f (tD r.2.2))) x14) = .ok .nx (kbE sc x1 (some (.o b1)) (some (.f (coursesD R))) (some (.f (lD (nms R)))) (some (.f (lD gs))) (some (.f (iN lim))) (some (.f (iN y))) (some (.f (iN n))) (some (.f (coursesD (R1 ++ (r.1, 1, r.2.2) :: R2)))) (some (.f (coursesD (R1 ++ (r.1, r.2.1, r.2.2.drop 1) :: R2)))) (some (.f (.str r.1))) (some (.f (.int r.2.1))) (some (.f (tD r.2.2))) x14) :=
    set_call (i := 10) (cat (r.1, r.2.1, r.2.2.drop 1) _ (kbE sc x1 (some (.o b1)) (some (.f (coursesD R))) (some (.f (lD (nms R)))) (some (.f (lD gs))) (some (.f (iN lim))) (some (.f (iN y))) (some (.f (iN n))) (some (.f (coursesD (R1 ++ (r.1, 1, r.2.2) :: R2)))) x10 (some (.f (.str r.1))) (some (.f (.int r.2.1))) (some (.f (tD r.2.2))) x14) rfl rfl (mk_ok (ds := [.str r.1, .int r.2.1, tD (r.2.2.drop 1)]) (cons_ok (d := .str r.1) rfl (cons_ok (d := .int r.2.1) rfl (one_ok s13))) (small (show 3 ≤ 100000 by decide))))
  generalize hρ : kbE sc x1 (some (.o b1)) (some (.f (coursesD R))) (some (.f (lD (nms R)))) (some (.f (lD gs))) (some (.f (iN lim))) (some (.f (iN y))) (some (.f (iN n))) (some (.f (coursesD (R1 ++ (r.1, 1, r.2.2) :: R2)))) (some (.f (coursesD (R1 ++ (r.1, r.2.1, r.2.2.drop 1) :: R2)))) (some (.f (.str r.1))) (some (.f (.int r.2.1))) (some (.f (tD r.2.2))) x14 = ρ at f10
  have g : sOrT (sBin dGt (sCall fs__law_years (sCons (sVar 9) (sCons (sVar 5) (sCons (sVar 6) sNil)))) (sBor 7)) (sBin dGt (sCall fs__law_years (sCons (sVar 10) (sCons (sVar 5) (sCons (sVar 6) sNil)))) (sBor 7)) ρ = .ok false ρ := by
    have v7 : sBor 7 ρ = .ok (iN y) ρ := by subst hρ; rfl
    refine or_no (bin_ok (x := iN yl) (y := iN y) (call_ok (ds := [coursesD (R1 ++ (r.1, 1, r.2.2) :: R2), lD gs, iN lim]) (by subst hρ; rfl) el) v7 (by rw [gt_nat, decide_eq_false (by omega)])) (bin_ok (x := iN yf) (y := iN y) (call_ok (ds := [coursesD (R1 ++ (r.1, r.2.1, r.2.2.drop 1) :: R2), lD gs, iN lim]) (by subst hρ; rfl) ef) v7 (by rw [gt_nat, decide_eq_false (by omega)]))
  refine ⟨b1, some (.f (iN n)), some (.f (coursesD (R1 ++ (r.1, 1, r.2.2) :: R2))), some (.f (coursesD (R1 ++ (r.1, r.2.1, r.2.2.drop 1) :: R2))), some (.f (.str r.1)), some (.f (.int r.2.1)), some (.f (tD r.2.2)), (seq_ok f8).trans ((seq_ok fA).trans ((seq_ok f9).trans ((seq_ok f10).trans ?_)))⟩
  rw [if_no g, ← hρ]
  rfl
abbrev cellb : En → Y.R Fl := (sSeq (sSetO 2 (sCallO fs__law_bag (sCons (sVar 0) (sCons (sVar 1) sNil))))
  (sSeq (sSet 3 (sCallI 2 fs__law_courses (sCons (sC (.int 8)) sNil)))
  (sSeq (sSet 4 (sLc (sIt (sVar 3)) (hName 14) sYes (sBin dIx (sVar 14) (sC (.int 0))) [14]))
  (sSeq (sSet 5 (sLc (sIt (sVar 4)) (hName 11) (sBin dEq (sCallI 2 fs__law_take (sCons (sC (.int 3)) sNil)) (sC (.int 0))) (sVar 11) [11]))
  (sSeq (sSet 6 (sBin dPlus (sC (.int 1)) (sCallI 2 fs__law_take (sCons (sC (.int 16)) sNil))))
  (sSeq (sIfS (sOrT (sNotT (sTru (sCall fs__law_bounds_right (sCons (sVar 3) (sCons (sVar 5) (sCons (sVar 6) sNil)))))) (sNotT (sTru (sCall fs__law_bounds_right (sCons (sVar 3) (sCons (sVar 4) (sCons (sC (.int 40)) sNil)))))))
  (sRet (sC (.bl false)))
  sNx)
  (sSeq (sSet 7 (sCall fs__law_years (sCons (sVar 3) (sCons (sVar 5) (sCons (sVar 6) sNil)))))
  (sSeq (sIfS (sOrT (sBin dLt (sCall fs__law_years (sCons (sVar 3) (sCons (sVar 4) (sCons (sVar 6) sNil)))) (sBor 7)) (sBin dGt (sCall fs__law_years (sCons (sVar 3) (sCons (sVar 5) (sCons (sBin dPlus (sVar 6) (sC (.int 1))) sNil)))) (sBor 7)))
  (sRet (sC (.bl false)))
  sNx)
  (sIfS (sBin dNe (sVar 4) (sMk .lst sNil))
  inner
  sNx)))))))))
theorem cell_step (ns : List Int) (k : Nat) (hk : k ≤ 1000) (x2 x3 x4 x5 x6 x7 x8 x9 x10 x11 x12 x13 x14 : Option S) : ∃ y2 y3 y4 y5 y6 y7 y8 y9 y10 y11 y12 y13 y14, cellb (kbE (.nd .scr (ns.map D.int)) (some (.f (iN k))) x2 x3 x4 x5 x6 x7 x8 x9 x10 x11 x12 x13 x14) = .ok .nx (kbE (.nd .scr (ns.map D.int)) (some (.f (iN k))) y2 y3 y4 y5 y6 y7 y8 y9 y10 y11 y12 y13 y14) := by
  obtain ⟨b, e1, hb⟩ := bag_ok ns k hk
  generalize hsc : D.nd .scr (ns.map D.int) = sc at *
  have f0 : sSetO 2 (sCallO fs__law_bag (sCons (sVar 0) (sCons (sVar 1) sNil))) (kbE sc (some (.f (iN k))) x2 x3 x4 x5 x6 x7 x8 x9 x10 x11 x12 x13 x14) = .ok .nx (kbE sc (some (.f (iN k))) (some (.o b)) x3 x4 x5 x6 x7 x8 x9 x10 x11 x12 x13 x14) := by
    simp [kbE, runF, argS, finF, outs, sSeq, sq, bnd, lift, sVar, sBor, sFrz, sMov, sC, sBin, sCmp, sChain, sTru, tru, sAndT, sOrT, sNotT, sAndV, sOrV, sNotV, sIf, sNil, sCons, sMk, s1, sN, sNx, sDrop, sRet, sRetO, sIfS, sSet, sSetO, sAsg, sPut, ownD, chg, ownL, isLst, sMeth, sIxV, bor, sCall, sCallO, sCallI, sCallIO, dGt, cmpI, dMod, dDiv, dMul, dPlus, dAdd, dSub, dNeg, dLen', dLen, sSlc, sSlcV, sPt, sNoPt, sIt, itD, sRg, rg1, hName, hTup, hCons, hNil, sFor, List.replicate, sPar2, pO, pF, pNil, noB, sIsiV, isTy, tyN, isA, sCmpV, sz0, sz1, sz2, sz3, sz4, sz5, e1]
  obtain ⟨R, b1, e2, hb1, cr, hl8⟩ := courses_ok4 hb (most := 8) (by decide)
  have pl := cr.pl
  have nl : (nms R).length = R.length := List.length_map _
  have f1 : sSet 3 (sCallI 2 fs__law_courses (sCons (sC (.int 8)) sNil)) (kbE sc (some (.f (iN k))) (some (.o b)) x3 x4 x5 x6 x7 x8 x9 x10 x11 x12 x13 x14) = .ok .nx (kbE sc (some (.f (iN k))) (some (.o b1)) (some (.f (coursesD R))) x4 x5 x6 x7 x8 x9 x10 x11 x12 x13 x14) := set_call (i := 3) (callI_ok (i := 2) (d0 := b) (ρ := kbE sc (some (.f (iN k))) (some (.o b)) x3 x4 x5 x6 x7 x8 x9 x10 x11 x12 x13 x14) ⟨b, rfl⟩ (ds := [iN 8]) rfl rfl e2)
  have f2 : sSet 4 (sLc (sIt (sVar 3)) (hName 14) sYes (sBin dIx (sVar 14) (sC (.int 0))) [14]) (kbE sc (some (.f (iN k))) (some (.o b1)) (some (.f (coursesD R))) x4 x5 x6 x7 x8 x9 x10 x11 x12 x13 x14) = .ok .nx (kbE sc (some (.f (iN k))) (some (.o b1)) (some (.f (coursesD R))) (some (.f (lD (nms R)))) x5 x6 x7 x8 x9 x10 x11 x12 x13 none) :=
    set_call (i := 4) (ρ1 := kbE sc (some (.f (iN k))) (some (.o b1)) (some (.f (coursesD R))) x4 x5 x6 x7 x8 x9 x10 x11 x12 x13 none) (slc_ty2 (ρ1 := kbE sc (some (.f (iN k))) (some (.o b1)) (some (.f (coursesD R))) x4 x5 x6 x7 x8 x9 x10 x11 x12 x13 x14) rowD (fun _ => true) (fun r => D.str r.1) R rfl rfl (fun r _ => ⟨(kbE sc (some (.f (iN k))) (some (.o b1)) (some (.f (coursesD R))) x4 x5 x6 x7 x8 x9 x10 x11 x12 x13 none).set 14 (some (.f (rowD r))), rfl, rfl, fun _ => bin_ok (x := rowD r) rfl rfl rfl, rfl⟩) (by omega) (by rw [List.filter_eq_self.mpr fun _ _ => rfl, nD, nms, List.map_map]; rfl))
  obtain ⟨b2, gs, f3, hb2, hgs, hgl⟩ := goals_ok sc (some (.f (iN k))) (some (.f (coursesD R))) x5 x6 x7 x8 x9 x10 x11 x12 x13 none hb1 (ns := nms R) (by omega)
  have go : GoalsOk R gs := ⟨hgs, by omega⟩
  have goN : GoalsOk R (nms R) := ⟨fun g hg => hg, by omega⟩
  obtain ⟨r, b3, e4, hb3, hr⟩ := take_nat hb2 (n := 16) (by decide) (by decide)
  have f4 : sSet 6 (sBin dPlus (sC (.int 1)) (sCallI 2 fs__law_take (sCons (sC (.int 16)) sNil))) (kbE sc (some (.f (iN k))) (some (.o b2)) (some (.f (coursesD R))) (some (.f (lD (nms R)))) (some (.f (lD gs))) x6 x7 x8 x9 x10 none x12 x13 none) = .ok .nx (kbE sc (some (.f (iN k))) (some (.o b3)) (some (.f (coursesD R))) (some (.f (lD (nms R)))) (some (.f (lD gs))) (some (.f (iN (1 + r)))) x7 x8 x9 x10 none x12 x13 none) :=
    set_call (i := 6) (bin_ok (x := iN 1) rfl (callI_ok (i := 2) (d0 := b2) (ρ := kbE sc (some (.f (iN k))) (some (.o b2)) (some (.f (coursesD R))) (some (.f (lD (nms R)))) (some (.f (lD gs))) x6 x7 x8 x9 x10 none x12 x13 none) ⟨b2, rfl⟩ (ds := [iN 16]) rfl rfl e4) (add_nat 1 r))
  generalize hlim : 1 + r = lim at *
  have bo1 := bounds_ok cr (pl_of pl go hl8 lim)
  have bo2 := bounds_ok cr (pl_of pl goN hl8 40)
  obtain ⟨y, ey, hy⟩ := years_ok (pl_of pl go hl8 lim)
  obtain ⟨yn, en, hyn⟩ := years_ok (pl_of pl goN hl8 lim)
  obtain ⟨yw, ew, hyw⟩ := years_ok (pl_of pl go hl8 (lim + 1))
  have h0 : (0 : Int) ≤ (lim : Int) := by omega
  have q1 := yr_le pl pl goN go h0 (easy_goals (gs := nms R) (gs' := gs) hgs lim) hyn hy
  have q2 := yr_le pl pl go go h0 (easy_lim (gs := gs) (show (lim : Int) ≤ ((lim + 1 : Nat) : Int) by omega)) hy hyw
  have f5 : sIfS (sOrT (sNotT (sTru (sCall fs__law_bounds_right (sCons (sVar 3) (sCons (sVar 5) (sCons (sVar 6) sNil)))))) (sNotT (sTru (sCall fs__law_bounds_right (sCons (sVar 3) (sCons (sVar 4) (sCons (sC (.int 40)) sNil))))))) (sRet (sC (.bl false))) sNx (kbE sc (some (.f (iN k))) (some (.o b3)) (some (.f (coursesD R))) (some (.f (lD (nms R)))) (some (.f (lD gs))) (some (.f (iN lim))) x7 x8 x9 x10 none x12 x13 none) = .ok .nx (kbE sc (some (.f (iN k))) (some (.o b3)) (some (.f (coursesD R))) (some (.f (lD (nms R)))) (some (.f (lD gs))) (some (.f (iN lim))) x7 x8 x9 x10 none x12 x13 none) := by
    generalize hρ : kbE sc (some (.f (iN k))) (some (.o b3)) (some (.f (coursesD R))) (some (.f (lD (nms R)))) (some (.f (lD gs))) (some (.f (iN lim))) x7 x8 x9 x10 none x12 x13 none = ρ
    exact (if_no (or_no (notru (c := true) (call_ok (ds := [coursesD R, lD gs, iN lim]) (by subst hρ; rfl) bo1)) (notru (c := true) (call_ok (ds := [coursesD R, lD (nms R), iN 40]) (by subst hρ; rfl) bo2)))).trans rfl
  have f6 : sSet 7 (sCall fs__law_years (sCons (sVar 3) (sCons (sVar 5) (sCons (sVar 6) sNil)))) (kbE sc (some (.f (iN k))) (some (.o b3)) (some (.f (coursesD R))) (some (.f (lD (nms R)))) (some (.f (lD gs))) (some (.f (iN lim))) x7 x8 x9 x10 none x12 x13 none) = .ok .nx (kbE sc (some (.f (iN k))) (some (.o b3)) (some (.f (coursesD R))) (some (.f (lD (nms R)))) (some (.f (lD gs))) (some (.f (iN lim))) (some (.f (iN y))) x8 x9 x10 none x12 x13 none) :=
    set_call (i := 7) (call_ok (ds := [coursesD R, lD gs, iN lim]) rfl ey)
  have f7 : sIfS (sOrT (sBin dLt (sCall fs__law_years (sCons (sVar 3) (sCons (sVar 4) (sCons (sVar 6) sNil)))) (sBor 7)) (sBin dGt (sCall fs__law_years (sCons (sVar 3) (sCons (sVar 5) (sCons (sBin dPlus (sVar 6) (sC (.int 1))) sNil)))) (sBor 7))) (sRet (sC (.bl false))) sNx (kbE sc (some (.f (iN k))) (some (.o b3)) (some (.f (coursesD R))) (some (.f (lD (nms R)))) (some (.f (lD gs))) (some (.f (iN lim))) (some (.f (iN y))) x8 x9 x10 none x12 x13 none) = .ok .nx (kbE sc (some (.f (iN k))) (some (.o b3)) (some (.f (coursesD R))) (some (.f (lD (nms R)))) (some (.f (lD gs))) (some (.f (iN lim))) (some (.f (iN y))) x8 x9 x10 none x12 x13 none) := by
    generalize hρ : kbE sc (some (.f (iN k))) (some (.o b3)) (some (.f (coursesD R))) (some (.f (lD (nms R)))) (some (.f (lD gs))) (some (.f (iN lim))) (some (.f (iN y))) x8 x9 x10 none x12 x13 none = ρ
    have v7 : sBor 7 ρ = .ok (iN y) ρ := by subst hρ; rfl
    have v6 : sVar 6 ρ = .ok (iN lim) ρ := by subst hρ; rfl
    have a : sBin dPlus (sVar 6) (sC (.int 1)) ρ = .ok (iN (lim + 1)) ρ := bin_ok (x := iN lim) (y := iN 1) v6 rfl (add_nat _ _)
    exact (if_no (or_no (bin_ok (x := iN yn) (y := iN y) (call_ok (ds := [coursesD R, lD (nms R), iN lim]) (by subst hρ; rfl) en) v7 (by rw [lt_nat, decide_eq_false (by omega)])) (bin_ok (x := iN yw) (y := iN y) (call_ok (ds := [coursesD R, lD gs, iN (lim + 1)]) (cons_ok (d := coursesD R) (by subst hρ; rfl) (cons_ok (d := lD gs) (by subst hρ; rfl) (one_ok a))) ew) v7 (by rw [gt_nat, decide_eq_false (by omega)])))).trans rfl
  have g8 : sBin dNe (sVar 4) (sMk .lst sNil) (kbE sc (some (.f (iN k))) (some (.o b3)) (some (.f (coursesD R))) (some (.f (lD (nms R)))) (some (.f (lD gs))) (some (.f (iN lim))) (some (.f (iN y))) x8 x9 x10 none x12 x13 none) = .ok (!(nms R).isEmpty) (kbE sc (some (.f (iN k))) (some (.o b3)) (some (.f (coursesD R))) (some (.f (lD (nms R)))) (some (.f (lD gs))) (some (.f (iN lim))) (some (.f (iN y))) x8 x9 x10 none x12 x13 none) := by
    refine bin_ok (x := lD (nms R)) (y := .nd .lst []) rfl (mk_ok (ds := []) rfl (small (by decide))) ?_
    rw [dNe_nil (dk_dok (n := 2) (by decide) (dk_nd (.inl rfl) fun x hx => by
      obtain ⟨s, hs, rfl⟩ := List.mem_map.mp hx
      exact dk_str _ (pl.ok.ok s hs)))]
    cases nms R <;> rfl
  cases hR : nms R with
  | nil =>
    rw [hR] at g8
    refine ⟨some (.o b3), some (.f (coursesD R)), some (.f (lD (nms R))), some (.f (lD gs)), some (.f (iN lim)), some (.f (iN y)), x8, x9, x10, none, x12, x13, none, (seq_ok f0).trans ((seq_ok f1).trans ((seq_ok f2).trans ((seq_ok f3).trans ((seq_ok f4).trans ((seq_ok f5).trans ((seq_ok f6).trans ((seq_ok f7).trans ?_)))))))⟩
    rw [hR]
    exact (if_no (show _ = Y.R.ok false _ from g8)).trans rfl
  | cons s0 R0 =>
    have hpos : 0 < R.length := by rw [← nl, hR]; exact Nat.succ_pos _
    rw [show (!(nms R).isEmpty) = true by rw [hR]; rfl] at g8
    obtain ⟨b', y8, y9, y10, y11, y12, y13, f9⟩ := inner_step sc (some (.f (iN k))) hb3 pl hl8 hpos go lim hy x8 x9 x10 none x12 x13 none
    exact ⟨_, _, _, _, _, _, _, _, _, _, _, _, _, (seq_ok f0).trans ((seq_ok f1).trans ((seq_ok f2).trans ((seq_ok f3).trans ((seq_ok f4).trans ((seq_ok f5).trans ((seq_ok f6).trans ((seq_ok f7).trans ((if_yes g8).trans f9))))))))⟩
theorem law_true : ∀ ns : List Int, ns.length ≤ 63 → fs_law [.nd .scr (ns.map D.int)] = .val false (.bl true) none := by
  intro ns _
  obtain ⟨ρ', e, y1, y2, y3, y4, y5, y6, y7, y8, y9, y10, y11, y12, y13, y14, h1⟩ := forL_inv (g := hName 1) (b := cellb) (fun j ρ => ∃ x1 x2 x3 x4 x5 x6 x7 x8 x9 x10 x11 x12 x13 x14, ρ = kbE (.nd .scr (ns.map D.int)) x1 x2 x3 x4 x5 x6 x7 x8 x9 x10 x11 x12 x13 x14) ((List.range' 0 (min ns.length 6 + 2)).map fun i : Nat => D.int (i : Int)) 0 (kbE (.nd .scr (ns.map D.int)) none none none none none none none none none none none none none none) ⟨_, _, _, _, _, _, _, _, _, _, _, _, _, _, rfl⟩ (fun i d ρ hd ⟨x1, x2, x3, x4, x5, x6, x7, x8, x9, x10, x11, x12, x13, x14, e1⟩ => by
    obtain ⟨n, hn, rfl⟩ := List.mem_map.mp (List.mem_of_getElem? hd)
    rw [List.mem_range'_1] at hn
    subst e1
    obtain ⟨y2, y3, y4, y5, y6, y7, y8, y9, y10, y11, y12, y13, y14, e2⟩ := cell_step ns n (by omega) x2 x3 x4 x5 x6 x7 x8 x9 x10 x11 x12 x13 x14
    exact ⟨_, _, rfl, e2, _, _, _, _, _, _, _, _, _, _, _, _, _, _, rfl⟩)
  refine fin_ok (ρ := ρ') rfl ?_
  show m_law (kbE (.nd .scr (ns.map D.int)) none none none none none none none none none none none none none none) = _
  unfold m_law
  exact (seq_ok (for_ok (count_ok (m := 6) (by decide) ns _) e)).trans rfl
end Y

open PySem PySem.W PyProof.Rows
set_option maxRecDepth 100000 in
set_option maxHeartbeats 0 in
theorem PySem.Challenge.cw_schoolbook_k32_whole_plans_between_bound_holds : PySem.Challenge.rw_schoolbook_k32_whole_plans_between_bound.Holds := by
  w_on; o_law; k_head; (case hw => w_witness2)
  k_fill
  refine Y.walk (fs := Y.fs_law) (k := 5) (l := PySem.Challenge.rw_schoolbook_k32_whole_plans_between_bound) ⟨rfl, by decide, by decide⟩ rfl rfl Y.law_true (fun w h Y => PySem.W.kIn_of Y) ?F
  case F =>
    intro w mg fa h KX G hmg
    refine' Y.all_mk KX G hmg ?a0 ?l0 ?c0 ?k0 ?a1 ?l1 ?c1 ?k1 ?a2 ?l2 ?c2 ?k2 ?a3 ?l3 ?c3 ?k3 ?a4 ?l4 ?c4 ?k4 ?a5 ?l5 ?c5 ?k5 ?a6 ?l6 ?c6 ?k6 ?a7 ?l7 ?c7 ?k7 ?a8 ?l8 ?c8 ?k8 ?a9 ?l9 ?c9 ?k9 ?a10 ?l10 ?c10 ?k10 ?a11 ?l11 ?c11 ?k11 ?a12 ?l12 ?c12 ?k12 ?a13 ?l13 ?c13 ?k13 ?a14 ?l14 ?c14 ?k14 ?a15 ?l15 ?c15 ?k15 ?a16 ?l16 ?c16 ?k16 ?z_all ?z_any ?z_dict ?z_isinstance ?z_len ?z_list ?z_max ?z_min ?z_range ?z_set ?z_sorted ?z_str ?z_sum ?z_tuple ?z_zip
    (case a0 => k_is); (case l0 => k_is); (case c0 => k_is); (case k0 => k_is); (case a1 => k_is); (case l1 => k_is)
    (case c1 => k_is); (case k1 => k_is); (case a2 => k_is); (case l2 => k_is); (case c2 => k_is); (case k2 => k_is)
    (case a3 => k_is); (case l3 => k_is); (case c3 => k_is); (case k3 => k_is); (case a4 => k_is); (case l4 => k_is)
    (case c4 => k_is); (case k4 => k_is); (case a5 => k_is); (case l5 => k_is); (case c5 => k_is); (case k5 => k_is)
    (case a6 => k_is); (case l6 => k_is); (case c6 => k_is); (case k6 => k_is); (case a7 => k_is); (case l7 => k_is)
    (case c7 => k_is); (case k7 => k_is); (case a8 => k_is); (case l8 => k_is); (case c8 => k_is); (case k8 => k_is)
    (case a9 => k_is); (case l9 => k_is); (case c9 => k_is); (case k9 => k_is); (case a10 => k_is); (case l10 => k_is)
    (case c10 => k_is); (case k10 => k_is); (case a11 => k_is); (case l11 => k_is); (case c11 => k_is); (case k11 => k_is)
    (case a12 => k_is); (case l12 => k_is); (case c12 => k_is); (case k12 => k_is); (case a13 => k_is); (case l13 => k_is)
    (case c13 => k_is); (case k13 => k_is); (case a14 => k_is); (case l14 => k_is); (case c14 => k_is); (case k14 => k_is)
    (case a15 => k_is); (case l15 => k_is); (case c15 => k_is); (case k15 => k_is); (case a16 => k_is); (case l16 => k_is)
    (case c16 => k_is); (case k16 => k_is); (case z_all => k_is); (case z_any => k_is); (case z_dict => k_is); (case z_isinstance => k_is)
    (case z_len => k_is); (case z_list => k_is); (case z_max => k_is); (case z_min => k_is); (case z_range => k_is); (case z_set => k_is)
    (case z_sorted => k_is); (case z_str => k_is); (case z_sum => k_is); (case z_tuple => k_is); (case z_zip => k_is)
#print axioms PySem.Challenge.cw_schoolbook_k32_whole_plans_between_bound_holds

