import PyProof.Rows.All
import Wide.All
import OpenK.AllK
import Wide.FinOn
import HandS.ForMost
import HandS.ForExc
import HandS.IsInst
import HandS.Deep
import HandS.Zip
import HandS.Walk
import HandS.Style
import HandS.Flow
import HandS.DictComp
import HandS.More
import HandS.TupAny
import HandS.RaiseMore
import HandS.Conv
import KE.SortData
import KE.SortCalls
import PyProof.Rows.SetFrom
import HandS.Set
import HandS.SetFor
import HandS.TupMul
import PySem.Challenge.RW_schoolbook_k30_results_by_hand
set_option Elab.async false
set_option linter.all false
set_option maxRecDepth 100000
set_option maxHeartbeats 2000000
/-! Values as data: a value semantics over the hand layer. -/
namespace Y
open PySem L2

inductive Kd where
  | tup | lst | scr | ktp
  | dK (ks : List Key)
  | dT (ks : List (List Key))

inductive D where
  | non | bl (b : Bool) | int (i : Int) | str (s : Str) | ty (n : String)
  | nd (k : Kd) (xs : List D)

/-- texts are no longer than may be -/
def keyL : Key → Bool
  | .inl _ => true
  | .inr s => decide (s.length ≤ sizeLine)
def keysL (ks : List Key) : Bool := ks.all keyL
def keyLL (k : List Key) : Bool := keysL k && decide (k.length ≤ sizeLine)
def keyssL (ks : List (List Key)) : Bool := ks.all keyLL
/-- an object that is read -/
def ItemAt (K : PySem.W.Frag) (H : Hp) (a : Addr) : Kd → List V → Prop
  | .lst, vs => H a = some (.lst vs) ∧ vs.length ≤ sizeLine
  | .scr, vs => SqL K H a vs ∧ vs.length ≤ sizeLine
  | .tup, vs => H a = some (.tup vs) ∧ vs.length ≤ sizeLine
  | .ktp, vs => SqT K H a vs ∧ vs.length ≤ sizeLine
  | .dK ks, vs => ks.length = vs.length ∧ Rd H a (.dK (ks.zip vs)) ∧ vs.length ≤ sizeLine ∧ keysL ks = true
  | .dT ks, vs => ks.length = vs.length ∧ Rd H a (.dT (ks.zip vs)) ∧ vs.length ≤ sizeLine ∧ keyssL ks = true
def owK : Kd → Bool
  | .lst => true | .dK _ => true | .dT _ => true | _ => false
/-- an object that may be changed -/
def ItemW (H : Hp) (a : Addr) : Kd → List V → Prop
  | .lst, vs => H a = some (.lst vs) ∧ vs.length ≤ sizeLine
  | .dK ks, vs => ks.length = vs.length ∧ H a = some (.dK (ks.zip vs)) ∧ vs.length ≤ sizeLine ∧ keysL ks = true
  | .dT ks, vs => ks.length = vs.length ∧ H a = some (.dT (ks.zip vs)) ∧ vs.length ≤ sizeLine ∧ keyssL ks = true
  | _, _ => False

mutual
inductive Fz (K : PySem.W.Frag) (F : Hp) : V → D → Prop
  | non : Fz K F .non .non
  | bl (b : Bool) : Fz K F (.bl b) (.bl b)
  | int (i : Int) : Fz K F (.int i) (.int i)
  | str (s : Str) (h : s.length ≤ sizeLine) : Fz K F (.str s) (.str s)
  | ty (n : String) : Fz K F (.ty n) (.ty n)
  | nd {a : Addr} {k : Kd} {vs : List V} {ds : List D} (h : ItemAt K F a k vs) (hs : Fzs K F vs ds) : Fz K F (.ref a) (.nd k ds)
inductive Fzs (K : PySem.W.Frag) (F : Hp) : List V → List D → Prop
  | nil : Fzs K F [] []
  | cons {v : V} {d : D} {vs : List V} {ds : List D} (h : Fz K F v d) (hs : Fzs K F vs ds) : Fzs K F (v :: vs) (d :: ds)
end

section
variable {K : PySem.W.Frag} {F F' H H' : Hp} {a : Addr} {k : Kd} {v : V} {d : D} {vs : List V} {ds : List D}
theorem rd_mono {u : HO} (e : Same F F') (h : Rd F a u) : Rd F' a u := by
  rcases h with h | ⟨o, h⟩
  · exact .inl (e _ _ h)
  · exact .inr ⟨o, e _ _ h⟩
theorem sqT_mono (e : Same F F') (h : SqT K F a vs) : SqT K F' a vs := by
  rcases h with h | h
  · exact .inl (rd_mono e h)
  · exact .inr h
theorem sqL_mono (e : Same F F') (h : SqL K F a vs) : SqL K F' a vs := e.seq h
theorem ItemAt.mono (e : Same F F') (h : ItemAt K F a k vs) : ItemAt K F' a k vs := by
  cases k with
  | tup => exact ⟨e _ _ h.1, h.2⟩
  | ktp => exact ⟨sqT_mono e h.1, h.2⟩
  | lst => exact ⟨e _ _ h.1, h.2⟩
  | scr => exact ⟨sqL_mono e h.1, h.2⟩
  | dK ks => exact ⟨h.1, rd_mono e h.2.1, h.2.2⟩
  | dT ks => exact ⟨h.1, rd_mono e h.2.1, h.2.2⟩
mutual
theorem Fz.mono (e : Same F F') : ∀ {v : V} {d : D}, Fz K F v d → Fz K F' v d
  | _, _, .non => .non
  | _, _, .bl b => .bl b
  | _, _, .int i => .int i
  | _, _, .str s h => .str s h
  | _, _, .ty n => .ty n
  | _, _, .nd h hs => .nd (h.mono e) (hs.mono e)
theorem Fzs.mono (e : Same F F') : ∀ {vs : List V} {ds : List D}, Fzs K F vs ds → Fzs K F' vs ds
  | _, _, .nil => .nil
  | _, _, .cons h hs => .cons (h.mono e) (hs.mono e)
end
theorem Fzs.length : ∀ {vs : List V} {ds : List D}, Fzs K F vs ds → vs.length = ds.length
  | _, _, .nil => rfl
  | _, _, .cons _ hs => congrArg Nat.succ (Fzs.length hs)
theorem Fzs.append : ∀ {vs ws : List V} {ds es : List D}, Fzs K F vs ds → Fzs K F ws es → Fzs K F (vs ++ ws) (ds ++ es)
  | _, _, _, _, .nil, h => h
  | _, _, _, _, .cons h hs, g => .cons h (Fzs.append hs g)
theorem Fzs.get : ∀ {vs : List V} {ds : List D} {i : Nat} {d : D}, Fzs K F vs ds → ds[i]? = some d → ∃ v, vs[i]? = some v ∧ Fz K F v d
  | _, _, _, _, .nil, e => by simp at e
  | _, _, 0, _, .cons h _, e => by simp at e; subst e; exact ⟨_, rfl, h⟩
  | _, _, i + 1, _, .cons _ hs, e => by
    obtain ⟨v, h1, h2⟩ := Fzs.get (i := i) hs (by simpa using e)
    exact ⟨v, by simpa using h1, h2⟩
theorem Fzs.getV : ∀ {vs : List V} {ds : List D} {i : Nat} {v : V}, Fzs K F vs ds → vs[i]? = some v → ∃ d, ds[i]? = some d ∧ Fz K F v d
  | _, _, _, _, .nil, e => by simp at e
  | _, _, 0, _, .cons h _, e => by simp at e; subst e; exact ⟨_, rfl, h⟩
  | _, _, i + 1, _, .cons _ hs, e => by
    obtain ⟨v, h1, h2⟩ := Fzs.getV (i := i) hs (by simpa using e)
    exact ⟨v, by simpa using h1, h2⟩
theorem Fzs.take : ∀ {vs : List V} {ds : List D} (n : Nat), Fzs K F vs ds → Fzs K F (vs.take n) (ds.take n)
  | _, _, 0, _ => .nil
  | _, _, _ + 1, .nil => .nil
  | _, _, n + 1, .cons h hs => .cons h (Fzs.take n hs)
theorem Fzs.drop : ∀ {vs : List V} {ds : List D} (n : Nat), Fzs K F vs ds → Fzs K F (vs.drop n) (ds.drop n)
  | _, _, 0, h => h
  | _, _, _ + 1, .nil => .nil
  | _, _, n + 1, .cons _ hs => Fzs.drop n hs
theorem Fzs.set (h : Fz K F v d) : ∀ {vs : List V} {ds : List D} (i : Nat), Fzs K F vs ds → Fzs K F (vs.set i v) (ds.set i d)
  | _, _, _, .nil => .nil
  | _, _, 0, .cons _ hs => .cons h hs
  | _, _, i + 1, .cons g hs => .cons g (Fzs.set h i hs)
theorem Fzs.reverse : ∀ {vs : List V} {ds : List D}, Fzs K F vs ds → Fzs K F vs.reverse ds.reverse
  | _, _, .nil => .nil
  | _, _, .cons h hs => by
    rw [List.reverse_cons, List.reverse_cons]
    exact (Fzs.reverse hs).append (.cons h .nil)
theorem Fzs.eraseIdx : ∀ {vs : List V} {ds : List D} (i : Nat), Fzs K F vs ds → Fzs K F (vs.eraseIdx i) (ds.eraseIdx i)
  | _, _, _, .nil => .nil
  | _, _, 0, .cons _ hs => hs
  | _, _, i + 1, .cons g hs => .cons g (Fzs.eraseIdx i hs)
/-- read now: frozen, or a changing object with frozen items -/
inductive Bz (K : PySem.W.Frag) (F H : Hp) : V → D → Prop
  | fz {v : V} {d : D} (h : Fz K F v d) : Bz K F H v d
  | cell {a : Addr} {k : Kd} {vs : List V} {ds : List D} (o : owK k = true) (h : ItemAt K H a k vs) (hs : Fzs K F vs ds) : Bz K F H (.ref a) (.nd k ds)
theorem Bz.node (e : Same F H) (h : Bz K F H v (.nd k ds)) : ∃ a vs, v = .ref a ∧ ItemAt K H a k vs ∧ Fzs K F vs ds := by
  cases h with
  | fz h => cases h with
    | nd h hs => exact ⟨_, _, rfl, h.mono e, hs⟩
  | cell o h hs => exact ⟨_, _, rfl, h, hs⟩
theorem ItemW.at (h : ItemW H a k vs) : ItemAt K H a k vs := by
  cases k with
  | tup => exact h.elim
  | ktp => exact h.elim
  | scr => exact h.elim
  | lst => exact h
  | dK ks => exact ⟨h.1, .inl h.2.1, h.2.2⟩
  | dT ks => exact ⟨h.1, .inl h.2.1, h.2.2⟩
theorem ItemW.ow (h : ItemW H a k vs) : owK k = true := by
  cases k with
  | tup => exact h.elim
  | ktp => exact h.elim
  | scr => exact h.elim
  | lst => rfl
  | dK ks => rfl
  | dT ks => rfl
theorem ItemW.any (h : ItemW H a k vs) : ∃ o, H a = some o := by
  cases k with
  | tup => exact h.elim
  | ktp => exact h.elim
  | scr => exact h.elim
  | lst => exact ⟨_, h.1⟩
  | dK ks => exact ⟨_, h.2.1⟩
  | dT ks => exact ⟨_, h.2.1⟩
theorem ItemW.keep (h : ItemW H a k vs) (e : ∀ o, H a = some o → H' a = some o) : ItemW H' a k vs := by
  cases k with
  | tup => exact h.elim
  | ktp => exact h.elim
  | scr => exact h.elim
  | lst => exact ⟨e _ h.1, h.2⟩
  | dK ks => exact ⟨h.1, e _ h.2.1, h.2.2⟩
  | dT ks => exact ⟨h.1, e _ h.2.1, h.2.2⟩
end

/-! ### slots -/
/-- frozen, owned, borrowed -/
inductive S where
  | f (d : D) | o (d : D) | b (d : D)
abbrev En := List (Option S)

inductive Sl (K : PySem.W.Frag) (β : V) (F H : Hp) : St → En → List Addr → Prop
  | nil : Sl K β F H [] [] []
  | skip {x : Option V} {σ : St} {ρ : En} {fp : List Addr} (t : Sl K β F H σ ρ fp) : Sl K β F H (x :: σ) (none :: ρ) fp
  | fr {v : V} {d : D} {σ : St} {ρ : En} {fp : List Addr} (h : Fz K F v d) (t : Sl K β F H σ ρ fp) : Sl K β F H (some v :: σ) (some (.f d) :: ρ) fp
  | ow {a : Addr} {k : Kd} {vs : List V} {ds : List D} {σ : St} {ρ : En} {fp : List Addr} (h : ItemW H a k vs) (hs : Fzs K F vs ds) (t : Sl K β F H σ ρ fp) : Sl K β F H (some (.ref a) :: σ) (some (.o (.nd k ds)) :: ρ) (a :: fp)
  | bo {a : Addr} {k : Kd} {vs : List V} {ds : List D} {σ : St} {ρ : En} {fp : List Addr} (e : β = .ref a) (h : ItemW H a k vs) (hs : Fzs K F vs ds) (t : Sl K β F H σ ρ fp) : Sl K β F H (some (.ref a) :: σ) (some (.b (.nd k ds)) :: ρ) (a :: fp)

/-- (nothing: a dict may be locked at any time) -/
def NoLock (_F : Hp) : Prop := True
structure Sta (K : PySem.W.Frag) (β : V) (lk : Bool) (F H : Hp) (σ : St) (ρ : En) (fp : List Addr) : Prop where
  ex : Same F H
  sl : Sl K β F H σ ρ fp
  nd : fp.Nodup
  own : ∀ a ∈ fp, F a = none
  lock : lk = false → NoLock F

/-- a tuple: it may be frozen late -/
def IsTp (H : Hp) (a : Addr) : Prop := ∃ vs, H a = some (.tup vs)
theorem IsTp.not {H : Hp} {a : Addr} {o : HO} (h : H a = some o) (n : ∀ vs, o ≠ .tup vs) : ¬ IsTp H a := fun ⟨vs, e⟩ => by
  rw [h] at e; exact n vs (Option.some.inj e)
theorem ItemW.nt {H : Hp} {a : Addr} {k : Kd} {vs : List V} (h : ItemW H a k vs) : ¬ IsTp H a := by
  cases k with
  | lst => exact IsTp.not h.1 fun _ e => nomatch e
  | dK ks => exact IsTp.not h.2.1 fun _ e => nomatch e
  | dT ks => exact IsTp.not h.2.1 fun _ e => nomatch e
  | tup => exact h.elim
  | ktp => exact h.elim
  | scr => exact h.elim
structure Tr (F H : Hp) (fp : List Addr) (F' H' : Hp) (fp' : List Addr) : Prop where
  ex : Same F F'
  keep : ∀ a o, H a = some o → a ∉ fp → H' a = some o
  new : ∀ a, a ∈ fp' ∨ (F a = none ∧ F' a ≠ none ∧ ¬ IsTp H a) → a ∈ fp ∨ H a = none

section
variable {K : PySem.W.Frag} {β : V} {lk : Bool} {F F' F1 F2 H H' H1 H2 : Hp} {fp fp' fp1 fp2 : List Addr} {σ : St} {ρ : En} {a : Addr} {v : V} {d : D}
theorem Tr.refl : Tr F H fp F H fp := ⟨Same.refl _, fun _ _ h _ => h, fun a h => h.elim .inl fun ⟨h1, h2, _⟩ => absurd h1 h2⟩
theorem Tr.trans (t : Tr F H fp F1 H1 fp1) (u : Tr F1 H1 fp1 F2 H2 fp2) : Tr F H fp F2 H2 fp2 := by
  have n1 : ∀ a o, H a = some o → a ∉ fp → a ∉ fp1 := fun a o h n m => (t.new a (.inl m)).elim n fun q => by rw [h] at q; cases q
  have back : ∀ a, a ∈ fp1 ∨ H1 a = none → a ∈ fp ∨ H a = none := fun a h => by
    rcases h with h | h
    · exact t.new a (.inl h)
    · by_cases hm : a ∈ fp
      · exact .inl hm
      · refine .inr ?_
        cases q : H a with
        | none => rfl
        | some o => rw [t.keep a o q hm] at h; cases h
  refine ⟨t.ex.trans u.ex, fun a o h n => u.keep a o (t.keep a o h n) (n1 a o h n), fun a h => ?_⟩
  rcases h with h | ⟨h1, h2, h3⟩
  · exact back a (u.new a (.inl h))
  · by_cases q : F1 a = none
    · by_cases hm : a ∈ fp
      · exact .inl hm
      · cases qq : H a with
        | none => exact .inr rfl
        | some o => exact back a (u.new a (.inr ⟨q, h2, fun ⟨vs, e⟩ => h3 ⟨vs, by rw [t.keep a o qq hm] at e; rw [qq]; exact e⟩⟩)) |>.imp id fun z => by rw [qq] at z; exact z
    · exact t.new a (.inr ⟨h1, q, h3⟩)
theorem Tr.sub {fp3 : List Addr} (t : Tr F H fp F' H' fp') (h : ∀ a ∈ fp3, a ∈ fp') : Tr F H fp F' H' fp3 :=
  ⟨t.ex, t.keep, fun a q => t.new a (q.imp (h a) id)⟩
/-- the same from a greater footprint -/
theorem Tr.wide {gp : List Addr} (t : Tr F H fp F' H' fp') (h : ∀ a ∈ fp, a ∈ gp) : Tr F H gp F' H' fp' :=
  ⟨t.ex, fun a o q n => t.keep a o q fun m => n (h a m), fun a q => (t.new a q).imp (h a) id⟩
theorem Sl.fpH (s : Sl K β F H σ ρ fp) : ∀ a ∈ fp, ∃ o, H a = some o := by
  induction s with
  | nil => intro a h; cases h
  | skip t ih => exact ih
  | fr h t ih => exact ih
  | ow h hs t ih => intro b hb; rcases List.mem_cons.mp hb with rfl | hb; exact h.any; exact ih b hb
  | bo e h hs t ih => intro b hb; rcases List.mem_cons.mp hb with rfl | hb; exact h.any; exact ih b hb
theorem Sl.fpT (s : Sl K β F H σ ρ fp) : ∀ a ∈ fp, ¬ IsTp H a := by
  induction s with
  | nil => intro a h; cases h
  | skip t ih => exact ih
  | fr h t ih => exact ih
  | ow h hs t ih => intro b hb; rcases List.mem_cons.mp hb with rfl | hb; exact h.nt; exact ih b hb
  | bo e h hs t ih => intro b hb; rcases List.mem_cons.mp hb with rfl | hb; exact h.nt; exact ih b hb
theorem Sl.frame (s : Sl K β F H σ ρ fp) (ex : Same F F') (kp : ∀ a ∈ fp, ∀ o, H a = some o → H' a = some o) : Sl K β F' H' σ ρ fp := by
  induction s with
  | nil => exact .nil
  | skip t ih => exact .skip (ih kp)
  | fr h t ih => exact .fr (h.mono ex) (ih kp)
  | ow h hs t ih => exact .ow (h.keep (kp _ List.mem_cons_self)) (hs.mono ex) (ih fun b hb => kp b (List.mem_cons_of_mem _ hb))
  | bo e h hs t ih => exact .bo e (h.keep (kp _ List.mem_cons_self)) (hs.mono ex) (ih fun b hb => kp b (List.mem_cons_of_mem _ hb))
theorem Sl.len (s : Sl K β F H σ ρ fp) : σ.length = ρ.length := by
  induction s with
  | nil => rfl
  | skip t ih => simp [ih]
  | fr h t ih => simp [ih]
  | ow h hs t ih => simp [ih]
  | bo e h hs t ih => simp [ih]
/-- a frozen slot is read -/
theorem Sl.getF (s : Sl K β F H σ ρ fp) : ∀ {i : Nat} {d : D}, ρ[i]? = some (some (.f d)) → ∃ v, σ[i]? = some (some v) ∧ Fz K F v d := by
  induction s with
  | nil => intro i d e; simp at e
  | skip t ih => intro i d e; cases i with
    | zero => simp at e
    | succ i => simpa using ih (i := i) (by simpa using e)
  | fr h t ih => intro i d e; cases i with
    | zero => simp at e; subst e; exact ⟨_, rfl, h⟩
    | succ i => simpa using ih (i := i) (by simpa using e)
  | ow h hs t ih => intro i d e; cases i with
    | zero => simp at e
    | succ i => simpa using ih (i := i) (by simpa using e)
  | bo e' h hs t ih => intro i d e; cases i with
    | zero => simp at e
    | succ i => simpa using ih (i := i) (by simpa using e)
/-- any slot is read -/
theorem Sl.getB (s : Sl K β F H σ ρ fp) : ∀ {i : Nat} {x : S}, ρ[i]? = some (some x) → ∃ v, σ[i]? = some (some v) ∧ Bz K F H v (match x with | .f d => d | .o d => d | .b d => d) := by
  induction s with
  | nil => intro i d e; simp at e
  | skip t ih => intro i d e; cases i with
    | zero => simp at e
    | succ i => simpa using ih (i := i) (by simpa using e)
  | fr h t ih => intro i d e; cases i with
    | zero => simp at e; subst e; exact ⟨_, rfl, .fz h⟩
    | succ i => simpa using ih (i := i) (by simpa using e)
  | ow h hs t ih => intro i d e; cases i with
    | zero => simp at e; subst e; exact ⟨_, rfl, .cell h.ow h.at hs⟩
    | succ i => simpa using ih (i := i) (by simpa using e)
  | bo e' h hs t ih => intro i d e; cases i with
    | zero => simp at e; subst e; exact ⟨_, rfl, .cell h.ow h.at hs⟩
    | succ i => simpa using ih (i := i) (by simpa using e)
/-- a slot forgotten, or stored frozen -/
theorem Sl.store (s : Sl K β F H σ ρ fp) (h : Fz K F v d) : ∀ {i : Nat}, ∃ fp', Sl K β F H (σ.set i (some v)) (ρ.set i (some (.f d))) fp' ∧ List.Sublist fp' fp := by
  induction s with
  | nil => intro i; exact ⟨_, .nil, List.Sublist.refl _⟩
  | skip t ih => intro i; cases i with
    | zero => exact ⟨_, .fr h t, List.Sublist.refl _⟩
    | succ i => obtain ⟨q, h1, h2⟩ := ih (i := i); exact ⟨q, .skip h1, h2⟩
  | fr g t ih => intro i; cases i with
    | zero => exact ⟨_, .fr h t, List.Sublist.refl _⟩
    | succ i => obtain ⟨q, h1, h2⟩ := ih (i := i); exact ⟨q, .fr g h1, h2⟩
  | ow g hs t ih => intro i; cases i with
    | zero => exact ⟨_, .fr h t, List.sublist_cons_self _ _⟩
    | succ i => obtain ⟨q, h1, h2⟩ := ih (i := i); exact ⟨_, .ow g hs h1, h2.cons_cons _⟩
  | bo e g hs t ih => intro i; cases i with
    | zero => exact ⟨_, .fr h t, List.sublist_cons_self _ _⟩
    | succ i => obtain ⟨q, h1, h2⟩ := ih (i := i); exact ⟨_, .bo e g hs h1, h2.cons_cons _⟩
theorem Sl.storeO {a : Addr} {k : Kd} {vs : List V} {ds : List D} (s : Sl K β F H σ ρ fp) (h : ItemW H a k vs) (hz : Fzs K F vs ds) : ∀ {i : Nat}, ∃ fp', Sl K β F H (σ.set i (some (.ref a))) (ρ.set i (some (.o (.nd k ds)))) fp' ∧ (∀ b ∈ fp', b ∈ a :: fp) ∧ ((a :: fp).Nodup → fp'.Nodup) := by
  induction s with
  | nil => intro i; exact ⟨_, .nil, fun b hb => (by cases hb), fun _ => List.nodup_nil⟩
  | skip t ih => intro i; cases i with
    | zero => exact ⟨_, .ow h hz t, fun b hb => hb, fun n => n⟩
    | succ i => obtain ⟨q, h1, h2, h3⟩ := ih (i := i); exact ⟨q, .skip h1, h2, h3⟩
  | fr g t ih => intro i; cases i with
    | zero => exact ⟨_, .ow h hz t, fun b hb => hb, fun n => n⟩
    | succ i => obtain ⟨q, h1, h2, h3⟩ := ih (i := i); exact ⟨q, .fr g h1, h2, h3⟩
  | @ow a0 k0 vs0 ds0 σ ρ fp g hs t ih => intro i; cases i with
    | zero => exact ⟨_, .ow h hz t, fun b hb => (List.mem_cons.mp hb).elim (fun e => e ▸ List.mem_cons_self) fun e => List.mem_cons_of_mem _ (List.mem_cons_of_mem _ e), fun n => (List.nodup_cons.mpr ⟨fun m => (List.nodup_cons.mp n).1 (List.mem_cons_of_mem _ m), (List.nodup_cons.mp (List.nodup_cons.mp n).2).2⟩)⟩
    | succ i =>
      obtain ⟨q, h1, h2, h3⟩ := ih (i := i)
      refine ⟨a0 :: q, .ow g hs h1, fun b hb => ?_, fun n => ?_⟩
      · rcases List.mem_cons.mp hb with rfl | hb
        · exact List.mem_cons_of_mem _ List.mem_cons_self
        · rcases List.mem_cons.mp (h2 b hb) with rfl | hb
          · exact List.mem_cons_self
          · exact List.mem_cons_of_mem _ (List.mem_cons_of_mem _ hb)
      · have n1 := List.nodup_cons.mp n
        have n2 := List.nodup_cons.mp n1.2
        refine List.nodup_cons.mpr ⟨fun m => ?_, h3 (List.nodup_cons.mpr ⟨fun m => n1.1 (List.mem_cons_of_mem _ m), n2.2⟩)⟩
        rcases List.mem_cons.mp (h2 _ m) with e | e
        · exact n1.1 (e ▸ List.mem_cons_self)
        · exact n2.1 e
  | @bo a0 k0 vs0 ds0 σ ρ fp eb g hs t ih => intro i; cases i with
    | zero => exact ⟨_, .ow h hz t, fun b hb => (List.mem_cons.mp hb).elim (fun e => e ▸ List.mem_cons_self) fun e => List.mem_cons_of_mem _ (List.mem_cons_of_mem _ e), fun n => (List.nodup_cons.mpr ⟨fun m => (List.nodup_cons.mp n).1 (List.mem_cons_of_mem _ m), (List.nodup_cons.mp (List.nodup_cons.mp n).2).2⟩)⟩
    | succ i =>
      obtain ⟨q, h1, h2, h3⟩ := ih (i := i)
      refine ⟨a0 :: q, .bo eb g hs h1, fun b hb => ?_, fun n => ?_⟩
      · rcases List.mem_cons.mp hb with rfl | hb
        · exact List.mem_cons_of_mem _ List.mem_cons_self
        · rcases List.mem_cons.mp (h2 b hb) with rfl | hb
          · exact List.mem_cons_self
          · exact List.mem_cons_of_mem _ (List.mem_cons_of_mem _ hb)
      · have n1 := List.nodup_cons.mp n
        have n2 := List.nodup_cons.mp n1.2
        refine List.nodup_cons.mpr ⟨fun m => ?_, h3 (List.nodup_cons.mpr ⟨fun m => n1.1 (List.mem_cons_of_mem _ m), n2.2⟩)⟩
        rcases List.mem_cons.mp (h2 _ m) with e | e
        · exact n1.1 (e ▸ List.mem_cons_self)
        · exact n2.1 e
theorem Sl.drop (s : Sl K β F H σ ρ fp) : ∀ {i : Nat} (x : Option V), ∃ fp', Sl K β F H (σ.set i x) (ρ.set i none) fp' ∧ List.Sublist fp' fp := by
  induction s with
  | nil => intro i x; exact ⟨_, .nil, List.Sublist.refl _⟩
  | skip t ih => intro i x; cases i with
    | zero => exact ⟨_, .skip t, List.Sublist.refl _⟩
    | succ i => obtain ⟨q, h1, h2⟩ := ih (i := i) x; exact ⟨q, .skip h1, h2⟩
  | fr g t ih => intro i x; cases i with
    | zero => exact ⟨_, .skip t, List.Sublist.refl _⟩
    | succ i => obtain ⟨q, h1, h2⟩ := ih (i := i) x; exact ⟨q, .fr g h1, h2⟩
  | ow g hs t ih => intro i x; cases i with
    | zero => exact ⟨_, .skip t, List.sublist_cons_self _ _⟩
    | succ i => obtain ⟨q, h1, h2⟩ := ih (i := i) x; exact ⟨_, .ow g hs h1, h2.cons_cons _⟩
  | bo e g hs t ih => intro i x; cases i with
    | zero => exact ⟨_, .skip t, List.sublist_cons_self _ _⟩
    | succ i => obtain ⟨q, h1, h2⟩ := ih (i := i) x; exact ⟨_, .bo e g hs h1, h2.cons_cons _⟩
/-- a new object's place is not among them -/
theorem Sta.fresh (s : Sta K β lk F H σ ρ fp) {p : Addr} (h : H p = none) : p ∉ fp ∧ F p = none :=
  ⟨fun m => (by obtain ⟨o, e⟩ := s.sl.fpH p m; rw [h] at e; cases e), s.ex.free h⟩
/-- others go on, ours stands -/
theorem Sta.frame {gp gp' : List Addr} (s : Sta K β lk F H σ ρ fp) (t : Tr F H gp F' H' gp') (dj : ∀ a ∈ fp, a ∉ gp) (ex : Same F' H') (lock : lk = false → NoLock F') :
    Sta K β lk F' H' σ ρ fp ∧ ∀ a ∈ fp, a ∉ gp' := by
  have nn : ∀ a ∈ fp, ¬ (a ∈ gp ∨ H a = none) := fun a ha q => by
    rcases q with q | q
    · exact dj a ha q
    · obtain ⟨o, e⟩ := s.sl.fpH a ha; rw [q] at e; cases e
  refine ⟨⟨ex, s.sl.frame t.ex fun a ha o h => t.keep a o h (dj a ha), s.nd, fun a ha => ?_, lock⟩, fun a ha m => nn a ha (t.new a (.inl m))⟩
  cases q : F' a with
  | none => rfl
  | some o => exact absurd (t.new a (.inr ⟨s.own a ha, by rw [q]; exact (fun z => nomatch z), s.sl.fpT a ha⟩)) (nn a ha)
end
/-! ### new objects -/
def mkHO : Kd → List V → Option HO
  | .lst, vs => if vs.length ≤ sizeLine then some (.lst vs) else none
  | .tup, vs => if vs.length ≤ sizeLine then some (.tup vs) else none
  | .dK ks, vs => if ks.length = vs.length ∧ vs.length ≤ sizeLine ∧ keysL ks = true then some (.dK (ks.zip vs)) else none
  | .dT ks, vs => if ks.length = vs.length ∧ vs.length ≤ sizeLine ∧ keyssL ks = true then some (.dT (ks.zip vs)) else none
  | .scr, _ => none
  | .ktp, _ => none
section
variable {K : PySem.W.Frag} {β : V} {lk : Bool} {F F' H H' : Hp} {fp : List Addr} {σ : St} {ρ : En} {p : Addr} {k : Kd} {vs : List V} {ds : List D} {ho : HO}
theorem mkAt (e : mkHO k vs = some ho) (h : F p = some ho) : ItemAt K F p k vs := by
  cases k <;> simp only [mkHO] at e
  case scr => cases e
  case ktp => cases e
  all_goals
    split at e
    · rename_i c
      cases e
      first
        | exact ⟨h, c⟩
        | exact ⟨c.1, .inl h, c.2⟩
    · cases e
theorem mkW (e : mkHO k vs = some ho) (o : owK k = true) (h : F p = some ho) : ItemW F p k vs := by
  cases k <;> simp only [mkHO] at e
  case scr => cases e
  case ktp => cases e
  case tup => cases o
  all_goals
    split at e
    · rename_i c
      cases e
      first
        | exact ⟨h, c⟩
        | exact ⟨c.1, h, c.2⟩
    · cases e
theorem mkNf (e : mkHO k vs = some ho) : ∀ o u, ho ≠ .frz o u := by
  intro o u q
  subst q
  cases k <;> simp only [mkHO] at e
  case scr => cases e
  case ktp => cases e
  all_goals
    split at e <;> cases e
theorem NoLock.upd (_n : NoLock F) (_h : ∀ o u, ho ≠ .frz o u) : NoLock (upd F p ho) := trivial
theorem same_upd (h : F p = none) : Same F (upd F p ho) := fun b o e => by rw [upd_ne (ne_of_none e h)]; exact e
theorem same_upd2 (h : Same F H) (hp : H p = none) : Same (upd F p ho) (upd H p ho) := fun b o e => by
  by_cases q : b = p
  · subst q; rw [upd_same] at e ⊢; exact e
  · rw [upd_ne q] at e ⊢; exact h b o e
theorem same_updR (h : Same F H) (hp : F p = none) : Same F (upd H p ho) := fun b o e => by
  rw [upd_ne (ne_of_none e hp)]; exact h b o e
/-- a new object, frozen at once -/
theorem Sta.new (s : Sta K β lk F H σ ρ fp) (hp : H p = none) (e : mkHO k vs = some ho) (hs : Fzs K F vs ds) :
    Sta K β lk (upd F p ho) (upd H p ho) σ ρ fp ∧ Tr F H fp (upd F p ho) (upd H p ho) fp ∧ Fz K (upd F p ho) (.ref p) (.nd k ds) := by
  obtain ⟨n1, n2⟩ := s.fresh hp
  have ex : Same F (upd F p ho) := same_upd n2
  refine ⟨⟨same_upd2 s.ex hp, s.sl.frame ex fun a ha o h => ?_, s.nd, fun a ha => ?_, fun z => (s.lock z).upd (mkNf e)⟩, ⟨ex, fun a o h n => ?_, fun a h => ?_⟩, .nd (mkAt e upd_same) (hs.mono ex)⟩
  · rw [upd_ne (ne_of_none h hp)]; exact h
  · rw [upd_ne (fun (z : a = p) => n1 (z ▸ ha))]; exact s.own a ha
  · rw [upd_ne (ne_of_none h hp)]; exact h
  · rcases h with h | ⟨h1, h2, _⟩
    · exact .inl h
    · refine .inr ?_
      by_cases q : a = p
      · rw [q]; exact hp
      · rw [upd_ne q] at h2; exact absurd h1 h2
/-- a new object, ours -/
theorem Sta.newO (s : Sta K β lk F H σ ρ fp) (hp : H p = none) (e : mkHO k vs = some ho) (o : owK k = true) (hs : Fzs K F vs ds) :
    Sta K β lk F (upd H p ho) (some (.ref p) :: σ) (some (.o (.nd k ds)) :: ρ) (p :: fp) ∧ Tr F H fp F (upd H p ho) (p :: fp) := by
  obtain ⟨n1, n2⟩ := s.fresh hp
  refine ⟨⟨same_updR s.ex n2, .ow (mkW e o upd_same) hs (s.sl.frame (Same.refl _) fun a ha u h => ?_), List.nodup_cons.mpr ⟨n1, s.nd⟩, fun a ha => ?_, s.lock⟩, ⟨Same.refl _, fun a u h n => ?_, fun a h => ?_⟩⟩
  · rw [upd_ne (ne_of_none h hp)]; exact h
  · rcases List.mem_cons.mp ha with rfl | ha
    · exact n2
    · exact s.own a ha
  · rw [upd_ne (ne_of_none h hp)]; exact h
  · rcases h with h | ⟨h1, h2, _⟩
    · rcases List.mem_cons.mp h with rfl | h
      · exact .inr hp
      · exact .inl h
    · exact absurd h1 h2
theorem ItemW.nf (h : ItemW H p k vs) : ∃ ho, mkHO k vs = some ho ∧ H p = some ho := by
  cases k with
  | tup => exact h.elim
  | ktp => exact h.elim
  | scr => exact h.elim
  | lst => exact ⟨_, if_pos h.2, h.1⟩
  | dK ks => exact ⟨_, if_pos ⟨h.1, h.2.2.1, h.2.2.2⟩, h.2.1⟩
  | dT ks => exact ⟨_, if_pos ⟨h.1, h.2.2.1, h.2.2.2⟩, h.2.1⟩
/-- what is ours is frozen -/
theorem Sta.freeze (s : Sta K β lk F H σ ρ (p :: fp)) (hw : ItemW H p k vs) (hs : Fzs K F vs ds) {σ' : St} {ρ' : En} (sl : Sl K β F H σ' ρ' fp) :
    ∃ F', Sta K β lk F' H σ' ρ' fp ∧ Tr F H (p :: fp) F' H fp ∧ Fz K F' (.ref p) (.nd k ds) := by
  obtain ⟨ho, e, hp⟩ := hw.nf
  have n2 : F p = none := s.own p List.mem_cons_self
  have nd := List.nodup_cons.mp s.nd
  have ex : Same F (upd F p ho) := same_upd n2
  refine ⟨upd F p ho, ⟨fun b o q => ?_, sl.frame ex fun _ _ _ h => h, nd.2, fun a ha => ?_, fun z => (s.lock z).upd (mkNf e)⟩, ⟨ex, fun a o h n => h, fun a h => ?_⟩, .nd (mkAt e upd_same) (hs.mono ex)⟩
  · by_cases z : b = p
    · subst z; rw [upd_same] at q; rw [hp]; exact q
    · rw [upd_ne z] at q; exact s.ex b o q
  · rw [upd_ne (fun (z : a = p) => nd.1 (z ▸ ha))]; exact s.own a (List.mem_cons_of_mem _ ha)
  · rcases h with h | ⟨h1, h2, _⟩
    · exact .inl (List.mem_cons_of_mem _ h)
    · by_cases q : a = p
      · rw [q]; exact .inl List.mem_cons_self
      · rw [upd_ne q] at h2; exact absurd h1 h2
end
end Y

set_option Elab.async false
set_option linter.all false
set_option maxRecDepth 100000
set_option maxHeartbeats 2000000
/-! The judgements by values; names, constants, operators, tests. -/
namespace Y
open PySem L2

inductive R (α : Type) where
  | ok (a : α) (ρ : En) | exc (c : Str) (x : Option (Str × D)) (ρ : En) | bad
def bnd {α β : Type} (r : R α) (g : α → En → R β) : R β :=
  match r with
  | .ok a ρ => g a ρ
  | .exc c x ρ => .exc c x ρ
  | .bad => .bad
def lift {α : Type} (o : Option α) (ρ : En) : R α :=
  match o with
  | some a => .ok a ρ
  | none => .bad
structure Wd where
  β : V
  lk : Bool
  cls : Str → Value
  W : WX
def XR (K : PySem.W.Frag) (F H : Hp) (x : Option (Str × D)) (dd : Option Addr) : Prop :=
  match x with
  | none => dd = none
  | some (f, d) => ∃ a v, dd = some a ∧ H a = some (.xd [(f, v)]) ∧ Fz K F v d
abbrev StaW (K : PySem.W.Frag) (w : Wd) := Sta K w.β w.lk
def Pst (K : PySem.W.Frag) (w : Wd) (F H : Hp) (fp : List Addr) (σ : St) {α : Type} (r : R α) (N : α → En → Hp → Hp → List Addr → Prop) : Prop :=
  match r with
  | .ok a ρ' => ∀ F' H' fp', Tr F H fp F' H' fp' → N a ρ' F' H' fp'
  | .exc c x ρ' => ∀ F' H' fp' dd, Tr F H fp F' H' fp' → StaW K w F' H' σ ρ' fp' → XR K F' H' x dd → w.W (w.cls c) dd σ H'
  | .bad => False
section
variable {K : PySem.W.Frag} {w : Wd} {F F1 H H1 : Hp} {fp fp1 : List Addr} {σ : St} {α β : Type} {r : R α} {g : α → En → R β} {N : α → En → Hp → Hp → List Addr → Prop} {M : β → En → Hp → Hp → List Addr → Prop}
theorem Pst.tr (h : Pst K w F H fp σ r N) (t : Tr F H fp F1 H1 fp1) : Pst K w F1 H1 fp1 σ r N := by
  cases r with
  | ok a ρ => exact fun F' H' fp' u => h F' H' fp' (t.trans u)
  | exc c x ρ => exact fun F' H' fp' dd u => h F' H' fp' dd (t.trans u)
  | bad => exact h
theorem Pst.bnd (h : Pst K w F H fp σ (bnd r g) M) (k : ∀ a ρ1 F1 H1 fp1, Tr F H fp F1 H1 fp1 → Pst K w F1 H1 fp1 σ (g a ρ1) M → N a ρ1 F1 H1 fp1) : Pst K w F H fp σ r N := by
  cases r with
  | ok a ρ => exact fun F' H' fp' u => k a ρ F' H' fp' u (Pst.tr (r := g a ρ) h u)
  | exc c x ρ => exact h
  | bad => exact h
theorem Pst.imp (h : Pst K w F H fp σ r N) {N' : α → En → Hp → Hp → List Addr → Prop} (k : ∀ a ρ1 F1 H1 fp1, Tr F H fp F1 H1 fp1 → N a ρ1 F1 H1 fp1 → N' a ρ1 F1 H1 fp1) : Pst K w F H fp σ r N' := by
  cases r with
  | ok a ρ => exact fun F' H' fp' u => k a ρ F' H' fp' u (h F' H' fp' u)
  | exc c x ρ => exact h
  | bad => exact h
theorem Pst.lift {o : Option α} {ρ : En} (h : Pst K w F H fp σ (Y.lift o ρ) N) : ∃ a, o = some a ∧ ∀ F' H' fp', Tr F H fp F' H' fp' → N a ρ F' H' fp' := by
  cases o with
  | none => exact h.elim
  | some a => exact ⟨a, rfl, h⟩
end

def nF (K : PySem.W.Frag) (w : Wd) (σ : St) (Q : VK) : D → En → Hp → Hp → List Addr → Prop := fun d ρ F H fp => ∀ v, StaW K w F H σ ρ fp → Fz K F v d → Q v H
def nB (K : PySem.W.Frag) (w : Wd) (σ : St) (Q : VK) : D → En → Hp → Hp → List Addr → Prop := fun d ρ F H fp => ∀ v, StaW K w F H σ ρ fp → Bz K F H v d → Q v H
def nO (K : PySem.W.Frag) (w : Wd) (σ : St) (Q : VK) : D → En → Hp → Hp → List Addr → Prop := fun d ρ F H fp => ∀ v, StaW K w F H (some v :: σ) (some (.o d) :: ρ) fp → Q v H
def nT (K : PySem.W.Frag) (w : Wd) (σ : St) (Q : Bool → Hp → Prop) : Bool → En → Hp → Hp → List Addr → Prop := fun b ρ F H fp => StaW K w F H σ ρ fp → Q b H
def nA (K : PySem.W.Frag) (w : Wd) (σ : St) (Q : List V → Hp → Prop) : List D → En → Hp → Hp → List Addr → Prop := fun ds ρ F H fp => ∀ vs, StaW K w F H σ ρ fp → Fzs K F vs ds → Q vs H
def cF (K : PySem.W.Frag) (w : Wd) (f : En → R D) : TE := fun σ H Q => ∃ F ρ fp, StaW K w F H σ ρ fp ∧ Pst K w F H fp σ (f ρ) (nF K w σ Q)
def cB (K : PySem.W.Frag) (w : Wd) (f : En → R D) : TE := fun σ H Q => ∃ F ρ fp, StaW K w F H σ ρ fp ∧ Pst K w F H fp σ (f ρ) (nB K w σ Q)
def cO (K : PySem.W.Frag) (w : Wd) (f : En → R D) : TE := fun σ H Q => ∃ F ρ fp, StaW K w F H σ ρ fp ∧ Pst K w F H fp σ (f ρ) (nO K w σ Q)
def cT (K : PySem.W.Frag) (w : Wd) (f : En → R Bool) : TT := fun σ H Q => ∃ F ρ fp, StaW K w F H σ ρ fp ∧ Pst K w F H fp σ (f ρ) (nT K w σ Q)
def cA (K : PySem.W.Frag) (w : Wd) (f : En → R (List D)) : TA := fun σ H Q => ∃ F ρ fp, StaW K w F H σ ρ fp ∧ Pst K w F H fp σ (f ρ) (nA K w σ Q)

section
variable {X : Cx} {e : Expr} {es : List Expr}
theorem peI {t t' : TE} (h : PE X e t) (k : ∀ σ H Q, t' σ H Q → t σ H Q) : PE X e t' := ⟨fun pins s σ H Q I q => h.run pins s σ H Q I (k σ H Q q)⟩
theorem ptI {t t' : TT} (h : PT X e t) (k : ∀ σ H Q, t' σ H Q → t σ H Q) : PT X e t' := ⟨fun pins s σ H Q I q => h.run pins s σ H Q I (k σ H Q q)⟩
theorem pwI {t t' : TT} (h : PW X e t) (k : ∀ σ H Q, t' σ H Q → t σ H Q) : PW X e t' := ⟨fun wh pins s σ H Q I q => h.run wh pins s σ H Q I (k σ H Q q)⟩
theorem paI {t t' : TA} (h : PA X es t) (k : ∀ σ H Q, t' σ H Q → t σ H Q) : PA X es t' := ⟨fun pos pins s σ H Q I q => h.run pos pins s σ H Q I (k σ H Q q)⟩
end

section
variable {K : PySem.W.Frag} {w : Wd} {σ : St} {H : Hp} {Q : VK} {f : En → R D}
theorem cB_of (h : cB K w f σ H Q) : cF K w f σ H Q := by
  obtain ⟨F, ρ, fp, s, h⟩ := h
  exact ⟨F, ρ, fp, s, h.imp fun d ρ1 F1 H1 fp1 _ n v s1 z => n v s1 (.fz z)⟩
theorem cF_fz (h : cF K w f σ H Q) : cO K w f σ H Q := by
  obtain ⟨F, ρ, fp, s, h⟩ := h
  refine ⟨F, ρ, fp, s, ?_⟩
  cases q : f ρ with
  | bad => rw [q] at h; exact h
  | exc c x ρ => rw [q] at h; exact h
  | ok d ρ1 =>
    rw [q] at h
    intro F1 H1 fp1 t v s1
    cases hs : s1.sl with
    | ow hw hz sl =>
      obtain ⟨F2, s2, t2, z⟩ := Sta.freeze s1 hw hz sl
      exact h F2 H1 _ (t.trans t2) _ s2 z
end
section
variable {X : Cx} {w : Wd} {e : Expr} {f : En → R D}
theorem dB (h : PE X e (cF X.K w f)) : PE X e (cB X.K w f) := peI h fun σ H Q q => cB_of q
theorem dF (h : PE X e (cO X.K w f)) : PE X e (cF X.K w f) := peI h fun σ H Q q => cF_fz q
end

/-! ### slots -/
def sVar (i : Nat) : En → R D := fun ρ => match ρ[i]? with
  | some (some (.f d)) => .ok d ρ
  | _ => .bad
def sBor (i : Nat) : En → R D := fun ρ => match ρ[i]? with
  | some (some (.f d)) => .ok d ρ
  | some (some (.o d)) => .ok d ρ
  | some (some (.b d)) => .ok d ρ
  | _ => .bad
/-- an owned name is given away: frozen from now on -/
def sFrz (i : Nat) : En → R D := fun ρ => match ρ[i]? with
  | some (some (.o d)) => .ok d (ρ.set i (some (.f d)))
  | some (some (.f d)) => .ok d ρ
  | _ => .bad
/-- an owned name is given away whole: the name is forgotten -/
def sMov (i : Nat) : En → R D := fun ρ => match ρ[i]? with
  | some (some (.o d)) => .ok d (ρ.set i none)
  | _ => .bad
def sC (d : D) : En → R D := fun ρ => .ok d ρ

section
variable {K : PySem.W.Frag} {β : V} {F F' H H' : Hp} {fp : List Addr} {σ : St} {ρ : En}
/-- the place of a changing slot -/
theorem Sl.own (s : Sl K β F H σ ρ fp) (mk : D → S) (hm : mk = S.o ∨ mk = S.b) : ∀ {i : Nat} {d : D}, ρ[i]? = some (some (mk d)) →
    ∃ a k vs ds fp1 fp2, d = .nd k ds ∧ fp = fp1 ++ a :: fp2 ∧ σ[i]? = some (some (.ref a)) ∧ ItemW H a k vs ∧ Fzs K F vs ds ∧ (mk = S.b → β = .ref a) ∧
      (∀ F' H' d', Same F F' → (∀ b ∈ fp1 ++ fp2, ∀ o, H b = some o → H' b = some o) → Fz K F' (.ref a) d' → Sl K β F' H' σ (ρ.set i (some (.f d'))) (fp1 ++ fp2)) ∧
      (∀ F' H' k' vs' ds', Same F F' → (∀ b ∈ fp1 ++ fp2, ∀ o, H b = some o → H' b = some o) → ItemW H' a k' vs' → Fzs K F' vs' ds' → Sl K β F' H' σ (ρ.set i (some (mk (.nd k' ds')))) fp) ∧
      (∀ F' H', Same F F' → (∀ b ∈ fp1 ++ fp2, ∀ o, H b = some o → H' b = some o) → Sl K β F' H' σ (ρ.set i none) (fp1 ++ fp2)) := by
  induction s with
  | nil => intro i d e; simp at e
  | @skip x σ ρ fp t ih =>
    intro i d e
    cases i with
    | zero => simp at e
    | succ i =>
      obtain ⟨a, k, vs, ds, fp1, fp2, h1, h2, h3, h4, h5, h6, h7, h8, h9⟩ := ih (i := i) (by simpa using e)
      exact ⟨a, k, vs, ds, fp1, fp2, h1, h2, by simpa using h3, h4, h5, h6, fun F' H' d' q1 q2 q3 => .skip (h7 F' H' d' q1 q2 q3), fun F' H' k' vs' ds' q1 q2 q3 q4 => .skip (h8 F' H' k' vs' ds' q1 q2 q3 q4), fun F' H' q1 q2 => .skip (h9 F' H' q1 q2)⟩
  | @fr v d0 σ ρ fp h t ih =>
    intro i d e
    cases i with
    | zero => rcases hm with rfl | rfl <;> simp at e
    | succ i =>
      obtain ⟨a, k, vs, ds, fp1, fp2, h1, h2, h3, h4, h5, h6, h7, h8, h9⟩ := ih (i := i) (by simpa using e)
      exact ⟨a, k, vs, ds, fp1, fp2, h1, h2, by simpa using h3, h4, h5, h6, fun F' H' d' q1 q2 q3 => .fr (h.mono q1) (h7 F' H' d' q1 q2 q3), fun F' H' k' vs' ds' q1 q2 q3 q4 => .fr (h.mono q1) (h8 F' H' k' vs' ds' q1 q2 q3 q4), fun F' H' q1 q2 => .fr (h.mono q1) (h9 F' H' q1 q2)⟩
  | @ow a0 k0 vs0 ds0 σ ρ fp h hs t ih =>
    intro i d e
    cases i with
    | zero =>
      rcases hm with rfl | rfl
      · simp at e
        subst e
        exact ⟨a0, k0, vs0, ds0, [], fp, rfl, rfl, rfl, h, hs, fun z => (by cases (congrFun z .non)), fun F' H' d' q1 q2 q3 => .fr q3 (t.frame q1 q2), fun F' H' k' vs' ds' q1 q2 q3 q4 => .ow q3 q4 (t.frame q1 q2), fun F' H' q1 q2 => .skip (t.frame q1 q2)⟩
      · simp at e
    | succ i =>
      obtain ⟨a, k, vs, ds, fp1, fp2, h1, h2, h3, h4, h5, h6, h7, h8, h9⟩ := ih (i := i) (by simpa using e)
      have up : ∀ {H' : Hp}, (∀ b ∈ a0 :: fp1 ++ fp2, ∀ o, H b = some o → H' b = some o) → (∀ b ∈ fp1 ++ fp2, ∀ o, H b = some o → H' b = some o) := fun q b hb => q b (List.mem_cons_of_mem _ hb)
      exact ⟨a, k, vs, ds, a0 :: fp1, fp2, h1, by rw [h2]; rfl, by simpa using h3, h4, h5, h6, fun F' H' d' q1 q2 q3 => .ow (h.keep (q2 a0 List.mem_cons_self)) (hs.mono q1) (h7 F' H' d' q1 (up q2) q3),
        fun F' H' k' vs' ds' q1 q2 q3 q4 => .ow (h.keep (q2 a0 List.mem_cons_self)) (hs.mono q1) (h8 F' H' k' vs' ds' q1 (up q2) q3 q4), fun F' H' q1 q2 => .ow (h.keep (q2 a0 List.mem_cons_self)) (hs.mono q1) (h9 F' H' q1 (up q2))⟩
  | @bo a0 k0 vs0 ds0 σ ρ fp eb h hs t ih =>
    intro i d e
    cases i with
    | zero =>
      rcases hm with rfl | rfl
      · simp at e
      · simp at e
        subst e
        exact ⟨a0, k0, vs0, ds0, [], fp, rfl, rfl, rfl, h, hs, fun _ => eb, fun F' H' d' q1 q2 q3 => .fr q3 (t.frame q1 q2), fun F' H' k' vs' ds' q1 q2 q3 q4 => .bo eb q3 q4 (t.frame q1 q2), fun F' H' q1 q2 => .skip (t.frame q1 q2)⟩
    | succ i =>
      obtain ⟨a, k, vs, ds, fp1, fp2, h1, h2, h3, h4, h5, h6, h7, h8, h9⟩ := ih (i := i) (by simpa using e)
      have up : ∀ {H' : Hp}, (∀ b ∈ a0 :: fp1 ++ fp2, ∀ o, H b = some o → H' b = some o) → (∀ b ∈ fp1 ++ fp2, ∀ o, H b = some o → H' b = some o) := fun q b hb => q b (List.mem_cons_of_mem _ hb)
      exact ⟨a, k, vs, ds, a0 :: fp1, fp2, h1, by rw [h2]; rfl, by simpa using h3, h4, h5, h6, fun F' H' d' q1 q2 q3 => .bo eb (h.keep (q2 a0 List.mem_cons_self)) (hs.mono q1) (h7 F' H' d' q1 (up q2) q3),
        fun F' H' k' vs' ds' q1 q2 q3 q4 => .bo eb (h.keep (q2 a0 List.mem_cons_self)) (hs.mono q1) (h8 F' H' k' vs' ds' q1 (up q2) q3 q4), fun F' H' q1 q2 => .bo eb (h.keep (q2 a0 List.mem_cons_self)) (hs.mono q1) (h9 F' H' q1 (up q2))⟩
end
theorem mid {a : Addr} {l1 l2 : List Addr} (h : (l1 ++ a :: l2).Nodup) : a ∉ l1 ++ l2 ∧ (l1 ++ l2).Nodup ∧ (a :: (l1 ++ l2)).Perm (l1 ++ a :: l2) := by
  have p : (a :: (l1 ++ l2)).Perm (l1 ++ a :: l2) := (List.perm_middle).symm
  have q := List.nodup_cons.mp (p.nodup_iff.mpr h)
  exact ⟨q.1, q.2, p⟩
section
variable {X : Cx} {w : Wd} {x : Str} {pos : Pos}
theorem d_var (i : Nat) (hN : X.N[i]? = some x := by rfl) (hv : Vis X.env.scope x := by first | exact Or.inl rfl | exact Or.inr (Or.inl rfl) | exact Or.inr (Or.inr rfl)) (hd : (x == ("__debug__" : Str)) = false := by decide)
    (hcd : (x == ("__classdict__" : Str)) = false := by decide) : PE X (.Name x pos) (cF X.K w (sVar i)) := peI (pe_var hN hv hd hcd) fun σ H Q h => by
  obtain ⟨F, ρ, fp, s, h⟩ := h
  unfold sVar at h
  split at h
  · rename_i d e
    obtain ⟨v, e1, z⟩ := s.sl.getF e
    exact ⟨v, e1, h F H fp .refl v s z⟩
  · exact h.elim
theorem d_bor (i : Nat) (hN : X.N[i]? = some x := by rfl) (hv : Vis X.env.scope x := by first | exact Or.inl rfl | exact Or.inr (Or.inl rfl) | exact Or.inr (Or.inr rfl)) (hd : (x == ("__debug__" : Str)) = false := by decide)
    (hcd : (x == ("__classdict__" : Str)) = false := by decide) : PE X (.Name x pos) (cB X.K w (sBor i)) := peI (pe_var hN hv hd hcd) fun σ H Q h => by
  obtain ⟨F, ρ, fp, s, h⟩ := h
  unfold sBor at h
  split at h
  · rename_i d e
    obtain ⟨v, e1, z⟩ := s.sl.getB e
    exact ⟨v, e1, h F H fp .refl v s z⟩
  · rename_i d e
    obtain ⟨v, e1, z⟩ := s.sl.getB e
    exact ⟨v, e1, h F H fp .refl v s z⟩
  · rename_i d e
    obtain ⟨v, e1, z⟩ := s.sl.getB e
    exact ⟨v, e1, h F H fp .refl v s z⟩
  · exact h.elim
theorem d_frz (i : Nat) (hN : X.N[i]? = some x := by rfl) (hv : Vis X.env.scope x := by first | exact Or.inl rfl | exact Or.inr (Or.inl rfl) | exact Or.inr (Or.inr rfl)) (hd : (x == ("__debug__" : Str)) = false := by decide)
    (hcd : (x == ("__classdict__" : Str)) = false := by decide) : PE X (.Name x pos) (cF X.K w (sFrz i)) := peI (pe_var hN hv hd hcd) fun σ H Q h => by
  obtain ⟨F, ρ, fp, s, h⟩ := h
  unfold sFrz at h
  split at h
  · rename_i d e
    obtain ⟨a, k, vs, ds, fp1, fp2, rfl, rfl, e1, hw, hz, _, put, _, _⟩ := s.sl.own .o (.inl rfl) e
    obtain ⟨ho, em, hp⟩ := hw.nf
    obtain ⟨m1, m2, m3⟩ := mid s.nd
    have n2 : F a = none := s.own a (by simp)
    have ex : Same F (upd F a ho) := same_upd n2
    refine ⟨.ref a, e1, h (upd F a ho) H (fp1 ++ fp2) ⟨ex, fun b o h n => h, fun b q => ?_⟩ _ ⟨fun b o q => ?_, put _ H _ ex (fun _ _ _ h => h) (.nd (mkAt em upd_same) (hz.mono ex)), m2, fun b hb => ?_, fun z => (s.lock z).upd (mkNf em)⟩ (.nd (mkAt em upd_same) (hz.mono ex))⟩
    · rcases q with q | ⟨q1, q2, _⟩
      · exact .inl (m3.mem_iff.mp (List.mem_cons_of_mem _ q))
      · by_cases z : b = a
        · rw [z]; exact .inl (by simp)
        · rw [upd_ne z] at q2; exact absurd q1 q2
    · by_cases z : b = a
      · subst z; rw [upd_same] at q; rw [hp]; exact q
      · rw [upd_ne z] at q; exact s.ex b o q
    · rw [upd_ne (fun (z : b = a) => m1 (z ▸ hb))]; exact s.own b (m3.mem_iff.mp (List.mem_cons_of_mem _ hb))
  · rename_i d e
    obtain ⟨v, e1, z⟩ := s.sl.getF e
    exact ⟨v, e1, h F H fp .refl v s z⟩
  · exact h.elim
theorem d_mov (i : Nat) (hN : X.N[i]? = some x := by rfl) (hv : Vis X.env.scope x := by first | exact Or.inl rfl | exact Or.inr (Or.inl rfl) | exact Or.inr (Or.inr rfl)) (hd : (x == ("__debug__" : Str)) = false := by decide)
    (hcd : (x == ("__classdict__" : Str)) = false := by decide) : PE X (.Name x pos) (cO X.K w (sMov i)) := peI (pe_var hN hv hd hcd) fun σ H Q h => by
  obtain ⟨F, ρ, fp, s, h⟩ := h
  unfold sMov at h
  split at h
  · rename_i d e
    obtain ⟨a, k, vs, ds, fp1, fp2, rfl, rfl, e1, hw, hz, _, _, _, dr⟩ := s.sl.own .o (.inl rfl) e
    obtain ⟨m1, m2, m3⟩ := mid s.nd
    refine ⟨.ref a, e1, h F H (a :: (fp1 ++ fp2)) (Tr.refl.sub fun b hb => m3.mem_iff.mp hb) _ ⟨s.ex, .ow hw hz (dr F H (Same.refl _) fun _ _ _ h => h), List.nodup_cons.mpr ⟨m1, m2⟩, fun b hb => s.own b (m3.mem_iff.mp hb), s.lock⟩⟩
  · exact h.elim
theorem d_c {d : D} {v : V} {e : Expr} (h : PE X e (tC v)) (z : ∀ F, Fz X.K F v d) : PE X e (cF X.K w (sC d)) := peI h fun σ H Q h => by
  obtain ⟨F, ρ, fp, s, h⟩ := h
  exact h F H fp .refl v s (z F)
theorem d_int {i j pos} : PE X (.Constant (.int i) j pos) (cF X.K w (sC (.int i))) := d_c pe_int fun _ => .int i
theorem d_bl {i j pos} : PE X (.Constant (.bool i) j pos) (cF X.K w (sC (.bl i))) := d_c pe_bl fun _ => .bl i
theorem d_non {j pos} : PE X (.Constant .none j pos) (cF X.K w (sC .non)) := d_c pe_non fun _ => .non
theorem d_str {i j pos} (h : i.length ≤ sizeLine := by decide +kernel) : PE X (.Constant (.str i) j pos) (cF X.K w (sC (.str i))) := d_c pe_str fun _ => .str i h
/-- a module's constant -/
theorem d_glob {v : V} {d : D} {u : Value} (hg : Gl X x) (hm : X.mg x = some u) (r : RelV v u) (z : ∀ F, Fz X.K F v d) (hd : (x == ("__debug__" : Str)) = false := by decide) : PE X (.Name x pos) (cF X.K w (sC d)) := d_c (pe_glob hg hm r hd) z
end

/-! ### operators of two -/
/-- what an operation on values does: an old value, or a new object -/
def RB (K : PySem.W.Frag) (r : R2) (g : D → D → Option D) : Prop := ∀ F H x y dx dy d Q, Same F H → Fz K F x dx → Bz K F H y dy → g dx dy = some d →
  (∀ v, Fz K F v d → Q v H) → (∀ p k vs ds ho, d = .nd k ds → H p = none → mkHO k vs = some ho → Fzs K F vs ds → Q (.ref p) (upd H p ho)) → r x y H Q
/-- always a new one -/
def RN (K : PySem.W.Frag) (r : R2) (g : D → D → Option D) : Prop := ∀ F H x y dx dy d Q, Same F H → Fz K F x dx → Bz K F H y dy → g dx dy = some d →
  (∀ p k vs ds ho, d = .nd k ds → owK k = true → H p = none → mkHO k vs = some ho → Fzs K F vs ds → Q (.ref p) (upd H p ho)) → r x y H Q
def RT (K : PySem.W.Frag) (r : R2) (g : D → D → Option Bool) : Prop := ∀ F H x y dx dy b Q, Same F H → Fz K F x dx → Bz K F H y dy → g dx dy = some b → Q (.bl b) H → r x y H Q
def sBin {α : Type} (g : D → D → Option α) (a b : En → R D) : En → R α := fun ρ => bnd (a ρ) fun x ρ1 => bnd (b ρ1) fun y ρ2 => lift (g x y) ρ2
/-- how a wish for an old value and for a new one follow -/
theorem fin_new {K : PySem.W.Frag} {w : Wd} {F H : Hp} {fp : List Addr} {σ : St} {ρ : En} {d : D} {Q : VK} (s : StaW K w F H σ ρ fp) (h : ∀ F' H' fp', Tr F H fp F' H' fp' → nF K w σ Q d ρ F' H' fp') :
    (∀ v, Fz K F v d → Q v H) ∧ (∀ p k vs ds ho, d = .nd k ds → H p = none → mkHO k vs = some ho → Fzs K F vs ds → Q (.ref p) (upd H p ho)) := by
  refine ⟨fun v z => h F H fp .refl v s z, fun p k vs ds ho e hp em hs => ?_⟩
  subst e
  obtain ⟨s1, t1, z1⟩ := s.new hp em hs
  exact h _ _ _ t1 _ s1 z1
theorem fin_newO {K : PySem.W.Frag} {w : Wd} {F H : Hp} {fp : List Addr} {σ : St} {ρ : En} {d : D} {Q : VK} (s : StaW K w F H σ ρ fp) (h : ∀ F' H' fp', Tr F H fp F' H' fp' → nO K w σ Q d ρ F' H' fp') :
    (∀ p k vs ds ho, d = .nd k ds → owK k = true → H p = none → mkHO k vs = some ho → Fzs K F vs ds → Q (.ref p) (upd H p ho)) := by
  intro p k vs ds ho e o hp em hs
  subst e
  obtain ⟨s1, t1⟩ := s.newO hp em o hs
  exact h _ _ _ t1 _ s1
section
variable {X : Cx} {w : Wd} {a b : Expr} {fa fb : En → R D} {pos : Pos} {r : R2}
theorem two {K : PySem.W.Frag} {r : R2} {α : Type} {g : D → D → Option α} {σ : St} {H : Hp} {Q : VK} {N : α → En → Hp → Hp → List Addr → Prop} (h : ∃ F ρ fp, StaW K w F H σ ρ fp ∧ Pst K w F H fp σ (sBin g fa fb ρ) N)
    (k : ∀ F H x y dx dy d ρ fp, StaW K w F H σ ρ fp → Fz K F x dx → Bz K F H y dy → g dx dy = some d → (∀ F' H' fp', Tr F H fp F' H' fp' → N d ρ F' H' fp') → r x y H Q) : tOp r (cF K w fa) (cB K w fb) σ H Q := by
  obtain ⟨F, ρ, fp, s, h⟩ := h
  refine ⟨F, ρ, fp, s, h.bnd fun dx ρ1 F1 H1 fp1 t1 h1 => fun x s1 zx => ⟨F1, ρ1, fp1, s1, h1.bnd fun dy ρ2 F2 H2 fp2 t2 h2 => fun y s2 zy => ?_⟩⟩
  obtain ⟨d, e, h3⟩ := h2.lift
  exact k F2 H2 x y dx dy d ρ2 fp2 s2 (zx.mono t2.ex) zy e h3
theorem d_bin {op : Operator} {g : D → D → Option D} (ho : OpR X (binaryOp op) r) (hr : RB X.K r g) (ha : PE X a (cF X.K w fa)) (hb : PE X b (cB X.K w fb)) : PE X (.BinOp a op b pos) (cF X.K w (sBin g fa fb)) :=
  peI (pe_op ho ha hb) fun σ H Q h => two h fun F H x y dx dy d ρ fp s zx zy e n => hr F H x y dx dy d Q s.ex zx zy e (fin_new s n).1 (fin_new s n).2
theorem d_binO {op : Operator} {g : D → D → Option D} (ho : OpR X (binaryOp op) r) (hr : RN X.K r g) (ha : PE X a (cF X.K w fa)) (hb : PE X b (cB X.K w fb)) : PE X (.BinOp a op b pos) (cO X.K w (sBin g fa fb)) :=
  peI (pe_op ho ha hb) fun σ H Q h => two h fun F H x y dx dy d ρ fp s zx zy e n => hr F H x y dx dy d Q s.ex zx zy e (fin_newO s n)
def sCmp (g : D → D → Option Bool) (a b : En → R D) : En → R D := sBin (fun x y => (g x y).map D.bl) a b
theorem d_cmp {op : CmpOp} {g : D → D → Option Bool} (ho : OpR X (compareOp op) r) (hr : RT X.K r g) (ha : PE X a (cF X.K w fa)) (hb : PE X b (cB X.K w fb)) (hm : behindInMarks op b = false) : PE X (.Compare a [op] [b] pos) (cF X.K w (sCmp g fa fb)) :=
  peI (pe_cmpR ho ha hb hm) fun σ H Q h => two h fun F H x y dx dy d ρ fp s zx zy e n => by
    obtain ⟨b, e1, rfl⟩ := Option.map_eq_some_iff.mp e
    exact hr F H x y dx dy b Q s.ex zx zy e1 (n F H fp .refl _ s (.bl b))
theorem t_cmp {op : CmpOp} {g : D → D → Option Bool} (ho : OpR X (compareOp op) r) (hr : RT X.K r g) (ha : PE X a (cF X.K w fa)) (hb : PE X b (cB X.K w fb)) (hm : behindInMarks op b = false) : PT X (.Compare a [op] [b] pos) (cT X.K w (sBin g fa fb)) :=
  ptI (pt_cmpR ho ha hb hm) fun σ H Q h => two h fun F H x y dx dy b ρ fp s zx zy e n => hr F H x y dx dy b _ s.ex zx zy e ⟨b, rfl, n F H fp .refl s⟩
/-- a <= b <= c -/
def sChain {α : Type} (g g' : D → D → Option Bool) (k : Bool → α) (a b c : En → R D) : En → R α := fun ρ => bnd (a ρ) fun x ρ1 => bnd (b ρ1) fun y ρ2 => bnd (lift (g x y) ρ2) fun t ρ3 => if t then bnd (c ρ3) fun z ρ4 => lift ((g' y z).map k) ρ4 else .ok (k false) ρ3
theorem chain {fc : En → R D} {r r' : R2} {α : Type} {k : Bool → α} {K : PySem.W.Frag} {g g' : D → D → Option Bool} (hr : RT K r g) (hr' : RT K r' g') {σ : St} {H : Hp} {Q : VK} {N : α → En → Hp → Hp → List Addr → Prop} (h : ∃ F ρ fp, StaW K w F H σ ρ fp ∧ Pst K w F H fp σ (sChain g g' k fa fb fc ρ) N)
    (q : ∀ F H b ρ fp, StaW K w F H σ ρ fp → (∀ F' H' fp', Tr F H fp F' H' fp' → N (k b) ρ F' H' fp') → Q (.bl b) H) :
    (cF K w fa) σ H fun x H1 => (cF K w fb) σ H1 fun y H2 => r x y H2 fun z H3 => ∃ k, z = .bl k ∧ if k = true then (cF K w fc) σ H3 fun u H4 => r' y u H4 Q else Q (.bl false) H3 := by
  obtain ⟨F, ρ, fp, s, h⟩ := h
  refine ⟨F, ρ, fp, s, h.bnd fun dx ρ1 F1 H1 fp1 t1 h1 => fun x s1 zx => ⟨F1, ρ1, fp1, s1, h1.bnd fun dy ρ2 F2 H2 fp2 t2 h2 => fun y s2 zy => ?_⟩⟩
  have h3 := h2.bnd (N := fun t ρ3 F3 H3 fp3 => Pst K w F3 H3 fp3 σ (if t then bnd (fc ρ3) fun z ρ4 => lift ((g' dy z).map k) ρ4 else .ok (k false) ρ3) N) fun _ _ _ _ _ _ n => n
  obtain ⟨t, e, h4⟩ := h3.lift
  refine hr F2 H2 x y dx dy t _ s2.ex (zx.mono t2.ex) (.fz zy) e ⟨t, rfl, ?_⟩
  have h5 := h4 F2 H2 fp2 .refl
  cases t with
  | false => exact iteF (q F2 H2 false ρ2 fp2 s2 (show Pst K w F2 H2 fp2 σ (R.ok (k false) ρ2) N by simpa using h5))
  | true =>
    refine iteT ?_
    have h5 : Pst K w F2 H2 fp2 σ (bnd (fc ρ2) fun z ρ4 => lift ((g' dy z).map k) ρ4) N := by simpa using h5
    refine ⟨F2, ρ2, fp2, s2, h5.bnd fun dz ρ4 F4 H4 fp4 t4 h6 => fun u s4 zu => ?_⟩
    obtain ⟨kb, e6, h7⟩ := h6.lift
    obtain ⟨b, e7, rfl⟩ := Option.map_eq_some_iff.mp e6
    exact hr' F4 H4 y u dy dz b _ s4.ex (zy.mono t4.ex) (.fz zu) e7 (q F4 H4 b ρ4 fp4 s4 h7)
theorem d_chain {c : Expr} {fc : En → R D} {op op' : CmpOp} {r r' : R2} {g g' : D → D → Option Bool} (ho : OpR X (compareOp op) r) (ho' : OpR X (compareOp op') r') (hr : RT X.K r g) (hr' : RT X.K r' g') (ha : PE X a (cF X.K w fa)) (hb : PE X b (cF X.K w fb)) (hc : PE X c (cF X.K w fc))
    (hm : lastMarks [op, op'] [b, c] = false := by with_unfolding_all rfl) : PE X (.Compare a [op, op'] [b, c] pos) (cF X.K w (sChain g g' D.bl fa fb fc)) :=
  peI (pe_chain ho ho' ha hb hc hm) fun σ H Q h => chain hr hr' h fun F H b ρ fp s n => n F H fp .refl _ s (.bl b)
theorem t_chain {c : Expr} {fc : En → R D} {op op' : CmpOp} {r r' : R2} {g g' : D → D → Option Bool} (ho : OpR X (compareOp op) r) (ho' : OpR X (compareOp op') r') (hr : RT X.K r g) (hr' : RT X.K r' g') (ha : PE X a (cF X.K w fa)) (hb : PE X b (cF X.K w fb)) (hc : PE X c (cF X.K w fc))
    (hm : lastMarks [op, op'] [b, c] = false := by with_unfolding_all rfl) : PT X (.Compare a [op, op'] [b, c] pos) (cT X.K w (sChain g g' id fa fb fc)) :=
  ptI (pt_chain ho ho' ha hb hc hm) fun σ H Q h => chain hr hr' h fun F H b ρ fp s n => ⟨b, rfl, n F H fp .refl s⟩
end
end Y

set_option Elab.async false
set_option linter.all false
set_option maxRecDepth 100000
set_option maxHeartbeats 2000000
/-! Truth, and, or, not, if; argument lists, displays; built-ins called; subscripts. -/
namespace Y
open PySem L2
/-- a value's truth -/
def tru : D → Option Bool
  | .non => some false
  | .bl b => some b
  | .int i => some (i != 0)
  | .str s => some ((s.length : Int) != 0)
  | .nd .lst ds => some (!ds.isEmpty)
  | .nd .tup ds => some (!ds.isEmpty)
  | .nd .scr ds => some (!ds.isEmpty)
  | .nd .ktp ds => some (!ds.isEmpty)
  | _ => none
theorem Fzs.emp {K : PySem.W.Frag} {F : Hp} {vs : List V} {ds : List D} (h : Fzs K F vs ds) : vs.isEmpty = ds.isEmpty := by
  cases h <;> rfl
theorem Fz.tru {K : PySem.W.Frag} {F : Hp} {v : V} {d : D} {b : Bool} (h : Fz K F v d) (e : Y.tru d = some b) : TruV K v F b := by
  cases h with
  | non => simp [Y.tru] at e; subst e; exact rfl
  | bl c => simp [Y.tru] at e; subst e; exact rfl
  | int i => simp [Y.tru] at e; subst e; exact rfl
  | str s h => simp [Y.tru] at e; subst e; exact ⟨h, rfl⟩
  | ty n => simp [Y.tru] at e
  | nd h hs =>
    rename_i a k vs ds
    have q := hs.emp
    cases k <;> simp only [Y.tru, Option.some.injEq] at e
    case lst => subst e; exact .inl ⟨vs, SqL.of h.1, by rw [q]⟩
    case tup => subst e; exact .inr (.inl ⟨vs, SqT.of h.1, by rw [q]⟩)
    case ktp => subst e; exact .inr (.inl ⟨vs, h.1, by rw [q]⟩)
    case scr => subst e; exact .inl ⟨vs, h.1, by rw [q]⟩
    all_goals cases e
theorem Bz.tru {K : PySem.W.Frag} {F H : Hp} {v : V} {d : D} {b : Bool} (ex : Same F H) (h : Bz K F H v d) (e : Y.tru d = some b) : TruV K v H b := by
  cases h with
  | fz h => exact (h.mono ex).tru e
  | cell o h hs =>
    rename_i a k vs ds
    have q := hs.emp
    cases k <;> simp only [Y.tru, Option.some.injEq] at e
    case lst => subst e; exact .inl ⟨vs, SqL.of h.1, by rw [q]⟩
    case tup => subst e; exact .inr (.inl ⟨vs, SqT.of h.1, by rw [q]⟩)
    case ktp => subst e; exact .inr (.inl ⟨vs, h.1, by rw [q]⟩)
    case scr => subst e; exact .inl ⟨vs, h.1, by rw [q]⟩
    all_goals cases e
def sTru (f : En → R D) : En → R Bool := fun ρ => bnd (f ρ) fun d ρ1 => lift (tru d) ρ1
def sAndT (a b : En → R Bool) : En → R Bool := fun ρ => bnd (a ρ) fun c ρ1 => if c = true then b ρ1 else .ok false ρ1
def sOrT (a b : En → R Bool) : En → R Bool := fun ρ => bnd (a ρ) fun c ρ1 => if c = true then .ok true ρ1 else b ρ1
def sNotT (a : En → R Bool) : En → R Bool := fun ρ => bnd (a ρ) fun c ρ1 => .ok (!c) ρ1
def sAndV (a b : En → R D) : En → R D := fun ρ => bnd (a ρ) fun d ρ1 => bnd (lift (tru d) ρ1) fun c ρ2 => if c = true then b ρ2 else .ok d ρ2
def sOrV (a b : En → R D) : En → R D := fun ρ => bnd (a ρ) fun d ρ1 => bnd (lift (tru d) ρ1) fun c ρ2 => if c = true then .ok d ρ2 else b ρ2
def sNotV (a : En → R D) : En → R D := fun ρ => bnd (a ρ) fun d ρ1 => lift ((tru d).map fun c => D.bl (!c)) ρ1
def sIf {α : Type} (t : En → R Bool) (a b : En → R α) : En → R α := fun ρ => bnd (t ρ) fun c ρ1 => if c = true then a ρ1 else b ρ1
section
variable {X : Cx} {w : Wd} {a b e : Expr} {es rest : List Expr} {fa fb : En → R D} {ft fu : En → R Bool} {pos : Pos}
theorem t_tru (ha : PE X a (cB X.K w fa)) (he : ∀ whole, isTrue a X.env whole = (do let v ← whole; standAt a.pos; holding [v] (truthy v)) := by intro _; rfl) : PT X a (cT X.K w (sTru fa)) :=
  ptI (pt_truth ha he) fun σ H Q h => by
    obtain ⟨F, ρ, fp, s, h⟩ := h
    refine ⟨F, ρ, fp, s, h.bnd fun d ρ1 F1 H1 fp1 t1 h1 => fun v s1 z => ?_⟩
    obtain ⟨b, e, n⟩ := h1.lift
    exact ⟨b, z.tru s1.ex e, n F1 H1 fp1 .refl s1⟩
theorem w_and1 (h : PT X a (cT X.K w ft)) : PW X (.BoolOp .And [a] pos) (cT X.K w ft) := pw_and1 h
theorem w_or1 (h : PT X a (cT X.K w ft)) : PW X (.BoolOp .Or [a] pos) (cT X.K w ft) := pw_or1 h
theorem w_and (ha : PT X a (cT X.K w ft)) (hb : PW X (.BoolOp .And (b :: rest) pos) (cT X.K w fu)) : PW X (.BoolOp .And (a :: b :: rest) pos) (cT X.K w (sAndT ft fu)) :=
  pwI (pw_and ha hb) fun σ H Q h => by
    obtain ⟨F, ρ, fp, s, h⟩ := h
    refine ⟨F, ρ, fp, s, h.bnd fun c ρ1 F1 H1 fp1 t1 h1 => fun s1 => ?_⟩
    cases c with
    | true => exact iteT ⟨F1, ρ1, fp1, s1, (by simpa using h1)⟩
    | false =>
      have h2 : Pst X.K w F1 H1 fp1 σ (R.ok false ρ1) (nT X.K w σ Q) := by simpa using h1
      exact iteF (h2 F1 H1 fp1 .refl s1)
theorem w_or (ha : PT X a (cT X.K w ft)) (hb : PW X (.BoolOp .Or (b :: rest) pos) (cT X.K w fu)) : PW X (.BoolOp .Or (a :: b :: rest) pos) (cT X.K w (sOrT ft fu)) :=
  pwI (pw_or ha hb) fun σ H Q h => by
    obtain ⟨F, ρ, fp, s, h⟩ := h
    refine ⟨F, ρ, fp, s, h.bnd fun c ρ1 F1 H1 fp1 t1 h1 => fun s1 => ?_⟩
    cases c with
    | true =>
      have h2 : Pst X.K w F1 H1 fp1 σ (R.ok true ρ1) (nT X.K w σ Q) := by simpa using h1
      exact iteT (h2 F1 H1 fp1 .refl s1)
    | false => exact iteF ⟨F1, ρ1, fp1, s1, (by simpa using h1)⟩
theorem t_not (ha : PT X a (cT X.K w ft)) : PT X (.UnaryOp .Not a pos) (cT X.K w (sNotT ft)) :=
  ptI (pt_not ha) fun σ H Q h => by
    obtain ⟨F, ρ, fp, s, h⟩ := h
    exact ⟨F, ρ, fp, s, h.bnd fun c ρ1 F1 H1 fp1 t1 h1 => fun s1 => h1 F1 H1 fp1 .refl s1⟩
theorem d_one {op} (h : PE X a (cF X.K w fa)) : PE X (.BoolOp op [a] pos) (cF X.K w fa) := pe_one h
theorem d_and (ha : PE X a (cF X.K w fa)) (hb : PE X (.BoolOp .And (b :: rest) pos) (cF X.K w fb)) : PE X (.BoolOp .And (a :: b :: rest) pos) (cF X.K w (sAndV fa fb)) :=
  peI (pe_andT ha hb) fun σ H Q h => by
    obtain ⟨F, ρ, fp, s, h⟩ := h
    refine ⟨F, ρ, fp, s, h.bnd fun d ρ1 F1 H1 fp1 t1 h1 => fun v s1 z => ?_⟩
    obtain ⟨c, e, h2⟩ := (h1.bnd (N := fun t ρ3 F3 H3 fp3 => Pst X.K w F3 H3 fp3 σ (if t = true then fb ρ3 else .ok d ρ3) (nF X.K w σ Q)) fun _ _ _ _ _ _ n => n).lift
    have h3 := h2 F1 H1 fp1 .refl
    refine ⟨c, (z.mono s1.ex).tru e, ?_⟩
    cases c with
    | true => exact iteT ⟨F1, ρ1, fp1, s1, (by simpa using h3)⟩
    | false =>
      have h4 : Pst X.K w F1 H1 fp1 σ (R.ok d ρ1) (nF X.K w σ Q) := by simpa using h3
      exact iteF (h4 F1 H1 fp1 .refl v s1 z)
theorem d_or (ha : PE X a (cF X.K w fa)) (hb : PE X (.BoolOp .Or (b :: rest) pos) (cF X.K w fb)) : PE X (.BoolOp .Or (a :: b :: rest) pos) (cF X.K w (sOrV fa fb)) :=
  peI (pe_orT ha hb) fun σ H Q h => by
    obtain ⟨F, ρ, fp, s, h⟩ := h
    refine ⟨F, ρ, fp, s, h.bnd fun d ρ1 F1 H1 fp1 t1 h1 => fun v s1 z => ?_⟩
    obtain ⟨c, e, h2⟩ := (h1.bnd (N := fun t ρ3 F3 H3 fp3 => Pst X.K w F3 H3 fp3 σ (if t = true then .ok d ρ3 else fb ρ3) (nF X.K w σ Q)) fun _ _ _ _ _ _ n => n).lift
    have h3 := h2 F1 H1 fp1 .refl
    refine ⟨c, (z.mono s1.ex).tru e, ?_⟩
    cases c with
    | true =>
      have h4 : Pst X.K w F1 H1 fp1 σ (R.ok d ρ1) (nF X.K w σ Q) := by simpa using h3
      exact iteT (h4 F1 H1 fp1 .refl v s1 z)
    | false => exact iteF ⟨F1, ρ1, fp1, s1, (by simpa using h3)⟩
theorem d_not (ha : PE X a (cB X.K w fa)) : PE X (.UnaryOp .Not a pos) (cF X.K w (sNotV fa)) :=
  peI (pe_notT ha) fun σ H Q h => by
    obtain ⟨F, ρ, fp, s, h⟩ := h
    refine ⟨F, ρ, fp, s, h.bnd fun d ρ1 F1 H1 fp1 t1 h1 => fun v s1 z => ?_⟩
    obtain ⟨q, e, n⟩ := h1.lift
    obtain ⟨c, e2, rfl⟩ := Option.map_eq_some_iff.mp e
    exact ⟨c, z.tru s1.ex e2, n F1 H1 fp1 .refl _ s1 (.bl _)⟩
theorem ifx {K : PySem.W.Frag} {ta tb : TE} {C : (En → R D) → TE} (n : St → VK → D → En → Hp → Hp → List Addr → Prop) (hC : ∀ f σ H Q, C f σ H Q ↔ ∃ F ρ fp, StaW K w F H σ ρ fp ∧ Pst K w F H fp σ (f ρ) (n σ Q)) {σ : St} {H : Hp} {Q : VK} (h : C (sIf ft fa fb) σ H Q) : tIf (cT K w ft) (C fa) (C fb) σ H Q := by
  obtain ⟨F, ρ, fp, s, h⟩ := (hC _ _ _ _).mp h
  refine ⟨F, ρ, fp, s, h.bnd fun c ρ1 F1 H1 fp1 t1 h1 => fun s1 => ?_⟩
  cases c with
  | true => exact iteT ((hC _ _ _ _).mpr ⟨F1, ρ1, fp1, s1, (by simpa using h1)⟩)
  | false => exact iteF ((hC _ _ _ _).mpr ⟨F1, ρ1, fp1, s1, (by simpa using h1)⟩)
theorem d_if {c : Expr} (hc : PT X c (cT X.K w ft)) (ha : PE X a (cF X.K w fa)) (hb : PE X b (cF X.K w fb)) : PE X (.IfExp c a b pos) (cF X.K w (sIf ft fa fb)) :=
  peI (pe_ifExp hc ha hb) fun σ H Q h => ifx (C := cF X.K w) (ta := cF X.K w fa) (tb := cF X.K w fb) (fun σ Q => nF X.K w σ Q) (fun _ _ _ _ => Iff.rfl) h
theorem d_ifO {c : Expr} (hc : PT X c (cT X.K w ft)) (ha : PE X a (cO X.K w fa)) (hb : PE X b (cO X.K w fb)) : PE X (.IfExp c a b pos) (cO X.K w (sIf ft fa fb)) :=
  peI (pe_ifExp hc ha hb) fun σ H Q h => ifx (C := cO X.K w) (ta := cO X.K w fa) (tb := cO X.K w fb) (fun σ Q => nO X.K w σ Q) (fun _ _ _ _ => Iff.rfl) h
end

/-! ### argument lists, displays -/
def sNil : En → R (List D) := fun ρ => .ok [] ρ
def sCons (a : En → R D) (b : En → R (List D)) : En → R (List D) := fun ρ => bnd (a ρ) fun d ρ1 => bnd (b ρ1) fun ds ρ2 => .ok (d :: ds) ρ2
def sMk (k : Kd) (f : En → R (List D)) : En → R D := fun ρ => bnd (f ρ) fun ds ρ1 => lift (if ds.length ≤ sizeLine then some (.nd k ds) else none) ρ1
section
variable {X : Cx} {w : Wd} {a b e : Expr} {es rest : List Expr} {fa fb : En → R D} {fs : En → R (List D)} {pos : Pos}
theorem a_nil : PA X [] (cA X.K w sNil) := paI pa_nil fun σ H Q h => by
  obtain ⟨F, ρ, fp, s, h⟩ := h
  exact h F H fp .refl [] s .nil
theorem a_cons (ha : PE X e (cF X.K w fa)) (hr : PA X es (cA X.K w fs)) (hs : starEach (e :: es) X.env = (false, eval e X.env) :: starEach es X.env := by rfl) : PA X (e :: es) (cA X.K w (sCons fa fs)) :=
  paI (pa_cons ha hr hs) fun σ H Q h => by
    obtain ⟨F, ρ, fp, s, h⟩ := h
    refine ⟨F, ρ, fp, s, h.bnd fun d ρ1 F1 H1 fp1 t1 h1 => fun v s1 z => ⟨F1, ρ1, fp1, s1, h1.bnd fun ds ρ2 F2 H2 fp2 t2 h2 => fun vs s2 zs => ?_⟩⟩
    exact h2 F2 H2 fp2 .refl (v :: vs) s2 (.cons (z.mono t2.ex) zs)
theorem d_tup {x1} (h : PA X es (cA X.K w fs)) : PE X (.Tuple es x1 pos) (cF X.K w (sMk .tup fs)) :=
  peI (pe_tup h) fun σ H Q h => by
    obtain ⟨F, ρ, fp, s, h⟩ := h
    refine ⟨F, ρ, fp, s, h.bnd fun ds ρ1 F1 H1 fp1 t1 h1 => fun vs s1 z => ?_⟩
    obtain ⟨d, e, n⟩ := h1.lift
    split at e
    · rename_i hl
      cases e
      have hl' : vs.length ≤ sizeLine := by rw [z.length]; exact hl
      exact ⟨hl', fun p hp => (fin_new s1 n).2 p .tup vs ds _ rfl hp (if_pos hl') z⟩
    · cases e
theorem d_lst (h : PA X es (cA X.K w fs)) : PE X (.List es pos) (cO X.K w (sMk .lst fs)) :=
  peI (pe_lst h) fun σ H Q h => by
    obtain ⟨F, ρ, fp, s, h⟩ := h
    refine ⟨F, ρ, fp, s, h.bnd fun ds ρ1 F1 H1 fp1 t1 h1 => fun vs s1 z => ?_⟩
    obtain ⟨d, e, n⟩ := h1.lift
    split at e
    · rename_i hl
      cases e
      have hl' : vs.length ≤ sizeLine := by rw [z.length]; exact hl
      exact ⟨hl', fun p hp => fin_newO s1 n p .lst vs ds _ rfl rfl hp (if_pos hl') z⟩
    · cases e
theorem d_dict0 : PE X (.Dict [] [] pos) (cO X.K w (sC (.nd (.dK []) []))) := peI pe_dnewK fun σ H Q h => by
  obtain ⟨F, ρ, fp, s, h⟩ := h
  exact fun d hd => fin_newO s h d (.dK []) [] [] (.dK []) rfl rfl hd rfl .nil
theorem d_dict0T : PE X (.Dict [] [] pos) (cO X.K w (sC (.nd (.dT []) []))) := peI pe_dnewT fun σ H Q h => by
  obtain ⟨F, ρ, fp, s, h⟩ := h
  exact fun d hd => fin_newO s h d (.dT []) [] [] (.dT []) rfl rfl hd rfl .nil
end

/-! ### built-ins called by their names -/
/-- one argument, read now -/
def C1 (K : PySem.W.Frag) (r : List V → Hp → VK → Prop) (g : D → Option D) : Prop := ∀ F H x dx d Q, Same F H → Bz K F H x dx → g dx = some d →
  (∀ v, Fz K F v d → Q v H) → (∀ p k vs ds ho, d = .nd k ds → H p = none → mkHO k vs = some ho → Fzs K F vs ds → Q (.ref p) (upd H p ho)) → r [x] H Q
def C1N (K : PySem.W.Frag) (r : List V → Hp → VK → Prop) (g : D → Option D) : Prop := ∀ F H x dx d Q, Same F H → Bz K F H x dx → g dx = some d →
  (∀ p k vs ds ho, d = .nd k ds → owK k = true → H p = none → mkHO k vs = some ho → Fzs K F vs ds → Q (.ref p) (upd H p ho)) → r [x] H Q
/-- any number, frozen -/
def CN (K : PySem.W.Frag) (r : List V → Hp → VK → Prop) (g : List D → Option D) : Prop := ∀ F H xs dxs d Q, Same F H → Fzs K F xs dxs → g dxs = some d →
  (∀ v, Fz K F v d → Q v H) → (∀ p k vs ds ho, d = .nd k ds → H p = none → mkHO k vs = some ho → Fzs K F vs ds → Q (.ref p) (upd H p ho)) → r xs H Q
def s1 (g : D → Option D) (f : En → R D) : En → R D := fun ρ => bnd (f ρ) fun d ρ1 => lift (g d) ρ1
def sN (g : List D → Option D) (f : En → R (List D)) : En → R D := fun ρ => bnd (f ρ) fun d ρ1 => lift (g d) ρ1
section
variable {X : Cx} {w : Wd} {a e : Expr} {es : List Expr} {fa : En → R D} {fs : En → R (List D)} {pos p : Pos} {r : List V → Hp → VK → Prop} {x : Str} {id : String}
theorem tB1 {K : PySem.W.Frag} {σ : St} {H : Hp} {Q : List V → Hp → Prop} {N : D → En → Hp → Hp → List Addr → Prop} {g : D → Option D} (h : ∃ F ρ fp, StaW K w F H σ ρ fp ∧ Pst K w F H fp σ (s1 g fa ρ) N)
    (k : ∀ F H v dx d ρ fp, StaW K w F H σ ρ fp → Bz K F H v dx → g dx = some d → (∀ F' H' fp', Tr F H fp F' H' fp' → N d ρ F' H' fp') → Q [v] H) : tCons (cB K w fa) tNil σ H Q := by
  obtain ⟨F, ρ, fp, s, h⟩ := h
  refine ⟨F, ρ, fp, s, h.bnd fun dx ρ1 F1 H1 fp1 t1 h1 => fun v s1 z => ?_⟩
  obtain ⟨d, e, n⟩ := h1.lift
  exact k F1 H1 v dx d ρ1 fp1 s1 z e n
theorem d_b1 {g : D → Option D} (hc : CallR X (.builtin id) r) (hr : C1 X.K r g) (hg : Gl X x) (hm : X.mg x = none) (hv : bootBuiltins x = some (.builtin id)) (ha : PE X a (cB X.K w fa)) (hn : x ≠ "__name__" := by decide) (hd : (x == ("__debug__" : Str)) = false := by decide) (hs : starEach [a] X.env = (false, eval a X.env) :: starEach [] X.env := by rfl) (hpl : (backTo pos (starEach [] X.env)).any (·.1) = false := by rfl) :
    PE X (.Call (.Name x p) [a] [] pos) (cF X.K w (s1 g fa)) := peI (pe_callB hc hg hm hv (pa_cons ha pa_nil hs) hn hd hs hpl) fun σ H Q h =>
  tB1 h fun F H v dx d ρ fp s z e n => hr F H v dx d Q s.ex z e (fin_new s n).1 (fin_new s n).2
theorem d_t1 {g : D → Option D} (hc : CallR X (.type id) r) (hr : C1 X.K r g) (hg : Gl X x) (hm : X.mg x = none) (hv : bootBuiltins x = some (.type id)) (ha : PE X a (cB X.K w fa)) (hn : x ≠ "__name__" := by decide) (hd : (x == ("__debug__" : Str)) = false := by decide) (hs : starEach [a] X.env = (false, eval a X.env) :: starEach [] X.env := by rfl) (hpl : (backTo pos (starEach [] X.env)).any (·.1) = false := by rfl) :
    PE X (.Call (.Name x p) [a] [] pos) (cF X.K w (s1 g fa)) := peI (pe_callTy hc hg hm hv (pa_cons ha pa_nil hs) hn hd hs hpl) fun σ H Q h =>
  tB1 h fun F H v dx d ρ fp s z e n => hr F H v dx d Q s.ex z e (fin_new s n).1 (fin_new s n).2
theorem d_b1O {g : D → Option D} (hc : CallR X (.builtin id) r) (hr : C1N X.K r g) (hg : Gl X x) (hm : X.mg x = none) (hv : bootBuiltins x = some (.builtin id)) (ha : PE X a (cB X.K w fa)) (hn : x ≠ "__name__" := by decide) (hd : (x == ("__debug__" : Str)) = false := by decide) (hs : starEach [a] X.env = (false, eval a X.env) :: starEach [] X.env := by rfl) (hpl : (backTo pos (starEach [] X.env)).any (·.1) = false := by rfl) :
    PE X (.Call (.Name x p) [a] [] pos) (cO X.K w (s1 g fa)) := peI (pe_callB hc hg hm hv (pa_cons ha pa_nil hs) hn hd hs hpl) fun σ H Q h =>
  tB1 h fun F H v dx d ρ fp s z e n => hr F H v dx d Q s.ex z e (fin_newO s n)
theorem d_t1O {g : D → Option D} (hc : CallR X (.type id) r) (hr : C1N X.K r g) (hg : Gl X x) (hm : X.mg x = none) (hv : bootBuiltins x = some (.type id)) (ha : PE X a (cB X.K w fa)) (hn : x ≠ "__name__" := by decide) (hd : (x == ("__debug__" : Str)) = false := by decide) (hs : starEach [a] X.env = (false, eval a X.env) :: starEach [] X.env := by rfl) (hpl : (backTo pos (starEach [] X.env)).any (·.1) = false := by rfl) :
    PE X (.Call (.Name x p) [a] [] pos) (cO X.K w (s1 g fa)) := peI (pe_callTy hc hg hm hv (pa_cons ha pa_nil hs) hn hd hs hpl) fun σ H Q h =>
  tB1 h fun F H v dx d ρ fp s z e n => hr F H v dx d Q s.ex z e (fin_newO s n)
theorem d_bN {g : List D → Option D} (hc : CallR X (.builtin id) r) (hr : CN X.K r g) (hg : Gl X x) (hm : X.mg x = none) (hv : bootBuiltins x = some (.builtin id)) (ha : PA X (e :: es) (cA X.K w fs)) (hn : x ≠ "__name__" := by decide) (hd : (x == ("__debug__" : Str)) = false := by decide) (hs : starEach (e :: es) X.env = (false, eval e X.env) :: starEach es X.env := by rfl) (hpl : (backTo pos (starEach es X.env)).any (·.1) = false := by rfl) :
    PE X (.Call (.Name x p) (e :: es) [] pos) (cF X.K w (sN g fs)) := peI (pe_callB hc hg hm hv ha hn hd hs hpl) fun σ H Q h => by
  obtain ⟨F, ρ, fp, s, h⟩ := h
  refine ⟨F, ρ, fp, s, h.bnd fun ds ρ1 F1 H1 fp1 t1 h1 => fun vs s1 z => ?_⟩
  obtain ⟨d, e, n⟩ := h1.lift
  exact hr F1 H1 vs ds d Q s1.ex z e (fin_new s1 n).1 (fin_new s1 n).2
end
end Y

set_option Elab.async false
set_option linter.all false
set_option maxRecDepth 100000
set_option maxHeartbeats 2000000
/-! The operations on values. -/
namespace Y
open PySem L2

mutual
def py : D → PyData
  | .non => .none
  | .bl b => .bool b
  | .int i => .int i
  | .str s => .str s
  | .ty _ => .none
  | .nd .tup ds => .tuple (pys ds)
  | .nd .lst ds => .list (pys ds)
  | .nd .scr ds => .list (pys ds)
  | .nd .ktp ds => .tuple (pys ds)
  | .nd _ _ => .none
def pys : List D → List PyData
  | [] => []
  | d :: ds => py d :: pys ds
end
/-- no dict, no class within -/
def strG (s : Str) : Bool := PyData.canLay0 (.str s)
mutual
def okD : D → Bool
  | .str s => strG s
  | .ty _ => false
  | .nd .tup ds => okDs ds
  | .nd .lst ds => okDs ds
  | .nd .scr ds => okDs ds
  | .nd .ktp ds => okDs ds
  | .nd _ _ => false
  | _ => true
def okDs : List D → Bool
  | [] => true
  | d :: ds => okD d && okDs ds
end
def dok (d : D) : Bool := okD d && decide ((py d).depth ≤ 64)
mutual
theorem canLay_ok : ∀ d : D, okD d = true → (py d).canLay0 = true
  | .non, _ => by simp [py, PyData.canLay0]
  | .bl _, _ => by simp [py, PyData.canLay0]
  | .int _, _ => by simp [py, PyData.canLay0]
  | .str s, h => by simpa [py, okD, strG] using h
  | .ty _, h => by simp [okD] at h
  | .nd k ds, h => by
    cases k with
    | tup => simp only [py, PyData.canLay0]; exact canLays_ok ds (by simpa [okD] using h)
    | lst => simp only [py, PyData.canLay0]; exact canLays_ok ds (by simpa [okD] using h)
    | scr => simp only [py, PyData.canLay0]; exact canLays_ok ds (by simpa [okD] using h)
    | ktp => simp only [py, PyData.canLay0]; exact canLays_ok ds (by simpa [okD] using h)
    | dK _ => simp [okD] at h
    | dT _ => simp [okD] at h
theorem canLays_ok : ∀ ds : List D, okDs ds = true → PyData.canLayAll0 (pys ds) = true
  | [], _ => by simp [pys, PyData.canLayAll0]
  | d :: ds, h => by
    have h' : okD d = true ∧ okDs ds = true := by simpa [okDs] using h
    simp [pys, PyData.canLayAll0, canLay_ok d h'.1, canLays_ok ds h'.2]
end
theorem shaped_ok {d : D} (h : dok d = true) : SeqAt.shaped (py d) = true := by
  have h' : okD d = true ∧ (py d).depth ≤ 64 := by simpa [dok] using h
  show ((py d).canLay0 && decide ((py d).depth ≤ 64)) = true
  rw [canLay_ok d h'.1, decide_eq_true h'.2]
  rfl
section
variable {K : PySem.W.Frag} {F H : Hp}
mutual
theorem Fz.dp : ∀ {v : V} {d : D}, Fz K F v d → okD d = true → Dp K F v (py d)
  | _, _, .non, _ => by simpa [py] using Dp.non
  | _, _, .bl b, _ => by simpa [py] using Dp.bl b
  | _, _, .int i, _ => by simpa [py] using Dp.int i
  | _, _, .str s _, _ => by simpa [py] using Dp.str s
  | _, _, .ty _, h => by simp [okD] at h
  | _, _, .nd (k := k) h hs, o => by
    cases k with
    | tup => simp only [py]; exact .tup (SqT.of h.1) (Fzs.dp hs (by simpa [okD] using o))
    | ktp => simp only [py]; exact .tup h.1 (Fzs.dp hs (by simpa [okD] using o))
    | lst => simp only [py]; exact .lst (SqL.of h.1) (Fzs.dp hs (by simpa [okD] using o))
    | scr => simp only [py]; exact .lst h.1 (Fzs.dp hs (by simpa [okD] using o))
    | dK _ => simp [okD] at o
    | dT _ => simp [okD] at o
theorem Fzs.dp : ∀ {vs : List V} {ds : List D}, Fzs K F vs ds → okDs ds = true → DpAll K F vs (pys ds)
  | _, _, .nil, _ => by simpa [pys] using DpAll.nil
  | _, _, .cons h hs, o => by
    have o' := (Bool.and_eq_true _ _).mp (show (okD _ && okDs _) = true by simpa [okDs] using o)
    simp only [pys]
    exact .cons (Fz.dp h o'.1) (Fzs.dp hs o'.2)
end
theorem Bz.dp (ex : Same F H) {v : V} {d : D} (h : Bz K F H v d) (o : okD d = true) : Dp K H v (py d) := by
  cases h with
  | fz h => exact (h.mono ex).dp o
  | cell o' h hs =>
    rename_i a k vs ds
    have hs' := hs.mono ex
    cases k with
    | tup => simp only [py]; exact .tup (SqT.of h.1) (hs'.dp (by simpa [okD] using o))
    | ktp => simp only [py]; exact .tup h.1 (hs'.dp (by simpa [okD] using o))
    | lst => simp only [py]; exact .lst (SqL.of h.1) (hs'.dp (by simpa [okD] using o))
    | scr => simp only [py]; exact .lst h.1 (hs'.dp (by simpa [okD] using o))
    | dK _ => simp [okD] at o
    | dT _ => simp [okD] at o
theorem Fz.int_inv {v : V} {i : Int} (h : Fz K F v (.int i)) : v = .int i := by cases h; rfl
theorem Fz.bl_inv {v : V} {i : Bool} (h : Fz K F v (.bl i)) : v = .bl i := by cases h; rfl
theorem Fz.str_inv {v : V} {i : Str} (h : Fz K F v (.str i)) : v = .str i ∧ i.length ≤ sizeLine := by cases h; exact ⟨rfl, by assumption⟩
theorem Fz.ty_inv {v : V} {i : String} (h : Fz K F v (.ty i)) : v = .ty i := by cases h; rfl
theorem Fz.non_inv {v : V} (h : Fz K F v .non) : v = .non := by cases h; rfl
theorem Bz.int_inv {v : V} {i : Int} (h : Bz K F H v (.int i)) : v = .int i := by cases h with | fz h => exact h.int_inv
theorem Bz.bl_inv {v : V} {i : Bool} (h : Bz K F H v (.bl i)) : v = .bl i := by cases h with | fz h => exact h.bl_inv
theorem Bz.str_inv {v : V} {i : Str} (h : Bz K F H v (.str i)) : v = .str i ∧ i.length ≤ sizeLine := by cases h with | fz h => exact h.str_inv
theorem Bz.ty_inv {v : V} {i : String} (h : Bz K F H v (.ty i)) : v = .ty i := by cases h with | fz h => exact h.ty_inv
theorem Bz.non_inv {v : V} (h : Bz K F H v .non) : v = .non := by cases h with | fz h => exact h.non_inv
theorem Fz.node (h : Fz K F v (.nd k ds)) : ∃ a vs, v = .ref a ∧ ItemAt K F a k vs ∧ Fzs K F vs ds := by
  cases h with | nd h hs => exact ⟨_, _, rfl, h, hs⟩
end

/-! ### arithmetic -/
def dAdd : D → D → Option D
  | .int a, .int b => some (.int (a + b))
  | .str a, .str b => if a.length + b.length ≤ sizeLine then some (.str (a ++ b)) else none
  | .nd .tup a, .nd .tup b => if a.length + b.length ≤ sizeLine then some (.nd .tup (a ++ b)) else none
  | _, _ => none
def dCat : D → D → Option D
  | .nd .lst a, .nd .lst b => if a.length + b.length ≤ sizeLine then some (.nd .lst (a ++ b)) else none
  | _, _ => none
def dSub : D → D → Option D
  | .int a, .int b => some (.int (a - b))
  | _, _ => none
def dMul : D → D → Option D
  | .int a, .int b => if (-(2 ^ 64) < a ∧ a < 2 ^ 64) ∨ (-(2 ^ 64) < b ∧ b < 2 ^ 64) then some (.int (a * b)) else none
  | _, _ => none
def dDiv : D → D → Option D
  | .int a, .int b => if 0 < b ∧ b < 1073741824 then some (.int (a / b)) else none
  | _, _ => none
def dMod : D → D → Option D
  | .int a, .int b => if 0 < b then some (.int (a % b)) else none
  | _, _ => none
def dPow : D → D → Option D
  | .int a, .int b => if 0 ≤ b ∧ b ≤ 1000000 ∧ a.natAbs < 2 ^ 64 then some (.int (a ^ b.toNat)) else none
  | _, _ => none
def rPlus (K : PySem.W.Frag) : R2 := fun x y H Q => (rI0 fun i j => .int (i + j)) x y H Q ∨ ((∃ i j, x = .str i ∧ y = .str j ∧ i.length + j.length ≤ sizeLine ∧ Q (.str (i ++ j)) H) ∨ rCatA K x y H Q)
section
variable {X : Cx} {K : PySem.W.Frag}
theorem op_plus : OpR X (binaryOp .Add) (rPlus X.K) := op_add.or (op_add_str.or op_catA)
theorem rb_plus : RB K (rPlus K) dAdd := by
  intro F H x y dx dy d Q ex zx zy e old new
  unfold dAdd at e
  split at e
  · cases e
    rw [zx.int_inv, zy.int_inv]
    exact .inl ⟨_, _, rfl, rfl, old _ (.int _)⟩
  · split at e
    · rename_i c
      cases e
      obtain ⟨rfl, _⟩ := zx.str_inv
      obtain ⟨rfl, _⟩ := zy.str_inv
      exact .inr (.inl ⟨_, _, rfl, rfl, c, old _ (.str _ (by rw [PySem.Str.length_append]; exact c))⟩)
    · cases e
  · split at e
    · rename_i xs ys c
      cases e
      obtain ⟨a, vs, rfl, ha, hs⟩ := zx.node
      obtain ⟨b, ws, rfl, hb, gs⟩ := zy.node ex
      have lv := hs.length
      have lw := gs.length
      have c' : vs.length + ws.length ≤ sizeLine := by omega
      refine .inr (.inr ⟨a, b, vs, ws, rfl, rfl, SqT.of (ex _ _ ha.1), SqT.of hb.1, c', fun hx => ?_, fun hx hy => ?_, fun hx hy p hp => ?_⟩)
      · subst hx
        cases hs
        rw [List.nil_append] at old
        cases zy with
        | fz zy => exact old _ zy
        | cell o h g => cases o
      · subst hy
        cases gs
        rw [List.append_nil] at old
        exact old _ zx
      · exact new p .tup (vs ++ ws) (xs ++ ys) _ rfl hp (if_pos (by rw [List.length_append]; exact c')) (hs.append gs)
    · cases e
  · cases e
end

/-! ### more arithmetic -/
section
variable {X : Cx} {K : PySem.W.Frag}
theorem rn_cat : RN K rCat dCat := by
  intro F H x y dx dy d Q ex zx zy e new
  unfold dCat at e
  split at e
  · split at e
    · rename_i xs ys c
      cases e
      obtain ⟨a, vs, rfl, ha, hs⟩ := zx.node
      obtain ⟨b, ws, rfl, hb, gs⟩ := zy.node ex
      have lv := hs.length
      have lw := gs.length
      have c' : vs.length + ws.length ≤ sizeLine := by omega
      exact ⟨a, b, vs, ws, rfl, rfl, ex _ _ ha.1, hb.1, c', fun p hp => new p .lst (vs ++ ws) (xs ++ ys) _ rfl rfl hp (if_pos (by rw [List.length_append]; exact c')) (hs.append gs)⟩
    · cases e
  · cases e
theorem rb_sub : RB K (rI0 fun i j => .int (i - j)) dSub := by
  intro F H x y dx dy d Q ex zx zy e old new
  unfold dSub at e
  split at e
  · cases e
    rw [zx.int_inv, zy.int_inv]
    exact ⟨_, _, rfl, rfl, old _ (.int _)⟩
  · cases e
theorem rb_mul : RB K (rI CMul fun i j => .int (i * j)) dMul := by
  intro F H x y dx dy d Q ex zx zy e old new
  unfold dMul at e
  split at e
  · split at e
    · rename_i c
      cases e
      rw [zx.int_inv, zy.int_inv]
      exact ⟨_, _, rfl, rfl, c, old _ (.int _)⟩
    · cases e
  · cases e
theorem rb_div : RB K (rI CDiv fun i j => .int (i / j)) dDiv := by
  intro F H x y dx dy d Q ex zx zy e old new
  unfold dDiv at e
  split at e
  · split at e
    · rename_i c
      cases e
      rw [zx.int_inv, zy.int_inv]
      exact ⟨_, _, rfl, rfl, c, old _ (.int _)⟩
    · cases e
  · cases e
theorem rb_mod : RB K (rI (fun _ j => 0 < j) fun i j => .int (i % j)) dMod := by
  intro F H x y dx dy d Q ex zx zy e old new
  unfold dMod at e
  split at e
  · split at e
    · rename_i c
      cases e
      rw [zx.int_inv, zy.int_inv]
      exact ⟨_, _, rfl, rfl, c, old _ (.int _)⟩
    · cases e
  · cases e
theorem rb_pow : RB K (rI CPow fun i j => .int (i ^ j.toNat)) dPow := by
  intro F H x y dx dy d Q ex zx zy e old new
  unfold dPow at e
  split at e
  · split at e
    · rename_i c
      cases e
      rw [zx.int_inv, zy.int_inv]
      exact ⟨_, _, rfl, rfl, c, old _ (.int _)⟩
    · cases e
  · cases e
def dNeg : D → Option D
  | .int a => some (.int (-a))
  | _ => none
theorem d_neg {w : Wd} {a : Expr} {fa : En → R D} {pos : Pos} (ha : PE X a (cF X.K w fa)) : PE X (.UnaryOp .USub a pos) (cF X.K w (s1 dNeg fa)) :=
  peI (pe_un un_neg ha) fun σ H Q h => by
    obtain ⟨F, ρ, fp, s, h⟩ := h
    refine ⟨F, ρ, fp, s, h.bnd fun d ρ1 F1 H1 fp1 t1 h1 => fun v s1 z => ?_⟩
    obtain ⟨d', e, n⟩ := h1.lift
    unfold dNeg at e
    split at e
    · cases e
      rw [z.int_inv]
      exact ⟨_, rfl, n F1 H1 fp1 .refl _ s1 (.int _)⟩
    · cases e

/-! ### comparisons -/
def dEq (x y : D) : Option Bool := if dok x = true ∧ dok y = true then some (PyData.eqv (py x) (py y)) else none
def dNe (x y : D) : Option Bool := if dok x = true ∧ dok y = true then some (!PyData.eqv (py x) (py y)) else none
theorem okD_of {d : D} (h : dok d = true) : okD d = true := ((Bool.and_eq_true _ _).mp h).1
theorem rt_eq : RT K (rEqD K) dEq := by
  intro F H x y dx dy b Q ex zx zy e q
  unfold dEq at e
  split at e
  · rename_i c
    cases e
    exact ⟨_, _, (zx.mono ex).dp (okD_of c.1), zy.dp ex (okD_of c.2), shaped_ok c.1, shaped_ok c.2, q⟩
  · cases e
theorem rt_ne : RT K (rNeD K) dNe := by
  intro F H x y dx dy b Q ex zx zy e q
  unfold dNe at e
  split at e
  · rename_i c
    cases e
    exact ⟨_, _, (zx.mono ex).dp (okD_of c.1), zy.dp ex (okD_of c.2), shaped_ok c.1, shaped_ok c.2, q⟩
  · cases e
def cmpI (p : Int → Int → Bool) : D → D → Option Bool
  | .int a, .int b => some (p a b)
  | _, _ => none
theorem rt_int {p : Int → Int → Bool} : RT K (rI0 fun i j => .bl (p i j)) (cmpI p) := by
  intro F H x y dx dy b Q ex zx zy e q
  unfold cmpI at e
  split at e
  · cases e
    rw [zx.int_inv, zy.int_inv]
    exact ⟨_, _, rfl, rfl, q⟩
  · cases e
abbrev dLe := cmpI fun i j => decide (i ≤ j)
abbrev dGt := cmpI fun i j => decide (j < i)
abbrev dGe := cmpI fun i j => decide (j ≤ i)
theorem rt_le : RT K (rI0 fun i j => .bl (decide (i ≤ j))) dLe := rt_int
theorem rt_gt : RT K (rI0 fun i j => .bl (decide (j < i))) dGt := rt_int
theorem rt_ge : RT K (rI0 fun i j => .bl (decide (j ≤ i))) dGe := rt_int
/-- is: None, truths -/
def dIs : D → D → Option Bool
  | .non, .non => some true
  | _, .non => some false
  | .bl a, .bl b => some (decide (a = b))
  | _, _ => none
def rIs : R2 := fun x y H Q => (y = .non ∧ Q (.bl (decide (x = .non))) H) ∨ rIsB x y H Q
def rIsNot : R2 := fun x y H Q => (y = .non ∧ Q (.bl (!decide (x = .non))) H) ∨ rNotB x y H Q
theorem op_is : OpR X (compareOp .Is) rIs := op_isN.or op_isBl
theorem op_isnot : OpR X (compareOp .IsNot) rIsNot := op_notN.or op_notBl
theorem Fz.non_iff {F : Hp} {v : V} {d : D} (z : Fz K F v d) (h : d ≠ .non) : v ≠ .non := by
  intro e
  subst e
  cases z
  exact h rfl
theorem rt_is : RT K rIs dIs := by
  intro F H x y dx dy b Q ex zx zy e q
  unfold dIs at e
  split at e
  · cases e
    rw [zx.non_inv]
    exact .inl ⟨zy.non_inv, q⟩
  · rename_i h
    cases e
    refine .inl ⟨zy.non_inv, ?_⟩
    rw [decide_eq_false (zx.non_iff (by intro e; exact h (by rw [e])))]
    exact q
  · cases e
    rw [zx.bl_inv, zy.bl_inv]
    exact .inr ⟨_, _, rfl, rfl, q⟩
  · cases e
def dIsNot (x y : D) : Option Bool := (dIs x y).map not
theorem rt_isnot : RT K rIsNot dIsNot := by
  intro F H x y dx dy b Q ex zx zy e q
  unfold dIsNot at e
  obtain ⟨c, e, e2⟩ := Option.map_eq_some_iff.mp e
  unfold dIs at e
  split at e
  · cases Option.some.inj e; cases e2
    rw [zx.non_inv]
    exact .inl ⟨zy.non_inv, q⟩
  · rename_i h _
    cases Option.some.inj e; cases e2
    refine .inl ⟨zy.non_inv, ?_⟩
    rw [decide_eq_false (zx.non_iff (by intro e; exact h (by rw [e])))]
    exact q
  · rw [zx.bl_inv, zy.bl_inv]
    refine .inr ⟨_, _, rfl, rfl, ?_⟩
    rw [Option.some.inj e, e2]
    exact q
  · cases e
/-- < of ints, texts, alike tuples -/
def dLt : D → D → Option Bool
  | .int a, .int b => some (decide (a < b))
  | .str a, .str b => some (decide (a.cps.toList < b.cps.toList))
  | .nd .tup a, .nd .tup b => if dok (.nd .tup a) = true ∧ dok (.nd .tup b) = true ∧ PySem.W.alike (py (.nd .tup a)) (py (.nd .tup b)) = true then some (PySem.W.dataLt (py (.nd .tup a)) (py (.nd .tup b))) else none
  | _, _ => none
def rLtD (K : PySem.W.Frag) : R2 := fun x y H Q => ∃ d e, Dp K H x d ∧ Dp K H y e ∧ SeqAt.shaped d = true ∧ SeqAt.shaped e = true ∧ PySem.W.alike d e = true ∧ d ≠ .none ∧ Q (.bl (PySem.W.dataLt d e)) H
theorem op_ltD (hu : X.A.units + 64 < cLine) : OpR X (compareOp .Lt) (rLtD X.K) := by
  intro pins s σ H x y v u Q I rx ry h
  obtain ⟨d, e, hd, he, sd, se, al, nn, q⟩ := h
  obtain ⟨as, r1⟩ := Dp.reads I d x v hd rx
  obtain ⟨bs, r2⟩ := Dp.reads I e y u he ry
  have h1 := SeqAt.depth_of_shaped sd
  exact PySem.W.rcLt_alike d e X.A s v u as bs r1 r2 al nn (by omega) _ _ _ _ ⟨.bl _, H, I, rfl, q⟩
def rLt (K : PySem.W.Frag) : R2 := fun x y H Q => (rI0 fun i j => .bl (decide (i < j))) x y H Q ∨ ((∃ i j, x = .str i ∧ y = .str j ∧ Q (.bl (decide (i.cps.toList < j.cps.toList))) H) ∨ rLtD K x y H Q)
theorem op_lt' (hu : X.A.units + 64 < cLine) : OpR X (compareOp .Lt) (rLt X.K) := op_lt.or (op_lt_str.or (op_ltD hu))
theorem rt_lt : RT K (rLt K) dLt := by
  intro F H x y dx dy b Q ex zx zy e q
  unfold dLt at e
  split at e
  · cases e
    rw [zx.int_inv, zy.int_inv]
    exact .inl ⟨_, _, rfl, rfl, q⟩
  · cases e
    rw [zx.str_inv.1, zy.str_inv.1]
    exact .inr (.inl ⟨_, _, rfl, rfl, q⟩)
  · split at e
    · rename_i c
      cases e
      exact .inr (.inr ⟨_, _, (zx.mono ex).dp (okD_of c.1), zy.dp ex (okD_of c.2.1), shaped_ok c.1, shaped_ok c.2.1, c.2.2, by simp [py], q⟩)
    · cases e
  · cases e
end
end Y

set_option Elab.async false
set_option linter.all false
set_option maxRecDepth 100000
set_option maxHeartbeats 2000000
/-! Dicts by keys; in; built-ins of one value; subscripts. -/
namespace Y
open PySem L2

/-! ### what stands under a key -/
section
variable {κ : Type} [DecidableEq κ]
def getK (ks : List κ) (ds : List D) (k : κ) : Option D := ((ks.zip ds).find? fun p => decide (p.1 = k)).map (·.2)
def putKs (ks : List κ) (k : κ) : List κ := if k ∈ ks then ks else ks ++ [k]
def putDs (ks : List κ) (ds : List D) (k : κ) (d : D) : List D := if k ∈ ks then List.zipWith (fun k' d' => if k' = k then d else d') ks ds else ds ++ [d]
def RelK (K : PySem.W.Frag) (F : Hp) (o : Option D) (r : Option V) : Prop := match o, r with
  | some d, some v => Fz K F v d
  | none, none => True
  | _, _ => False
theorem getK_rel {K : PySem.W.Frag} {F : Hp} : ∀ {vs : List V} {ds : List D} {ks : List κ} {k : κ}, Fzs K F vs ds → RelK K F (getK ks ds k) (valV (ks.zip vs) k)
  | _, _, [], k, _ => by simp [getK, valV, RelK]
  | _, _, k' :: ks, k, .nil => by simp [getK, valV, RelK]
  | v :: vs, d :: ds, k' :: ks, k, .cons h hs => by
    have ih := getK_rel (ks := ks) (k := k) hs
    by_cases e : k' = k
    · have e1 : getK (k' :: ks) (d :: ds) k = some d := by simp [getK, List.find?_cons, e]
      have e2 : valV ((k' :: ks).zip (v :: vs)) k = some v := by simp [valV, List.find?_cons, e]
      rw [e1, e2]
      exact h
    · have e1 : getK (k' :: ks) (d :: ds) k = getK ks ds k := by simp [getK, List.find?_cons, e]
      have e2 : valV ((k' :: ks).zip (v :: vs)) k = valV (ks.zip vs) k := by simp [valV, List.find?_cons, e]
      rw [e1, e2]
      exact ih
theorem mem_zip_keys : ∀ {ks : List κ} {vs : List V} {k : κ}, ks.length = vs.length → ((ks.zip vs).any fun kv => decide (kv.1 = k)) = decide (k ∈ ks)
  | [], _, k, _ => by simp
  | k' :: ks, [], k, h => by simp at h
  | k' :: ks, v :: vs, k, h => by
    have ih := mem_zip_keys (ks := ks) (vs := vs) (k := k) (by simpa using h)
    rw [List.zip_cons_cons, List.any_cons, ih]
    by_cases e : k' = k
    · simp [e]
    · have e' : ¬ k = k' := fun z => e z.symm
      simp [e, e', List.mem_cons]
theorem zip_map_put : ∀ (ks : List κ) (vs : List V) (k : κ) (v : V), ((ks.zip vs).map fun kv => if kv.1 = k then (kv.1, v) else kv) = ks.zip (List.zipWith (fun k' v' => if k' = k then v else v') ks vs)
  | [], _, _, _ => by simp
  | _ :: _, [], _, _ => by simp
  | k' :: ks, v' :: vs, k, v => by
    simp only [List.zip_cons_cons, List.map_cons, List.zipWith_cons_cons, zip_map_put ks vs k v]
    by_cases e : k' = k <;> simp [e]
theorem fzs_put {K : PySem.W.Frag} {F : Hp} {v : V} {d : D} {k : κ} (h : Fz K F v d) : ∀ {ks : List κ} {vs : List V} {ds : List D}, Fzs K F vs ds → Fzs K F (List.zipWith (fun k' v' => if k' = k then v else v') ks vs) (List.zipWith (fun k' d' => if k' = k then d else d') ks ds)
  | [], _, _, _ => by simpa using Fzs.nil
  | _ :: _, _, _, .nil => by simpa using Fzs.nil
  | k' :: ks, _, _, .cons g gs => by
    simp only [List.zipWith_cons_cons]
    refine .cons ?_ (fzs_put h gs)
    split
    · exact h
    · exact g
def putVs (ks : List κ) (vs : List V) (k : κ) (v : V) : List V := if k ∈ ks then List.zipWith (fun k' v' => if k' = k then v else v') ks vs else vs ++ [v]
theorem putK_zip {ks : List κ} {vs : List V} {k : κ} {v : V} (hl : ks.length = vs.length) : putK (ks.zip vs) k v = (putKs ks k).zip (putVs ks vs k v) := by
  unfold putK putKs putVs
  rw [mem_zip_keys hl]
  by_cases e : k ∈ ks
  · simp only [e, decide_true, if_true]
    exact zip_map_put ks vs k v
  · simp only [e, decide_false, if_false, Bool.false_eq_true]
    rw [List.zip_append hl]
    rfl
theorem putKs_len {ks : List κ} {vs : List V} {k : κ} {v : V} (hl : ks.length = vs.length) : (putKs ks k).length = (putVs ks vs k v).length := by
  unfold putKs putVs
  split
  · simp [hl]
  · simp [hl]
theorem putVs_le {ks : List κ} {vs : List V} {k : κ} {v : V} : (putVs ks vs k v).length ≤ vs.length + 1 := by
  unfold putVs
  split
  · simp; omega
  · simp
theorem fzs_putVs {K : PySem.W.Frag} {F : Hp} {v : V} {d : D} {k : κ} (h : Fz K F v d) {ks : List κ} {vs : List V} {ds : List D} (hs : Fzs K F vs ds) : Fzs K F (putVs ks vs k v) (putDs ks ds k d) := by
  unfold putVs putDs
  split
  · exact fzs_put h hs
  · exact hs.append (.cons h .nil)
end

def keyD : D → Option Key
  | .int i => some (.inl i)
  | .str s => some (.inr s)
  | _ => none
def keysD : List D → Option (List Key)
  | [] => some []
  | d :: ds => match keyD d, keysD ds with
    | some k, some ks => some (k :: ks)
    | _, _ => none
theorem keyD_rel {K : PySem.W.Frag} {F : Hp} {v : V} {d : D} {k : Key} (h : Fz K F v d) (e : keyD d = some k) : v = kV k := by
  unfold keyD at e
  split at e
  · cases e; exact h.int_inv
  · cases e; exact h.str_inv.1
  · cases e
theorem keysD_rel {K : PySem.W.Frag} {F : Hp} : ∀ {vs : List V} {ds : List D} {ks : List Key}, Fzs K F vs ds → keysD ds = some ks → vs = ks.map kV
  | _, _, ks, .nil, e => by simp [keysD] at e; subst e; rfl
  | _, _, ks, .cons (d := d) (ds := ds) h hs, e => by
    unfold keysD at e
    split at e
    · rename_i k ks' e1 e2
      cases e
      rw [keyD_rel h e1, keysD_rel hs e2]
      rfl
    · cases e
/-- look-up in a dict's value: some none: not there -/
def lookD : D → D → Option (Option D)
  | .nd (.dK ks) ds, k => (keyD k).map fun q => getK ks ds q
  | .nd (.dT ks) ds, .nd .tup xs => (keysD xs).map fun q => getK ks ds q
  | _, _ => none
theorem lookD_rel {K : PySem.W.Frag} {F H : Hp} {v y : V} {d dy : D} {o : Option D} (ex : Same F H) (h : Bz K F H v d) (hy : Fz K F y dy) (e : lookD d dy = some o) :
    ∃ a r, v = .ref a ∧ DGet H a y r ∧ RelK K F o r := by
  cases d with
  | nd k ds =>
    cases k with
    | dK ks =>
      simp only [lookD] at e
      obtain ⟨q, e1, rfl⟩ := Option.map_eq_some_iff.mp e
      obtain ⟨a, vs, rfl, hi, hs⟩ := h.node ex
      exact ⟨a, valV (ks.zip vs) q, rfl, .inl ⟨_, q, hi.2.1, keyD_rel hy e1, rfl⟩, getK_rel hs⟩
    | dT ks =>
      cases dy with
      | nd k2 xs =>
        cases k2 with
        | tup =>
          simp only [lookD] at e
          obtain ⟨q, e1, rfl⟩ := Option.map_eq_some_iff.mp e
          obtain ⟨a, vs, rfl, hi, hs⟩ := h.node ex
          obtain ⟨b, ws, rfl, hb, gs⟩ := hy.node
          refine ⟨a, valV (ks.zip vs) q, rfl, .inr ⟨_, q, b, hi.2.1, rfl, ?_, rfl⟩, getK_rel hs⟩
          rw [← keysD_rel gs e1]
          exact ex _ _ hb.1
        | _ => simp [lookD] at e
      | _ => simp [lookD] at e
    | _ => simp [lookD] at e
  | _ => simp [lookD] at e
end Y

set_option Elab.async false
set_option linter.all false
set_option maxRecDepth 100000
set_option maxHeartbeats 2000000
/-! in, built-ins of one value, subscripts, slices. -/
namespace Y
open PySem L2
section
variable {X : Cx} {K : PySem.W.Frag}
/-! ### in -/
def dIn : D → D → Option Bool
  | .str a, .str b => match a.cps.toList with
    | [c] => some (decide (c ∈ b.cps.toList))
    | _ => none
  | x, .nd .lst ds => if dok x = true ∧ dok (.nd .lst ds) = true then some (ds.any fun z => PyData.eqv (py z) (py x)) else none
  | x, .nd .tup ds => if dok x = true ∧ dok (.nd .tup ds) = true then some (ds.any fun z => PyData.eqv (py z) (py x)) else none
  | x, .nd .ktp ds => if dok x = true ∧ dok (.nd .ktp ds) = true then some (ds.any fun z => PyData.eqv (py z) (py x)) else none
  | x, .nd (.dK ks) ds => (lookD (.nd (.dK ks) ds) x).map (·.isSome)
  | x, .nd (.dT ks) ds => (lookD (.nd (.dT ks) ds) x).map (·.isSome)
  | _, _ => none
def rInU (K : PySem.W.Frag) (neg : Bool) : R2 := fun x y H Q => ∃ d ds, Dp K H x d ∧ Dp K H y (.tuple ds) ∧ SeqAt.shaped d = true ∧ SeqAt.shaped (.tuple ds) = true ∧ Q (.bl (if neg then !(ds.any fun z => PyData.eqv z d) else (ds.any fun z => PyData.eqv z d))) H
theorem shaped_lay {ds : List PyData} (h : SeqAt.shaped (.tuple ds) = true) : PyData.canLayAll0 ds = true := by
  have := SeqAt.canLay_of_shaped h
  simpa [PyData.canLay0] using this
theorem op_inU (hu : X.A.units + 65 < cLine) : OpR X (compareOp .In) (rInU X.K false) := by
  intro pins s σ H x y v u Q I rx ry h
  obtain ⟨d, ds, hd, he, sd, se, q⟩ := h
  obtain ⟨as, r1⟩ := Dp.reads I d x v hd rx
  obtain ⟨bs, r2⟩ := Dp.reads I (.tuple ds) y u he ry
  exact SeqAt.in_tuple_reads r2 r1 (shaped_lay se) (SeqAt.canLay_of_shaped sd) (PyProof.Rows.room_in_shaped sd hu) ⟨.bl _, H, I, rfl, q⟩
theorem op_notInU (hu : X.A.units + 65 < cLine) : OpR X (compareOp .NotIn) (rInU X.K true) := by
  intro pins s σ H x y v u Q I rx ry h
  obtain ⟨d, ds, hd, he, sd, se, q⟩ := h
  obtain ⟨as, r1⟩ := Dp.reads I d x v hd rx
  obtain ⟨bs, r2⟩ := Dp.reads I (.tuple ds) y u he ry
  exact SeqAt.notIn_tuple_reads r2 r1 (shaped_lay se) (SeqAt.canLay_of_shaped sd) (PyProof.Rows.room_in_shaped sd hu) ⟨.bl _, H, I, rfl, q⟩
def rInDct (neg : Bool) : R2 := fun x y H Q => ∃ a o, y = .ref a ∧ DGet H a x o ∧ Q (.bl (if neg then !o.isSome else o.isSome)) H
theorem op_inDct (hu : X.A.units + 1 < cLine) : OpR X (compareOp .In) (rInDct false) := by
  intro pins s σ H x y v u Q I rx ry h
  obtain ⟨a, o, rfl, g, q⟩ := h
  cases ry
  exact d_in hu I g rx fun s' I' => ⟨.bl _, H, I', rfl, q⟩
theorem op_notInDct (hu : X.A.units + 1 < cLine) : OpR X (compareOp .NotIn) (rInDct true) := by
  intro pins s σ H x y v u Q I rx ry h
  obtain ⟨a, o, rfl, g, q⟩ := h
  cases ry
  exact d_notIn hu I g rx fun s' I' => ⟨.bl _, H, I', rfl, q⟩
def rInA (K : PySem.W.Frag) : R2 := fun x y H Q => (∃ (c : Nat) (z : Str), x = .str ⟨#[c]⟩ ∧ y = .str z ∧ Q (.bl (decide (c ∈ z.cps.toList))) H) ∨ (rInD K x y H Q ∨ (rInU K false x y H Q ∨ rInDct false x y H Q))
def rNotInA (K : PySem.W.Frag) : R2 := fun x y H Q => (∃ (c : Nat) (z : Str), x = .str ⟨#[c]⟩ ∧ y = .str z ∧ Q (.bl (!decide (c ∈ z.cps.toList))) H) ∨ (rNotInD K x y H Q ∨ (rInU K true x y H Q ∨ rInDct true x y H Q))
theorem op_in' (hu : X.A.units + 65 < cLine) : OpR X (compareOp .In) (rInA X.K) := op_in_sign.or ((op_inD hu).or ((op_inU hu).or (op_inDct (by omega))))
theorem op_notin' (hu : X.A.units + 65 < cLine) : OpR X (compareOp .NotIn) (rNotInA X.K) := op_notIn_sign.or ((op_notInD hu).or ((op_notInU hu).or (op_notInDct (by omega))))
theorem pys_any (ds : List D) (f : PyData → Bool) : (pys ds).any f = ds.any fun z => f (py z) := by
  induction ds with
  | nil => rfl
  | cons d ds ih => simp [pys, ih]
theorem RelK.isSome {F : Hp} {o : Option D} {r : Option V} (h : RelK K F o r) : r.isSome = o.isSome := by
  cases o <;> cases r <;> first | rfl | exact h.elim
theorem dp_nd {F H : Hp} {y : V} {k : Kd} {ds : List D} (ex : Same F H) (zy : Bz K F H y (.nd k ds)) (c : dok (.nd k ds) = true) : Dp K H y (py (.nd k ds)) := zy.dp ex (okD_of c)
theorem one_sign {a : Str} {c : Nat} (h : a.cps.toList = [c]) : a = ⟨#[c]⟩ := by
  cases a with
  | mk cps => exact congrArg Str.mk (by rw [← Array.toArray_toList (xs := cps), h])
theorem in_cases {x d : D} {b : Bool} (e : dIn x d = some b) :
    (∃ c z, x = .str ⟨#[c]⟩ ∧ d = .str z ∧ b = decide (c ∈ z.cps.toList)) ∨ (∃ ds, d = .nd .lst ds ∧ dok x = true ∧ dok (.nd .lst ds) = true ∧ b = ds.any fun z => PyData.eqv (py z) (py x)) ∨
    (∃ k ds, (k = .tup ∨ k = .ktp) ∧ d = .nd k ds ∧ dok x = true ∧ dok (.nd k ds) = true ∧ b = ds.any fun z => PyData.eqv (py z) (py x)) ∨ ∃ o, lookD d x = some o ∧ b = o.isSome := by
  cases d with
  | str z =>
    cases x with
    | str a =>
      simp only [dIn] at e
      split at e
      · rename_i c hc
        cases e
        exact .inl ⟨c, z, by rw [one_sign hc], rfl, rfl⟩
      · cases e
    | _ => simp [dIn] at e
  | nd k ds =>
    cases k with
    | lst =>
      simp only [dIn] at e
      split at e
      · rename_i c
        exact .inr (.inl ⟨ds, rfl, c.1, c.2, (Option.some.inj e).symm⟩)
      · cases e
    | tup =>
      simp only [dIn] at e
      split at e
      · rename_i c
        exact .inr (.inr (.inl ⟨_, ds, .inl rfl, rfl, c.1, c.2, (Option.some.inj e).symm⟩))
      · cases e
    | ktp =>
      simp only [dIn] at e
      split at e
      · rename_i c
        exact .inr (.inr (.inl ⟨_, ds, .inr rfl, rfl, c.1, c.2, (Option.some.inj e).symm⟩))
      · cases e
    | dK ks =>
      simp only [dIn] at e
      obtain ⟨o, e1, e2⟩ := Option.map_eq_some_iff.mp e
      exact .inr (.inr (.inr ⟨o, e1, e2.symm⟩))
    | dT ks =>
      simp only [dIn] at e
      obtain ⟨o, e1, e2⟩ := Option.map_eq_some_iff.mp e
      exact .inr (.inr (.inr ⟨o, e1, e2.symm⟩))
    | scr => simp [dIn] at e
  | _ => simp [dIn] at e
theorem rt_in : RT K (rInA K) dIn := by
  intro F H x y dx dy b Q ex zx zy e q
  rcases in_cases e with ⟨c, z, rfl, rfl, rfl⟩ | ⟨ds, rfl, c1, c2, rfl⟩ | ⟨k, ds, hk, rfl, c1, c2, rfl⟩ | ⟨o, e1, rfl⟩
  · exact .inl ⟨c, z, zx.str_inv.1, zy.str_inv.1, q⟩
  · refine .inr (.inl ⟨_, pys ds, (zx.mono ex).dp (okD_of c1), by simpa [py] using dp_nd ex zy c2, shaped_ok c1, by simpa [py] using shaped_ok c2, ?_⟩)
    rw [pys_any]
    exact q
  · have h1 : py (.nd k ds) = .tuple (pys ds) := by rcases hk with rfl | rfl <;> simp [py]
    have h2 := dp_nd ex zy c2
    have h3 := shaped_ok c2
    rw [h1] at h2 h3
    refine .inr (.inr (.inl ⟨_, pys ds, (zx.mono ex).dp (okD_of c1), h2, shaped_ok c1, h3, ?_⟩))
    rw [if_neg Bool.false_ne_true, pys_any]
    exact q
  · obtain ⟨a, r, rfl, g, rel⟩ := lookD_rel ex zy zx e1
    refine .inr (.inr (.inr ⟨a, r, rfl, g, ?_⟩))
    rw [if_neg Bool.false_ne_true, rel.isSome]
    exact q
def dNotIn (x y : D) : Option Bool := (dIn x y).map not
theorem rt_notin : RT K (rNotInA K) dNotIn := by
  intro F H x y dx dy b' Q ex zx zy e q
  unfold dNotIn at e
  obtain ⟨b, e0, e2⟩ := Option.map_eq_some_iff.mp e
  subst e2
  rcases in_cases e0 with ⟨c, z, rfl, rfl, rfl⟩ | ⟨ds, rfl, c1, c2, rfl⟩ | ⟨k, ds, hk, rfl, c1, c2, rfl⟩ | ⟨o, e1, rfl⟩
  · exact .inl ⟨c, z, zx.str_inv.1, zy.str_inv.1, q⟩
  · refine .inr (.inl ⟨_, pys ds, (zx.mono ex).dp (okD_of c1), by simpa [py] using dp_nd ex zy c2, shaped_ok c1, by simpa [py] using shaped_ok c2, ?_⟩)
    rw [pys_any]
    exact q
  · have h1 : py (.nd k ds) = .tuple (pys ds) := by rcases hk with rfl | rfl <;> simp [py]
    have h2 := dp_nd ex zy c2
    have h3 := shaped_ok c2
    rw [h1] at h2 h3
    refine .inr (.inr (.inl ⟨_, pys ds, (zx.mono ex).dp (okD_of c1), h2, shaped_ok c1, h3, ?_⟩))
    rw [if_pos rfl, pys_any]
    exact q
  · obtain ⟨a, r, rfl, g, rel⟩ := lookD_rel ex zy zx e1
    refine .inr (.inr (.inr ⟨a, r, rfl, g, ?_⟩))
    rw [if_pos rfl, rel.isSome]
    exact q

/-! ### len -/
def dLen : D → Option D
  | .str s => some (.int s.length)
  | .nd _ ds => some (.int ds.length)
  | _ => none
def rLen (K : PySem.W.Frag) : List V → Hp → VK → Prop := fun xs H Q => (∃ x n, xs = [x] ∧ LenV K x H n ∧ Q (.int n) H) ∨ ∃ a kvs, xs = [V.ref a] ∧ Rd H a (.dK kvs) ∧ Q (.int kvs.length) H
theorem call_lenR : CallR X (.builtin "len") (fun xs H Q => ∃ a kvs, xs = [V.ref a] ∧ Rd H a (.dK kvs) ∧ Q (.int kvs.length) H) := by
  intro pins s σ H xs us Q I r h
  obtain ⟨a, kvs, rfl, ha, q⟩ := h
  obtain ⟨u, rfl, ru⟩ := vals1 r
  cases ru
  exact d_len I ha fun t s' I' => ⟨.int kvs.length, H, I', ⟨t, rfl⟩, q⟩
theorem cr_len : CallR X (.builtin "len") (rLen X.K) := call_len.or call_lenR
def dLen' : D → Option D
  | .nd (.dT _) _ => none
  | d => dLen d
theorem c1_len : C1 K (rLen K) dLen' := by
  intro F H x dx d Q ex z e old new
  cases dx with
  | str s =>
    simp only [dLen', dLen] at e
    cases e
    obtain ⟨rfl, hl⟩ := z.str_inv
    exact .inl ⟨_, s.length, rfl, ⟨hl, rfl⟩, old _ (.int _)⟩
  | nd k ds =>
    obtain ⟨a, vs, rfl, hi, hs⟩ := z.node ex
    have hl := hs.length
    cases k <;> simp only [dLen', dLen, Option.some.injEq] at e
    case lst => subst e; exact .inl ⟨_, vs.length, rfl, .inl ⟨vs, SqL.of hi.1, rfl⟩, by rw [hl]; exact old _ (.int _)⟩
    case scr => subst e; exact .inl ⟨_, vs.length, rfl, .inl ⟨vs, hi.1, rfl⟩, by rw [hl]; exact old _ (.int _)⟩
    case tup => subst e; exact .inl ⟨_, vs.length, rfl, .inr ⟨vs, SqT.of hi.1, rfl⟩, by rw [hl]; exact old _ (.int _)⟩
    case ktp => subst e; exact .inl ⟨_, vs.length, rfl, .inr ⟨vs, hi.1, rfl⟩, by rw [hl]; exact old _ (.int _)⟩
    case dK ks =>
      subst e
      refine .inr ⟨a, _, rfl, hi.2.1, ?_⟩
      have : (ks.zip vs).length = ds.length := by rw [List.length_zip, hi.1, hl]; simp
      rw [this]
      exact old _ (.int _)
    case dT ks => cases e
  | _ => simp [dLen', dLen] at e

/-! ### list, tuple -/
def kD : Key → D
  | .inl i => .int i
  | .inr s => .str s
theorem fz_keys {F : Hp} : ∀ {ks : List Key}, keysL ks = true → Fzs K F (ks.map kV) (ks.map kD)
  | [], _ => .nil
  | .inl i :: ks, h => .cons (.int i) (fz_keys (ks := ks) (by simpa [keysL, keyL] using h))
  | .inr s :: ks, h => by
    have h' : s.length ≤ sizeLine ∧ keysL ks = true := by simpa [keysL, keyL] using h
    exact .cons (.str s h'.1) (fz_keys h'.2)
def dList : D → Option D
  | .nd .lst ds => some (.nd .lst ds)
  | .nd .tup ds => some (.nd .lst ds)
  | .nd .scr ds => some (.nd .lst ds)
  | .nd .ktp ds => some (.nd .lst ds)
  | .nd (.dK ks) _ => some (.nd .lst (ks.map kD))
  | _ => none
def rListR : List V → Hp → VK → Prop := fun xs H Q => ∃ p kvs, xs = [.ref p] ∧ Rd H p (.dK kvs) ∧ ∀ q, H q = none → Q (.ref q) (upd H q (.lst (kvs.map fun kv => kV kv.1)))
theorem call_list_rd (hc : X.calm = true) : CallR X (.type "list") rListR := by
  intro pins s σ H xs us Q I r h
  obtain ⟨p, kvs, e, hk, q⟩ := h
  subst e
  obtain ⟨u, eu, rx⟩ := vals1 r
  subst eu
  obtain rfl : u = Value.ref p := rx
  obtain ⟨z, lo, vs, rk, hd⟩ := (show ObjOk X.prog X.w H s.heap p (.dK kvs) from hk.ok I.hok)
  obtain ⟨ep, hat⟩ := hd.dictAt
  have hl : kvs.length = vs.length := Paired.length rk
  refine PySem.W.kdl_call (PySem.W.kdl_dict (knd := mixKind X.prog X.w) (kvs := vs) (ep := ep) lo) (I.ok.hd hc) hat (by rw [← hl]; exact z) fun h' tk acc' c' hkeep hS hacc => ?_
  refine ⟨.ref s.heap.objs.size, upd H s.heap.objs.size (.lst (kvs.map fun kv => kV kv.1)), I.laid hkeep (Nat.le_refl _) (show ObjOk X.prog X.w _ _ _ (.lst (kvs.map fun kv => kV kv.1)) from ⟨?_, acc'.toList, c', ?_, ?_⟩), rfl, q _ (I.hok.fresh (Nat.le_refl _))⟩
  · rw [List.length_map]; exact z
  · have el : acc'.toList.length = acc'.size := by simp
    refine vals_of_at (by rw [List.length_map, el, hacc.1, hl]) fun j x w h1 h2 => ?_
    obtain ⟨k, y, hky, hi⟩ := hacc.2 j w (by rw [← Array.getElem?_toList]; exact h2)
    have e1 : (kvs.map (·.1))[j]? = some k := by
      rw [KV.keys rk, List.getElem?_map, hky] <;> rfl
    have e2 : (kvs.map fun kv => kV kv.1)[j]? = some (kV k) := by
      have e3 : (kvs.map fun kv => kV kv.1) = (kvs.map (·.1)).map kV := by rw [List.map_map] <;> rfl
      rw [e3, List.getElem?_map, e1] <;> rfl
    rw [e2] at h1
    cases h1
    exact keyIs_rel hi
  · rw [Array.toArray_toList]; exact hS
def rList (K : PySem.W.Frag) : List V → Hp → VK → Prop := fun xs H Q => (∃ p ys, xs = [.ref p] ∧ (SqL K H p ys ∨ SqT K H p ys) ∧ ∀ l, H l = none → Q (.ref l) (upd H l (.lst ys))) ∨ rListR xs H Q
theorem cr_list (hc : X.calm = true) : CallR X (.type "list") (rList X.K) := call_list_of.or (call_list_rd hc)
theorem zip_keys {κ : Type} {ks : List κ} {vs : List V} (h : ks.length = vs.length) (f : κ → V) : ((ks.zip vs).map fun kv => f kv.1) = ks.map f := by
  induction ks generalizing vs with
  | nil => simp
  | cons k ks ih => cases vs with
    | nil => simp at h
    | cons v vs => simp [ih (vs := vs) (by simpa using h)]
theorem c1_list : C1N K (rList K) dList := by
  intro F H x dx d Q ex z e new
  cases dx with
  | nd k ds =>
    obtain ⟨a, vs, rfl, hi, hs⟩ := z.node ex
    cases k <;> simp only [dList, Option.some.injEq] at e
    case lst => subst e; exact .inl ⟨a, vs, rfl, .inl (SqL.of hi.1), fun l hl => new l .lst vs ds _ rfl rfl hl (if_pos hi.2) hs⟩
    case scr => subst e; exact .inl ⟨a, vs, rfl, .inl hi.1, fun l hl => new l .lst vs ds _ rfl rfl hl (if_pos hi.2) hs⟩
    case tup => subst e; exact .inl ⟨a, vs, rfl, .inr (SqT.of hi.1), fun l hl => new l .lst vs ds _ rfl rfl hl (if_pos hi.2) hs⟩
    case ktp => subst e; exact .inl ⟨a, vs, rfl, .inr hi.1, fun l hl => new l .lst vs ds _ rfl rfl hl (if_pos hi.2) hs⟩
    case dK ks =>
      subst e
      refine .inr ⟨a, _, rfl, hi.2.1, fun l hl => ?_⟩
      rw [zip_keys hi.1]
      exact new l .lst (ks.map kV) (ks.map kD) _ rfl rfl hl (if_pos (by rw [List.length_map, hi.1]; exact hi.2.2.1)) (fz_keys hi.2.2.2)
    case dT ks => cases e
  | _ => simp [dList] at e
def dTuple : D → Option D
  | .nd .lst ds => some (.nd .tup ds)
  | .nd .scr ds => some (.nd .tup ds)
  | .nd .tup ds => some (.nd .tup ds)
  | .nd .ktp ds => some (.nd .ktp ds)
  | _ => none
theorem c1_tuple : C1 K (fun xs H Q => ∃ p ys, xs = [.ref p] ∧ ((SqL K H p ys ∧ ∀ l, H l = none → Q (.ref l) (upd H l (.tup ys))) ∨ (SqT K H p ys ∧ Q (.ref p) H))) dTuple := by
  intro F H x dx d Q ex z e old new
  cases dx with
  | nd k ds =>
    obtain ⟨a, vs, rfl, hi, hs⟩ := z.node ex
    cases k <;> simp only [dTuple, Option.some.injEq] at e
    case lst => subst e; exact ⟨a, vs, rfl, .inl ⟨SqL.of hi.1, fun l hl => new l .tup vs ds _ rfl hl (if_pos hi.2) hs⟩⟩
    case scr => subst e; exact ⟨a, vs, rfl, .inl ⟨hi.1, fun l hl => new l .tup vs ds _ rfl hl (if_pos hi.2) hs⟩⟩
    case tup =>
      subst e
      cases z with
      | fz z => exact ⟨a, vs, rfl, .inr ⟨SqT.of hi.1, old _ z⟩⟩
      | cell o h g => cases o
    case ktp =>
      subst e
      cases z with
      | fz z => exact ⟨a, vs, rfl, .inr ⟨hi.1, old _ z⟩⟩
      | cell o h g => cases o
    all_goals cases e
  | _ => simp [dTuple] at e

/-! ### all, any, sum -/
def blsD : List D → Option (List Bool)
  | [] => some []
  | .bl b :: ds => (blsD ds).map (b :: ·)
  | _ => none
def intsD : List D → Option (List Int)
  | [] => some []
  | .int b :: ds => (intsD ds).map (b :: ·)
  | _ => none
theorem blsD_rel {F : Hp} : ∀ {ds : List D} {vs : List V} {bs : List Bool}, Fzs K F vs ds → blsD ds = some bs → vs = bs.map V.bl
  | _, _, bs, .nil, e => by simp [blsD] at e; subst e; rfl
  | d :: ds, _, bs, .cons h hs, e => by
    cases d with
    | bl b =>
      simp only [blsD] at e
      obtain ⟨bs', e1, rfl⟩ := Option.map_eq_some_iff.mp e
      rw [h.bl_inv, blsD_rel hs e1]
      rfl
    | _ => simp [blsD] at e
theorem intsD_rel {F : Hp} : ∀ {ds : List D} {vs : List V} {bs : List Int}, Fzs K F vs ds → intsD ds = some bs → vs = bs.map V.int
  | _, _, bs, .nil, e => by simp [intsD] at e; subst e; rfl
  | d :: ds, _, bs, .cons h hs, e => by
    cases d with
    | int b =>
      simp only [intsD] at e
      obtain ⟨bs', e1, rfl⟩ := Option.map_eq_some_iff.mp e
      rw [h.int_inv, intsD_rel hs e1]
      rfl
    | _ => simp [intsD] at e
def dAll : D → Option D
  | .nd .lst ds => (blsD ds).map fun bs => .bl (bs.all id)
  | _ => none
def dAny : D → Option D
  | .nd .lst ds => (blsD ds).map fun bs => .bl (bs.any id)
  | _ => none
def dSum : D → Option D
  | .nd .lst ds => (intsD ds).map fun bs => .int bs.sum
  | _ => none
theorem c1_all : C1 K (rAll K) dAll := by
  intro F H x dx d Q ex z e old new
  unfold dAll at e
  split at e
  · rename_i ds
    obtain ⟨bs, e1, rfl⟩ := Option.map_eq_some_iff.mp e
    obtain ⟨a, vs, rfl, hi, hs⟩ := z.node ex
    exact ⟨a, bs, rfl, by rw [← blsD_rel hs e1]; exact SqL.of hi.1, old _ (.bl _)⟩
  · cases e
theorem c1_any : C1 K (rAny K) dAny := by
  intro F H x dx d Q ex z e old new
  unfold dAny at e
  split at e
  · rename_i ds
    obtain ⟨bs, e1, rfl⟩ := Option.map_eq_some_iff.mp e
    obtain ⟨a, vs, rfl, hi, hs⟩ := z.node ex
    exact ⟨a, bs, rfl, by rw [← blsD_rel hs e1]; exact SqL.of hi.1, old _ (.bl _)⟩
  · cases e
theorem c1_sum : C1 K (rSum K) dSum := by
  intro F H x dx d Q ex z e old new
  unfold dSum at e
  split at e
  · rename_i ds
    obtain ⟨bs, e1, rfl⟩ := Option.map_eq_some_iff.mp e
    obtain ⟨a, vs, rfl, hi, hs⟩ := z.node ex
    exact ⟨a, bs, rfl, by rw [← intsD_rel hs e1]; exact SqL.of hi.1, old _ (.int _)⟩
  · cases e
/-! ### abs, min, max -/
def dAbs : D → Option D
  | .int i => some (.int (if i < 0 then -i else i))
  | _ => none
theorem c1_abs : C1 K (fun xs H Q => ∃ i, xs = [.int i] ∧ Q (.int (if i < 0 then -i else i)) H) dAbs := by
  intro F H x dx d Q ex z e old new
  unfold dAbs at e
  split at e
  · cases e
    rw [z.int_inv]
    exact ⟨_, rfl, old _ (.int _)⟩
  · cases e
def dMax2 : List D → Option D
  | [.int i, .int j] => some (.int (if j > i then j else i))
  | _ => none
def dMin2 : List D → Option D
  | [.int i, .int j] => some (.int (if j < i then j else i))
  | _ => none
theorem fzs2 {F : Hp} {vs : List V} {i j : Int} (h : Fzs K F vs [.int i, .int j]) : vs = [.int i, .int j] := by
  cases h with
  | cons h1 h => cases h with
    | cons h2 h => cases h; rw [h1.int_inv, h2.int_inv]
theorem cn_max2 : CN K (fun xs H Q => ∃ i j, xs = [.int i, .int j] ∧ Q (.int (if j > i then j else i)) H) dMax2 := by
  intro F H xs dxs d Q ex z e old new
  unfold dMax2 at e
  split at e
  · cases e
    exact ⟨_, _, fzs2 z, old _ (.int _)⟩
  · cases e
theorem cn_min2 : CN K (fun xs H Q => ∃ i j, xs = [.int i, .int j] ∧ Q (.int (if j < i then j else i)) H) dMin2 := by
  intro F H xs dxs d Q ex z e old new
  unfold dMin2 at e
  split at e
  · cases e
    exact ⟨_, _, fzs2 z, old _ (.int _)⟩
  · cases e
end
end Y

set_option Elab.async false
set_option linter.all false
set_option maxRecDepth 100000
set_option maxHeartbeats 2000000
/-! isinstance, numbers and texts, subscripts, slices. -/
namespace Y
open PySem L2

/-! ### isinstance -/
def tyN : D → Option String
  | .non => some "NoneType"
  | .bl _ => some "bool"
  | .int _ => some "int"
  | .str _ => some "str"
  | .nd .lst _ => some "list"
  | .nd .scr _ => some "list"
  | .nd .tup _ => some "tuple"
  | .nd .ktp _ => some "tuple"
  | .nd (.dK _) _ => some "dict"
  | _ => none
def isA (t T : String) : Option Bool :=
  if T = "int" then some (t = "int" ∨ t = "bool") else if T = "bool" then some (t = "bool") else if T = "str" then some (t = "str") else if T = "tuple" then some (t = "tuple") else if T = "list" then some (t = "list") else none
theorem isA_kit {d : D} {t T : String} {b : Bool} (h : tyN d = some t) (e : isA t T = some b) : kitB t T = some b := by
  have ht : t ∈ ["NoneType", "bool", "int", "str", "list", "tuple", "dict"] := by
    cases d with
    | nd k ds => cases k <;> simp [tyN] at h <;> subst h <;> simp
    | ty n => simp [tyN] at h
    | _ => simp [tyN] at h <;> subst h <;> simp
  have all : ∀ t ∈ ["NoneType", "bool", "int", "str", "list", "tuple", "dict"], ∀ T ∈ ["int", "bool", "str", "tuple", "list"], kitB t T = isA t T := by decide +kernel
  have hT : T ∈ ["int", "bool", "str", "tuple", "list"] := by
    unfold isA at e
    split at e
    · simp [*]
    · split at e
      · simp [*]
      · split at e
        · simp [*]
        · split at e
          · simp [*]
          · split at e
            · simp [*]
            · cases e
  rw [all t ht T hT]
  exact e
theorem Bz.tyx {K : PySem.W.Frag} {F H : Hp} {v : V} {d : D} {t : String} (ex : Same F H) (z : Bz K F H v d) (h : tyN d = some t) : TyX K H v (.type t) := by
  cases d with
  | non => simp [tyN] at h; subst h; rw [z.non_inv]; exact .base .non
  | bl b => simp [tyN] at h; subst h; rw [z.bl_inv]; exact .base (.bl b)
  | int i => simp [tyN] at h; subst h; rw [z.int_inv]; exact .base (.int i)
  | str s => simp [tyN] at h; subst h; rw [z.str_inv.1]; exact .base (.str s)
  | ty n => simp [tyN] at h
  | nd k ds =>
    obtain ⟨a, vs, rfl, hi, hs⟩ := z.node ex
    cases k <;> simp only [tyN, Option.some.injEq] at h
    case lst => subst h; exact .base (.lst hi.1)
    case tup => subst h; exact .base (.tup hi.1)
    case scr =>
      subst h
      rcases hi.1 with (q | ⟨o, q⟩) | ⟨o, its, n, q1, q2, _⟩
      · exact .base (.lst q)
      · exact .base (.frz q)
      · exact .kList q1 q2
    case ktp =>
      subst h
      rcases hi.1 with (q | ⟨o, q⟩) | ⟨o, its, n, q1, q2, _⟩
      · exact .base (.tup q)
      · exact .fTuple q
      · exact .kTuple q1 q2
    case dK ks =>
      subst h
      rcases hi.2.1 with q | ⟨o, q⟩
      · exact .base (.dK q)
      · exact .fDict q
    case dT => cases h
def isTy (d c : D) : Option Bool := match tyN d, c with
  | some t, .ty T => isA t T
  | _, _ => none
def dIsi : List D → Option D
  | [d, .ty T] => (isTy d (.ty T)).map .bl
  | [d, .nd .tup [.ty S, .ty T]] => match isTy d (.ty S), isTy d (.ty T) with
    | some a, some b => some (.bl (a || b))
    | _, _ => none
  | _ => none
def rIsiA (K : PySem.W.Frag) : List V → Hp → VK → Prop := fun xs H Q => rIsi K xs H Q ∨ rIsiT K xs H Q
theorem cr_isi {X : Cx} : CallR X (.builtin "isinstance") (rIsiA X.K) := call_isi.or call_isiT
theorem cn_isi {K : PySem.W.Frag} : CN K (rIsiA K) dIsi := by
  intro F H xs dxs d Q ex z e old new
  unfold dIsi at e
  split at e
  · rename_i d' T
    obtain ⟨b, e1, rfl⟩ := Option.map_eq_some_iff.mp e
    cases z with
    | cons z1 z => cases z with
      | cons z2 z =>
        cases z
        rw [z2.ty_inv]
        unfold isTy at e1
        split at e1
        · rename_i t T' ht hT
          cases hT
          exact .inl ⟨_, _, _, _, b, rfl, .ty T, (Bz.fz z1).tyx ex ht, kit_ty (isA_kit ht e1), old _ (.bl _)⟩
        · cases e1
  · rename_i d' S T
    split at e
    · rename_i a b e1 e2
      cases e
      cases z with
      | cons z1 z => cases z with
        | cons z2 z =>
          cases z
          obtain ⟨tp, cs, rfl, hi, hs⟩ := z2.node
          unfold isTy at e1 e2
          split at e1
          · rename_i t T' ht hT
            cases hT
            split at e2
            · rename_i t2 T2 ht2 hT2
              cases hT2
              rw [ht] at ht2
              cases ht2
              cases hs with
              | cons h1 hs => cases hs with
                | cons h2 hs =>
                  cases hs
                  have k1 := kit_ty (K := K) (isA_kit ht e1)
                  have k2 := kit_ty (K := K) (isA_kit ht e2)
                  refine .inr ⟨_, tp, _, _, [.type S, .type T], a || b, rfl, ex _ _ hi.1, .cons (by rw [h1.ty_inv]; exact .ty S) (.cons (by rw [h2.ty_inv]; exact .ty T) .nil), (Bz.fz z1).tyx ex ht, ?_, old _ (.bl _)⟩
                  refine kitAny_cons k1 (fun ha => ?_) (fun ha => by rw [ha]; rfl)
                  rw [ha, Bool.false_or]
                  exact kitAny_cons k2 (fun hb => by rw [hb]; exact kitAny_nil) (fun hb => hb)
            · cases e2
          · cases e1
    · cases e
  · cases e
section
variable {X : Cx} {w : Wd} {x : Str} {pos : Pos}
/-- a built-in class as a value -/
theorem d_ty {n : String} (hg : Gl X x) (hm : X.mg x = none) (hv : bootBuiltins x = some (.type n)) (hn : x ≠ "__name__" := by decide) (hd : (x == ("__debug__" : Str)) = false := by decide) : PE X (.Name x pos) (cF X.K w (sC (.ty n))) :=
  d_c (pe_bltn (v := .ty n) hg hm hv rfl hn hd) fun _ => .ty n
end

/-! ### numbers and texts -/
def dInt : D → Option D
  | .int i => some (.int i)
  | .bl b => some (.int (if b then 1 else 0))
  | .str s => if s.length ≤ 640 then (PySem.intText? s).map .int else none
  | _ => none
def rInt : List V → Hp → VK → Prop := fun xs H Q => ((∃ i, xs = [.int i] ∧ Q (.int i) H) ∨ ∃ k, xs = [.bl k] ∧ Q (.int (if k then 1 else 0)) H) ∨ ∃ a n, xs = [.str a] ∧ PySem.intText? a = some n ∧ a.length ≤ 640 ∧ Q (.int n) H
theorem cr_int {X : Cx} : CallR X (.type "int") rInt := call_int1.or call_int_str
theorem c1_int {K : PySem.W.Frag} : C1 K rInt dInt := by
  intro F H x dx d Q ex z e old new
  cases dx with
  | int i => simp only [dInt] at e; cases e; rw [z.int_inv]; exact .inl (.inl ⟨_, rfl, old _ (.int _)⟩)
  | bl b => simp only [dInt] at e; cases e; rw [z.bl_inv]; exact .inl (.inr ⟨_, rfl, old _ (.int _)⟩)
  | str s =>
    simp only [dInt] at e
    split at e
    · rename_i c
      obtain ⟨n, e1, rfl⟩ := Option.map_eq_some_iff.mp e
      rw [z.str_inv.1]
      exact .inr ⟨_, n, rfl, e1, c, old _ (.int _)⟩
    · cases e
  | _ => simp [dInt] at e
def dStr : D → Option D
  | .int i => if i.natAbs.log2 < 1920 ∧ (toString i : Str).length ≤ sizeLine then some (.str (toString i)) else none
  | .str s => some (.str s)
  | _ => none
def rStr : List V → Hp → VK → Prop := fun xs H Q => (∃ i, xs = [.int i] ∧ i.natAbs.log2 < 1920 ∧ Q (.str (toString i)) H) ∨ ∃ a, xs = [.str a] ∧ Q (.str a) H
theorem cr_str {X : Cx} : CallR X (.type "str") rStr := call_str_int.or SkE.call_str_str
theorem c1_str {K : PySem.W.Frag} : C1 K rStr dStr := by
  intro F H x dx d Q ex z e old new
  cases dx with
  | int i =>
    simp only [dStr] at e
    split at e
    · rename_i c
      cases e
      rw [z.int_inv]
      exact .inl ⟨_, rfl, c.1, old _ (.str _ c.2)⟩
    · cases e
  | str s => simp only [dStr] at e; cases e; obtain ⟨rfl, hl⟩ := z.str_inv; exact .inr ⟨_, rfl, old _ (.str _ hl)⟩
  | _ => simp [dStr] at e

/-! ### subscripts -/
def dIx : D → D → Option D
  | .nd .lst ds, .int i => atI ds i
  | .nd .tup ds, .int i => atI ds i
  | .nd .scr ds, .int i => atI ds i
  | .nd .ktp ds, .int i => atI ds i
  | .str s, .int i => (atI s.cps.toList i).map fun c => .str ⟨#[c]⟩
  | .nd (.dK ks) ds, k => (lookD (.nd (.dK ks) ds) k).bind id
  | .nd (.dT ks) ds, k => (lookD (.nd (.dT ks) ds) k).bind id
  | _, _ => none
def isDct : D → Bool
  | .nd (.dK _) _ => true
  | .nd (.dT _) _ => true
  | _ => false
section
variable {K : PySem.W.Frag} {F H : Hp}
theorem fzs_atI {vs : List V} {ds : List D} {i : Int} {d : D} (hs : Fzs K F vs ds) (e : atI ds i = some d) : ∃ v, atI vs i = some v ∧ Fz K F v d := by
  unfold atI at e ⊢
  rw [hs.length]
  cases q : ixN ds.length i with
  | none => rw [q] at e; cases e
  | some j =>
    rw [q] at e
    obtain ⟨v, h1, h2⟩ := hs.get (i := j) (by simpa using e)
    exact ⟨v, by simpa using h1, h2⟩
/-- of a sequence or text -/
theorem ix_seqD {v y : V} {d dy r : D} {Q : VK} (ex : Same F H) (z : Bz K F H v d) (zy : Fz K F y dy) (nd : isDct d = false) (e : dIx d dy = some r) (old : ∀ v, Fz K F v r → Q v H) : rIx K v y H Q := by
  cases d with
  | str s =>
    cases dy with
    | int i =>
      simp only [dIx] at e
      obtain ⟨c, e1, rfl⟩ := Option.map_eq_some_iff.mp e
      obtain ⟨rfl, hl⟩ := z.str_inv
      rw [zy.int_inv]
      exact .inr (.inr ⟨s, i, c, rfl, rfl, hl, e1, old _ (.str _ (by show 1 ≤ sizeLine; decide))⟩)
    | _ => simp [dIx] at e
  | nd k ds =>
    obtain ⟨a, vs, rfl, hi, hs⟩ := z.node ex
    cases k with
    | dK _ => simp [isDct] at nd
    | dT _ => simp [isDct] at nd
    | lst =>
      cases dy with
      | int i =>
        simp only [dIx] at e
        obtain ⟨v', e1, z1⟩ := fzs_atI hs e
        rw [zy.int_inv]
        exact .inl ⟨a, vs, i, v', rfl, rfl, SqL.of hi.1, e1, old _ z1⟩
      | _ => simp [dIx] at e
    | scr =>
      cases dy with
      | int i =>
        simp only [dIx] at e
        obtain ⟨v', e1, z1⟩ := fzs_atI hs e
        rw [zy.int_inv]
        exact .inl ⟨a, vs, i, v', rfl, rfl, hi.1, e1, old _ z1⟩
      | _ => simp [dIx] at e
    | tup =>
      cases dy with
      | int i =>
        simp only [dIx] at e
        obtain ⟨v', e1, z1⟩ := fzs_atI hs e
        rw [zy.int_inv]
        exact .inr (.inl ⟨a, vs, i, v', rfl, rfl, SqT.of hi.1, e1, old _ z1⟩)
      | _ => simp [dIx] at e
    | ktp =>
      cases dy with
      | int i =>
        simp only [dIx] at e
        obtain ⟨v', e1, z1⟩ := fzs_atI hs e
        rw [zy.int_inv]
        exact .inr (.inl ⟨a, vs, i, v', rfl, rfl, hi.1, e1, old _ z1⟩)
      | _ => simp [dIx] at e
  | _ => simp [dIx] at e
theorem ix_dctD {v y : V} {d dy r : D} {Q : VK} (ex : Same F H) (z : Bz K F H v d) (zy : Fz K F y dy) (nd : isDct d = true) (e : dIx d dy = some r) (old : ∀ v, Fz K F v r → Q v H) : ∃ a v', v = .ref a ∧ DGet H a y (some v') ∧ Q v' H := by
  have e1 : (lookD d dy).bind id = some r := by
    cases d with
    | nd k ds => cases k <;> first | (simp [isDct] at nd; done) | (simpa [dIx] using e)
    | _ => simp [isDct] at nd
  cases q : lookD d dy with
  | none => rw [q] at e1; cases e1
  | some o =>
    rw [q] at e1
    have e2 : o = some r := by simpa using e1
    subst e2
    obtain ⟨a, rr, rfl, g, rel⟩ := lookD_rel ex z zy q
    cases rr with
    | none => exact rel.elim
    | some v' => exact ⟨a, v', rfl, g, old _ rel⟩
end
theorem pe_or2 {X : Cx} {e : Expr} {t t' : TE} (h : PE X e t) (h' : PE X e t') : PE X e (fun σ H Q => t σ H Q ∨ t' σ H Q) := ⟨fun pins s σ H Q I q => q.elim (h.run pins s σ H Q I) (h'.run pins s σ H Q I)⟩
section
variable {X : Cx} {w : Wd} {a b : Expr} {fa fb : En → R D} {pos : Pos}
theorem d_sub (hu : X.A.units + 1 < cLine) (ha : PE X a (cF X.K w fa)) (hb : PE X b (cF X.K w fb)) (hs : PlainIx b := by exact fun _ _ => rfl) (hn : NoSl b := by exact fun _ _ => rfl) : PE X (.Subscript a b pos) (cF X.K w (sBin dIx fa fb)) :=
  peI (pe_or2 (pe_ix ix_seq ha hb hs) (pe_dget hu ha hb hn)) fun σ H Q h => by
    obtain ⟨F, ρ, fp, s, h⟩ := h
    by_cases q : (match fa ρ with | .ok d _ => isDct d | _ => false) = true
    · refine .inr ⟨F, ρ, fp, s, ?_⟩
      cases e0 : fa ρ with
      | bad => rw [e0] at q; cases q
      | exc c x ρ1 => rw [e0] at q; cases q
      | ok d ρ1 =>
        rw [e0] at q
        unfold sBin at h
        rw [e0] at h
        intro F1 H1 fp1 t1 v s1 z
        refine ⟨F1, ρ1, fp1, s1, (Pst.tr (r := bnd (fb ρ1) _) h t1).bnd fun dy ρ2 F2 H2 fp2 t2 h2 => fun y s2 zy => ?_⟩
        obtain ⟨r, e, n⟩ := h2.lift
        exact ix_dctD s2.ex (.fz (z.mono t2.ex)) zy q e (fin_new s2 n).1
    · refine .inl ⟨F, ρ, fp, s, ?_⟩
      cases e0 : fa ρ with
      | bad => unfold sBin at h; rw [e0] at h; exact h
      | exc c x ρ1 => unfold sBin at h; rw [e0] at h; exact h
      | ok d ρ1 =>
        rw [e0] at q
        unfold sBin at h
        rw [e0] at h
        intro F1 H1 fp1 t1 v s1 z
        refine ⟨F1, ρ1, fp1, s1, (Pst.tr (r := bnd (fb ρ1) _) h t1).bnd fun dy ρ2 F2 H2 fp2 t2 h2 => fun y s2 zy => ?_⟩
        obtain ⟨r, e, n⟩ := h2.lift
        exact ix_seqD s2.ex (.fz (z.mono t2.ex)) zy (by simpa using q) e (fin_new s2 n).1
/-- x[e], x a name that changes -/
def sIxV (i : Nat) (fb : En → R D) : En → R D := fun ρ => bnd (sBor i ρ) fun _ _ => bnd (fb ρ) fun k ρ1 => bnd (sBor i ρ1) fun x ρ2 => lift (dIx x k) ρ2
def bor (i : Nat) (ρ : En) : Option D := match ρ[i]? with
  | some (some (.f d)) => some d
  | some (some (.o d)) => some d
  | some (some (.b d)) => some d
  | _ => none
theorem sBor_eq (i : Nat) (ρ : En) : sBor i ρ = lift (bor i ρ) ρ := by
  unfold sBor bor
  split <;> simp_all [lift]
theorem bor_rel {K : PySem.W.Frag} {w : Wd} {F H : Hp} {fp : List Addr} {σ : St} {ρ : En} {i : Nat} {d : D} (s : StaW K w F H σ ρ fp) (e : bor i ρ = some d) : ∃ v, σ[i]? = some (some v) ∧ Bz K F H v d := by
  unfold bor at e
  split at e
  · rename_i d e1
    cases e
    exact s.sl.getB e1
  · rename_i d e1
    cases e
    exact s.sl.getB e1
  · rename_i d e1
    cases e
    exact s.sl.getB e1
  · cases e
theorem sBor_ok {K : PySem.W.Frag} {w : Wd} {F H : Hp} {fp : List Addr} {σ : St} {ρ : En} {i : Nat} {β : Type} {g : D → En → R β} {N : β → En → Hp → Hp → List Addr → Prop} (s : StaW K w F H σ ρ fp) (h : Pst K w F H fp σ (bnd (sBor i ρ) g) N) : ∃ d v, bor i ρ = some d ∧ σ[i]? = some (some v) ∧ Bz K F H v d ∧ Pst K w F H fp σ (g d ρ) N := by
  rw [sBor_eq] at h
  cases e : bor i ρ with
  | none => rw [e] at h; exact h.elim
  | some d =>
    rw [e] at h
    obtain ⟨v, e1, z⟩ := bor_rel s e
    exact ⟨d, v, rfl, e1, z, h⟩
theorem d_subV (i : Nat) {x : Str} {p : Pos} (hu : X.A.units + 1 < cLine) (hb : PE X b (cF X.K w fb)) (hN : X.N[i]? = some x := by rfl) (hv : Vis X.env.scope x := by first | exact Or.inl rfl | exact Or.inr (Or.inl rfl) | exact Or.inr (Or.inr rfl)) (hd : (x == ("__debug__" : Str)) = false := by decide)
    (hcd : (x == ("__classdict__" : Str)) = false := by decide) (hs : PlainIx b := by exact fun _ _ => rfl) (hn : NoSl b := by exact fun _ _ => rfl) : PE X (.Subscript (.Name x p) b pos) (cF X.K w (sIxV i fb)) :=
  peI (pe_or2 (pe_ix ix_seq (pe_var hN hv hd hcd) hb hs) (pe_dget hu (pe_var hN hv hd hcd) hb hn)) fun σ H Q h => by
    obtain ⟨F, ρ, fp, s, h⟩ := h
    unfold sIxV at h
    obtain ⟨d0, v, _, ev, z0, h⟩ := sBor_ok s h
    have go : ∀ (F1 H1 : Hp) (fp1 : List Addr) (k : D) (ρ1 : En), Tr F H fp F1 H1 fp1 → Pst X.K w F1 H1 fp1 σ (bnd (sBor i ρ1) fun x ρ2 => lift (dIx x k) ρ2) (nF X.K w σ Q) → StaW X.K w F1 H1 σ ρ1 fp1 →
        ∃ d r, bor i ρ1 = some d ∧ Bz X.K F1 H1 v d ∧ dIx d k = some r ∧ ∀ v, Fz X.K F1 v r → Q v H1 := by
      intro F1 H1 fp1 k ρ1 t1 h1 s1
      obtain ⟨d, v', e0, e1, z, h2⟩ := sBor_ok s1 h1
      rw [ev] at e1
      cases e1
      obtain ⟨r, e, n⟩ := h2.lift
      exact ⟨d, r, e0, z, e, (fin_new s1 n).1⟩
    by_cases q : (match fb ρ with | .ok k ρ1 => (match bor i ρ1 with | some d => isDct d | none => false) | _ => false) = true
    · refine .inr ⟨v, ev, F, ρ, fp, s, ?_⟩
      cases e0 : fb ρ with
      | bad => rw [e0] at h; exact h
      | exc c x ρ1 => rw [e0] at h; exact h
      | ok k ρ1 =>
        rw [e0] at h q
        intro F1 H1 fp1 t1 y s1 zy
        obtain ⟨d, r, e1, z, e, n⟩ := go F1 H1 fp1 k ρ1 t1 (Pst.tr (r := bnd (sBor i ρ1) _) h t1) s1
        simp only [e1] at q
        exact ix_dctD s1.ex z zy q e n
    · refine .inl ⟨v, ev, F, ρ, fp, s, ?_⟩
      cases e0 : fb ρ with
      | bad => rw [e0] at h; exact h
      | exc c x ρ1 => rw [e0] at h; exact h
      | ok k ρ1 =>
        rw [e0] at h q
        intro F1 H1 fp1 t1 y s1 zy
        obtain ⟨d, r, e1, z, e, n⟩ := go F1 H1 fp1 k ρ1 t1 (Pst.tr (r := bnd (sBor i ρ1) _) h t1) s1
        simp only [e1] at q
        exact ix_seqD s1.ex z zy (by simpa using q) e n

/-! ### slices -/
def cutD (ds : List D) (lo hi : Option Int) : List D := (ds.drop (HT.sIx ds.length 0 lo)).take (HT.sIx ds.length ds.length hi - HT.sIx ds.length 0 lo)
theorem fzs_cut {K : PySem.W.Frag} {F : Hp} {vs : List V} {ds : List D} (h : Fzs K F vs ds) (lo hi : Option Int) : Fzs K F (cutV vs lo hi) (cutD ds lo hi) := by
  unfold cutV cutD
  rw [h.length]
  exact (h.drop _).take _
def dSlc : D → Option Int → Option Int → Option D
  | .nd .lst ds, lo, hi => some (.nd .lst (cutD ds lo hi))
  | .nd .scr ds, lo, hi => some (.nd .lst (cutD ds lo hi))
  | .nd .tup ds, lo, hi => some (.nd .tup (cutD ds lo hi))
  | .str s, lo, hi => some (.str (cutS s lo hi))
  | _, _, _ => none
def rSl (K : PySem.W.Frag) : V → Option Int → Option Int → Hp → VK → Prop := fun x lo hi H Q => rSlL K x lo hi H Q ∨ (rSlA K x lo hi H Q ∨ rSlS x lo hi H Q)
theorem sl_any : SlR X (rSl X.K) := sl_list.or (sl_tupA.or sl_str)
theorem cut_whole {α : Type} {xs : List α} {lo hi : Option Int} (h : HT.sIx xs.length 0 lo = 0 ∧ HT.sIx xs.length xs.length hi = xs.length) : (xs.drop (HT.sIx xs.length 0 lo)).take (HT.sIx xs.length xs.length hi - HT.sIx xs.length 0 lo) = xs := by
  rw [h.1, h.2]; simp
theorem rslc {K : PySem.W.Frag} {F H : Hp} {v : V} {d r : D} {lo hi : Option Int} {Q : VK} (ex : Same F H) (z : Bz K F H v d) (e : dSlc d lo hi = some r)
    (old : ∀ v, Fz K F v r → Q v H) (new : ∀ p k vs ds ho, r = .nd k ds → H p = none → mkHO k vs = some ho → Fzs K F vs ds → Q (.ref p) (upd H p ho)) : rSl K v lo hi H Q := by
  cases d with
  | str s =>
    simp only [dSlc] at e
    cases e
    obtain ⟨rfl, hl⟩ := z.str_inv
    exact .inr (.inr ⟨s, rfl, hl, old _ (.str _ (Nat.le_trans (cutS_length s lo hi) hl))⟩)
  | nd k ds =>
    obtain ⟨a, vs, rfl, hi', hs⟩ := z.node ex
    have hc := fzs_cut hs lo hi
    have hl : (cutV vs lo hi).length ≤ vs.length := cutV_length vs lo hi
    cases k with
    | lst =>
      simp only [dSlc] at e; cases e
      exact .inl ⟨a, vs, rfl, SqL.of hi'.1, fun p hp => new p .lst _ _ _ rfl hp (if_pos (Nat.le_trans hl hi'.2)) hc⟩
    | scr =>
      simp only [dSlc] at e; cases e
      exact .inl ⟨a, vs, rfl, hi'.1, fun p hp => new p .lst _ _ _ rfl hp (if_pos (Nat.le_trans hl hi'.2)) hc⟩
    | tup =>
      simp only [dSlc] at e; cases e
      refine .inr (.inl ⟨a, vs, rfl, SqT.of hi'.1, fun hw => ?_, fun hw p hp => new p .tup _ _ _ rfl hp (if_pos (Nat.le_trans hl hi'.2)) hc⟩)
      have hw' := hw
      rw [hs.length] at hw'
      have : cutD ds lo hi = ds := cut_whole hw'
      rw [this] at old
      cases z with
      | fz z => exact old _ z
      | cell o h g => cases o
    | _ => simp [dSlc] at e
  | _ => simp [dSlc] at e
def sPt (f : En → R D) : En → R (Option Int) := fun ρ => bnd (f ρ) fun d ρ1 => lift (match d with | .int i => some (some i) | _ => none) ρ1
def sNoPt : En → R (Option Int) := fun ρ => .ok none ρ
def nP (K : PySem.W.Frag) (w : Wd) (σ : St) (Q : Option Int → Hp → Prop) : Option Int → En → Hp → Hp → List Addr → Prop := fun o ρ F H fp => StaW K w F H σ ρ fp → Q o H
def cP (K : PySem.W.Frag) (w : Wd) (f : En → R (Option Int)) : TO := fun σ H Q => ∃ F ρ fp, StaW K w F H σ ρ fp ∧ Pst K w F H fp σ (f ρ) (nP K w σ Q)
theorem poI {e : Option Expr} {t t' : TO} (h : PO X e t) (k : ∀ σ H Q, t' σ H Q → t σ H Q) : PO X e t' := ⟨fun pins s σ H Q I q => h.run pins s σ H Q I (k σ H Q q)⟩
theorem p_some {e : Expr} {f : En → R D} (h : PE X e (cF X.K w f)) : PO X (some e) (cP X.K w (sPt f)) := poI (po_some h) fun σ H Q h => by
  obtain ⟨F, ρ, fp, s, h⟩ := h
  refine ⟨F, ρ, fp, s, h.bnd fun d ρ1 F1 H1 fp1 t1 h1 => fun v s1 z => ?_⟩
  obtain ⟨o, e, n⟩ := h1.lift
  cases d with
  | int i => cases e; exact ⟨i, z.int_inv, n F1 H1 fp1 .refl s1⟩
  | _ => simp at e
theorem p_none : PO X none (cP X.K w sNoPt) := poI po_none fun σ H Q h => by
  obtain ⟨F, ρ, fp, s, h⟩ := h
  exact h F H fp .refl s
def sSlc (fa : En → R D) (fl fu : En → R (Option Int)) : En → R D := fun ρ => bnd (fa ρ) fun x ρ1 => bnd (fl ρ1) fun l ρ2 => bnd (fu ρ2) fun u ρ3 => lift (dSlc x l u) ρ3
theorem d_slc {lo hi : Option Expr} {fl fu : En → R (Option Int)} {p2 : Pos} (ha : PE X a (cF X.K w fa)) (hl : PO X lo (cP X.K w fl)) (hh : PO X hi (cP X.K w fu)) : PE X (.Subscript a (.Slice lo hi none p2) pos) (cF X.K w (sSlc fa fl fu)) :=
  peI (pe_slice sl_any ha hl hh) fun σ H Q h => by
    obtain ⟨F, ρ, fp, s, h⟩ := h
    refine ⟨F, ρ, fp, s, h.bnd fun d ρ1 F1 H1 fp1 t1 h1 => fun v s1 z => ⟨F1, ρ1, fp1, s1, h1.bnd fun l ρ2 F2 H2 fp2 t2 h2 => fun s2 => ⟨F2, ρ2, fp2, s2, h2.bnd fun u ρ3 F3 H3 fp3 t3 h3 => fun s3 => ?_⟩⟩⟩
    obtain ⟨r, e, n⟩ := h3.lift
    exact rslc s3.ex (.fz ((z.mono t2.ex).mono t3.ex)) e (fin_new s3 n).1 (fin_new s3 n).2
/-- of a list: a new list -/
def dSlcL : D → Option Int → Option Int → Option D
  | .nd .lst ds, lo, hi => some (.nd .lst (cutD ds lo hi))
  | .nd .scr ds, lo, hi => some (.nd .lst (cutD ds lo hi))
  | _, _, _ => none
def sSlcL (fa : En → R D) (fl fu : En → R (Option Int)) : En → R D := fun ρ => bnd (fa ρ) fun x ρ1 => bnd (fl ρ1) fun l ρ2 => bnd (fu ρ2) fun u ρ3 => lift (dSlcL x l u) ρ3
theorem d_slcO {lo hi : Option Expr} {fl fu : En → R (Option Int)} {p2 : Pos} (ha : PE X a (cF X.K w fa)) (hl : PO X lo (cP X.K w fl)) (hh : PO X hi (cP X.K w fu)) : PE X (.Subscript a (.Slice lo hi none p2) pos) (cO X.K w (sSlcL fa fl fu)) :=
  peI (pe_slice sl_list ha hl hh) fun σ H Q h => by
    obtain ⟨F, ρ, fp, s, h⟩ := h
    refine ⟨F, ρ, fp, s, h.bnd fun d ρ1 F1 H1 fp1 t1 h1 => fun v s1 z => ⟨F1, ρ1, fp1, s1, h1.bnd fun l ρ2 F2 H2 fp2 t2 h2 => fun s2 => ⟨F2, ρ2, fp2, s2, h2.bnd fun u ρ3 F3 H3 fp3 t3 h3 => fun s3 => ?_⟩⟩⟩
    obtain ⟨r, e, n⟩ := h3.lift
    have z3 := (z.mono t2.ex).mono t3.ex
    cases d with
    | nd k ds =>
      obtain ⟨a, vs, rfl, hi', hs⟩ := (Bz.fz z3).node s3.ex
      have hl : (cutV vs l u).length ≤ vs.length := cutV_length vs l u
      cases k with
      | lst => simp only [dSlcL] at e; cases e; exact ⟨a, vs, rfl, SqL.of hi'.1, fun p hp => fin_newO s3 n p .lst _ _ _ rfl rfl hp (if_pos (Nat.le_trans hl hi'.2)) (fzs_cut hs l u)⟩
      | scr => simp only [dSlcL] at e; cases e; exact ⟨a, vs, rfl, hi'.1, fun p hp => fin_newO s3 n p .lst _ _ _ rfl rfl hp (if_pos (Nat.le_trans hl hi'.2)) (fzs_cut hs l u)⟩
      | _ => simp [dSlcL] at e
    | _ => simp [dSlcL] at e
/-- xs[::-1] -/
def dRev : D → Option D
  | .nd .lst ds => some (.nd .lst ds.reverse)
  | _ => none
theorem d_rev {k : Nat} {p1 p2 p3 : Pos} (ha : PE X a (cF X.K w fa)) : PE X (.Subscript a (.Slice none none (some (.UnaryOp .USub (.Constant (.int 1) k p1) p2)) p3) pos) (cF X.K w (s1 dRev fa)) :=
  peI (pe_revL ha) fun σ H Q h => by
    obtain ⟨F, ρ, fp, s, h⟩ := h
    refine ⟨F, ρ, fp, s, h.bnd fun d ρ1 F1 H1 fp1 t1 h1 => fun v s1 z => ?_⟩
    obtain ⟨r, e, n⟩ := h1.lift
    cases d with
    | nd k ds =>
      cases k with
      | lst =>
        simp only [dRev] at e; cases e
        obtain ⟨a, vs, rfl, hi, hs⟩ := (Bz.fz z).node s1.ex
        exact ⟨a, vs, rfl, SqL.of hi.1, fun p hp => (fin_new s1 n).2 p .lst _ _ _ rfl hp (if_pos (by rw [List.length_reverse]; exact hi.2)) hs.reverse⟩
      | _ => simp [dRev] at e
    | _ => simp [dRev] at e
end
end Y

set_option Elab.async false
set_option linter.all false
set_option maxRecDepth 100000
set_option maxHeartbeats 2000000
/-! Statements by values. -/
namespace Y
open PySem L2

inductive Fl where
  | nx | ct | bk | rt (d : D) | ro (d : D)
def PstS (K : PySem.W.Frag) (w : Wd) (F H : Hp) (fp : List Addr) (r : R Fl) (D : Ends) : Prop :=
  match r with
  | .ok .nx ρ' => ∀ σ' F' H' fp', Tr F H fp F' H' fp' → StaW K w F' H' σ' ρ' fp' → D.nx σ' H'
  | .ok .ct ρ' => ∀ σ' F' H' fp', Tr F H fp F' H' fp' → StaW K w F' H' σ' ρ' fp' → D.ct σ' H'
  | .ok .bk ρ' => ∀ σ' F' H' fp', Tr F H fp F' H' fp' → StaW K w F' H' σ' ρ' fp' → D.bk σ' H'
  | .ok (.rt d) ρ' => ∀ v σ' F' H' fp', Tr F H fp F' H' fp' → StaW K w F' H' σ' ρ' fp' → Fz K F' v d → D.rt v H'
  | .ok (.ro d) ρ' => ∀ v σ' F' H' fp', Tr F H fp F' H' fp' → StaW K w F' H' (some v :: σ') (some (.o d) :: ρ') fp' → D.rt v H'
  | .exc c x ρ' => ∀ σ' F' H' fp' dd, Tr F H fp F' H' fp' → StaW K w F' H' σ' ρ' fp' → XR K F' H' x dd → w.W (w.cls c) dd σ' H'
  | .bad => False
def cS (K : PySem.W.Frag) (w : Wd) (m : En → R Fl) : TS := fun D σ H => ∃ F ρ fp, StaW K w F H σ ρ fp ∧ PstS K w F H fp (m ρ) D
section
variable {K : PySem.W.Frag} {w : Wd} {F F1 H H1 : Hp} {fp fp1 : List Addr} {σ : St} {r : R Fl} {D D' : Ends}
theorem PstS.tr (h : PstS K w F H fp r D) (t : Tr F H fp F1 H1 fp1) : PstS K w F1 H1 fp1 r D := by
  cases r with
  | ok a ρ =>
    cases a with
    | nx => exact fun σ' F' H' fp' u => h σ' F' H' fp' (t.trans u)
    | ct => exact fun σ' F' H' fp' u => h σ' F' H' fp' (t.trans u)
    | bk => exact fun σ' F' H' fp' u => h σ' F' H' fp' (t.trans u)
    | rt d => exact fun v σ' F' H' fp' u => h v σ' F' H' fp' (t.trans u)
    | ro d => exact fun v σ' F' H' fp' u => h v σ' F' H' fp' (t.trans u)
  | exc c x ρ => exact fun σ' F' H' fp' dd u => h σ' F' H' fp' dd (t.trans u)
  | bad => exact h
/-- an expression first -/
theorem PstS.bnd {α : Type} {e : R α} {g : α → En → R Fl} {N : α → En → Hp → Hp → List Addr → Prop} (h : PstS K w F H fp (bnd e g) D) (k : ∀ a ρ1 F1 H1 fp1, Tr F H fp F1 H1 fp1 → PstS K w F1 H1 fp1 (g a ρ1) D → N a ρ1 F1 H1 fp1) : Pst K w F H fp σ e N := by
  cases e with
  | ok a ρ => exact fun F' H' fp' u => k a ρ F' H' fp' u (PstS.tr (r := g a ρ) h u)
  | exc c x ρ => exact fun F' H' fp' dd => h σ F' H' fp' dd
  | bad => exact h
/-- a statement first -/
def sq (r : R Fl) (g : En → R Fl) : R Fl := match r with
  | .ok .nx ρ => g ρ
  | r => r
theorem PstS.seq {g : En → R Fl} (h : PstS K w F H fp (sq r g) D) : PstS K w F H fp r { D with nx := cS K w g D } := by
  cases r with
  | ok a ρ =>
    cases a with
    | nx => exact fun σ' F' H' fp' u s => ⟨F', ρ, fp', s, PstS.tr (r := g ρ) h u⟩
    | ct => exact h
    | bk => exact h
    | rt d => exact h
    | ro d => exact h
  | exc c x ρ => exact h
  | bad => exact h
theorem StaW.of (s : StaW K w F H σ ρ fp) : Same F H := s.ex
end
section
variable {X : Cx} {w : Wd}
theorem psI {st : Stmt} {t t' : TS} (h : PS X st t) (k : ∀ D σ H, t' D σ H → t D σ H) : PS X st t' := ⟨fun pins s σ H D I q => h.run pins s σ H D I (k D σ H q)⟩
theorem pssI {st : List Stmt} {t t' : TS} (h : PSs X st t) (k : ∀ D σ H, t' D σ H → t D σ H) : PSs X st t' := ⟨fun pins s σ H D I q => h.run pins s σ H D I (k D σ H q)⟩
def sNx : En → R Fl := fun ρ => .ok .nx ρ
def sSeq (a b : En → R Fl) : En → R Fl := fun ρ => sq (a ρ) b
def sDrop (f : En → R D) : En → R Fl := fun ρ => bnd (f ρ) fun _ ρ1 => .ok .nx ρ1
def sRet (f : En → R D) : En → R Fl := fun ρ => bnd (f ρ) fun d ρ1 => .ok (.rt d) ρ1
def sRetO (f : En → R D) : En → R Fl := fun ρ => bnd (f ρ) fun d ρ1 => .ok (.ro d) ρ1
def sIfS (t : En → R Bool) (a b : En → R Fl) : En → R Fl := fun ρ => bnd (t ρ) fun c ρ1 => if c = true then a ρ1 else b ρ1
def sSet (i : Nat) (f : En → R D) : En → R Fl := fun ρ => bnd (f ρ) fun d ρ1 => .ok .nx (ρ1.set i (some (.f d)))
def sSetO (i : Nat) (f : En → R D) : En → R Fl := fun ρ => bnd (f ρ) fun d ρ1 => .ok .nx (ρ1.set i (some (.o d)))
/-- names forgotten -/
def forget : List Nat → En → En
  | [], ρ => ρ
  | i :: is, ρ => forget is (ρ.set i none)
variable {st : Stmt} {rest : List Stmt} {m n : En → R Fl} {e : Expr} {f : En → R D} {pos : Pos}
theorem ss_nil : PSs X [] (cS X.K w sNx) := pssI pss_nil fun D σ H h => by
  obtain ⟨F, ρ, fp, s, h⟩ := h
  exact h σ F H fp .refl s
theorem ss_cons (h1 : PS X st (cS X.K w m)) (h2 : PSs X rest (cS X.K w n)) : PSs X (st :: rest) (cS X.K w (sSeq m n)) := pssI (pss_cons h1 h2) fun D σ H h => by
  obtain ⟨F, ρ, fp, s, h⟩ := h
  exact ⟨F, ρ, fp, s, PstS.seq h⟩
theorem ss_one (h1 : PS X st (cS X.K w m)) : PSs X [st] (cS X.K w m) := pss_one h1
theorem s_expr (he : PE X e (cF X.K w f)) (hs : swapsWith e none pos.line X.env = pure false := by rfl) : PS X (.Expr e pos) (cS X.K w (sDrop f)) := psI (ps_expr he hs) fun D σ H h => by
  obtain ⟨F, ρ, fp, s, h⟩ := h
  exact ⟨F, ρ, fp, s, h.bnd fun d ρ1 F1 H1 fp1 t1 h1 => fun v s1 z => h1 σ F1 H1 fp1 .refl s1⟩
theorem s_doc {x j pos pos'} : PS X (.Expr (.Constant (.str x) j pos) pos') (cS X.K w sNx) := psI ps_doc fun D σ H h => by
  obtain ⟨F, ρ, fp, s, h⟩ := h
  exact h σ F H fp .refl s
theorem s_pass : PS X (.Pass pos) (cS X.K w sNx) := psI ps_pass fun D σ H h => by
  obtain ⟨F, ρ, fp, s, h⟩ := h
  exact h σ F H fp .refl s
theorem s_cont : PS X (.Continue pos) (cS X.K w fun ρ => .ok .ct ρ) := psI ps_continue fun D σ H h => by
  obtain ⟨F, ρ, fp, s, h⟩ := h
  exact h σ F H fp .refl s
theorem s_ret (he : PE X e (cF X.K w f)) : PS X (.Return (some e) pos) (cS X.K w (sRet f)) := psI (ps_ret he) fun D σ H h => by
  obtain ⟨F, ρ, fp, s, h⟩ := h
  exact ⟨F, ρ, fp, s, h.bnd fun d ρ1 F1 H1 fp1 t1 h1 => fun v s1 z => h1 v σ F1 H1 fp1 .refl s1 z⟩
theorem s_retO (he : PE X e (cO X.K w f)) : PS X (.Return (some e) pos) (cS X.K w (sRetO f)) := psI (ps_ret he) fun D σ H h => by
  obtain ⟨F, ρ, fp, s, h⟩ := h
  exact ⟨F, ρ, fp, s, h.bnd fun d ρ1 F1 H1 fp1 t1 h1 => fun v s1 => h1 v σ F1 H1 fp1 .refl s1⟩
theorem s_retN : PS X (.Return none pos) (cS X.K w fun ρ => .ok (.rt .non) ρ) := psI ps_retN fun D σ H h => by
  obtain ⟨F, ρ, fp, s, h⟩ := h
  exact h .non σ F H fp .refl s .non
theorem s_if {c : Expr} {a b : List Stmt} {t : En → R Bool} (hc : PT X c (cT X.K w t)) (ha : PSs X a (cS X.K w m)) (hb : PSs X b (cS X.K w n)) : PS X (.If c a b pos) (cS X.K w (sIfS t m n)) := psI (ps_if hc ha hb) fun D σ H h => by
  obtain ⟨F, ρ, fp, s, h⟩ := h
  refine ⟨F, ρ, fp, s, h.bnd fun c ρ1 F1 H1 fp1 t1 h1 => fun s1 => ?_⟩
  cases c with
  | true => exact iteT ⟨F1, ρ1, fp1, s1, (by simpa using h1)⟩
  | false => exact iteF ⟨F1, ρ1, fp1, s1, (by simpa using h1)⟩
/-- .. where neither branch is taken further than it should: code that never comes -/
theorem ss_never {sts : List Stmt} : PSs X sts (cS X.K w fun _ => .bad) := pssI pss_never fun D σ H h => by
  obtain ⟨F, ρ, fp, s, h⟩ := h
  exact h
theorem Sta.store {K : PySem.W.Frag} {β : V} {lk : Bool} {F H : Hp} {σ : St} {ρ : En} {fp : List Addr} {v : V} {d : D} (s : Sta K β lk F H σ ρ fp) (z : Fz K F v d) (i : Nat) : ∃ fp', Sta K β lk F H (σ.set i (some v)) (ρ.set i (some (.f d))) fp' ∧ Tr F H fp F H fp' := by
  obtain ⟨fp', sl, sub⟩ := s.sl.store z (i := i)
  exact ⟨fp', ⟨s.ex, sl, s.nd.sublist sub, fun a ha => s.own a (sub.subset ha), s.lock⟩, Tr.refl.sub fun a ha => sub.subset ha⟩
theorem Sta.storeO {K : PySem.W.Frag} {β : V} {lk : Bool} {F H : Hp} {σ : St} {ρ : En} {fp : List Addr} {v : V} {d : D} (s : Sta K β lk F H (some v :: σ) (some (.o d) :: ρ) fp) (i : Nat) : ∃ fp', Sta K β lk F H (σ.set i (some v)) (ρ.set i (some (.o d))) fp' ∧ Tr F H fp F H fp' := by
  cases hs : s.sl with
  | @ow a k vs ds σ ρ fp hw hz sl =>
    obtain ⟨fp', sl', h1, h2⟩ := sl.storeO hw hz (i := i)
    exact ⟨fp', ⟨s.ex, sl', h2 s.nd, fun b hb => s.own b (h1 b hb), s.lock⟩, Tr.refl.sub h1⟩
theorem Sta.tail {K : PySem.W.Frag} {β : V} {lk : Bool} {F H : Hp} {σ : St} {ρ : En} {fp : List Addr} (s : Sta K β lk F H σ ρ fp) (i : Nat) (x : Option V) : ∃ fp', Sta K β lk F H (σ.set i x) (ρ.set i none) fp' ∧ Tr F H fp F H fp' := by
  obtain ⟨fp', sl, sub⟩ := s.sl.drop (i := i) x
  exact ⟨fp', ⟨s.ex, sl, s.nd.sublist sub, fun a ha => s.own a (sub.subset ha), s.lock⟩, Tr.refl.sub fun a ha => sub.subset ha⟩
theorem s_set (i : Nat) {x : Str} {pos' : Pos} (he : PE X e (cF X.K w f)) (hN : X.N.Nodup) (hi : X.N[i]? = some x := by rfl) (hx : Loc X.env.scope x := by first | exact Or.inl rfl | exact Or.inr rfl) (hs : swapsWith e (some (.Name x pos')) pos.line X.env = pure false := by rfl)
    (hf : X.fn x = true ∨ X.env.scope.names.lookup x = some .local := by first | exact .inl rfl | exact .inr rfl) : PS X (.Assign [.Name x pos'] e pos) (cS X.K w (sSet i f)) := psI (ps_set hN hi hx he hs hf) fun D σ H h => by
  obtain ⟨F, ρ, fp, s, h⟩ := h
  refine ⟨F, ρ, fp, s, h.bnd fun d ρ1 F1 H1 fp1 t1 h1 => fun v s1 z => ?_⟩
  obtain ⟨fp2, s2, t2⟩ := s1.store z i
  exact h1 _ F1 H1 fp2 t2 s2
theorem s_setO (i : Nat) {x : Str} {pos' : Pos} (he : PE X e (cO X.K w f)) (hN : X.N.Nodup) (hi : X.N[i]? = some x := by rfl) (hx : Loc X.env.scope x := by first | exact Or.inl rfl | exact Or.inr rfl) (hs : swapsWith e (some (.Name x pos')) pos.line X.env = pure false := by rfl)
    (hf : X.fn x = true ∨ X.env.scope.names.lookup x = some .local := by first | exact .inl rfl | exact .inr rfl) : PS X (.Assign [.Name x pos'] e pos) (cS X.K w (sSetO i f)) := psI (ps_set hN hi hx he hs hf) fun D σ H h => by
  obtain ⟨F, ρ, fp, s, h⟩ := h
  refine ⟨F, ρ, fp, s, h.bnd fun d ρ1 F1 H1 fp1 t1 h1 => fun v s1 => ?_⟩
  obtain ⟨fp2, s2, t2⟩ := s1.storeO i
  exact h1 _ F1 H1 fp2 t2 s2

/-! ### targets -/
/-- but for the slots is the same -/
def Only (is : List Nat) (σ σ' : St) : Prop := ∀ vs : List Nat, (∀ i ∈ is, i ∈ vs) → wipe σ' vs = wipe σ vs
theorem only_set (σ : St) (i : Nat) (x : Option V) : Only [i] σ (σ.set i x) := by
  intro vs h
  have hi : i ∈ vs := h i (by simp)
  clear h
  induction vs with
  | nil => cases hi
  | cons v vs ih =>
    unfold wipe
    rcases List.mem_cons.mp hi with rfl | hi
    · by_cases hm : i ∈ vs
      · rw [ih hm]
      · clear ih hi
        have : ∀ vs : List Nat, (wipe (σ.set i x) vs).set i none = (wipe σ vs).set i none := by
          intro vs
          induction vs with
          | nil => unfold wipe; rw [List.set_set]
          | cons v vs ih =>
            unfold wipe
            by_cases e : v = i
            · rw [e, ih]
            · rw [List.set_comm _ _ e, ih, List.set_comm _ _ e]
        exact this vs
    · rw [ih hi]
theorem Only.refl (is : List Nat) (σ : St) : Only is σ σ := fun _ _ => rfl
theorem Only.trans {is js : List Nat} {σ σ1 σ2 : St} (a : Only is σ σ1) (b : Only js σ1 σ2) : Only (is ++ js) σ σ2 := fun vs h =>
  (b vs fun i hi => h i (List.mem_append_right _ hi)).trans (a vs fun i hi => h i (List.mem_append_left _ hi))
def cG (K : PySem.W.Frag) (w : Wd) (is : List Nat) (h : D → En → Option En) : TG := fun v σ H Q => ∃ F ρ fp d ρ', StaW K w F H σ ρ fp ∧ Fz K F v d ∧ h d ρ = some ρ' ∧ ∀ σ' fp', StaW K w F H σ' ρ' fp' → Tr F H fp F H fp' → Only is σ σ' → Q σ' H
def cGs (K : PySem.W.Frag) (w : Wd) (is : List Nat) (h : List D → En → Option En) : TGs := fun vs σ H Q => ∃ F ρ fp ds ρ', StaW K w F H σ ρ fp ∧ Fzs K F vs ds ∧ h ds ρ = some ρ' ∧ ∀ σ' fp', StaW K w F H σ' ρ' fp' → Tr F H fp F H fp' → Only is σ σ' → Q σ' H
theorem pgI {tg : Expr} {t t' : TG} (h : PG X tg t) (k : ∀ v σ H Q, t' v σ H Q → t v σ H Q) : PG X tg t' := ⟨fun pins s σ H v u Q I r q => h.run pins s σ H v u Q I r (k v σ H Q q)⟩
theorem pgsI {tg : List Expr} {t t' : TGs} (h : PGs X tg t) (k : ∀ v σ H Q, t' v σ H Q → t v σ H Q) : PGs X tg t' := ⟨fun pins s σ H v u Q I r q => h.run pins s σ H v u Q I r (k v σ H Q q)⟩
def hName (i : Nat) : D → En → Option En := fun d ρ => some (ρ.set i (some (.f d)))
def hNil : List D → En → Option En := fun ds ρ => match ds with | [] => some ρ | _ => none
def hCons (g : D → En → Option En) (gs : List D → En → Option En) : List D → En → Option En := fun ds ρ => match ds with
  | d :: ds => (g d ρ).bind (gs ds)
  | _ => none
def hTup (n : Nat) (gs : List D → En → Option En) : D → En → Option En := fun d ρ => match d with
  | .nd .tup ds => if ds.length = n then gs ds ρ else none
  | .nd .ktp ds => if ds.length = n then gs ds ρ else none
  | _ => none
theorem g_name (i : Nat) {x : Str} (hN : X.N.Nodup) (hi : X.N[i]? = some x := by rfl) (hx : Loc X.env.scope x := by first | exact Or.inl rfl | exact Or.inr rfl) (hf : X.fn x = true ∨ X.env.scope.names.lookup x = some .local := by first | exact .inl rfl | exact .inr rfl) : PG X (.Name x pos) (cG X.K w [i] (hName i)) :=
  pgI (pg_name hN hi hx hf) fun v σ H Q h => by
    obtain ⟨F, ρ, fp, d, ρ', s, z, e, k⟩ := h
    cases e
    obtain ⟨fp2, s2, t2⟩ := s.store z i
    exact k _ fp2 s2 t2 (only_set _ _ _)
theorem gs_nil : PGs X [] (cGs X.K w [] hNil) := pgsI pgs_nil fun v σ H Q h => by
  obtain ⟨F, ρ, fp, ds, ρ', s, z, e, k⟩ := h
  cases z with
  | nil => simp only [hNil] at e; cases e; exact ⟨rfl, k _ fp s .refl (.refl _ _)⟩
  | cons _ _ => simp [hNil] at e
theorem gs_cons {es : List Expr} {is js : List Nat} {g : D → En → Option En} {gs : List D → En → Option En} (h1 : PG X e (cG X.K w is g)) (h2 : PGs X es (cGs X.K w js gs)) (hs : (assignEach (e :: es) X.env).map (·.2) = assign e X.env :: (assignEach es X.env).map (·.2) := by rfl) : PGs X (e :: es) (cGs X.K w (is ++ js) (hCons g gs)) :=
  pgsI (pgs_cons h1 h2 hs) fun v σ H Q h => by
    obtain ⟨F, ρ, fp, ds, ρ', s, z, e, k⟩ := h
    cases z with
    | nil => simp [hCons] at e
    | cons z zs =>
      simp only [hCons] at e
      obtain ⟨ρ1, e1, e2⟩ := Option.bind_eq_some_iff.mp e
      exact ⟨_, _, rfl, F, ρ, fp, _, ρ1, s, z, e1, fun σ1 fp1 s1 t1 o1 => ⟨F, ρ1, fp1, _, ρ', s1, zs, e2, fun σ2 fp2 s2 t2 o2 => k σ2 fp2 s2 (t1.trans t2) (o1.trans o2)⟩⟩
theorem g_tup {es : List Expr} {k n : Nat} {is : List Nat} {gs : List D → En → Option En} (hc : X.calm = true) (h : PGs X es (cGs X.K w is gs)) (hn : (assignEach es X.env).length = n := by rfl) (hst : (assignEach es X.env).findIdx? (·.1) = none := by rfl) : PG X (.Tuple es k pos) (cG X.K w is (hTup n gs)) :=
  pgI (pg_tup hc h hn hst) fun v σ H Q h => by
    obtain ⟨F, ρ, fp, d, ρ', s, z, e, kk⟩ := h
    cases d with
    | nd kd ds =>
      obtain ⟨a, vs, rfl, hi, hs⟩ := z.node
      have hl := hs.length
      cases kd with
      | tup =>
        simp only [hTup] at e
        split at e
        · exact ⟨a, vs, rfl, SqT.of (s.ex _ _ hi.1), by omega, F, ρ, fp, ds, ρ', s, hs, e, kk⟩
        · cases e
      | ktp =>
        simp only [hTup] at e
        split at e
        · exact ⟨a, vs, rfl, sqT_mono s.ex hi.1, by omega, F, ρ, fp, ds, ρ', s, hs, e, kk⟩
        · cases e
      | _ => simp [hTup] at e
    | _ => simp [hTup] at e
/-- target = value -/
def sAsg (g : D → En → Option En) (f : En → R D) : En → R Fl := fun ρ => bnd (f ρ) fun d ρ1 => match g d ρ1 with | some ρ2 => .ok .nx ρ2 | none => .bad
theorem s_asg {tg : Expr} {is : List Nat} {g : D → En → Option En} (he : PE X e (cF X.K w f)) (hg : PG X tg (cG X.K w is g)) (hs : swapsWithSole [tg] e pos.line X.env = pure false := by rfl) (hw : swappedStores [tg] e X.env = pure none := by rfl)
    (h1 : (assignEach [tg] X.env).map (·.2) = [assign tg X.env] := by rfl) : PS X (.Assign [tg] e pos) (cS X.K w (sAsg g f)) := psI (ps_asg he hg hs hw h1) fun D σ H h => by
  obtain ⟨F, ρ, fp, s, h⟩ := h
  refine ⟨F, ρ, fp, s, h.bnd fun d ρ1 F1 H1 fp1 t1 h1 => fun v s1 z => ?_⟩
  cases q : g d ρ1 with
  | none => rw [q] at h1; exact h1.elim
  | some ρ2 =>
    rw [q] at h1
    exact ⟨F1, ρ1, fp1, d, ρ2, s1, z, q, fun σ2 fp2 s2 t2 _ => h1 σ2 F1 H1 fp2 t2 s2⟩
/-- a, b = x, y -/
def sPar (i j : Nat) (f : En → R (List D)) : En → R Fl := fun ρ => bnd (f ρ) fun ds ρ1 => match ds with | [d, e] => .ok .nx ((ρ1.set i (some (.f d))).set j (some (.f e))) | _ => .bad
theorem s_par (i j : Nat) {x y : Str} {a b : Expr} {fs : En → R (List D)} {px py pt : Pos} {kt k2 pt2} (hc : X.calm = true) (hN : X.N.Nodup) (ha : PA X [a, b] (cA X.K w fs)) (hi : X.N[i]? = some x := by rfl) (hj : X.N[j]? = some y := by rfl) (hij : i ≠ j := by decide)
    (hx : X.env.scope.names.lookup x = some .local := by rfl) (hy : X.env.scope.names.lookup y = some .local := by rfl)
    (hw : swappedStores [.Tuple [.Name x px, .Name y py] kt pt] (.Tuple [a, b] k2 pt2) X.env = pure (some [x, y]) := by rfl)
    (hs : swapsWithSole [.Tuple [.Name x px, .Name y py] kt pt] (.Tuple [a, b] k2 pt2) pos.line X.env = pure false := by rfl) :
    PS X (.Assign [.Tuple [.Name x px, .Name y py] kt pt] (.Tuple [a, b] k2 pt2) pos) (cS X.K w (sPar i j fs)) := psI (ps_par hc hN hi hj hij hx hy ha hw hs) fun D σ H h => by
  obtain ⟨F, ρ, fp, s, h⟩ := h
  refine ⟨F, ρ, fp, s, h.bnd fun ds ρ1 F1 H1 fp1 t1 h1 => fun vs s1 z => ?_⟩
  cases z with
  | nil => exact h1.elim
  | cons z1 z => cases z with
    | nil => exact h1.elim
    | cons z2 z => cases z with
      | nil =>
        obtain ⟨fp2, s2, t2⟩ := s1.store z1 i
        obtain ⟨fp3, s3, t3⟩ := s2.store z2 j
        exact ⟨_, _, rfl, h1 _ F1 H1 fp3 (t2.trans t3) s3⟩
      | cons _ _ => exact h1.elim
/-- name op= e, frozen values -/
def sAug (i : Nat) (g : D → D → Option D) (f : En → R D) : En → R Fl := fun ρ => bnd (sVar i ρ) fun x ρ1 => bnd (f ρ1) fun y ρ2 => bnd (lift (g x y) ρ2) fun d ρ3 => .ok .nx (ρ3.set i (some (.f d)))
theorem sVar_eq {i : Nat} {ρ : En} : sVar i ρ = lift (match ρ[i]? with | some (some (.f d)) => some d | _ => none) ρ := by
  unfold sVar
  split <;> simp_all [lift]
theorem s_aug (i : Nat) {x : Str} {op : Operator} {r : R2} {g : D → D → Option D} {pos' : Pos} (ho : PIp X op r) (hr : RB X.K r g) (he : PE X e (cF X.K w f)) (hN : X.N.Nodup) (hi : X.N[i]? = some x := by rfl) (hx : Loc X.env.scope x := by first | exact Or.inl rfl | exact Or.inr rfl)
    (hf : X.fn x = true ∨ X.env.scope.names.lookup x = some .local := by first | exact .inl rfl | exact .inr rfl) : PS X (.AugAssign (.Name x pos') op e pos) (cS X.K w (sAug i g f)) := psI (ps_aug hN hi hx he ho hf) fun D σ H h => by
  obtain ⟨F, ρ, fp, s, h⟩ := h
  unfold sAug at h
  rw [sVar_eq] at h
  cases e0 : ρ[i]? with
  | none => rw [e0] at h; exact h.elim
  | some o =>
    rw [e0] at h
    cases o with
    | none => exact h.elim
    | some x =>
      cases x with
      | o d => exact h.elim
      | b d => exact h.elim
      | f dx =>
        obtain ⟨v, ev, zx⟩ := s.sl.getF e0
        refine ⟨v, ev, F, ρ, fp, s, PstS.bnd (e := f ρ) h fun dy ρ2 F2 H2 fp2 t2 h2 => fun y s2 zy => ?_⟩
        have h3 : ∃ d, g dx dy = some d ∧ PstS X.K w F2 H2 fp2 (.ok .nx (ρ2.set i (some (.f d)))) D := by
          cases q : g dx dy with
          | none => rw [q] at h2; exact h2.elim
          | some d => rw [q] at h2; exact ⟨d, rfl, h2⟩
        obtain ⟨d, q, h3⟩ := h3
        refine hr F2 H2 v y dx dy d _ s2.ex (zx.mono t2.ex) (.fz zy) q (fun v' z' => ?_) (fun p k vs ds ho' e' hp em hs => ?_)
        · obtain ⟨fp3, s3, t3⟩ := s2.store z' i
          exact h3 _ F2 H2 fp3 t3 s3
        · subst e'
          obtain ⟨s3, t3, z3⟩ := s2.new hp em hs
          obtain ⟨fp4, s4, t4⟩ := s3.store z3 i
          exact h3 _ _ _ fp4 (t3.trans t4) s4
end
end Y

set_option Elab.async false
set_option linter.all false
set_option maxRecDepth 100000
set_option maxHeartbeats 2000000
/-! What changes: owned names; methods, stores. -/
namespace Y
open PySem L2
def ownD (i : Nat) (ρ : En) : Option D := match ρ[i]? with
  | some (some (.o d)) => some d
  | some (some (.b d)) => some d
  | _ => none
def chg (i : Nat) (d : D) (ρ : En) : En := match ρ[i]? with
  | some (some (.b _)) => ρ.set i (some (.b d))
  | _ => ρ.set i (some (.o d))
theorem Sta.change {K : PySem.W.Frag} {β : V} {lk : Bool} {F H : Hp} {σ : St} {ρ : En} {fp : List Addr} {i : Nat} {d : D} (s : Sta K β lk F H σ ρ fp) (e : ownD i ρ = some d) :
    ∃ a k vs ds, d = .nd k ds ∧ σ[i]? = some (some (.ref a)) ∧ ItemW H a k vs ∧ Fzs K F vs ds ∧ a ∈ fp ∧ ∀ k' vs' ds' ho, mkHO k' vs' = some ho → owK k' = true → Fzs K F vs' ds' →
      Sta K β lk F (upd H a ho) σ (chg i (.nd k' ds') ρ) fp ∧ Tr F H fp F (upd H a ho) fp := by
  have main : ∀ mk : D → S, (mk = S.o ∨ mk = S.b) → ρ[i]? = some (some (mk d)) → (∀ d', chg i d' ρ = ρ.set i (some (mk d'))) → ∃ a k vs ds, d = .nd k ds ∧ σ[i]? = some (some (.ref a)) ∧ ItemW H a k vs ∧ Fzs K F vs ds ∧ a ∈ fp ∧ ∀ k' vs' ds' ho, mkHO k' vs' = some ho → owK k' = true → Fzs K F vs' ds' →
      Sta K β lk F (upd H a ho) σ (chg i (.nd k' ds') ρ) fp ∧ Tr F H fp F (upd H a ho) fp := by
    intro mk hm e1 hc
    obtain ⟨a, k, vs, ds, fp1, fp2, h1, h2, h3, h4, h5, h6, h7, h8, h9⟩ := s.sl.own mk hm e1
    subst h2
    obtain ⟨m1, m2, m3⟩ := mid s.nd
    have n2 : F a = none := s.own a (by simp)
    refine ⟨a, k, vs, ds, h1, h3, h4, h5, by simp, fun k' vs' ds' ho em ow hz => ⟨⟨same_updR s.ex n2, ?_, s.nd, s.own, s.lock⟩, ⟨Same.refl _, fun b o q n => ?_, fun b q => q.elim .inl fun ⟨q1, q2, _⟩ => absurd q1 q2⟩⟩⟩
    · rw [hc]
      exact h8 F _ k' vs' ds' (Same.refl _) (fun b hb o q => by rw [upd_ne (fun (z : b = a) => m1 (z ▸ hb))]; exact q) (mkW em ow upd_same) hz
    · rw [upd_ne (fun (z : b = a) => n (by rw [z]; simp))]; exact q
  unfold ownD at e
  split at e
  · rename_i d' e1
    cases e
    exact main S.o (.inl rfl) e1 fun d' => by unfold chg; rw [e1]
  · rename_i d' e1
    cases e
    exact main S.b (.inr rfl) e1 fun d' => by unfold chg; rw [e1]
  · cases e
def isLst : D → Bool
  | .nd .lst _ => true
  | _ => false
def ownL (i : Nat) (ρ : En) : Option D := (ownD i ρ).bind fun d => if isLst d = true then some d else none
/-- a method that changes its receiver -/
def MtO (K : PySem.W.Frag) (r : V → List V → Hp → VK → Prop) (g : D → List D → Option (D × D)) : Prop := ∀ F H a k vs ds args das d' res Q, Same F H → ItemW H a k vs → Fzs K F vs ds → Fzs K F args das → g (.nd k ds) das = some (d', res) →
  (∀ k' vs' ds' ho v, d' = .nd k' ds' → owK k' = true → mkHO k' vs' = some ho → Fzs K F vs' ds' → Fz K F v res → Q v (upd H a ho)) → r (.ref a) args H Q
def sMeth (i : Nat) (g : D → List D → Option (D × D)) (f : En → R (List D)) : En → R D := fun ρ => bnd (lift (ownL i ρ) ρ) fun _ _ => bnd (f ρ) fun ds ρ1 => match ownD i ρ1 with
  | some d0 => match g d0 ds with
    | some (d', res) => .ok res (chg i d' ρ1)
    | none => .bad
  | none => .bad
theorem own_bnd {K : PySem.W.Frag} {w : Wd} {F H : Hp} {fp : List Addr} {σ : St} {ρ : En} {i : Nat} {β : Type} {g : D → En → R β} {N : β → En → Hp → Hp → List Addr → Prop} (h : Pst K w F H fp σ (bnd (lift (ownL i ρ) ρ) g) N) : ∃ ds, ownD i ρ = some (.nd .lst ds) ∧ Pst K w F H fp σ (g (.nd .lst ds) ρ) N := by
  unfold ownL at h
  cases q : ownD i ρ with
  | none => rw [q] at h; exact h.elim
  | some d =>
    rw [q] at h
    cases d with
    | nd k ds =>
      cases k with
      | lst => exact ⟨ds, rfl, h⟩
      | _ => exact h.elim
    | _ => exact h.elim
section
variable {X : Cx} {w : Wd} {e : Expr} {es : List Expr} {fs : En → R (List D)} {x name : Str} {p apos cpos pos : Pos} {id : String} {r : V → List V → Hp → VK → Prop} {g : D → List D → Option (D × D)}
theorem meth_end {K : PySem.W.Frag} {F H : Hp} {fp : List Addr} {σ : St} {ρ1 : En} {a : Addr} {i : Nat} {vs : List V} {ds : List D} {Q : VK} (hr : MtO K r g) (s1 : StaW K w F H σ ρ1 fp) (z : Fzs K F vs ds) (ev : σ[i]? = some (some (.ref a)))
    (h1 : Pst K w F H fp σ (match ownD i ρ1 with | some d0 => (match g d0 ds with | some (d', res) => R.ok res (chg i d' ρ1) | none => R.bad) | none => R.bad) (nF K w σ Q)) : r (.ref a) vs H Q := by
  cases q : ownD i ρ1 with
  | none => rw [q] at h1; exact h1.elim
  | some d0 =>
    rw [q] at h1
    obtain ⟨a2, k2, vs2, ds2, rfl, ev2, hw2, hz2, _, cont⟩ := s1.change q
    rw [ev] at ev2
    cases ev2
    cases q2 : g (.nd k2 ds2) ds with
    | none => simp only [q2] at h1; exact h1.elim
    | some pr =>
      obtain ⟨d', res⟩ := pr
      simp only [q2] at h1
      refine hr F H a k2 vs2 ds2 vs ds d' res Q s1.ex hw2 hz2 z q2 fun k' vs' ds' ho v ed ow em hz zr => ?_
      subst ed
      obtain ⟨s2, t2⟩ := cont k' vs' ds' ho em ow hz
      exact h1 _ _ _ t2 v s2 zr
theorem d_meth (i : Nat) (slot : Slot "list" name id) (hty : typeOf (.builtin id) = pure (.type "method_descriptor")) (hm : MtR X id r) (hr : MtO X.K r g) (ha : PA X (e :: es) (cA X.K w fs))
    (hN : X.N[i]? = some x := by rfl) (hv : Vis X.env.scope x := by first | exact Or.inl rfl | exact Or.inr (Or.inl rfl) | exact Or.inr (Or.inr rfl)) (hd : (x == ("__debug__" : Str)) = false := by decide) (hcd : (x == ("__classdict__" : Str)) = false := by decide)
    (hbase : attributeBase (.Name x p) name X.env (eval (.Name x p) X.env) = eval (.Name x p) X.env := by rfl)
    (hfew : ((backTo cpos (starEach (e :: es) X.env)).all (fun x => !x.1) && (backToKw cpos (keywordEach [] X.env)).all (fun x => x.1.isSome)
      && decide ((e :: es).length + ([] : List Keyword).length + (if ([] : List Keyword).isEmpty then 0 else 1) < 30)) = true := by rfl)
    (hline : (apos.endLine == cpos.line) = true := by rfl) (hs : starEach (e :: es) X.env = (false, eval e X.env) :: starEach es X.env := by rfl) (hplain : (backTo cpos (starEach es X.env)).any (·.1) = false := by rfl) :
    PE X (.Call (.Attribute (.Name x p) name apos) (e :: es) [] cpos) (cF X.K w (sMeth i g fs)) :=
  peI (pe_bm PySem.F.plainAttrs_list slot hty hm (pe_var hN hv hd hcd) ha hbase hfew hline hs hplain) fun σ H Q h => by
    obtain ⟨F, ρ, fp, s, h⟩ := h
    obtain ⟨ds, e0, h⟩ := own_bnd h
    obtain ⟨a, k, vs, ds', ee, ev, hw, hz, _, _⟩ := s.change e0
    cases ee
    exact ⟨.ref a, ev, .inl ⟨rfl, vs, SqL.of hw.1⟩, F, ρ, fp, s, h.bnd fun das ρ1 F1 H1 fp1 t1 h1 => fun avs s1 z => meth_end hr s1 z ev h1⟩
/-- without arguments -/
theorem d_meth0 (i : Nat) (slot : Slot "list" name id) (hty : typeOf (.builtin id) = pure (.type "method_descriptor")) (hm : MtR X id r) (hr : MtO X.K r g)
    (hN : X.N[i]? = some x := by rfl) (hv : Vis X.env.scope x := by first | exact Or.inl rfl | exact Or.inr (Or.inl rfl) | exact Or.inr (Or.inr rfl)) (hd : (x == ("__debug__" : Str)) = false := by decide) (hcd : (x == ("__classdict__" : Str)) = false := by decide)
    (hbase : attributeBase (.Name x p) name X.env (eval (.Name x p) X.env) = eval (.Name x p) X.env := by rfl) (hline : (apos.endLine == cpos.line) = true := by rfl) :
    PE X (.Call (.Attribute (.Name x p) name apos) [] [] cpos) (cF X.K w (sMeth i g sNil)) :=
  peI (pe_bm0 PySem.F.plainAttrs_list slot hty hm (pe_var hN hv hd hcd) hbase hline) fun σ H Q h => by
    obtain ⟨F, ρ, fp, s, h⟩ := h
    obtain ⟨ds, e0, h⟩ := own_bnd h
    obtain ⟨a, k, vs, ds', ee, ev, hw, hz, _, _⟩ := s.change e0
    cases ee
    exact ⟨.ref a, ev, .inl ⟨rfl, vs, SqL.of hw.1⟩, meth_end hr s .nil ev h⟩
/-! ### append, insert, pop -/
def gAppend : D → List D → Option (D × D)
  | .nd .lst ds, [d] => if ds.length < sizeLine then some (.nd .lst (ds ++ [d]), .non) else none
  | _, _ => none
theorem mo_append {K : PySem.W.Frag} : MtO K rAppend gAppend := by
  intro F H a k vs ds args das d' res Q ex hw hz za e q
  cases k with
  | lst =>
    cases za with
    | nil => simp [gAppend] at e
    | cons z1 z => cases z with
      | nil =>
        simp only [gAppend] at e
        split at e
        · rename_i c
          cases e
          have c' : vs.length < sizeLine := by rw [hz.length]; exact c
          exact ⟨a, vs, _, rfl, rfl, hw.1, c', q .lst _ _ _ _ rfl rfl (if_pos (by rw [List.length_append]; exact c')) (hz.append (.cons z1 .nil)) .non⟩
        · cases e
      | cons _ _ => simp [gAppend] at e
  | _ => first | exact hw.elim | simp [gAppend] at e
def gInsert : D → List D → Option (D × D)
  | .nd .lst ds, [.int i, d] => if ds.length < sizeLine ∧ 0 ≤ i ∧ i < 2 ^ 63 then some (.nd .lst (ds.take i.toNat ++ [d] ++ ds.drop i.toNat), .non) else none
  | _, _ => none
def rInsert : V → List V → Hp → VK → Prop := fun x vs H Q => ∃ (l : Addr) (xs : List V) (i : Int) (y : V), x = .ref l ∧ vs = [.int i, y] ∧ H l = some (.lst xs) ∧ xs.length < sizeLine ∧ 0 ≤ i ∧ i < 2 ^ 63 ∧ Q .non (upd H l (.lst (xs.take i.toNat ++ [y] ++ xs.drop i.toNat)))
theorem mo_insert {K : PySem.W.Frag} : MtO K rInsert gInsert := by
  intro F H a k vs ds args das d' res Q ex hw hz za e q
  cases k with
  | lst =>
    cases za with
    | nil => simp [gInsert] at e
    | @cons v1 d1 _ _ z1 z => cases z with
      | nil => cases d1 <;> simp [gInsert] at e
      | cons z2 z => cases z with
        | nil =>
          cases d1 with
          | int i =>
            simp only [gInsert] at e
            split at e
            · rename_i c
              cases e
              have c' : vs.length < sizeLine := by rw [hz.length]; exact c.1
              have hl : ∀ y : V, (vs.take i.toNat ++ [y] ++ vs.drop i.toNat : List V).length ≤ sizeLine := fun y => by
                rw [List.length_append, List.length_append, List.length_take, List.length_drop, List.length_singleton]; omega
              exact ⟨a, vs, i, _, rfl, by rw [z1.int_inv], hw.1, c', c.2.1, c.2.2, q .lst _ _ _ _ rfl rfl (if_pos (hl _)) (((hz.take _).append (.cons z2 .nil)).append (hz.drop _)) .non⟩
            · cases e
          | _ => simp [gInsert] at e
        | cons _ _ => cases d1 <;> simp [gInsert] at e
  | _ => first | exact hw.elim | simp [gInsert] at e
def gPop : D → List D → Option (D × D)
  | .nd .lst ds, [] => match ds[ds.length - 1]? with
    | some d => some (.nd .lst ds.dropLast, d)
    | none => none
  | _, _ => none
theorem Fzs.dropLast {K : PySem.W.Frag} {F : Hp} {vs : List V} {ds : List D} (h : Fzs K F vs ds) : Fzs K F vs.dropLast ds.dropLast := by
  rw [List.dropLast_eq_take, List.dropLast_eq_take, h.length]
  exact h.take _
theorem mo_pop {K : PySem.W.Frag} : MtO K rPop gPop := by
  intro F H a k vs ds args das d' res Q ex hw hz za e q
  cases k with
  | lst =>
    cases za with
    | nil =>
      simp only [gPop] at e
      cases q0 : ds[ds.length - 1]? with
      | none => rw [q0] at e; cases e
      | some d =>
        rw [q0] at e
        cases e
        obtain ⟨v, h1, h2⟩ := hz.get q0
        exact ⟨a, vs, v, rfl, rfl, hw.1, by rw [hz.length]; exact h1, q .lst _ _ _ _ rfl rfl (if_pos (by rw [List.length_dropLast]; exact Nat.le_trans (Nat.sub_le _ _) hw.2)) hz.dropLast h2⟩
    | cons _ _ => simp [gPop] at e
  | _ => first | exact hw.elim | simp [gPop] at e
def gPopAt : D → List D → Option (D × D)
  | .nd .lst ds, [.int i] => if -(2 ^ 63) ≤ i ∧ i < 2 ^ 63 then (match seqIndex? i ds.length with
    | some k => (match ds[k]? with
      | some d => some (.nd .lst (ds.eraseIdx k), d)
      | none => none)
    | none => none) else none
  | _, _ => none
theorem mo_popAt {K : PySem.W.Frag} : MtO K rPopAt gPopAt := by
  intro F H a k vs ds args das d' res Q ex hw hz za e q
  cases k with
  | lst =>
    cases za with
    | nil => simp [gPopAt] at e
    | @cons v1 d1 _ _ z1 z => cases z with
      | cons _ _ => cases d1 <;> simp [gPopAt] at e
      | nil =>
        cases d1 with
        | int i =>
          simp only [gPopAt] at e
          split at e
          · rename_i c
            cases q0 : seqIndex? i ds.length with
            | none => rw [q0] at e; cases e
            | some j =>
              rw [q0] at e
              cases q1 : ds[j]? with
              | none => simp only [q1] at e; cases e
              | some d =>
                simp only [q1] at e
                cases e
                obtain ⟨v, h1, h2⟩ := hz.get q1
                exact ⟨a, vs, i, j, v, rfl, by rw [z1.int_inv], hw.1, c.1, c.2, by rw [hz.length]; exact q0, h1, q .lst _ _ _ _ rfl rfl (if_pos (Nat.le_trans (len_erase _ _) hw.2)) (hz.eraseIdx j) h2⟩
          · cases e
        | _ => simp [gPopAt] at e
  | _ => first | exact hw.elim | simp [gPopAt] at e

/-! ### xs += ys, x[i] = e -/
def sAugL (i : Nat) (f : En → R D) : En → R Fl := fun ρ => bnd (lift (ownL i ρ) ρ) fun _ _ => bnd (f ρ) fun y ρ1 => match ownD i ρ1 with
  | some d0 => match dCat d0 y with
    | some d' => .ok .nx (chg i d' ρ1)
    | none => .bad
  | none => .bad
variable {f : En → R D}
theorem own_bndS {K : PySem.W.Frag} {F H : Hp} {fp : List Addr} {ρ : En} {i : Nat} {g : D → En → R Fl} {D : Ends} (h : PstS K w F H fp (bnd (lift (ownL i ρ) ρ) g) D) : ∃ ds, ownD i ρ = some (.nd .lst ds) ∧ PstS K w F H fp (g (.nd .lst ds) ρ) D := by
  unfold ownL at h
  cases q : ownD i ρ with
  | none => rw [q] at h; exact h.elim
  | some d =>
    rw [q] at h
    cases d with
    | nd k ds =>
      cases k with
      | lst => exact ⟨ds, rfl, h⟩
      | _ => exact h.elim
    | _ => exact h.elim
theorem set_same {σ : St} {i : Nat} {v : V} (h : σ[i]? = some (some v)) : σ.set i (some v) = σ := by
  obtain ⟨hi, e⟩ := List.getElem?_eq_some_iff.mp h
  rw [← e]
  exact List.set_getElem_self hi
theorem s_augL (i : Nat) {pos' : Pos} (he : PE X e (cF X.K w f)) (hN : X.N.Nodup) (hi : X.N[i]? = some x := by rfl) (hx : Loc X.env.scope x := by first | exact Or.inl rfl | exact Or.inr rfl)
    (hf : X.fn x = true ∨ X.env.scope.names.lookup x = some .local := by first | exact .inl rfl | exact .inr rfl) : PS X (.AugAssign (.Name x pos') .Add e pos) (cS X.K w (sAugL i f)) := psI (ps_aug hN hi hx he iop_ext hf) fun D σ H h => by
  obtain ⟨F, ρ, fp, s, h⟩ := h
  obtain ⟨ds0, e0, h⟩ := own_bndS h
  obtain ⟨a, k, vs, ds', ee, ev, hw, hz, _, _⟩ := s.change e0
  cases ee
  refine ⟨.ref a, ev, F, ρ, fp, s, PstS.bnd (e := f ρ) h fun dy ρ1 F1 H1 fp1 t1 h1 => fun y s1 zy => ?_⟩
  cases q : ownD i ρ1 with
  | none => simp only [q] at h1; exact h1.elim
  | some d0 =>
    simp only [q] at h1
    obtain ⟨a2, k2, vs2, ds2, ee2, ev2, hw2, hz2, _, cont⟩ := s1.change q
    subst ee2
    rw [ev] at ev2
    cases ev2
    cases q2 : dCat (.nd k2 ds2) dy with
    | none => simp only [q2] at h1; exact h1.elim
    | some d' =>
      simp only [q2] at h1
      cases k2 with
      | lst =>
        cases dy with
        | nd k3 ds3 =>
          cases k3 with
          | lst =>
            simp only [dCat] at q2
            split at q2
            · rename_i c
              cases q2
              obtain ⟨b, ws, rfl, hb, gs⟩ := zy.node
              have c' : vs2.length + ws.length ≤ sizeLine := by rw [hz2.length, gs.length]; exact c
              obtain ⟨s2, t2⟩ := cont .lst (vs2 ++ ws) (ds2 ++ ds3) _ (if_pos (by rw [List.length_append]; exact c')) rfl (hz2.append gs)
              refine ⟨a, b, vs2, ws, rfl, rfl, hw2.1, s1.ex _ _ hb.1, c', ?_⟩
              show D.nx (σ.set i (some (.ref a))) _
              rw [set_same ev]
              exact h1 σ _ _ _ t2 s2
            · cases q2
          | _ => simp [dCat] at q2
        | _ => simp [dCat] at q2
      | _ => simp [dCat] at q2

/-! ### x[k] = e -/
def gSetL : D → D → D → Option D
  | .nd .lst ds, .int k, d => match ixN ds.length k with
    | some j => some (.nd .lst (ds.set j d))
    | none => none
  | _, _, _ => none
def gSetD : D → D → D → Option D
  | .nd (.dK ks) ds, k, d => match keyD k with
    | some q => if ks.length < sizeLine then some (.nd (.dK (putKs ks q)) (putDs ks ds q d)) else none
    | none => none
  | .nd (.dT ks) ds, .nd .tup xs, d => match keysD xs with
    | some q => if ks.length < sizeLine then some (.nd (.dT (putKs ks q)) (putDs ks ds q d)) else none
    | none => none
  | _, _, _ => none
/-- by g -/
def sPut (i : Nat) (g : D → D → D → Option D) (fk fe : En → R D) : En → R Fl := fun ρ => bnd (fe ρ) fun d ρ1 => bnd (lift (ownD i ρ1) ρ1) fun _ _ => bnd (fk ρ1) fun k ρ2 => match ownD i ρ2 with
  | some d0 => match g d0 k d with
    | some d' => .ok .nx (chg i d' ρ2)
    | none => .bad
  | none => .bad
variable {fk : En → R D} {k : Expr}
theorem keyL_of {K : PySem.W.Frag} {F : Hp} {v : V} {d : D} {q : Key} (z : Fz K F v d) (e : keyD d = some q) : keyL q = true := by
  unfold keyD at e
  split at e
  · cases e; rfl
  · cases e; simpa [keyL] using z.str_inv.2
  · cases e
theorem keysL_of {K : PySem.W.Frag} {F : Hp} : ∀ {vs : List V} {ds : List D} {ks : List Key}, Fzs K F vs ds → keysD ds = some ks → keysL ks = true
  | _, _, ks, .nil, e => by simp [keysD] at e; subst e; rfl
  | _, _, ks, .cons (d := d) (ds := ds) h hs, e => by
    unfold keysD at e
    split at e
    · rename_i k ks' e1 e2
      cases e
      have h1 := keyL_of h e1
      have h2 := keysL_of hs e2
      simp only [keysL] at h2
      simp [keysL, h1, h2]
    · cases e
theorem keysD_len : ∀ {ds : List D} {ks : List Key}, keysD ds = some ks → ds.length = ks.length
  | [], ks, e => by simp [keysD] at e; subst e; rfl
  | d :: ds, ks, e => by
    unfold keysD at e
    split at e
    · rename_i k ks' e1 e2
      cases e
      rw [List.length_cons, List.length_cons, keysD_len e2]
    · cases e
theorem putKs_L {ks : List Key} {q : Key} (h : keysL ks = true) (hq : keyL q = true) : keysL (putKs ks q) = true := by
  unfold putKs
  split
  · exact h
  · simp only [keysL] at h
    simp [keysL, h, hq]
theorem putKss_L {ks : List (List Key)} {q : List Key} (h : keyssL ks = true) (hq : keyLL q = true) : keyssL (putKs ks q) = true := by
  unfold putKs
  split
  · exact h
  · simp only [keyssL] at h
    simp [keyssL, h, hq]
theorem put_mid {K : PySem.W.Frag} {F H : Hp} {fp : List Addr} {ρ1 : En} {d : D} {g : D → D → D → Option D} {D : Ends} {i : Nat} (h : PstS K w F H fp (bnd (lift (ownD i ρ1) ρ1) fun _ _ => bnd (fk ρ1) fun k ρ2 => match ownD i ρ2 with
  | some d0 => (match g d0 k d with
    | some d' => .ok .nx (chg i d' ρ2)
    | none => .bad)
  | none => .bad) D) : ∃ d0, ownD i ρ1 = some d0 ∧ PstS K w F H fp (bnd (fk ρ1) fun k ρ2 => match ownD i ρ2 with
  | some d0 => (match g d0 k d with
    | some d' => .ok .nx (chg i d' ρ2)
    | none => .bad)
  | none => .bad) D := by
  cases q : ownD i ρ1 with
  | none => rw [q] at h; exact h.elim
  | some d0 => rw [q] at h; exact ⟨d0, rfl, h⟩
theorem put_end {K : PySem.W.Frag} {F H : Hp} {fp : List Addr} {σ : St} {ρ2 : En} {d dk : D} {g : D → D → D → Option D} {D : Ends} {i : Nat} {a : Addr} (s : StaW K w F H σ ρ2 fp) (ev : σ[i]? = some (some (.ref a))) (h : PstS K w F H fp (match ownD i ρ2 with
  | some d0 => (match g d0 dk d with
    | some d' => R.ok Fl.nx (chg i d' ρ2)
    | none => .bad)
  | none => .bad) D) : ∃ k vs ds d', ItemW H a k vs ∧ Fzs K F vs ds ∧ g (.nd k ds) dk d = some d' ∧ ∀ k' vs' ds' ho, d' = .nd k' ds' → mkHO k' vs' = some ho → owK k' = true → Fzs K F vs' ds' → D.nx σ (upd H a ho) := by
  cases q : ownD i ρ2 with
  | none => simp only [q] at h; exact h.elim
  | some d0 =>
    simp only [q] at h
    obtain ⟨a2, k2, vs2, ds2, ee2, ev2, hw2, hz2, _, cont⟩ := s.change q
    subst ee2
    rw [ev] at ev2
    cases ev2
    cases q2 : g (.nd k2 ds2) dk d with
    | none => simp only [q2] at h; exact h.elim
    | some d' =>
      simp only [q2] at h
      refine ⟨k2, vs2, ds2, d', hw2, hz2, q2, fun k' vs' ds' ho ed em ow hz => ?_⟩
      subst ed
      obtain ⟨s2, t2⟩ := cont k' vs' ds' ho em ow hz
      exact h σ _ _ _ t2 s2
theorem s_setL (i : Nat) {pos' : Pos} (he : PE X e (cF X.K w f)) (hk : PE X k (cF X.K w fk)) (hN : X.N[i]? = some x := by rfl) (hv : Vis X.env.scope x := by first | exact Or.inl rfl | exact Or.inr (Or.inl rfl) | exact Or.inr (Or.inr rfl)) (hd : (x == ("__debug__" : Str)) = false := by decide) (hcd : (x == ("__classdict__" : Str)) = false := by decide)
    (ha : ∀ v, assign (.Subscript (.Name x p) k pos') X.env v = (do
      let ov ← holding [v] (eval (.Name x p) X.env)
      let iv ← holding [v, ov] (eval k X.env)
      standAt pos'
      holding [v, ov, iv] (setItem ov iv v)
      release [v, ov, iv] []) := by intro _; rfl)
    (hs : swapsWithSole [.Subscript (.Name x p) k pos'] e pos.line X.env = pure false := by rfl) (hw : swappedStores [.Subscript (.Name x p) k pos'] e X.env = pure none := by rfl)
    (h1 : (assignEach [.Subscript (.Name x p) k pos'] X.env).map (·.2) = [assign (.Subscript (.Name x p) k pos') X.env] := by rfl) :
    PS X (.Assign [.Subscript (.Name x p) k pos'] e pos) (cS X.K w (sPut i gSetL fk f)) := psI (ps_asg he (pg_sub (pe_var hN hv hd hcd) hk set_list ha) hs hw h1) fun D σ H h => by
  obtain ⟨F, ρ, fp, s, h⟩ := h
  refine ⟨F, ρ, fp, s, PstS.bnd (e := f ρ) h fun d ρ1 F1 H1 fp1 t1 h1 => fun v s1 zv => ?_⟩
  obtain ⟨d0, e0, h2⟩ := put_mid h1
  obtain ⟨a, _, _, _, _, ev, _, _, _, _⟩ := s1.change e0
  refine ⟨.ref a, ev, F1, ρ1, fp1, s1, PstS.bnd (e := fk ρ1) h2 fun dk ρ2 F2 H2 fp2 t2 h3 => fun y s2 zy => ?_⟩
  obtain ⟨kd, vs, ds, d', hw, hz, ge, cont⟩ := put_end s2 ev h3
  cases kd with
  | lst =>
    cases dk with
    | int n =>
      simp only [gSetL] at ge
      split at ge
      · rename_i j ej
        cases ge
        rw [zy.int_inv]
        refine ⟨a, vs, n, j, rfl, rfl, hw.1, by rw [hz.length]; exact ej, ?_⟩
        exact cont .lst _ _ _ rfl (if_pos (by rw [List.length_set]; exact hw.2)) rfl (hz.set (zv.mono t2.ex) j)
      · cases ge
    | _ => simp [gSetL] at ge
  | _ => simp [gSetL] at ge
theorem s_setD (i : Nat) {pos' : Pos} (hu : X.A.units + 1 < cLine) (he : PE X e (cF X.K w f)) (hk : PE X k (cF X.K w fk)) (hN : X.N[i]? = some x := by rfl) (hv : Vis X.env.scope x := by first | exact Or.inl rfl | exact Or.inr (Or.inl rfl) | exact Or.inr (Or.inr rfl)) (hd : (x == ("__debug__" : Str)) = false := by decide) (hcd : (x == ("__classdict__" : Str)) = false := by decide)
    (hs : swapsWith e (some (.Subscript (.Name x p) k pos')) pos.line X.env = pure false := by rfl) :
    PS X (.Assign [.Subscript (.Name x p) k pos'] e pos) (cS X.K w (sPut i gSetD fk f)) := psI (ps_dput hu (pe_var hN hv hd hcd) hk he hs) fun D σ H h => by
  obtain ⟨F, ρ, fp, s, h⟩ := h
  refine ⟨F, ρ, fp, s, PstS.bnd (e := f ρ) h fun d ρ1 F1 H1 fp1 t1 h1 => fun v s1 zv => ?_⟩
  obtain ⟨d0, e0, h2⟩ := put_mid h1
  obtain ⟨a, _, _, _, _, ev, _, _, _, _⟩ := s1.change e0
  refine ⟨.ref a, ev, F1, ρ1, fp1, s1, PstS.bnd (e := fk ρ1) h2 fun dk ρ2 F2 H2 fp2 t2 h3 => fun y s2 zy => ?_⟩
  obtain ⟨kd, vs, ds, d', hw, hz, ge, cont⟩ := put_end s2 ev h3
  have zv2 := zv.mono t2.ex
  cases kd with
  | dK ks =>
    simp only [gSetD] at ge
    cases q : keyD dk with
    | none => rw [q] at ge; cases ge
    | some kq =>
      simp only [q] at ge
      split at ge
      · rename_i c
        cases ge
        have hl := hw.1
        have c' : (ks.zip vs).length < sizeLine := by rw [List.length_zip, ← hl, Nat.min_self]; exact c
        refine ⟨a, _, rfl, .inl ⟨_, kq, hw.2.1, keyD_rel zy q, c', rfl⟩, ?_⟩
        rw [putK_zip hl]
        refine cont (.dK _) (putVs ks vs kq v) _ _ rfl (if_pos ⟨putKs_len hl, Nat.le_trans putVs_le (by omega), putKs_L hw.2.2.2 (keyL_of zy q)⟩) rfl (fzs_putVs zv2 hz)
      · cases ge
  | dT ks =>
    cases dk with
    | nd k4 xs =>
      cases k4 with
      | tup =>
        simp only [gSetD] at ge
        cases q : keysD xs with
        | none => rw [q] at ge; cases ge
        | some kq =>
          simp only [q] at ge
          split at ge
          · rename_i c
            cases ge
            have hl := hw.1
            have c' : (ks.zip vs).length < sizeLine := by rw [List.length_zip, ← hl, Nat.min_self]; exact c
            obtain ⟨b, ws, rfl, hb, gs⟩ := zy.node
            refine ⟨a, _, rfl, .inr ⟨_, kq, b, hw.2.1, rfl, by rw [← keysD_rel gs q]; exact s2.ex _ _ hb.1, c', rfl⟩, ?_⟩
            rw [putK_zip hl]
            refine cont (.dT _) (putVs ks vs kq v) _ _ rfl (if_pos ⟨putKs_len hl, Nat.le_trans putVs_le (by omega), putKss_L hw.2.2.2 (by unfold keyLL; rw [keysL_of gs q, Bool.true_and, decide_eq_true_eq, ← keysD_len q, ← gs.length]; exact hb.2)⟩) rfl (fzs_putVs zv2 hz)
          · cases ge
      | _ => simp [gSetD] at ge
    | _ => simp [gSetD] at ge
  | _ => simp [gSetD] at ge
end
end Y

set_option Elab.async false
set_option linter.all false
set_option maxRecDepth 100000
set_option maxHeartbeats 2000000
/-! Loops, comprehensions. -/
namespace Y
open PySem L2

/-! ### what is walked -/
structure Itz (K : PySem.W.Frag) (F : Hp) (J : It) (ds : List D) : Prop where
  go : ∀ i H, Same F H → i < ds.length → J.go i H
  stop : ∀ H, Same F H → J.stop ds.length H
  yld : ∀ i H x H', Same F H → i < ds.length → J.yld i H x H' → ∃ d, ds[i]? = some d ∧ ((H' = H ∧ Fz K F x d) ∨ ∃ T vs es, x = .ref T ∧ H T = none ∧ H' = upd H T (.tup vs) ∧ Fzs K F vs es ∧ vs.length ≤ sizeLine ∧ d = .nd .tup es)
def nI (K : PySem.W.Frag) (w : Wd) (σ : St) (R : It → Hp → Prop) : List D → En → Hp → Hp → List Addr → Prop := fun ds ρ F H fp => ∀ J, StaW K w F H σ ρ fp → Itz K F J ds → R J H
def cI (K : PySem.W.Frag) (w : Wd) (f : En → R (List D)) : TI := fun σ H Q => ∃ F ρ fp, StaW K w F H σ ρ fp ∧ Pst K w F H fp σ (f ρ) (nI K w σ Q)
section
variable {X : Cx} {w : Wd} {tg e a b : Expr} {fa fb : En → R D} {fs : En → R (List D)}
theorem piI {wi wi' : TI} (h : PI X tg e wi) (k : ∀ σ H R, wi' σ H R → wi σ H R) : PI X tg e wi' := ⟨fun pins s σ H R I q => h.run pins s σ H R I (k σ H R q)⟩
theorem pi_or2 {wi wi' : TI} (h : PI X tg e wi) (h' : PI X tg e wi') : PI X tg e (fun σ H R => wi σ H R ∨ wi' σ H R) := ⟨fun pins s σ H R I q => q.elim (h.run pins s σ H R I) (h'.run pins s σ H R I)⟩
theorem itz_lst {K : PySem.W.Frag} {F : Hp} {a : Addr} {vs : List V} {ds : List D} (h : SqL K F a vs) (hs : Fzs K F vs ds) : Itz K F (Itl K a) ds := by
  have hl := hs.length
  refine ⟨fun i H ex hi => ?_, fun H ex => ⟨vs, sqL_mono ex h, by omega⟩, fun i H x H' ex hi y => ?_⟩
  · obtain ⟨v, e, _⟩ := hs.get (i := i) (List.getElem?_eq_getElem hi)
    exact ⟨vs, v, sqL_mono ex h, e⟩
  · obtain ⟨rfl, y⟩ := y
    obtain ⟨d, e, z⟩ := hs.getV (y vs (sqL_mono ex h))
    exact ⟨d, e, .inl ⟨rfl, z⟩⟩
theorem itz_tup {K : PySem.W.Frag} {F : Hp} {a : Addr} {vs : List V} {ds : List D} (h : SqT K F a vs) (hs : Fzs K F vs ds) : Itz K F (Itt K a) ds := by
  have hl := hs.length
  refine ⟨fun i H ex hi => ?_, fun H ex => ⟨vs, sqT_mono ex h, by omega⟩, fun i H x H' ex hi y => ?_⟩
  · obtain ⟨v, e, _⟩ := hs.get (i := i) (List.getElem?_eq_getElem hi)
    exact ⟨vs, v, sqT_mono ex h, e⟩
  · obtain ⟨rfl, y⟩ := y
    obtain ⟨d, e, z⟩ := hs.getV (y vs (sqT_mono ex h))
    exact ⟨d, e, .inl ⟨rfl, z⟩⟩
def sgD (c : Nat) : D := .str ⟨#[c]⟩
theorem itz_str {K : PySem.W.Frag} {F : Hp} {s : Str} : Itz K F (Its s) (s.cps.toList.map sgD) := by
  refine ⟨fun i H ex hi => ?_, fun H ex => ?_, fun i H x H' ex hi y => ?_⟩
  · show i < s.cps.size
    simpa using hi
  · show s.cps.size ≤ _
    simp
  · obtain ⟨rfl, c, e, rfl⟩ := y
    refine ⟨sgD c, ?_, .inl ⟨rfl, .str _ (by show 1 ≤ sizeLine; decide)⟩⟩
    rw [List.getElem?_map, Array.getElem?_toList, e]
    rfl
def itD : D → Option (List D)
  | .nd .lst ds => some ds
  | .nd .tup ds => some ds
  | .nd .scr ds => some ds
  | .nd .ktp ds => some ds
  | .str s => some (s.cps.toList.map sgD)
  | _ => none
def sIt (f : En → R D) : En → R (List D) := fun ρ => bnd (f ρ) fun d ρ1 => lift (itD d) ρ1
theorem i_seq (ha : PE X e (cF X.K w fa)) : PI X tg e (cI X.K w (sIt fa)) := piI (pi_or2 (pi_list ha) (pi_or2 (pi_tup ha) (pi_str ha))) fun σ H Q h => by
  obtain ⟨F, ρ, fp, s, h⟩ := h
  cases e0 : fa ρ with
  | bad => unfold sIt at h; rw [e0] at h; exact h.elim
  | exc c x ρ1 =>
    unfold sIt at h
    rw [e0] at h
    exact .inl ⟨F, ρ, fp, s, by rw [e0]; exact h⟩
  | ok d ρ1 =>
    unfold sIt at h
    rw [e0] at h
    have k : ∀ {N : D → En → Hp → Hp → List Addr → Prop}, (∀ F' H' fp', Tr F H fp F' H' fp' → Pst X.K w F' H' fp' σ (lift (itD d) ρ1) (nI X.K w σ Q) → N d ρ1 F' H' fp') → Pst X.K w F H fp σ (fa ρ) N := fun {N} q => by
      rw [e0]
      exact fun F' H' fp' t => q F' H' fp' t (Pst.tr (r := lift (itD d) ρ1) h t)
    cases d with
    | str z =>
      refine .inr (.inr ⟨F, ρ, fp, s, k fun F' H' fp' t h1 => fun v s1 zv => ?_⟩)
      obtain ⟨ds, e1, n⟩ := h1.lift
      simp only [itD] at e1
      cases e1
      exact ⟨z, zv.str_inv.1, n F' H' fp' .refl _ s1 itz_str⟩
    | nd kd ds =>
      cases kd with
      | lst =>
        refine .inl ⟨F, ρ, fp, s, k fun F' H' fp' t h1 => fun v s1 zv => ?_⟩
        obtain ⟨ds', e1, n⟩ := h1.lift
        simp only [itD] at e1
        cases e1
        obtain ⟨a, vs, rfl, hi, hs⟩ := zv.node
        exact ⟨a, rfl, ⟨vs, SqL.of (s1.ex _ _ hi.1)⟩, n F' H' fp' .refl _ s1 (itz_lst (SqL.of hi.1) hs)⟩
      | scr =>
        refine .inl ⟨F, ρ, fp, s, k fun F' H' fp' t h1 => fun v s1 zv => ?_⟩
        obtain ⟨ds', e1, n⟩ := h1.lift
        simp only [itD] at e1
        cases e1
        obtain ⟨a, vs, rfl, hi, hs⟩ := zv.node
        exact ⟨a, rfl, ⟨vs, sqL_mono s1.ex hi.1⟩, n F' H' fp' .refl _ s1 (itz_lst hi.1 hs)⟩
      | tup =>
        refine .inr (.inl ⟨F, ρ, fp, s, k fun F' H' fp' t h1 => fun v s1 zv => ?_⟩)
        obtain ⟨ds', e1, n⟩ := h1.lift
        simp only [itD] at e1
        cases e1
        obtain ⟨a, vs, rfl, hi, hs⟩ := zv.node
        exact ⟨a, rfl, ⟨vs, SqT.of (s1.ex _ _ hi.1)⟩, n F' H' fp' .refl _ s1 (itz_tup (SqT.of hi.1) hs)⟩
      | ktp =>
        refine .inr (.inl ⟨F, ρ, fp, s, k fun F' H' fp' t h1 => fun v s1 zv => ?_⟩)
        obtain ⟨ds', e1, n⟩ := h1.lift
        simp only [itD] at e1
        cases e1
        obtain ⟨a, vs, rfl, hi, hs⟩ := zv.node
        exact ⟨a, rfl, ⟨vs, sqT_mono s1.ex hi.1⟩, n F' H' fp' .refl _ s1 (itz_tup hi.1 hs)⟩
      | dK _ => exact h.elim
      | dT _ => exact h.elim
    | _ => exact h.elim
/-! ranges -/
def rgD (lo hi : Int) : List D := (List.range (hi - lo).toNat).map fun i => D.int (lo + (i : Nat))
theorem itz_rg {K : PySem.W.Frag} {F : Hp} {lo : Int} {n : Nat} : Itz K F (Itr lo n) ((List.range n).map fun i => D.int (lo + (i : Nat))) := by
  refine ⟨fun i H ex hi => ?_, fun H ex => ?_, fun i H x H' ex hi y => ?_⟩
  · show i < n
    simpa using hi
  · show n ≤ _
    simp
  · obtain ⟨rfl, rfl⟩ := y
    refine ⟨.int (lo + i), ?_, .inl ⟨rfl, .int _⟩⟩
    have hi' : i < n := by simpa using hi
    simp [List.getElem?_range hi']
def rg1 : List D → Option (List D)
  | [.int n] => if -(2 ^ 62) ≤ n ∧ n < 2 ^ 62 then some (rgD 0 n) else none
  | _ => none
def rg2 : List D → Option (List D)
  | [.int m, .int n] => if -(2 ^ 62) ≤ m ∧ m < 2 ^ 62 ∧ -(2 ^ 62) ≤ n ∧ n < 2 ^ 62 then some (rgD m n) else none
  | _ => none
def sRg (g : List D → Option (List D)) (f : En → R (List D)) : En → R (List D) := fun ρ => bnd (f ρ) fun ds ρ1 => lift (g ds) ρ1
theorem i_range1 {p pos : Pos} (hg : Gl X "range") (hm : X.mg "range" = none) (ha : PA X [a] (cA X.K w fs)) (hs : starEach [a] X.env = [(false, eval a X.env)] := by rfl) : PI X tg (.Call (.Name "range" p) [a] [] pos) (cI X.K w (sRg rg1 fs)) :=
  piI (pi_range1 hg hm ha hs) fun σ H Q h => by
    obtain ⟨F, ρ, fp, s, h⟩ := h
    refine ⟨F, ρ, fp, s, h.bnd fun ds ρ1 F1 H1 fp1 t1 h1 => fun vs s1 z => ?_⟩
    obtain ⟨es, e, n⟩ := h1.lift
    unfold rg1 at e
    split at e
    · rename_i k
      split at e
      · rename_i c
        cases e
        cases z with
        | cons z1 z =>
          cases z
          refine ⟨k, by rw [z1.int_inv], c.1, c.2, n F1 H1 fp1 .refl _ s1 ?_⟩
          have : (k - 0).toNat = k.toNat := by rw [Int.sub_zero]
          unfold rgD
          rw [this]
          exact itz_rg
      · cases e
    · cases e
theorem i_range2 {p pos : Pos} (hg : Gl X "range") (hm : X.mg "range" = none) (ha : PA X [a, b] (cA X.K w fs)) (hs : starEach [a, b] X.env = [(false, eval a X.env), (false, eval b X.env)] := by rfl) (hs2 : starEach [b] X.env = [(false, eval b X.env)] := by rfl) : PI X tg (.Call (.Name "range" p) [a, b] [] pos) (cI X.K w (sRg rg2 fs)) :=
  piI (pi_range2 hg hm ha hs hs2) fun σ H Q h => by
    obtain ⟨F, ρ, fp, s, h⟩ := h
    refine ⟨F, ρ, fp, s, h.bnd fun ds ρ1 F1 H1 fp1 t1 h1 => fun vs s1 z => ?_⟩
    obtain ⟨es, e, n⟩ := h1.lift
    unfold rg2 at e
    split at e
    · rename_i m k
      split at e
      · rename_i c
        cases e
        cases z with
        | cons z1 z => cases z with
          | cons z2 z =>
            cases z
            exact ⟨m, k, by rw [z1.int_inv, z2.int_inv], c, n F1 H1 fp1 .refl _ s1 itz_rg⟩
      · cases e
    · cases e
/-! enumerate, zip -/
def enD (ds : List D) : List D := ds.zipIdx.map fun p => .nd .tup [.int (p.2 : Nat), p.1]
def zpD (ds es : List D) : List D := (ds.zip es).map fun p => .nd .tup [p.1, p.2]
def en1 : List D → Option (List D)
  | [.nd .lst ds] => some (enD ds)
  | _ => none
def zp2 : List D → Option (List D)
  | [.nd .lst ds, .nd .lst es] => some (zpD ds es)
  | [.nd .tup ds, .nd .tup es] => some (zpD ds es)
  | _ => none
theorem itz_pair {K : PySem.W.Frag} {F : Hp} {J : It} {n : Nat} {G : Hp → Prop} {f g : Nat → Option V} {ds : List D} (W : Walk J n G (YPair f g)) (hG : ∀ H, Same F H → G H) (hl : ds.length = n)
    (hd : ∀ i x y, i < n → f i = some x → g i = some y → ∃ dx dy, ds[i]? = some (.nd .tup [dx, dy]) ∧ Fz K F x dx ∧ Fz K F y dy) : Itz K F J ds := by
  refine ⟨fun i H ex hi => W.goes i H (by omega) (hG H ex), fun H ex => by rw [hl]; exact W.stops H (hG H ex), fun i H x H' ex hi y => ?_⟩
  obtain ⟨T, a, b, rfl, hT, rfl, e1, e2⟩ := W.yields i H x H' (by omega) (hG H ex) y
  obtain ⟨da, db, e3, z1, z2⟩ := hd i a b (by omega) e1 e2
  exact ⟨_, e3, .inr ⟨T, [a, b], [da, db], rfl, hT, rfl, .cons z1 (.cons z2 .nil), by show 2 ≤ sizeLine; decide, rfl⟩⟩
theorem i_enum {p pos tpos : Pos} {elts : List Expr} {kk : Nat} (hg : Gl X "enumerate") (hm : X.mg "enumerate" = none) (ha : PA X [e] (cA X.K w fs)) (hs : starEach [e] X.env = [(false, eval e X.env)] := by rfl) : PI X (.Tuple elts kk tpos) (.Call (.Name "enumerate" p) [e] [] pos) (cI X.K w (sRg en1 fs)) :=
  piI (pi_enum hg hm ha hs) fun σ H Q h => by
    obtain ⟨F, ρ, fp, s, h⟩ := h
    refine ⟨F, ρ, fp, s, h.bnd fun ds ρ1 F1 H1 fp1 t1 h1 => fun vs s1 z => ?_⟩
    obtain ⟨es, e, n⟩ := h1.lift
    unfold en1 at e
    split at e
    · rename_i ds
      cases e
      cases z with
      | cons z1 z =>
        cases z
        obtain ⟨a, xs, rfl, hi, hz⟩ := z1.node
        have hl := hz.length
        refine ⟨a, xs, rfl, SqL.of (s1.ex _ _ hi.1), n F1 H1 fp1 .refl _ s1 (itz_pair (walk_enum (K := X.K) (a := a) (xs := xs)) (fun H ex => SqL.of (ex _ _ hi.1)) (by simp [enD, hl]) fun i x y hlt e1 e2 => ?_)⟩
        cases e1
        obtain ⟨d, e3, z3⟩ := hz.getV e2
        refine ⟨.int (i : Nat), d, ?_, .int _, z3⟩
        simp [enD, List.getElem?_zipIdx, e3]
    · cases e
def rZip : List D → Option (List D) := zp2
theorem i_zip {p pos tpos : Pos} {elts : List Expr} {kk : Nat} (hg : Gl X "zip") (hm : X.mg "zip" = none) (ha : PA X [a, b] (cA X.K w fs)) (hs : starEach [a, b] X.env = (false, eval a X.env) :: starEach [b] X.env := by rfl) (hpl : (backTo pos (starEach [b] X.env)).any (·.1) = false := by rfl) : PI X (.Tuple elts kk tpos) (.Call (.Name "zip" p) [a, b] [] pos) (cI X.K w (sRg zp2 fs)) :=
  piI (RZ.pi_zipA hg hm ha hs hpl) fun σ H Q h => by
    obtain ⟨F, ρ, fp, s, h⟩ := h
    refine ⟨F, ρ, fp, s, h.bnd fun ds ρ1 F1 H1 fp1 t1 h1 => fun vs s1 z => ?_⟩
    obtain ⟨es, e, n⟩ := h1.lift
    unfold zp2 at e
    split at e
    · rename_i ds es
      cases e
      cases z with
      | cons z1 z => cases z with
        | cons z2 z =>
          cases z
          obtain ⟨a, xs, rfl, hi, hz⟩ := z1.node
          obtain ⟨b, ys, rfl, hj, gz⟩ := z2.node
          have hl := hz.length
          have gl := gz.length
          refine ⟨a, b, xs, ys, rfl, .inl ⟨SqL.of (s1.ex _ _ hi.1), SqL.of (s1.ex _ _ hj.1), n F1 H1 fp1 .refl _ s1 (itz_pair (walk_zip (K := X.K) (a := a) (b := b) (xs := xs) (ys := ys) rfl) (fun H ex => ⟨SqL.of (ex _ _ hi.1), SqL.of (ex _ _ hj.1)⟩) (by simp [zpD, hl, gl]) fun i x y hlt e1 e2 => ?_)⟩⟩
          obtain ⟨d, e3, z3⟩ := hz.getV e1
          obtain ⟨d', e4, z4⟩ := gz.getV e2
          refine ⟨d, d', ?_, z3, z4⟩
          have e5 : (ds.zip es)[i]? = some (d, d') := List.getElem?_zip_eq_some.mpr ⟨e3, e4⟩
          simp [zpD, e5]
    · rename_i ds es
      cases e
      cases z with
      | cons z1 z => cases z with
        | cons z2 z =>
          cases z
          obtain ⟨a, xs, rfl, hi, hz⟩ := z1.node
          obtain ⟨b, ys, rfl, hj, gz⟩ := z2.node
          have hl := hz.length
          have gl := gz.length
          have zl : (zpD ds es).length = min xs.length ys.length := by simp [zpD, hl, gl]
          refine ⟨a, b, xs, ys, rfl, .inr ⟨SqT.of (s1.ex _ _ hi.1), SqT.of (s1.ex _ _ hj.1), n F1 H1 fp1 .refl _ s1 ⟨fun i H ex hlt => ?_, fun H ex => ?_, fun i H x H' ex hlt y => ?_⟩⟩⟩
          · rw [zl] at hlt
            exact ⟨xs, ys, xs[i]'(by omega), ys[i]'(by omega), SqT.of (ex _ _ hi.1), SqT.of (ex _ _ hj.1), by simp [show i < xs.length by omega], by simp [show i < ys.length by omega]⟩
          · exact ⟨xs, ys, SqT.of (ex _ _ hi.1), SqT.of (ex _ _ hj.1), by omega⟩
          · obtain ⟨T, x1, y1, rfl, hT, rfl, e1, e2⟩ := y
            obtain ⟨d, e3, z3⟩ := hz.getV (e1 xs (SqT.of (ex _ _ hi.1)))
            obtain ⟨d', e4, z4⟩ := gz.getV (e2 ys (SqT.of (ex _ _ hj.1)))
            have e5 : (ds.zip es)[i]? = some (d, d') := List.getElem?_zip_eq_some.mpr ⟨e3, e4⟩
            exact ⟨.nd .tup [d, d'], by simp [zpD, e5], .inr ⟨T, [x1, y1], [d, d'], rfl, hT, rfl, .cons z3 (.cons z4 .nil), by show 2 ≤ sizeLine; decide, rfl⟩⟩
    · cases e
end

/-! ### for, while -/
def forL (g : D → En → Option En) (b : En → R Fl) : List D → En → R Fl
  | [], ρ => .ok .nx ρ
  | d :: ds, ρ => match g d ρ with
    | none => .bad
    | some ρ1 => match b ρ1 with
      | .ok .nx ρ2 => forL g b ds ρ2
      | .ok .ct ρ2 => forL g b ds ρ2
      | .ok .bk ρ2 => .ok .nx ρ2
      | r => r
def sFor (src : En → R (List D)) (g : D → En → Option En) (b : En → R Fl) : En → R Fl := fun ρ => bnd (src ρ) fun ds ρ1 => forL g b ds ρ1
def whL (t : En → R Bool) (b : En → R Fl) : Nat → En → R Fl
  | 0, _ => .bad
  | n + 1, ρ => bnd (t ρ) fun c ρ1 => if c = true then (match b ρ1 with
      | .ok .nx ρ2 => whL t b n ρ2
      | .ok .ct ρ2 => whL t b n ρ2
      | .ok .bk ρ2 => .ok .nx ρ2
      | r => r) else .ok .nx ρ1
section
variable {K : PySem.W.Frag} {w : Wd} {F H : Hp} {fp : List Addr} {D : Ends}
theorem turn_end {r : R Fl} {k : En → R Fl} {N : St → Hp → Prop} (h : PstS K w F H fp (match r with | .ok .nx ρ2 => k ρ2 | .ok .ct ρ2 => k ρ2 | .ok .bk ρ2 => .ok .nx ρ2 | r => r) D)
    (hN : ∀ σ' F' H' fp' ρ2, Tr F H fp F' H' fp' → StaW K w F' H' σ' ρ2 fp' → PstS K w F' H' fp' (k ρ2) D → N σ' H') : PstS K w F H fp r { D with nx := N, ct := N, bk := D.nx } := by
  cases r with
  | ok a ρ =>
    cases a with
    | nx => exact fun σ' F' H' fp' t s => hN σ' F' H' fp' ρ t s (PstS.tr (r := k ρ) h t)
    | ct => exact fun σ' F' H' fp' t s => hN σ' F' H' fp' ρ t s (PstS.tr (r := k ρ) h t)
    | bk => exact h
    | rt d => exact h
    | ro d => exact h
  | exc c x ρ => exact h
  | bad => exact h
end
section
variable {X : Cx} {w : Wd} {tg iter c : Expr} {body : List Stmt} {is : List Nat} {g : D → En → Option En} {m : En → R Fl} {src : En → R (List D)} {t : En → R Bool} {pos : Pos}
/-- an item is given out -/
theorem given {K : PySem.W.Frag} {F F1 H H' : Hp} {fp : List Addr} {σ : St} {ρ : En} {J : It} {ds : List D} {i : Nat} {x : V} (I : Itz K F1 J ds) (s : StaW K w F H σ ρ fp) (ex : Same F1 F) (hi : i < ds.length) (y : J.yld i H x H') :
    ∃ d F', ds[i]? = some d ∧ StaW K w F' H' σ ρ fp ∧ Tr F H fp F' H' fp ∧ Fz K F' x d := by
  obtain ⟨d, e, ⟨rfl, z⟩ | ⟨T, vs, es, rfl, hT, rfl, zs, hl, rfl⟩⟩ := I.yld i H x H' (ex.trans s.ex) hi y
  · exact ⟨d, F, e, s, .refl, z.mono ex⟩
  · obtain ⟨s1, t1, z1⟩ := s.new (k := .tup) hT (if_pos hl) (zs.mono ex)
    exact ⟨_, _, e, s1, t1, z1⟩
theorem s_for (hp : PassesOwn (model X.prog X.w) X.A X.env X.xe) (hc : X.calm = true) (hi : PI X tg iter (cI X.K w src)) (hg : PG X tg (cG X.K w is g)) (hb : PSs X body (cS X.K w m)) (hs : ∀ x, foldedSetIterable iter X.env x = pure x := by intro _; rfl) :
    PS X (.For tg iter body [] pos) (cS X.K w (sFor src g m)) := psI (ps_for hp hc hi hg hb hs) fun D σ H h => by
  obtain ⟨F, ρ, fp, s, h⟩ := h
  refine ⟨F, ρ, fp, s, PstS.bnd (e := src ρ) h fun ds ρ1 F1 H1 fp1 t1 h1 => fun J s1 I => ?_⟩
  refine ⟨fun i m' σ H => m' = ds.length - i ∧ i ≤ ds.length ∧ ∃ F ρ fp, StaW X.K w F H σ ρ fp ∧ Same F1 F ∧ PstS X.K w F H fp (forL g m (ds.drop i) ρ) D, ⟨ds.length, by simp, Nat.zero_le _, F1, ρ1, fp1, s1, Same.refl _, h1⟩, ?_⟩
  rintro i m' σ H ⟨rfl, hi, F, ρ, fp, s, ex, h⟩
  by_cases hlt : i < ds.length
  · refine .inr ⟨I.go i H (ex.trans s.ex) hlt, fun σ H => ∃ F ρ fp, StaW X.K w F H σ ρ fp ∧ Same F1 F ∧ PstS X.K w F H fp (forL g m (ds.drop (i + 1)) ρ) D, fun σ' H' q => ⟨ds.length - (i + 1), by omega, rfl, hlt, q⟩, fun x H' y => ?_⟩
    obtain ⟨d, F2, e, s2, t2, z⟩ := given I s ex hlt y
    have ed : ds.drop i = d :: ds.drop (i + 1) := by
      obtain ⟨h1, h2⟩ := List.getElem?_eq_some_iff.mp e
      rw [← h2]
      exact List.drop_eq_getElem_cons h1
    rw [ed] at h
    unfold forL at h
    cases q : g d ρ with
    | none => simp only [q] at h; exact h.elim
    | some ρ2 =>
      simp only [q] at h
      refine ⟨F2, ρ, fp, d, ρ2, s2, z, q, fun σ' fp' s3 t3 _ => ⟨F2, ρ2, fp', s3, ?_⟩⟩
      have h2 := PstS.tr h (t2.trans t3)
      exact turn_end (k := forL g m (ds.drop (i + 1))) h2 fun σ4 F4 H4 fp4 ρ4 t4 s4 h4 => ⟨F4, ρ4, fp4, s4, (ex.trans t2.ex).trans t4.ex, h4⟩
  · have e : i = ds.length := by omega
    subst e
    rw [List.drop_length] at h
    exact .inl ⟨I.stop H (ex.trans s.ex), h σ F H fp .refl s⟩
theorem s_while (n : Nat) (hp : PassesOwn (model X.prog X.w) X.A X.env X.xe) (hc : PT X c (cT X.K w t)) (hb : PSs X body (cS X.K w m)) : PS X (.While c body [] pos) (cS X.K w (whL t m n)) := psI (ps_while hp hc hb) fun D σ H h => by
  obtain ⟨F, ρ, fp, s, h⟩ := h
  refine ⟨fun k σ H => ∃ F ρ fp, StaW X.K w F H σ ρ fp ∧ PstS X.K w F H fp (whL t m k ρ) D, ⟨n, F, ρ, fp, s, h⟩, ?_⟩
  rintro k σ H ⟨F, ρ, fp, s, h⟩
  cases k with
  | zero => exact h.elim
  | succ k =>
    unfold whL at h
    refine ⟨F, ρ, fp, s, PstS.bnd (e := t ρ) h fun b ρ1 F1 H1 fp1 t1 h1 => fun s1 => ?_⟩
    cases b with
    | true =>
      refine iteT ⟨fun σ H => ∃ F ρ fp, StaW X.K w F H σ ρ fp ∧ PstS X.K w F H fp (whL t m k ρ) D, fun σ' H' q => ⟨k, Nat.lt_succ_self k, q⟩, F1, ρ1, fp1, s1, ?_⟩
      have h2 : PstS X.K w F1 H1 fp1 (match m ρ1 with | .ok .nx ρ2 => whL t m k ρ2 | .ok .ct ρ2 => whL t m k ρ2 | .ok .bk ρ2 => .ok .nx ρ2 | r => r) D := by simpa using h1
      exact turn_end (k := whL t m k) h2 fun σ4 F4 H4 fp4 ρ4 t4 s4 h4 => ⟨F4, ρ4, fp4, s4, h4⟩
    | false =>
      have h2 : PstS X.K w F1 H1 fp1 (.ok .nx ρ1) D := by simpa using h1
      exact iteF (h2 σ F1 H1 fp1 .refl s1)
end
end Y

set_option Elab.async false
set_option linter.all false
set_option maxRecDepth 100000
set_option maxHeartbeats 2000000
/-! Comprehensions. -/
namespace Y
open PySem L2
def noX {α : Type} : R α → R α
  | .ok a ρ => .ok a ρ
  | _ => .bad
theorem noX_ok {α : Type} (a : α) (ρ : En) : noX (.ok a ρ) = .ok a ρ := rfl
theorem bnd_ok {α β : Type} (a : α) (ρ : En) (g : α → En → R β) : bnd (.ok a ρ) g = g a ρ := rfl
/-- within a block nothing is raised -/
def Wd.in1 (w : Wd) : Wd := { w with W := fun _ _ _ _ => False }
def wipeE (vs : List Nat) (ρ : En) : En := match vs with
  | [] => ρ
  | v :: vs => (wipeE vs ρ).set v none
section
variable {K : PySem.W.Frag} {w : Wd} {F H : Hp} {fp : List Addr} {σ σ' : St} {ρ : En} {α : Type} {r : R α} {N : α → En → Hp → Hp → List Addr → Prop}
theorem Pst.noX (h : Pst K w F H fp σ (noX r) N) : Pst K w.in1 F H fp σ' r N := by
  cases r with
  | ok a ρ => exact h
  | exc c x ρ => exact h.elim
  | bad => exact h
theorem Pst.noX2 {β : Type} {g : α → En → R β} {M : β → En → Hp → Hp → List Addr → Prop} (h : Pst K w F H fp σ (Y.bnd (Y.noX r) g) M) (k : ∀ a ρ1 F1 H1 fp1, Tr F H fp F1 H1 fp1 → Pst K w F1 H1 fp1 σ (g a ρ1) M → N a ρ1 F1 H1 fp1) : Pst K w.in1 F H fp σ' r N := by
  cases r with
  | ok a ρ => exact fun F1 H1 fp1 t => k a ρ F1 H1 fp1 t (Pst.tr (r := g a ρ) h t)
  | exc c x ρ => exact h.elim
  | bad => exact h
theorem wipe_set (i : Nat) (x : Option V) (σ : St) {vs : List Nat} (h : i ∈ vs) : L2.wipe (σ.set i x) vs = L2.wipe σ vs := only_set σ i x vs fun j hj => by
  rw [List.mem_singleton.mp hj]; exact h
theorem wipe_sub : ∀ {ws vs : List Nat}, (∀ i ∈ ws, i ∈ vs) → L2.wipe (L2.wipe σ ws) vs = L2.wipe σ vs
  | [], _, _ => rfl
  | v :: ws, vs, h => by
    show L2.wipe ((L2.wipe σ ws).set v none) vs = _
    rw [wipe_set v none _ (h v List.mem_cons_self)]
    exact wipe_sub fun i hi => h i (List.mem_cons_of_mem _ hi)
theorem Sl.unset {β : V} {i : Nat} : ∀ {σ : St} {ρ : En} {fp : List Addr}, Sl K β F H (σ.set i none) ρ fp → Sl K β F H σ ρ fp := by
  intro σ
  induction σ generalizing i with
  | nil => intro ρ fp h; exact h
  | cons x σ ih =>
    intro ρ fp h
    cases i with
    | zero =>
      cases h with
      | skip t => exact .skip t
    | succ i =>
      cases h with
      | skip t => exact .skip (ih (i := i) t)
      | fr z t => exact .fr z (ih (i := i) t)
      | ow a b t => exact .ow a b (ih (i := i) t)
      | bo e a b t => exact .bo e a b (ih (i := i) t)
theorem StaW.unwipe : ∀ {vs : List Nat} {ρ : En} {fp : List Addr}, StaW K w F H (wipe σ vs) ρ fp → StaW K w F H σ ρ fp
  | [], _, _, s => s
  | v :: vs, _, _, s => StaW.unwipe (vs := vs) ⟨s.ex, s.sl.unset, s.nd, s.own, s.lock⟩
theorem StaW.wipe : ∀ {vs : List Nat} {ρ : En} {fp : List Addr}, StaW K w F H σ ρ fp → ∃ fp', StaW K w F H (L2.wipe σ vs) (wipeE vs ρ) fp' ∧ Tr F H fp F H fp'
  | [], _, fp, s => ⟨fp, s, .refl⟩
  | v :: vs, _, fp, s => by
    obtain ⟨fp1, s1, t1⟩ := StaW.wipe (vs := vs) s
    obtain ⟨fp2, s2, t2⟩ := s1.tail v none
    exact ⟨fp2, s2, t1.trans t2⟩
theorem Tr.cons {F' H' : Hp} {fp' : List Addr} {a : Addr} (t : Tr F H fp F' H' fp') : Tr F H (a :: fp) F' H' (a :: fp') := by
  refine ⟨t.ex, fun b o h n => t.keep b o h fun m => n (List.mem_cons_of_mem _ m), fun b h => ?_⟩
  rcases h with h | h
  · rcases List.mem_cons.mp h with rfl | h
    · exact .inl List.mem_cons_self
    · exact (t.new b (.inl h)).imp (List.mem_cons_of_mem _) id
  · exact (t.new b (.inr h)).imp (List.mem_cons_of_mem _) id
end
/-- the list so far at L -/
def lcL (g : D → En → Option En) (t : En → R Bool) (e : En → R D) (vs : List Nat) : List D → En → List D → R D
  | [], ρ, acc => .ok (.nd .lst acc) ρ
  | d :: ds, ρ, acc => match g d ρ with
    | none => .bad
    | some ρ1 => bnd (noX (t ρ1)) fun b ρ2 => if b = true then bnd (noX (e ρ2)) fun x ρ3 => if acc.length < sizeLine then lcL g t e vs ds (wipeE vs ρ3) (acc ++ [x]) else .bad else lcL g t e vs ds (wipeE vs ρ2) acc
def sLc (src : En → R (List D)) (g : D → En → Option En) (t : En → R Bool) (e : En → R D) (vs : List Nat) : En → R D := fun ρ => bnd (src ρ) fun ds ρ1 => lcL g t e vs ds (wipeE vs ρ1) []
def sYes : En → R Bool := fun ρ => .ok true ρ
/-- the new list at L in the making -/
structure Mk (K : PySem.W.Frag) (w : Wd) (F1 F H : Hp) (L : Addr) (σ : St) (ρ : En) (fp : List Addr) (acc : List D) : Prop where
  s : StaW K w F H σ ρ fp
  ex : Same F1 F
  nf : L ∉ fp
  nF : F L = none
  at_ : ∃ vs, H L = some (.lst vs) ∧ Fzs K F vs acc
section
variable {K : PySem.W.Frag} {w : Wd} {F1 F F' H H' : Hp} {fp fp' : List Addr} {σ σ' : St} {ρ ρ' : En} {L : Addr} {acc : List D} {x : V} {d : D}
theorem Mk.go (m : Mk K w F1 F H L σ ρ fp acc) (t : Tr F H fp F' H' fp') (s : StaW K w F' H' σ' ρ' fp') : Mk K w F1 F' H' L σ' ρ' fp' acc := by
  obtain ⟨vs, h1, h2⟩ := m.at_
  refine ⟨s, m.ex.trans t.ex, fun h => ?_, ?_, vs, t.keep L _ h1 m.nf, h2.mono t.ex⟩
  · rcases t.new L (.inl h) with q | q
    · exact m.nf q
    · rw [h1] at q; cases q
  · cases q : F' L with
    | none => rfl
    | some o =>
      rcases t.new L (.inr ⟨m.nF, by rw [q]; exact (fun z => nomatch z), IsTp.not h1 fun _ e => nomatch e⟩) with r | r
      · exact absurd r m.nf
      · rw [h1] at r; cases r
theorem Mk.app (m : Mk K w F1 F H L σ ρ fp acc) (z : Fz K F x d) (hl : acc.length < sizeLine) : ∃ vs, H L = some (.lst vs) ∧ vs.length < sizeLine ∧ Mk K w F1 F (upd H L (.lst (vs ++ [x]))) L σ ρ fp (acc ++ [d]) ∧ Tr F H (L :: fp) F (upd H L (.lst (vs ++ [x]))) (L :: fp) := by
  obtain ⟨vs, h1, h2⟩ := m.at_
  refine ⟨vs, h1, by rw [h2.length]; exact hl, ⟨⟨same_updR m.s.ex m.nF, m.s.sl.frame (Same.refl _) fun a ha o h => ?_, m.s.nd, m.s.own, m.s.lock⟩, m.ex, m.nf, m.nF, _, upd_same, h2.append (.cons z .nil)⟩, ⟨Same.refl _, fun b o h n => ?_, fun b h => h.elim .inl fun ⟨q1, q2, _⟩ => absurd q1 q2⟩⟩
  · rw [upd_ne (fun (q : a = L) => m.nf (q ▸ ha))]; exact h
  · rw [upd_ne (fun (q : b = L) => n (q ▸ List.mem_cons_self))]; exact h
theorem Mk.start (s : StaW K w F H σ ρ fp) (hL : H L = none) : Mk K w F F (upd H L (.lst [])) L σ ρ fp [] ∧ Tr F H fp F (upd H L (.lst [])) (L :: fp) := by
  obtain ⟨n1, n2⟩ := s.fresh hL
  obtain ⟨s1, t1⟩ := s.newO (k := .lst) (vs := []) (ds := []) hL rfl rfl .nil
  refine ⟨⟨⟨same_updR s.ex n2, s.sl.frame (Same.refl _) fun a ha o h => ?_, s.nd, s.own, s.lock⟩, Same.refl _, n1, n2, [], upd_same, .nil⟩, t1⟩
  rw [upd_ne (ne_of_none h hL)]; exact h
theorem Mk.done (m : Mk K w F1 F H L σ ρ fp acc) (hl : acc.length ≤ sizeLine) : StaW K w F H (some (.ref L) :: σ) (some (.o (.nd .lst acc)) :: ρ) (L :: fp) := by
  obtain ⟨vs, h1, h2⟩ := m.at_
  exact ⟨m.s.ex, .ow (k := .lst) ⟨h1, by rw [h2.length]; exact hl⟩ h2 m.s.sl, List.nodup_cons.mpr ⟨m.nf, m.s.nd⟩, fun a ha => (List.mem_cons.mp ha).elim (fun e => e ▸ m.nF) (m.s.own a), m.s.lock⟩
end
section
variable {K : PySem.W.Frag} {w : Wd} {src : En → R (List D)} {g : D → En → Option En} {t : En → R Bool} {e : En → R D} {vs is : List Nat} {σ : St} {H : Hp} {Q : VK}
/-- the block's turns -/
theorem lc_body {ds : List D} {J : It} {F1 H1 : Hp} {ρ1 : En} {fp1 : List Addr} (his : ∀ i ∈ is, i ∈ vs) (s1 : StaW K w F1 H1 σ ρ1 fp1) (I : Itz K F1 J ds) (h1 : Pst K w F1 H1 fp1 σ (lcL g t e vs ds (wipeE vs ρ1) []) (nO K w σ Q)) : tLc (fun _ H R => R J H) (cG K w.in1 is g) (cT K w.in1 t) (cF K w.in1 e) vs σ H1 Q := fun L hL => by
  obtain ⟨fpw, sw, tw⟩ := StaW.wipe (vs := vs) s1
  obtain ⟨m0, t0⟩ := Mk.start sw hL
  refine ⟨fun i k H => k = ds.length - i ∧ i ≤ ds.length ∧ ∃ F ρ fp acc, Mk K w F1 F H L (wipe σ vs) ρ fp acc ∧ acc.length ≤ sizeLine ∧ Pst K w F H (L :: fp) σ (lcL g t e vs (ds.drop i) ρ acc) (nO K w σ Q), ⟨ds.length, by simp, Nat.zero_le _, F1, _, fpw, [], m0, Nat.zero_le _, Pst.tr h1 (tw.trans t0)⟩, ?_⟩
  rintro i k H ⟨rfl, hi, F, ρ, fp, acc, m, hz, h⟩
  by_cases hlt : i < ds.length
  · refine .inr ⟨I.go i H (m.ex.trans m.s.ex) hlt, fun H => ∃ F ρ fp acc, Mk K w F1 F H L (wipe σ vs) ρ fp acc ∧ acc.length ≤ sizeLine ∧ Pst K w F H (L :: fp) σ (lcL g t e vs (ds.drop (i + 1)) ρ acc) (nO K w σ Q), fun H' q => ⟨ds.length - (i + 1), by omega, rfl, hlt, q⟩, fun x H' y => ?_⟩
    obtain ⟨d, F2, ed, s2, t2, z⟩ := given I m.s m.ex hlt y
    have m2 := m.go t2 s2
    have edr : ds.drop i = d :: ds.drop (i + 1) := by
      obtain ⟨h1, h2⟩ := List.getElem?_eq_some_iff.mp ed
      rw [← h2]
      exact List.drop_eq_getElem_cons h1
    rw [edr] at h
    unfold lcL at h
    cases q : g d ρ with
    | none => simp only [q] at h; exact h.elim
    | some ρ2 =>
      simp only [q] at h
      refine ⟨F2, ρ, fp, d, ρ2, s2, z, q, fun σ3 fp3 s3 t3 o3 => ?_⟩
      have ew : wipe σ3 vs = wipe σ vs := (o3 vs his).trans (wipe_sub fun _ h => h)
      have h3 := Pst.tr h (t2.trans t3).cons
      have m3 := m2.go t3 s3
      have h3' : Pst K w F2 H' (L :: fp3) σ (bnd (noX (t ρ2)) fun b ρ2 => if b = true then bnd (noX (e ρ2)) fun x ρ3 => if acc.length < sizeLine then lcL g t e vs (ds.drop (i + 1)) (wipeE vs ρ3) (acc ++ [x]) else .bad else lcL g t e vs (ds.drop (i + 1)) (wipeE vs ρ2) acc) (nO K w σ Q) := h3
      refine ⟨ew, F2, ρ2, fp3, s3, ?_⟩
      -- the test
      cases q1 : t ρ2 with
      | bad => rw [q1] at h3'; exact h3'.elim
      | exc c x ρ => rw [q1] at h3'; exact h3'.elim
      | ok b ρ4 =>
        rw [q1] at h3'
        intro F4 H4 fp4 t4 s4
        have m4 := m3.go t4 s4
        have h4 := Pst.tr h3' t4.cons
        cases b with
        | false =>
          refine iteF ?_
          obtain ⟨fp5, s5, t5⟩ := StaW.wipe (vs := vs) s4
          rw [ew] at s5
          exact ⟨F4, _, fp5, acc, m4.go t5 s5, hz, by simpa [noX_ok, bnd_ok] using Pst.tr h4 t5.cons⟩
        | true =>
          refine iteT ⟨F4, ρ4, fp4, s4, ?_⟩
          have h4' : Pst K w F4 H4 (L :: fp4) σ (bnd (noX (e ρ4)) fun x ρ3 => if acc.length < sizeLine then lcL g t e vs (ds.drop (i + 1)) (wipeE vs ρ3) (acc ++ [x]) else .bad) (nO K w σ Q) := by simpa [noX_ok, bnd_ok] using h4
          cases q2 : e ρ4 with
          | bad => rw [q2] at h4'; exact h4'.elim
          | exc c x ρ => rw [q2] at h4'; exact h4'.elim
          | ok dx ρ5 =>
            rw [q2] at h4'
            intro F5 H5 fp5 t5 v s5 zv
            have m5 := m4.go t5 s5
            have h5 := Pst.tr h4' t5.cons
            obtain ⟨fp6, s6, t6⟩ := StaW.wipe (vs := vs) s5
            rw [ew] at s6
            have m6 := m5.go t6 s6
            have h6 := Pst.tr h5 t6.cons
            by_cases hl : acc.length < sizeLine
            · obtain ⟨ws, e1, e2, m7, t7⟩ := m6.app zv hl
              refine ⟨ws, e1, e2, F5, _, fp6, _, m7, by rw [List.length_append]; exact hl, ?_⟩
              have h7 := Pst.tr h6 t7
              simpa [bnd, noX, hl] using h7
            · exact (show False by simpa [bnd, noX, hl, Pst] using h6).elim
  · have e : i = ds.length := by omega
    subst e
    rw [List.drop_length] at h
    have mu : Mk K w F1 F H L σ ρ fp acc := ⟨StaW.unwipe m.s, m.ex, m.nf, m.nF, m.at_⟩
    exact .inl ⟨I.stop H (m.ex.trans m.s.ex), h F H (L :: fp) .refl (.ref L) (mu.done hz)⟩
/-- what the block is read as -/
theorem lc_canon (his : ∀ i ∈ is, i ∈ vs) (h : cO K w (sLc src g t e vs) σ H Q) : tLc (cI K w src) (cG K w.in1 is g) (cT K w.in1 t) (cF K w.in1 e) vs σ H Q := by
  obtain ⟨F, ρ, fp, s, h⟩ := h
  exact ⟨F, ρ, fp, s, h.bnd fun ds ρ1 F1 H1 fp1 t1 h1 => fun J s1 I => lc_body his s1 I h1⟩
variable {X : Cx} {elt tg iter : Expr} {ifs : List Expr} {scope : Scope} {own : List (Str × Nat)} {pos : Pos}
theorem ts_nil : PTs X [] (cT X.K w sYes) := ⟨fun pins s σ H Q I h => pts_nil.run pins s σ H Q I (by
  obtain ⟨F, ρ, fp, s, h⟩ := h
  exact h F H fp .refl s)⟩
theorem ts_one {c : Expr} (h : PT X c (cT X.K w t)) : PTs X [c] (cT X.K w t) := pts_one h
theorem d_lc (own : List (Str × Nat)) (hc : X.calm = true) (hN : X.N.Nodup) (hi : PI X tg iter (cI X.K w src)) (ok : BlkOk X.N X.env.scope scope own) (his : ∀ i ∈ is, i ∈ own.map (·.2))
    (hg : ∀ (s : Shared) (H : Hp) (C : Addr) (cl : List (Str × Addr)) (fp : List Addr), PG (X.blk s H scope (compEnvC scope cl C X.env) fp) tg (cG X.K w.in1 is g)) (ht : ∀ (s : Shared) (H : Hp) (C : Addr) (cl : List (Str × Addr)) (fp : List Addr), PTs (X.blk s H scope (compEnvC scope cl C X.env) fp) ifs (cT X.K w.in1 t))
    (he : ∀ (s : Shared) (H : Hp) (C : Addr) (cl : List (Str × Addr)) (fp : List Addr), PE (X.blk s H scope (compEnvC scope cl C X.env) fp) elt (cF X.K w.in1 e)) (hs : ∀ x, foldedSetIterable iter X.env x = pure x := by intro _; rfl) :
    PE X (.ListComp elt [⟨tg, iter, ifs, 0⟩] scope pos) (cO X.K w (sLc src g t e (own.map (·.2)))) := peI (pe_lc hc hN hi ok hg ht he hs) fun σ H Q h => lc_canon his h
theorem s_setLc (i : Nat) (own : List (Str × Nat)) {y : Str} {py spos : Pos} (hc : X.calm = true) (hN : X.N.Nodup) (hi : PI X tg iter (cI X.K w src)) (ok : BlkOk X.N X.env.scope scope own) (his : ∀ i ∈ is, i ∈ own.map (·.2))
    (hg : ∀ (s : Shared) (H : Hp) (C : Addr) (cl : List (Str × Addr)) (fp : List Addr), PG (X.blk s H scope (compEnvC scope cl C X.env) fp) tg (cG X.K w.in1 is g)) (ht : ∀ (s : Shared) (H : Hp) (C : Addr) (cl : List (Str × Addr)) (fp : List Addr), PTs (X.blk s H scope (compEnvC scope cl C X.env) fp) ifs (cT X.K w.in1 t))
    (he : ∀ (s : Shared) (H : Hp) (C : Addr) (cl : List (Str × Addr)) (fp : List Addr), PE (X.blk s H scope (compEnvC scope cl C X.env) fp) elt (cF X.K w.in1 e))
    (hsw : swapsWith (.ListComp elt [⟨tg, iter, ifs, 0⟩] scope pos) (some (.Name y py)) spos.line X.env = pure true)
    (hy : X.N[i]? = some y := by rfl) (hyl : X.env.scope.names.lookup y = some .local := by rfl) (hs : ∀ x, foldedSetIterable iter X.env x = pure x := by intro _; rfl) :
    PS X (.Assign [.Name y py] (.ListComp elt [⟨tg, iter, ifs, 0⟩] scope pos) spos) (cS X.K w (sSetO i (sLc src g t e (own.map (·.2))))) := psI (ps_setLc hc hN hy hyl hsw hi ok hg ht he hs) fun D σ H h => by
  refine lc_canon his (Q := fun x H1 => D.nx (σ.set i (some x)) H1) ?_
  obtain ⟨F, ρ, fp, s, h⟩ := h
  refine ⟨F, ρ, fp, s, h.bnd fun d ρ1 F1 H1 fp1 t1 h1 => fun v s1 => ?_⟩
  obtain ⟨fp2, s2, t2⟩ := s1.storeO i
  exact h1 _ F1 H1 fp2 t2 s2
theorem s_setLcF (i : Nat) (own : List (Str × Nat)) {y : Str} {py spos : Pos} (hc : X.calm = true) (hN : X.N.Nodup) (hi : PI X tg iter (cI X.K w src)) (ok : BlkOk X.N X.env.scope scope own) (his : ∀ i ∈ is, i ∈ own.map (·.2))
    (hg : ∀ (s : Shared) (H : Hp) (C : Addr) (cl : List (Str × Addr)) (fp : List Addr), PG (X.blk s H scope (compEnvC scope cl C X.env) fp) tg (cG X.K w.in1 is g)) (ht : ∀ (s : Shared) (H : Hp) (C : Addr) (cl : List (Str × Addr)) (fp : List Addr), PTs (X.blk s H scope (compEnvC scope cl C X.env) fp) ifs (cT X.K w.in1 t))
    (he : ∀ (s : Shared) (H : Hp) (C : Addr) (cl : List (Str × Addr)) (fp : List Addr), PE (X.blk s H scope (compEnvC scope cl C X.env) fp) elt (cF X.K w.in1 e))
    (hsw : swapsWith (.ListComp elt [⟨tg, iter, ifs, 0⟩] scope pos) (some (.Name y py)) spos.line X.env = pure true)
    (hy : X.N[i]? = some y := by rfl) (hyl : X.env.scope.names.lookup y = some .local := by rfl) (hs : ∀ x, foldedSetIterable iter X.env x = pure x := by intro _; rfl) :
    PS X (.Assign [.Name y py] (.ListComp elt [⟨tg, iter, ifs, 0⟩] scope pos) spos) (cS X.K w (sSet i (sLc src g t e (own.map (·.2))))) := psI (ps_setLc hc hN hy hyl hsw hi ok hg ht he hs) fun D σ H h => by
  refine lc_canon his (Q := fun x H1 => D.nx (σ.set i (some x)) H1) (cF_fz ?_)
  obtain ⟨F, ρ, fp, s, h⟩ := h
  refine ⟨F, ρ, fp, s, h.bnd fun d ρ1 F1 H1 fp1 t1 h1 => fun v s1 z => ?_⟩
  obtain ⟨fp2, s2, t2⟩ := s1.store z i
  exact h1 _ F1 H1 fp2 t2 s2
end
end Y

set_option Elab.async false
set_option linter.all false
set_option maxRecDepth 100000
set_option maxHeartbeats 2000000
/-! Defs by values, their calls. -/
namespace Y
open PySem PySem.Spec PyProof.Rows L2
inductive FO where
  | val (o : Bool) (d : D) (out : Option D) | exc (c : Str) (x : Option (Str × D)) (out : Option D) | bad
def outs (io : Bool) (ρ : En) (k : Option D → FO) : FO := match io with
  | true => match ρ with
    | some (.b d) :: _ => k (some d)
    | _ => .bad
  | false => k none
def finF (io : Bool) : R Fl → FO
  | .ok (.rt d) ρ => outs io ρ (.val false d)
  | .ok (.ro d) ρ => outs io ρ (.val true d)
  | .ok .nx ρ => outs io ρ (.val false .non)
  | .exc c x ρ => outs io ρ (.exc c x)
  | _ => .bad
def argS (io : Bool) (ds : List D) : En := match io, ds with
  | true, d :: ds => some (.b d) :: ds.map fun d => some (.f d)
  | _, ds => ds.map fun d => some (.f d)
/-- np parameters, n names -/
def runF (io : Bool) (np n : Nat) (m : En → R Fl) (ds : List D) : FO := if ds.length = np then finF io (m (argS io ds ++ List.replicate (n - np) none)) else .bad
def outσ (io : Bool) (β : V) : L2.St := match io with | true => [some β] | false => []
def outρ (out : Option D) : En := match out with | some d => [some (.b d)] | none => []
def mkS (o : Bool) (d : D) : S := match o with | true => .o d | false => .f d
def PstF (K : PySem.W.Frag) (cls : Str → Value) (io lk : Bool) (β : V) (F H : Hp) (fp : List Addr) (r : FO) (Q : VK) (E : XK) : Prop :=
  match r with
  | .val o d out => ∀ v F' H' fp', Tr F H fp F' H' fp' → Sta K β lk F' H' (some v :: outσ io β) (some (mkS o d) :: outρ out) fp' → Q v H'
  | .exc c x out => ∀ F' H' fp' dd, Tr F H fp F' H' fp' → Sta K β lk F' H' (outσ io β) (outρ out) fp' → XR K F' H' x dd → E (cls c) dd H'
  | .bad => False
def spF (K : PySem.W.Frag) (cls : Str → Value) (io lk0 : Bool) (np : Nat) (fs : List D → FO) : Sp := fun vs H Q E => vs.length = np ∧ ∃ F fp ds lk β, (lk = true → lk0 = true) ∧ (io = true → vs.head? = some β) ∧ Sta K β lk F H (vs.map some) (argS io ds) fp ∧ PstF K cls io lk β F H fp (fs ds) Q E
/-- the def that the name x stands for -/
structure Def (P : Program) (w : World) (K : PySem.W.Frag) (mg : Str → Option Value) (base : Heap) (CX : CXT) (k : Nat) (x : Str) (cls : Str → Value) (io lk0 : Bool) (np : Nat) (fs : List D → FO) : Prop where
  ex : ∃ f fd ps, FnOk P w K mg base CX k f fd ps (spF K cls io lk0 np fs) ∧ mg x = some (.ref f) ∧ PySem.W.keepIn K (.ref f) = true ∧ Binds K fd ps []
  nb : ∀ ds, ds.length ≠ np → fs ds = .bad
theorem Def.mono {P : Program} {w : World} {K : PySem.W.Frag} {mg : Str → Option Value} {base : Heap} {CX : CXT} {j k : Nat} {x : Str} {cls : Str → Value} {io lk0 : Bool} {np : Nat} {fs : List D → FO} (G : Def P w K mg base CX j x cls io lk0 np fs) (h : j ≤ k) : Def P w K mg base CX k x cls io lk0 np fs := by
  obtain ⟨f, fd, ps, F, r⟩ := G.ex
  exact ⟨⟨f, fd, ps, F.mono h, r⟩, G.nb⟩
theorem runF_nb {io : Bool} {np n : Nat} {m : En → R Fl} : ∀ ds, ds.length ≠ np → runF io np n m ds = .bad := fun ds h => if_neg h
section
variable {K : PySem.W.Frag} {β : V} {F F' H H' : Hp} {fp fp' : List Addr} {σ : L2.St} {ρ : En}
theorem Sl.app : ∀ {n : Nat}, Sl K β F H σ ρ fp → Sl K β F H (σ ++ List.replicate n none) (ρ ++ List.replicate n none) fp := by
  intro n s
  induction s with
  | nil =>
    induction n with
    | zero => exact .nil
    | succ n ih => exact .skip ih
  | skip t ih => exact .skip ih
  | fr z t ih => exact .fr z ih
  | ow a b t ih => exact .ow a b ih
  | bo e a b t ih => exact .bo e a b ih
theorem argS_len {io : Bool} {ds : List D} : (argS io ds).length = ds.length := by
  unfold argS
  split
  · simp
  · simp
/-- what a def hands back of its first parameter -/
theorem outs_out {io : Bool} {ρ : En} {k : Option D → FO} {K : PySem.W.Frag} {cls : Str → Value} {lk : Bool} {β : V} {F H F' H' : Hp} {fp fp' : List Addr} {σ' : L2.St} {Q : VK} {E : XK} (h : PstF K cls io lk β F H fp (outs io ρ k) Q E) (s : Sta K β lk F' H' σ' ρ fp') :
    ∃ out fp2, PstF K cls io lk β F H fp (k out) Q E ∧ Sta K β lk F' H' (outσ io β) (outρ out) fp2 ∧ (∀ a ∈ fp2, a ∈ fp') ∧ Tr F' H' fp' F' H' fp2 := by
  cases io with
  | false => exact ⟨none, [], h, ⟨s.ex, .nil, List.nodup_nil, fun a ha => (by cases ha), s.lock⟩, fun a ha => (by cases ha), Tr.refl.sub fun a ha => (by cases ha)⟩
  | true =>
    cases hs : s.sl with
    | bo e hw hz t =>
      rename_i a k vs ds σ ρ fp2
      clear hs
      subst e
      refine ⟨some _, [a], h, ⟨s.ex, .bo rfl hw hz .nil, by simp, fun b hb => s.own b (by rw [List.mem_singleton.mp hb]; exact List.mem_cons_self), s.lock⟩, fun b hb => by rw [List.mem_singleton.mp hb]; exact List.mem_cons_self, Tr.refl.sub fun b hb => by rw [List.mem_singleton.mp hb]; exact List.mem_cons_self⟩
    | nil => exact h.elim
    | skip t => exact h.elim
    | fr z t => exact h.elim
    | ow a b t => exact h.elim
theorem argS_nil {io : Bool} {β : V} {lk : Bool} {vs : List V} {ds : List D} (s : Sta K β lk F H (vs.map some) (argS io ds) fp) : vs.length = ds.length := by
  have := s.sl.len
  rw [argS_len] at this
  simpa using this
/-- from a body's reading to its def's promise -/
theorem body_ok {w : Wd} {io : Bool} {np n : Nat} {m : En → R Fl} {vs : List V} {Q : VK} {E : XK} {ds : List D} (hW : w.W = fun c dd _ H => E c dd H) (s : Sta K w.β w.lk F H (vs.map some) (argS io ds) fp) (hl : vs.length = np) (h : PstF K w.cls io w.lk w.β F H fp (runF io np n m ds) Q E) :
    cS K w m { nx := fun _ H' => Q .non H', rt := Q } (vs.map some ++ List.replicate (n - vs.length) none) H := by
  have hd : ds.length = np := by rw [← argS_nil s]; exact hl
  unfold runF at h
  rw [if_pos hd] at h
  rw [hl]
  refine ⟨F, _, fp, ⟨s.ex, s.sl.app, s.nd, s.own, s.lock⟩, ?_⟩
  cases q : m (argS io ds ++ List.replicate (n - np) none) with
  | bad => rw [q] at h; exact h
  | exc c x ρ' =>
    rw [q] at h
    intro σ' F' H' fp' dd t s' xr
    obtain ⟨out, fp2, h1, s2, sub, t2⟩ := outs_out (k := .exc c x) h s'
    rw [hW]
    exact h1 F' H' fp2 dd (t.trans t2) s2 xr
  | ok a ρ' =>
    rw [q] at h
    cases a with
    | nx =>
      intro σ' F' H' fp' t s'
      obtain ⟨out, fp2, h1, s2, sub, t2⟩ := outs_out (k := .val false .non) h s'
      exact h1 .non F' H' fp2 (t.trans t2) ⟨s2.ex, .fr .non s2.sl, s2.nd, s2.own, s2.lock⟩
    | rt d =>
      intro v σ' F' H' fp' t s' z
      obtain ⟨out, fp2, h1, s2, sub, t2⟩ := outs_out (k := .val false d) h s'
      exact h1 v F' H' fp2 (t.trans t2) ⟨s2.ex, .fr z s2.sl, s2.nd, s2.own, s2.lock⟩
    | ro d =>
      intro v σ' F' H' fp' t s'
      cases hs : s'.sl with
      | ow hw hz sl =>
        rename_i a k ws es fp3
        have nd := List.nodup_cons.mp s'.nd
        obtain ⟨out, fp2, h1, s2, sub, t2⟩ := outs_out (k := .val true _) h (⟨s'.ex, sl, nd.2, fun b hb => s'.own b (List.mem_cons_of_mem _ hb), s'.lock⟩ : Sta K w.β w.lk F' H' σ' ρ' fp3)
        exact h1 _ F' H' (a :: fp2) (t.trans t2.cons) ⟨s2.ex, .ow hw hz s2.sl, List.nodup_cons.mpr ⟨fun z => nd.1 (sub _ z), s2.nd⟩, fun b hb => (List.mem_cons.mp hb).elim (fun e => e ▸ s'.own a List.mem_cons_self) (s2.own b), s2.lock⟩
    | ct => exact h.elim
    | bk => exact h.elim
end

/-! ### a def that raises nothing -/
section
variable {P : Program} {w : World} {K : PySem.W.Frag} {mg : Str → Option Value} {base : Heap}
theorem mkDef {x : Str} {st : Stmt} {f : Addr} {fd : FuncData} {N ps : List Str} {k np n : Nat} {cls : Str → Value} {io lk0 : Bool} {m : En → R Fl} (F : Fun K x x st f fd) (hm : mg x = some (.ref f)) (b : Binds K fd ps []) (S : FnScope N ps (defScope st)) (hn : N.length = n := by rfl) (hp : ps.length = np := by rfl)
    (body : ∀ (cdv : Value) (A : Around) (outer : List Env) (s : Shared) (H : Hp) (E : XK) (W : Wd), Room k (A.deeper (envOfC x (defScope st) s.heap.objs.size f cdv)) → (W.lk = true → lk0 = true) → W.cls = cls → PSs (cxOf CX0 P w K mg base N x (defScope st) f cdv A outer s H E).nox (defBody st) (cS K W m)) : Def P w K mg base CX0 (k + 1) x cls io lk0 np (runF io np n m) := by
  refine ⟨⟨f, fd, ps, F.ok S (fun vs H Q E h => h.1.trans hp.symm) (fun cdv A outer s H vs Q E hr h => ?_), hm, F.kp, b⟩, runF_nb⟩
  obtain ⟨hl, G, fp, ds, lk, β, hlk, hio, st', h⟩ := h
  refine ⟨_, body cdv A outer s H E ⟨β, lk, cls, fun c dd _ H => E c dd H⟩ hr hlk rfl, ?_⟩
  subst hn
  exact body_ok (w := ⟨β, lk, cls, fun c dd _ H => E c dd H⟩) rfl st' hl h
end

/-! ### calls -/
def sCall (fs : List D → FO) (f : En → R (List D)) : En → R D := fun ρ => bnd (f ρ) fun ds ρ1 => match fs ds with
  | .val _ d _ => .ok d ρ1
  | _ => .bad
def sCallO (fs : List D → FO) (f : En → R (List D)) : En → R D := fun ρ => bnd (f ρ) fun ds ρ1 => match fs ds with
  | .val true d _ => .ok d ρ1
  | _ => .bad
def sCallI (i : Nat) (fs : List D → FO) (f : En → R (List D)) : En → R D := fun ρ => bnd (lift (ownD i ρ) ρ) fun _ _ => bnd (f ρ) fun ds ρ1 => match ownD i ρ1 with
  | some d0 => match fs (d0 :: ds) with
    | .val _ d (some d') => .ok d (chg i d' ρ1)
    | _ => .bad
  | none => .bad
def sCallIO (i : Nat) (fs : List D → FO) (f : En → R (List D)) : En → R D := fun ρ => bnd (lift (ownD i ρ) ρ) fun _ _ => bnd (f ρ) fun ds ρ1 => match ownD i ρ1 with
  | some d0 => match fs (d0 :: ds) with
    | .val true d (some d') => .ok d (chg i d' ρ1)
    | _ => .bad
  | none => .bad
section
variable {K : PySem.W.Frag} {β : V} {lk : Bool} {F F' H H' : Hp} {fp fp' : List Addr} {σ : L2.St} {ρ : En}
theorem fzs_args : ∀ {vs : List V} {ds : List D}, Fzs K F vs ds → Sl K β F H (vs.map some) (ds.map fun d => some (.f d)) []
  | _, _, .nil => .nil
  | _, _, .cons z zs => .fr z (fzs_args zs)
theorem argS_false (ds : List D) : argS false ds = ds.map fun d => some (.f d) := by
  unfold argS
  split <;> first | rfl | contradiction
/-- a name lent to a callee -/
theorem Sta.lend {i : Nat} {d0 : D} (s : Sta K β lk F H σ ρ fp) (e : ownD i ρ = some d0) :
    ∃ a, σ[i]? = some (some (.ref a)) ∧ a ∈ fp ∧ F a = none ∧ Sl K (.ref a) F H [some (.ref a)] [some (.b d0)] [a] ∧
      ∀ F' H' d', Tr F H [a] F' H' [a] → Same F' H' → (lk = false → NoLock F') → Sl K (.ref a) F' H' [some (.ref a)] [some (.b d')] [a] → F' a = none → Sta K β lk F' H' σ (chg i d' ρ) fp ∧ Tr F H fp F' H' fp := by
  have main : ∀ mk : D → S, (mk = S.o ∨ mk = S.b) → ρ[i]? = some (some (mk d0)) → (∀ d', chg i d' ρ = ρ.set i (some (mk d'))) → ∃ a, σ[i]? = some (some (.ref a)) ∧ a ∈ fp ∧ F a = none ∧ Sl K (.ref a) F H [some (.ref a)] [some (.b d0)] [a] ∧
      ∀ F' H' d', Tr F H [a] F' H' [a] → Same F' H' → (lk = false → NoLock F') → Sl K (.ref a) F' H' [some (.ref a)] [some (.b d')] [a] → F' a = none → Sta K β lk F' H' σ (chg i d' ρ) fp ∧ Tr F H fp F' H' fp := by
    intro mk hm e1 hc
    obtain ⟨a, k, vs, ds, fp1, fp2, h1, h2, h3, h4, h5, h6, h7, h8, h9⟩ := s.sl.own mk hm e1
    subst h1 h2
    obtain ⟨m1, m2, m3⟩ := mid s.nd
    refine ⟨a, h3, by simp, s.own a (by simp), .bo rfl h4 h5 .nil, fun F' H' d' t ex lock sl na => ?_⟩
    have keep : ∀ b ∈ fp1 ++ fp2, ∀ o, H b = some o → H' b = some o := fun b hb o q => t.keep b o q fun z => m1 (by rw [← List.mem_singleton.mp z]; exact hb)
    cases sl with
    | bo _ hw hz _ =>
      have tt := t.wide (gp := fp1 ++ a :: fp2) fun b hb => by rw [List.mem_singleton.mp hb]; simp
      refine ⟨⟨ex, ?_, s.nd, fun b hb => ?_, lock⟩, ?_⟩
      · rw [hc]
        exact h8 F' H' _ _ _ t.ex keep hw hz
      · by_cases q : b = a
        · rw [q]; exact na
        · have hb' : b ∈ fp1 ++ fp2 := by
            rcases List.mem_cons.mp (m3.mem_iff.mpr hb) with z | z
            · exact absurd z q
            · exact z
          cases r : F' b with
          | none => rfl
          | some o =>
            rcases t.new b (.inr ⟨s.own b hb, by rw [r]; exact (fun z => nomatch z), s.sl.fpT b hb⟩) with z | z
            · exact absurd (List.mem_singleton.mp z) q
            · obtain ⟨o', ho⟩ := s.sl.fpH b hb
              rw [z] at ho; cases ho
      · refine ⟨tt.ex, tt.keep, fun b q => ?_⟩
        rcases q with q | q
        · exact .inl q
        · exact tt.new b (.inr q)
  unfold ownD at e
  split at e
  · rename_i d' e1
    cases e
    exact main S.o (.inl rfl) e1 fun d' => by unfold chg; rw [e1]
  · rename_i d' e1
    cases e
    exact main S.b (.inr rfl) e1 fun d' => by unfold chg; rw [e1]
  · cases e
end
end Y

set_option Elab.async false
set_option linter.all false
set_option maxRecDepth 100000
set_option maxHeartbeats 2000000
/-! Calls by values. -/
namespace Y
open PySem L2
section
variable {K : PySem.W.Frag} {w : Wd} {F F' H H' : Hp} {fp fp' gp : List Addr} {σ : St} {ρ : En} {d : D} {v : V}
/-- a callee without a borrowed name is back: its result beside ours -/
theorem back_plain {o : Bool} (s : StaW K w F H σ ρ fp) (t : Tr F H [] F' H' gp) (r : Sta K β w.lk F' H' [some v] [some (mkS o d)] gp) :
    StaW K w F' H' (some v :: σ) (some (mkS o d) :: ρ) (gp ++ fp) ∧ Tr F H fp F' H' (gp ++ fp) := by
  obtain ⟨s1, dj⟩ := s.frame t (fun a _ h => by cases h) r.ex r.lock
  have tt : Tr F H fp F' H' (gp ++ fp) := by
    refine ⟨t.ex, fun a q h n => t.keep a q h (by simp), fun a q => ?_⟩
    rcases q with q | q
    · rcases List.mem_append.mp q with q | q
      · exact (t.new a (.inl q)).imp (fun z => by cases z) id
      · exact .inl q
    · exact (t.new a (.inr q)).imp (fun z => by cases z) id
  cases o with
  | false =>
    cases hs : r.sl with
    | fr z tl =>
      cases tl with
      | nil => exact ⟨⟨s1.ex, .fr z s1.sl, s1.nd, s1.own, s1.lock⟩, tt⟩
  | true =>
    cases hs : r.sl with
    | ow hw hz tl =>
      cases tl with
      | nil =>
        refine ⟨⟨s1.ex, .ow hw hz s1.sl, List.nodup_cons.mpr ⟨fun m => dj _ m (by simp), s1.nd⟩, fun a ha => ?_, s1.lock⟩, tt⟩
        rcases List.mem_cons.mp ha with rfl | ha
        · exact r.own _ (by simp)
        · exact s1.own a ha
/-- a callee with a borrowed name is back -/
theorem back_lent {o : Bool} {i : Nat} {a : Addr} {d' : D} (s : StaW K w F H σ ρ fp) (ha : a ∈ fp)
    (ret : ∀ F' H' d', Tr F H [a] F' H' [a] → Same F' H' → (w.lk = false → NoLock F') → Sl K (.ref a) F' H' [some (.ref a)] [some (.b d')] [a] → F' a = none → StaW K w F' H' σ (chg i d' ρ) fp ∧ Tr F H fp F' H' fp)
    (t : Tr F H [a] F' H' gp) (r : Sta K (.ref a) w.lk F' H' [some v, some (.ref a)] [some (mkS o d), some (.b d')] gp) :
    ∃ fp2, StaW K w F' H' (some v :: σ) (some (mkS o d) :: chg i d' ρ) fp2 ∧ Tr F H fp F' H' fp2 := by
  cases o with
  | false =>
    cases hs : r.sl with
    | fr z tl =>
      cases tl with
      | bo e hw hz tl =>
        cases e
        cases tl with
        | nil =>
          obtain ⟨s2, t2⟩ := ret F' H' _ t r.ex r.lock (.bo rfl hw hz .nil) (r.own a (by simp))
          exact ⟨fp, ⟨s2.ex, .fr z s2.sl, s2.nd, s2.own, s2.lock⟩, t2⟩
  | true =>
    cases hs : r.sl with
    | ow hw1 hz1 tl =>
      rename_i b k1 vs1 ds1 gp2
      cases tl with
      | bo e hw hz tl =>
        cases e
        cases tl with
        | nil =>
          have nd := List.nodup_cons.mp r.nd
          obtain ⟨s2, t2⟩ := ret F' H' _ (t.sub fun c hc => List.mem_cons_of_mem _ hc) r.ex r.lock (.bo rfl hw hz .nil) (r.own a (by simp))
          have nb : b ∉ fp := fun hb => by
            rcases t.new b (.inl List.mem_cons_self) with q | q
            · exact nd.1 q
            · obtain ⟨ob, e2⟩ := s.sl.fpH b hb
              rw [q] at e2; cases e2
          refine ⟨b :: fp, ⟨s2.ex, .ow hw1 hz1 s2.sl, List.nodup_cons.mpr ⟨nb, s2.nd⟩, fun c hc => ?_, s2.lock⟩, ⟨t2.ex, t2.keep, fun c q => ?_⟩⟩
          · rcases List.mem_cons.mp hc with rfl | hc
            · exact r.own _ List.mem_cons_self
            · exact s2.own c hc
          · rcases q with q | q
            · rcases List.mem_cons.mp q with rfl | q
              · rcases t.new _ (.inl List.mem_cons_self) with q | q
                · exact absurd q nd.1
                · exact .inr q
              · exact .inl q
            · exact t2.new c (.inr q)
/-- frozen, if it is ours -/
theorem toF {o : Bool} {Q : VK} {ρ' : En} (s : StaW K w F' H' (some v :: σ) (some (mkS o d) :: ρ') fp') (t : Tr F H fp F' H' fp') (h : ∀ F' H' fp', Tr F H fp F' H' fp' → nF K w σ Q d ρ' F' H' fp') : Q v H' := by
  cases o with
  | false =>
    cases hs : s.sl with
    | fr z tl => exact h F' H' fp' t v ⟨s.ex, tl, s.nd, s.own, s.lock⟩ z
  | true =>
    cases hs : s.sl with
    | ow hw hz tl =>
      obtain ⟨F2, s2, t2, z⟩ := Sta.freeze s hw hz tl
      exact h F2 H' _ (t.trans t2) _ s2 z
end
section
variable {X : Cx} {w : Wd} {e : Expr} {es : List Expr} {f : En → R (List D)} {x y : Str} {p p2 pos : Pos} {fs : List D → FO} {k np : Nat} {lk0 : Bool}
theorem call_plain {K : PySem.W.Frag} {Q : VK} {σ : St} {F H : Hp} {fp : List Addr} {ρ1 : En} {vs : List V} {ds : List D} {N : VK → D → En → Hp → Hp → List Addr → Prop} {r : FO → R D} (nb : ∀ ds, ds.length ≠ np → fs ds = .bad) (hlk : w.lk = true → lk0 = true)
    (s1 : StaW K w F H σ ρ1 fp) (z : Fzs K F vs ds) (nbad : fs ds ≠ .bad) (h : PstF K w.cls false w.lk w.β F H [] (fs ds) Q E0) : spF K w.cls false lk0 np fs vs H Q E0 := by
  refine ⟨?_, F, [], ds, w.lk, w.β, hlk, (fun q => nomatch q), ?_, h⟩
  · rw [z.length]
    exact Decidable.byContradiction fun q => nbad (nb ds q)
  · rw [argS_false]
    exact ⟨s1.ex, fzs_args z, List.nodup_nil, fun a h => (by cases h), s1.lock⟩
theorem d_call (G : Def X.prog X.w X.K X.mg X.base CX0 k x w.cls false lk0 np fs) (hlk : w.lk = true → lk0 = true) (hr : Room k X.A) (hg : Gl X x) (ha : PA X (e :: es) (cA X.K w f)) (hdb : (x == ("__debug__" : Str)) = false := by decide)
    (he : starEach (e :: es) X.env = (false, eval e X.env) :: starEach es X.env := by rfl) (hpl : (backTo pos (starEach es X.env)).any (·.1) = false := by rfl) : PE X (.Call (.Name x p) (e :: es) [] pos) (cF X.K w (sCall fs f)) := by
  obtain ⟨⟨fa, fd, ps, F0, hm, hk, hb⟩, nb⟩ := G
  refine peI (pe_call F0 hr hg hm hk hb .nil pass0 ha hdb he hpl) fun σ H Q h => ?_
  obtain ⟨F, ρ, fp, s, h⟩ := h
  refine ⟨F, ρ, fp, s, h.bnd fun ds ρ1 F1 H1 fp1 t1 h1 => fun vs s1 z => ?_⟩
  show spF X.K w.cls false lk0 np fs (vs ++ []) H1 Q E0
  rw [List.append_nil]
  cases q : fs ds with
  | bad => simp only [q] at h1; exact h1.elim
  | exc c x o => simp only [q] at h1; exact h1.elim
  | val o d out =>
    simp only [q] at h1
    refine call_plain (N := fun _ _ _ _ _ _ => True) (r := fun _ => .bad) nb hlk s1 z (by rw [q]; exact fun z => nomatch z) ?_
    rw [q]
    intro v F' H' gp t r
    cases out with
    | none =>
      obtain ⟨s2, t2⟩ := back_plain s1 t r
      exact toF s2 t2 h1
    | some d' => have := r.sl.len; simp [outσ, outρ] at this
theorem d_callO (G : Def X.prog X.w X.K X.mg X.base CX0 k x w.cls false lk0 np fs) (hlk : w.lk = true → lk0 = true) (hr : Room k X.A) (hg : Gl X x) (ha : PA X (e :: es) (cA X.K w f)) (hdb : (x == ("__debug__" : Str)) = false := by decide)
    (he : starEach (e :: es) X.env = (false, eval e X.env) :: starEach es X.env := by rfl) (hpl : (backTo pos (starEach es X.env)).any (·.1) = false := by rfl) : PE X (.Call (.Name x p) (e :: es) [] pos) (cO X.K w (sCallO fs f)) := by
  obtain ⟨⟨fa, fd, ps, F0, hm, hk, hb⟩, nb⟩ := G
  refine peI (pe_call F0 hr hg hm hk hb .nil pass0 ha hdb he hpl) fun σ H Q h => ?_
  obtain ⟨F, ρ, fp, s, h⟩ := h
  refine ⟨F, ρ, fp, s, h.bnd fun ds ρ1 F1 H1 fp1 t1 h1 => fun vs s1 z => ?_⟩
  show spF X.K w.cls false lk0 np fs (vs ++ []) H1 Q E0
  rw [List.append_nil]
  cases q : fs ds with
  | bad => simp only [q] at h1; exact h1.elim
  | exc c x o => simp only [q] at h1; exact h1.elim
  | val o d out =>
    cases o with
    | false => simp only [q] at h1; exact h1.elim
    | true =>
      simp only [q] at h1
      refine call_plain (N := fun _ _ _ _ _ _ => True) (r := fun _ => .bad) nb hlk s1 z (by rw [q]; exact fun z => nomatch z) ?_
      rw [q]
      intro v F' H' gp t r
      cases out with
      | none =>
        obtain ⟨s2, t2⟩ := back_plain s1 t r
        exact h1 F' H' _ t2 v s2
      | some d' => have := r.sl.len; simp [outσ, outρ] at this
theorem call_lent {K : PySem.W.Frag} {Q : VK} {σ : St} {F H : Hp} {fp : List Addr} {ρ1 : En} {vs : List V} {d0 : D} {ds : List D} {a : Addr} (nb : ∀ ds, ds.length ≠ np → fs ds = .bad) (hlk : w.lk = true → lk0 = true)
    (s1 : StaW K w F H σ ρ1 fp) (na : F a = none) (sl : Sl K (.ref a) F H [some (.ref a)] [some (.b d0)] [a]) (z : Fzs K F vs ds) (nbad : fs (d0 :: ds) ≠ .bad) (h : PstF K w.cls true w.lk (.ref a) F H [a] (fs (d0 :: ds)) Q E0) : spF K w.cls true lk0 np fs (.ref a :: vs) H Q E0 := by
  refine ⟨?_, F, [a], d0 :: ds, w.lk, .ref a, hlk, fun _ => rfl, ?_, h⟩
  · have : (V.ref a :: vs).length = (d0 :: ds).length := by simp [z.length]
    rw [this]
    exact Decidable.byContradiction fun q => nbad (nb _ q)
  · refine ⟨s1.ex, ?_, by simp, fun b hb => by rw [List.mem_singleton.mp hb]; exact na, s1.lock⟩
    cases sl with
    | bo e hw hz _ => exact .bo e hw hz (fzs_args z)
theorem d_callI (i : Nat) (G : Def X.prog X.w X.K X.mg X.base CX0 k x w.cls true lk0 np fs) (hlk : w.lk = true → lk0 = true) (hr : Room k X.A) (hg : Gl X x) (ha : PA X es (cA X.K w f))
    (hN : X.N[i]? = some y := by rfl) (hv : Vis X.env.scope y := by first | exact Or.inl rfl | exact Or.inr (Or.inl rfl) | exact Or.inr (Or.inr rfl)) (hd : (y == ("__debug__" : Str)) = false := by decide) (hcd : (y == ("__classdict__" : Str)) = false := by decide) (hdb : (x == ("__debug__" : Str)) = false := by decide)
    (he : starEach ((.Name y p2) :: es) X.env = (false, eval (.Name y p2) X.env) :: starEach es X.env := by rfl) (hpl : (backTo pos (starEach es X.env)).any (·.1) = false := by rfl) : PE X (.Call (.Name x p) (.Name y p2 :: es) [] pos) (cF X.K w (sCallI i fs f)) := by
  obtain ⟨⟨fa, fd, ps, F0, hm, hk, hb⟩, nb⟩ := G
  refine peI (pe_call F0 hr hg hm hk hb .nil pass0 (pa_cons (pe_var hN hv hd hcd) ha he) hdb he hpl) fun σ H Q h => ?_
  obtain ⟨F, ρ, fp, s, h⟩ := h
  cases e0 : ownD i ρ with
  | none => unfold sCallI at h; rw [e0] at h; exact h.elim
  | some d0 =>
    have h : Pst X.K w F H fp σ (bnd (f ρ) fun ds ρ1 => match ownD i ρ1 with
      | some d0 => (match fs (d0 :: ds) with
        | .val _ d (some d') => .ok d (chg i d' ρ1)
        | _ => .bad)
      | none => .bad) (nF X.K w σ Q) := by unfold sCallI at h; rw [e0] at h; exact h
    obtain ⟨a, ev, _, _, _, _⟩ := s.lend e0
    refine ⟨.ref a, ev, F, ρ, fp, s, h.bnd fun ds ρ1 F1 H1 fp1 t1 h1 => fun vs s1 z => ?_⟩
    show spF X.K w.cls true lk0 np fs ((.ref a :: vs) ++ []) H1 Q E0
    rw [List.append_nil]
    cases e1 : ownD i ρ1 with
    | none => simp only [e1] at h1; exact h1.elim
    | some d1 =>
      simp only [e1] at h1
      obtain ⟨b, ev', hb', nb', sl, ret⟩ := s1.lend e1
      rw [ev] at ev'
      cases ev'
      cases q : fs (d1 :: ds) with
      | bad => simp only [q] at h1; exact h1.elim
      | exc c x o => simp only [q] at h1; exact h1.elim
      | val o d out =>
        cases out with
        | none => simp only [q] at h1; exact h1.elim
        | some d' =>
          simp only [q] at h1
          refine call_lent nb hlk s1 nb' sl z (by rw [q]; exact fun z => nomatch z) ?_
          rw [q]
          intro v F' H' gp t r
          obtain ⟨fp2, s2, t2⟩ := back_lent s1 hb' ret t r
          exact toF s2 t2 h1
theorem d_callIO (i : Nat) (G : Def X.prog X.w X.K X.mg X.base CX0 k x w.cls true lk0 np fs) (hlk : w.lk = true → lk0 = true) (hr : Room k X.A) (hg : Gl X x) (ha : PA X es (cA X.K w f))
    (hN : X.N[i]? = some y := by rfl) (hv : Vis X.env.scope y := by first | exact Or.inl rfl | exact Or.inr (Or.inl rfl) | exact Or.inr (Or.inr rfl)) (hd : (y == ("__debug__" : Str)) = false := by decide) (hcd : (y == ("__classdict__" : Str)) = false := by decide) (hdb : (x == ("__debug__" : Str)) = false := by decide)
    (he : starEach ((.Name y p2) :: es) X.env = (false, eval (.Name y p2) X.env) :: starEach es X.env := by rfl) (hpl : (backTo pos (starEach es X.env)).any (·.1) = false := by rfl) : PE X (.Call (.Name x p) (.Name y p2 :: es) [] pos) (cO X.K w (sCallIO i fs f)) := by
  obtain ⟨⟨fa, fd, ps, F0, hm, hk, hb⟩, nb⟩ := G
  refine peI (pe_call F0 hr hg hm hk hb .nil pass0 (pa_cons (pe_var hN hv hd hcd) ha he) hdb he hpl) fun σ H Q h => ?_
  obtain ⟨F, ρ, fp, s, h⟩ := h
  cases e0 : ownD i ρ with
  | none => unfold sCallIO at h; rw [e0] at h; exact h.elim
  | some d0 =>
    have h : Pst X.K w F H fp σ (bnd (f ρ) fun ds ρ1 => match ownD i ρ1 with
      | some d0 => (match fs (d0 :: ds) with
        | .val true d (some d') => .ok d (chg i d' ρ1)
        | _ => .bad)
      | none => .bad) (nO X.K w σ Q) := by unfold sCallIO at h; rw [e0] at h; exact h
    obtain ⟨a, ev, _, _, _, _⟩ := s.lend e0
    refine ⟨.ref a, ev, F, ρ, fp, s, h.bnd fun ds ρ1 F1 H1 fp1 t1 h1 => fun vs s1 z => ?_⟩
    show spF X.K w.cls true lk0 np fs ((.ref a :: vs) ++ []) H1 Q E0
    rw [List.append_nil]
    cases e1 : ownD i ρ1 with
    | none => simp only [e1] at h1; exact h1.elim
    | some d1 =>
      simp only [e1] at h1
      obtain ⟨b, ev', hb', nb', sl, ret⟩ := s1.lend e1
      rw [ev] at ev'
      cases ev'
      cases q : fs (d1 :: ds) with
      | bad => simp only [q] at h1; exact h1.elim
      | exc c x o => simp only [q] at h1; exact h1.elim
      | val o d out =>
        cases o with
        | false => simp only [q] at h1; exact h1.elim
        | true =>
          cases out with
          | none => simp only [q] at h1; exact h1.elim
          | some d' =>
            simp only [q] at h1
            refine call_lent nb hlk s1 nb' sl z (by rw [q]; exact fun z => nomatch z) ?_
            rw [q]
            intro v F' H' gp t r
            obtain ⟨fp2, s2, t2⟩ := back_lent s1 hb' ret t r
            exact h1 F' H' fp2 t2 v s2
end
end Y

set_option Elab.async false
set_option linter.all false
set_option maxRecDepth 100000
set_option maxHeartbeats 2000000
/-! sorted(..). -/
namespace Y
open PySem PySem.Spec PyProof.Rows L2 PySem.W

section
variable {P : Program} {w : World} {A : Around} {E : Value → Shared → Prop} {s : Shared}
theorem collect_tup {l : Addr} {vs : List Value} {Q : List Value → Shared → Prop} (hl : IsTup s.heap l vs.toArray)
    (h : Q vs { s with heap := (s.heap.push (seqObj "list" #[] 0)).update s.heap.objs.size (Obj.mapSeq (· ++ vs.toArray)) }) (hsz : vs.length ≤ sizeLine) :
    wpAny (model P w) A (collect (.ref l)) Q E s := by
  obtain ⟨o, ho, hc, n, hd⟩ := id hl
  unfold collect
  refine wpAny_bind (wpAny_runValue (codeAny_builtin entry_proto_collect' ?_))
  show wpAny _ _ (do again (.builtin "list.__iadd__" ⟨[← newList [], .ref l], []⟩)) _ _ s
  refine wpAny_bind (wpAny_newList (wpAny_pure ⟨Code.quiet_builtin _ (by decide +kernel), codeAny_builtin entry_list_iadd' ?_⟩))
  show wpAny _ _ (Builtin.List.listExtendWith (.ref s.heap.objs.size) (.ref l) (.ref s.heap.objs.size)) _ _ { s with heap := s.heap.push (seqObj "list" #[] 0) }
  unfold Builtin.List.listExtendWith
  have ho' : (s.heap.push (seqObj "list" #[] 0)).get? l = some o := Heap.get?_push_of_some _ ho
  refine wpAny_bind (wpAny_typeOf (T := "tuple") ⟨o, ho', hc⟩ ?_)
  have ht : (Value.type "tuple" == Value.type "tuple") = true := by rfl
  rw [if_pos (by rw [ht]; simp)]
  refine wpAny_bind (listItems_at ho' hd ?_)
  refine wpAny_bind (listItems_at (xs := #[]) (n := 0) (Heap.get?_push_size _ rfl) rfl ?_)
  rw [if_neg (by simp)]
  refine wpAny_bind (listUpdate_at (xs := #[]) (n := 0) (Heap.get?_push_size _ rfl) rfl ?_ (Nat.zero_le _) (by show (#[] ++ vs.toArray).size ≤ sizeLine + 1; simp only [Array.size_append, List.size_toArray, List.length_nil]; omega))
  refine wpAny_pure ?_
  show wpAny (model P w) A (do
      let o ← load s.heap.objs.size
      match o.data with
      | .seq xs _ => pure xs.toList
      | _ => unsupported "internal:collect") Q E { s with heap := (s.heap.push (seqObj "list" #[] 0)).update s.heap.objs.size (Obj.mapSeq (· ++ vs.toArray)) }
  refine wpAny_bind (wpAny_load (get?_update_seq (Heap.get?_push_size _ rfl) _) ?_)
  show wpAny _ _ (pure ((#[] : Array Value) ++ vs.toArray).toList) Q E _
  rw [show ((#[] : Array Value) ++ vs.toArray).toList = vs by simp]
  exact wpAny_pure h
end

abbrev Each (us : List Value) (bs : List (V × D)) : Prop := EachIs (fun u (b : V × D) => RelV b.1 u) us bs
abbrev pyb (b : V × D) : PyData := py b.2
theorem each_vals : ∀ {us : List Value} {bs : List (V × D)}, Each us bs → Vals (bs.map (·.1)) us
  | _, _, .nil => .nil
  | _, _, .cons h t => .cons h (each_vals t)
theorem vals_each : ∀ {vs : List V} {ds : List D} {us : List Value}, Vals vs us → vs.length = ds.length → Each us (vs.zip ds)
  | [], [], _, .nil, _ => .nil
  | v :: vs, d :: ds, _, .cons h t, e => .cons h (vals_each t (by simpa using e))
  | [], _ :: _, _, _, e => by simp at e
  | _ :: _, [], _, _, e => by simp at e
theorem each_reads {h : Heap} : ∀ {us : List Value} {bs : List (V × D)}, Each us bs → (∀ u b, b ∈ bs → RelV b.1 u → ∃ as, Reads h u (pyb b) as) → EachIs (fun v b => ∃ as, Reads h v (pyb b) as) us bs
  | _, _, .nil, _ => .nil
  | _, _, .cons h t, k => .cons (k _ _ List.mem_cons_self h) (each_reads t fun u b m => k u b (List.mem_cons_of_mem _ m))

/-- the items may be sorted -/
structure SortOk (K : PySem.W.Frag) (H : Hp) (bs : List (V × D)) : Prop where
  len : bs.length ≤ sizeLine
  al : AllAlike (bs.map pyb)
  so : PySem.W.Sortable (bs.map pyb)
  dp : ∀ b ∈ bs, Dp K H b.1 (pyb b) ∧ (pyb b).depth ≤ 64
theorem sorted_gath {X : Cx} {pins : List (Addr × Obj)} {σ : L2.St} {H : Hp} {s : Shared} {u : Value} {Q : VK} {E : Value → Shared → Prop} {P : List (V × D) → Prop} (hu : X.A.units + 69 < cLine)
    (G : ∀ (Q' : List Value → Shared → Prop) (E' : Value → Shared → Prop), (∀ s' us bs, Inv X pins σ H s' → Each us bs → P bs → Q' us s') → wpAny (model X.prog X.w) X.A.in1 (collect u) Q' E' s)
    (hP : ∀ bs, P bs → SortOk X.K H bs)
    (q : ∀ bs p, P bs → H p = none → Q (.ref p) (upd H p (.lst ((bs.mergeSort (dataLe false pyb)).map (·.1))))) :
    wpAny (model X.prog X.w) X.A (call (.builtin "sorted") [u]) (fun v s' => ∃ x H', Inv X pins σ H' s' ∧ RelV x v ∧ Q x H') E s := by
  refine Calls.call_function_entry kind_sorted plain_sorted entry_sorted (args_sorted1 _) ?_
  unfold Builtin.«sorted»
  refine wpAny_bind (m := checkCount "sorted" 1 1 _) (wpAny_pure ?_)
  refine wpAny_bind (G _ _ fun s1 us bs I1 e pb => ?_)
  have ok := hP bs pb
  have hl : us.length ≤ sizeLine := by rw [e.length]; exact ok.len
  refine wpAny_bind (wpAny_newList ?_ hl)
  have hoL : (s1.heap.push (seqObj "list" us.toArray 0)).get? s1.heap.objs.size = some (seqObj "list" us.toArray 0) := Heap.get?_push_size _ rfl
  show wpAny _ _ _ _ _ { s1 with heap := s1.heap.push (seqObj "list" us.toArray 0) }
  have er : EachIs (fun v b => ∃ as, Reads (sortingHeap (s1.heap.push (seqObj "list" us.toArray 0)) s1.heap.objs.size us) v (pyb b) as) us bs := each_reads e fun u b m r => by
    obtain ⟨as, h⟩ := Dp.reads I1 (pyb b) b.1 u (ok.dp b m).1 r
    exact ⟨as, PyProof.Rows.Reads.keeps (fun b o h => sortingHeap_old (Nat.ne_of_lt (Heap.lt_size h)) (Heap.get?_push_of_some _ h)) h⟩
  have S : SortsAt X.prog X.w X.A.in1.in1 { s1 with heap := sortingHeap (s1.heap.push (seqObj "list" us.toArray 0)) s1.heap.objs.size us } (dataKind (sortingHeap (s1.heap.push (seqObj "list" us.toArray 0)) s1.heap.objs.size us) (bs.map pyb)) us :=
    SortsAt.data (s := { s1 with heap := sortingHeap (s1.heap.push (seqObj "list" us.toArray 0)) s1.heap.objs.size us }) (each_map (R := fun v d => ∃ as, Reads (sortingHeap (s1.heap.push (seqObj "list" us.toArray 0)) s1.heap.objs.size us) v d as) pyb er) ok.al ok.so fun d hd => by
      obtain ⟨b, hb, rfl⟩ := List.mem_map.mp hd
      have := (ok.dp b hb).2
      show X.A.in1.in1.units + _ < _
      have : X.A.in1.in1.units = X.A.units + 1 + 1 := rfl
      omega
  refine wpAny_bind (wpAny_holding (wpAny_call_entry slot_list_sort ⟨_, hoL, rfl⟩ entry_list_sort
    (list_sort_vals (s := { s1 with heap := s1.heap.push (seqObj "list" us.toArray 0) }) hoL S hl ⟨_, rfl, ?_⟩) (args_list_sort _)))
  have out := sortVals_data (R := fun u (b : V × D) => RelV b.1 u) false e er ok.al
  obtain ⟨c, hc⟩ := sortedHeap_at (vs := us) (out := (sortVals (dataKind (sortingHeap (s1.heap.push (seqObj "list" us.toArray 0)) s1.heap.objs.size us) (bs.map pyb)) false us us).toArray) hoL
  refine wpAny_pure ⟨_, rfl, .ref s1.heap.objs.size, upd H s1.heap.objs.size (.lst ((bs.mergeSort (dataLe false pyb)).map (·.1))), I1.laid (t' := s1.toks) (fun b u e => ?_) (Nat.le_refl _)
    (show ObjOk X.prog X.w _ _ _ (.lst _) from ⟨?_, _, c, each_vals out, hc⟩), rfl, q bs _ pb (I1.hok.fresh (Nat.le_refl _))⟩
  · have hb : b < s1.heap.objs.size := Heap.lt_size e
    rw [sortedHeap_old (Nat.ne_of_lt hb) (by rw [size_push']; exact Nat.lt_succ_of_lt hb)]
    exact Heap.get?_push_of_some _ e
  · rw [List.length_map, List.length_mergeSort]; exact ok.len

/-! ### on data -/
def leD (a b : D) : Bool := dataLe false py a b
def tupC : D → Bool
  | .nd .tup (_ :: _) => true
  | .nd .ktp (_ :: _) => true
  | _ => false
def noTup : D → Bool
  | .non => false
  | .ty _ => false
  | .nd .lst _ => true
  | .nd .scr _ => true
  | .nd _ _ => false
  | _ => true
def likeD (ds : List D) : Bool := (ds.all fun a => ds.all fun b => alike (py a) (py b)) && (ds.all dok && (ds.all tupC || ds.all noTup))
def sortD (ds : List D) : Option D := if likeD ds = true ∧ ds.length ≤ sizeLine then some (.nd .lst (ds.mergeSort leD)) else none
def dSorted : D → Option D
  | .nd .lst ds => sortD ds
  | .nd .tup ds => sortD ds
  | .nd (.dK ks) _ => sortD (ks.map kD)
  | _ => none
theorem sort_snd (bs : List (V × D)) : (bs.mergeSort (dataLe false pyb)).map (·.2) = (bs.map (·.2)).mergeSort leD := sort_maps (r := dataLe false pyb) (s := leD) (fun b : V × D => b.2) fun _ _ _ _ => rfl
theorem fzs_zip {K : PySem.W.Frag} {F : Hp} : ∀ {vs : List V} {ds : List D}, Fzs K F vs ds → ∀ b ∈ vs.zip ds, Fz K F b.1 b.2
  | _, _, .nil, b, h => by simp at h
  | _, _, .cons z t, b, h => by
    rcases List.mem_cons.mp (by simpa using h) with rfl | h
    · exact z
    · exact fzs_zip t b h
theorem fzs_of {K : PySem.W.Frag} {F : Hp} : ∀ {bs : List (V × D)}, (∀ b ∈ bs, Fz K F b.1 b.2) → Fzs K F (bs.map (·.1)) (bs.map (·.2))
  | [], _ => .nil
  | b :: bs, h => .cons (h b List.mem_cons_self) (fzs_of fun c m => h c (List.mem_cons_of_mem _ m))
theorem fzs_sort {K : PySem.W.Frag} {F : Hp} {bs : List (V × D)} (h : ∀ b ∈ bs, Fz K F b.1 b.2) : Fzs K F ((bs.mergeSort (dataLe false pyb)).map (·.1)) ((bs.map (·.2)).mergeSort leD) := by
  rw [← sort_snd]
  exact fzs_of fun b m => h b ((List.mergeSort_perm bs _).mem_iff.mp m)
theorem okD_dok {d : D} (h : dok d = true) : okD d = true ∧ (py d).depth ≤ 64 := by simpa [dok] using h
theorem sortOk {K : PySem.W.Frag} {F H : Hp} (ex : Same F H) {bs : List (V × D)} (h : ∀ b ∈ bs, Fz K F b.1 b.2) (l : likeD (bs.map (·.2)) = true) (hl : bs.length ≤ sizeLine) : SortOk K H bs := by
  unfold likeD at l
  simp only [Bool.and_eq_true, Bool.or_eq_true, List.all_eq_true, List.mem_map] at l
  obtain ⟨l1, l2, l3⟩ := l
  refine ⟨hl, ?_, ?_, fun b m => ?_⟩
  · intro d hd d' hd'
    obtain ⟨b, m, rfl⟩ := List.mem_map.mp hd
    obtain ⟨b', m', rfl⟩ := List.mem_map.mp hd'
    exact l1 _ ⟨b, m, rfl⟩ _ ⟨b', m', rfl⟩
  · rcases l3 with l3 | l3
    · refine .inl fun d hd => ?_
      obtain ⟨b, m, rfl⟩ := List.mem_map.mp hd
      have q := l3 b.2 ⟨b, m, rfl⟩
      unfold tupC at q
      split at q
      · rename_i e; exact ⟨_, _, by unfold pyb; rw [e]; simp only [py, pys]; rfl⟩
      · rename_i e; exact ⟨_, _, by unfold pyb; rw [e]; simp only [py, pys]; rfl⟩
      · cases q
    · refine .inr fun d hd => ?_
      obtain ⟨b, m, rfl⟩ := List.mem_map.mp hd
      have q := l3 b.2 ⟨b, m, rfl⟩
      unfold pyb
      cases e : b.2 with
      | non => rw [e] at q; cases q
      | ty n => rw [e] at q; cases q
      | bl b => simp [py]
      | int b => simp [py]
      | str b => simp [py]
      | nd k xs =>
        rw [e] at q
        cases k <;> first | (cases q; done) | simp [py]
  · obtain ⟨o1, o2⟩ := okD_dok (l2 b.2 ⟨b, m, rfl⟩)
    exact ⟨((h b m).mono ex).dp o1, o2⟩
def rSorted (K : PySem.W.Frag) : List V → Hp → VK → Prop := fun xs H Q => ∃ a bs, xs = [.ref a] ∧ (SqL K H a (bs.map (·.1)) ∨ (SqT K H a (bs.map (·.1)) ∨ ∃ kvs, Rd H a (.dK kvs) ∧ bs.map (·.1) = kvs.map fun kv => kV kv.1)) ∧ SortOk K H bs ∧
  ∀ p, H p = none → Q (.ref p) (upd H p (.lst ((bs.mergeSort (dataLe false pyb)).map (·.1))))
theorem zip_1 : ∀ {vs : List V} {ds : List D}, vs.length = ds.length → (vs.zip ds).map (·.1) = vs
  | [], [], _ => rfl
  | v :: vs, d :: ds, e => by
    show v :: (vs.zip ds).map (·.1) = _
    rw [zip_1 (by simpa using e)]
  | [], _ :: _, e => by simp at e
  | _ :: _, [], e => by simp at e
theorem zip_2 : ∀ {vs : List V} {ds : List D}, vs.length = ds.length → (vs.zip ds).map (·.2) = ds
  | [], [], _ => rfl
  | v :: vs, d :: ds, e => by
    show d :: (vs.zip ds).map (·.2) = _
    rw [zip_2 (by simpa using e)]
  | [], _ :: _, e => by simp at e
  | _ :: _, [], e => by simp at e
theorem unzip_self : ∀ (bs : List (V × D)), (bs.map (·.1)).zip (bs.map (·.2)) = bs
  | [] => rfl
  | b :: bs => by
    show (b.1, b.2) :: (bs.map (·.1)).zip (bs.map (·.2)) = _
    rw [unzip_self bs]
theorem each_of {bs : List (V × D)} {us : List Value} (r : Vals (bs.map (·.1)) us) : Each us bs := by
  have := vals_each (ds := bs.map (·.2)) r (by simp)
  rw [unzip_self] at this
  exact this
theorem cr_sorted {X : Cx} (hc : X.calm = true) (hu : X.A.units + 69 < cLine) : CallR X (.builtin "sorted") (rSorted X.K) := by
  intro pins s σ H xs us Q I r h
  obtain ⟨a, bs, rfl, hs, ok, q⟩ := h
  obtain ⟨u, rfl, rx⟩ := vals1 r
  cases rx
  refine sorted_gath (P := (· = bs)) hu (fun Q' E' g => ?_) (fun b e => e ▸ ok) (fun b p e hp => e ▸ q p hp)
  have grow : ∀ vs : List Value, Inv X pins σ H { s with heap := (s.heap.push (seqObj "list" #[] 0)).update s.heap.objs.size (Obj.mapSeq (· ++ vs.toArray)) } := fun vs => I.kept (t' := s.toks) fun b o e => by
    rw [Heap.get?_update_ne _ _ _ _ (Nat.ne_of_lt (Heap.lt_size e))]
    exact Heap.get?_push_of_some _ e
  rcases hs with hs | hs | ⟨kvs, hs, ek⟩
  · obtain ⟨its, rv, pl, hl⟩ := I.list hs
    exact collect_list pl.isList (g _ _ bs (grow its) (each_of rv) rfl) (by rw [← rv.length]; exact hl)
  · obtain ⟨its, rv, pl, hl⟩ := I.tuple hs
    exact collect_tup pl (g _ _ bs (grow its) (each_of rv) rfl) (by rw [← rv.length]; exact hl)
  · obtain ⟨z, lo, vs, rel, dd⟩ := dk_rd I.hok hs
    obtain ⟨ep, hat⟩ := dd.dictAt
    have h16 : vs.length ≤ sizeLine := by rw [← rel.length]; exact z
    refine PySem.W.kdu_collect (A := X.A.in1) (PySem.W.kdl_dict (knd := mixKind X.prog X.w) (kvs := vs) (ep := ep) lo) (I.ok.hd hc) hat h16 fun h' tk acc hk hacc => ?_
    refine g _ _ bs (I.kept hk) (each_of ?_) rfl
    · rw [ek]
      have hal : acc.toList.length = kvs.length := by rw [Array.length_toList, hacc.1, ← rel.length]
      refine vals_of_at (by rw [List.length_map]; exact hal.symm) fun j x u e1 e2 => ?_
      obtain ⟨k, y, e3, e4⟩ := hacc.2 j u (by rw [← Array.getElem?_toList]; exact e2)
      have e5 : (vs.map (·.1))[j]? = some k := by rw [List.getElem?_map, e3]; rfl
      rw [← rel.keys, List.getElem?_map] at e5
      rw [List.getElem?_map] at e1
      cases e6 : kvs[j]? with
      | none => rw [e6] at e5; cases e5
      | some kv =>
        rw [e6] at e5 e1
        cases e5; cases e1
        exact keyIs_rel e4
theorem fz_key {K : PySem.W.Frag} {F : Hp} {ks : List Key} {k : Key} (h : keysL ks = true) (m : k ∈ ks) : Fz K F (kV k) (kD k) := by
  have q : keyL k = true := List.all_eq_true.mp h k m
  cases k with
  | inl i => exact .int i
  | inr s => exact .str s (by simpa [keyL] using q)
theorem c1_sorted {K : PySem.W.Frag} : C1N K (rSorted K) dSorted := by
  intro F H x dx d Q ex z e new
  have main : ∀ a (bs : List (V × D)), x = .ref a → (SqL K H a (bs.map (·.1)) ∨ (SqT K H a (bs.map (·.1)) ∨ ∃ kvs, Rd H a (.dK kvs) ∧ bs.map (·.1) = kvs.map fun kv => kV kv.1)) → (∀ b ∈ bs, Fz K F b.1 b.2) → sortD (bs.map (·.2)) = some d → rSorted K [x] H Q := by
    intro a bs ea hs hb e
    subst ea
    unfold sortD at e
    split at e
    · rename_i c
      cases e
      have hl : bs.length ≤ sizeLine := by simpa using c.2
      refine ⟨a, bs, rfl, hs, sortOk ex hb c.1 hl, fun p hp => ?_⟩
      exact new p .lst _ _ _ rfl rfl hp (if_pos (by rw [List.length_map, List.length_mergeSort]; exact hl)) (fzs_sort hb)
    · cases e
  have e0 := e
  unfold dSorted at e
  split at e
  · obtain ⟨a, vs, rfl, hi, hs⟩ := z.node ex
    have hl := hs.length
    exact main a (vs.zip _) rfl (.inl (by rw [zip_1 hl]; exact SqL.of hi.1)) (fzs_zip hs) (by rw [zip_2 hl]; exact e)
  · obtain ⟨a, vs, rfl, hi, hs⟩ := z.node ex
    have hl := hs.length
    exact main a (vs.zip _) rfl (.inr (.inl (by rw [zip_1 hl]; exact SqT.of hi.1))) (fzs_zip hs) (by rw [zip_2 hl]; exact e)
  · rename_i ks ds
    obtain ⟨a, vs, rfl, hi, hs⟩ := z.node ex
    refine main a (ks.map fun k => (kV k, kD k)) rfl (.inr (.inr ⟨ks.zip vs, hi.2.1, ?_⟩)) (fun b m => ?_) (by rw [List.map_map]; exact e)
    · rw [List.map_map]
      have : (ks.zip vs).map (fun kv => kV kv.1) = ((ks.zip vs).map (·.1)).map kV := by rw [List.map_map]; rfl
      rw [this, List.map_fst_zip (Nat.le_of_eq hi.1)]
      rfl
    · obtain ⟨k, mk, rfl⟩ := List.mem_map.mp m
      exact fz_key hi.2.2.2 mk
  · cases e
end Y

set_option Elab.async false
set_option linter.all false
set_option maxRecDepth 100000
set_option maxHeartbeats 4000000
/-! Sets of whole numbers and texts, made of a list or a tuple, then sorted or counted. -/
namespace Y
open PySem PySem.Spec PyProof.Rows L2

def inKs (ks : List Key) (k : Key) : Bool := ks.any fun x => decide (x = k)
theorem inKs_iff {ks : List Key} {k : Key} : inKs ks k = true ↔ k ∈ ks := by simp [inKs]
def keyE (e : Int × Value) : Key := match e.2 with | .int k _ => .inl k | .str x _ => .inr x | _ => .inl 0
def GoodK (w : World) (e : Int × Value) : Prop := ∃ k, keyIs k e.2 = true ∧ e.1 = keyH w k
theorem keyE_is {e : Int × Value} {k : Key} (h : keyIs k e.2 = true) : keyE e = k := by
  unfold keyE
  rcases keyIs_shape h with ⟨i, t, rfl, ev⟩ | ⟨x, t, rfl, ev⟩
  · rw [ev]
  · rw [ev]
/-- the set of keys at a -/
def SetG (w : World) (h : Heap) (a : Addr) (S : Key → Bool) (n : Nat) : Prop :=
  ∃ o es ep t, h.get? a = some o ∧ o.ExactSet ∧ o.data = .set es ep t ∧ (∀ e ∈ es.toList, GoodK w e) ∧ (es.toList.map keyE).Nodup ∧ (∀ k, S k = true ↔ k ∈ es.toList.map keyE) ∧
    es.size < scanBound ∧ t.fits es.size = true ∧ es.size = n ∧ Ris t.place.toList ∧ (w.params.followText "set-order" = true ∨ t.led = true)
section
variable {P : Program} {w : World} {h h' : Heap} {a : Addr} {S : Key → Bool} {n : Nat}
theorem SetG.at (R : SetG w h a S n) (k : ∀ o, h.get? a = some o → h'.get? a = some o) : SetG w h' a S n := by
  obtain ⟨o, es, ep, t, ho, r⟩ := R
  exact ⟨o, es, ep, t, k o ho, r⟩
theorem SetG.congr {S' : Key → Bool} (R : SetG w h a S n) (e : ∀ k, S' k = S k) : SetG w h a S' n := by
  have q : S' = S := funext e
  rw [q]; exact R
theorem goodK_elems {l : List (Int × Value)} (g : ∀ e ∈ l, GoodK w e) : ElemsOf (mixKind P w) l := fun e he => by
  obtain ⟨k, h1, h2⟩ := g e he
  refine ⟨⟨k, h1, h2⟩, ?_⟩
  rcases keyIs_shape h1 with ⟨i, t, _, ev⟩ | ⟨x, t, _, ev⟩ <;> rw [ev] <;> rfl
theorem goodK_is {e : Int × Value} (g : GoodK w e) (k : Key) : (mixKind P w).is k e.2 = true ↔ keyE e = k := by
  obtain ⟨k0, h1, _⟩ := g
  rw [keyE_is h1]
  constructor
  · exact fun h2 => (mixKind P w).inj e.2 k0 k h1 h2
  · rintro rfl; exact h1
theorem goodK_mem {l : List (Int × Value)} (g : ∀ e ∈ l, GoodK w e) (k : Key) : k ∈ l.map keyE ↔ ∃ e ∈ l, (mixKind P w).is k e.2 = true := by
  rw [List.mem_map]
  constructor
  · rintro ⟨e, he, q⟩
    exact ⟨e, he, (goodK_is (g e he) k).2 q⟩
  · rintro ⟨e, he, q⟩
    exact ⟨e, he, (goodK_is (g e he) k).1 q⟩
end
section
variable {P : Program} {w : World} {A : Around} {E : Value → Shared → Prop} {s : Shared} {a : Addr} {S : Key → Bool} {n : Nat}
theorem setG_add_tail {g : Bool → Sem Unit} (hg : ∀ (b : Bool) (s₁ : Shared) (Q' : Unit → Shared → Prop), Q' () s₁ → wpAny (model P w) A (g b) Q' E s₁)
    {o : Obj} {es : Array (Int × Value)} {ep : Nat} {t : SetTable} (ho : s.heap.get? a = some o) (hex : o.ExactSet) (hd : o.data = .set es ep t)
    {es1 : Array (Int × Value)} {t2 : SetTable} {S' : Key → Bool} (g1 : ∀ e ∈ es1.toList, GoodK w e) (nd1 : (es1.toList.map keyE).Nodup) (m1 : ∀ k, S' k = true ↔ k ∈ es1.toList.map keyE)
    (hb1 : es1.size < scanBound) (hf2 : t2.fits es1.size = true) (hr : Ris t2.place.toList) (hl : w.params.followText "set-order" = true ∨ t2.led = true) {wasDummy : Bool} {R : Option Bool → Shared → Prop}
    (hR : ∀ h', Heap.SameBut a s.heap h' → SetG w h' a S' es1.size → R (some true) { s with heap := h' }) :
    wpAny (model P w) A (do
        storeSet a es1 t2
        if (!wasDummy && t2.tooFull) = true then do
            g (relayAll t2 es1 (SetTable.grown es1.size)).2.2
            storeSet a (relayAll t2 es1 (SetTable.grown es1.size)).1 (relayAll t2 es1 (SetTable.grown es1.size)).2.1
            pure (some true)
          else pure (some true)) R E s := by
  refine wpAny_bind (wpAny_storeSet_of ho hd ?_ (fits_of_scanBound hb1))
  have ho1 := store_at (es' := es1) (t' := t2) ho hd
  have sb1 := Heap.SameBut.update s.heap a (Obj.putSet es1 t2)
  split
  · have pm := relayAll_perm t2 es1 (SetTable.grown es1.size)
    have hf3 := relayAll_fits t2 es1 (SetTable.grown es1.size)
    have hr3 := relayAll_ris t2 es1 (SetTable.grown es1.size)
    have hl3 := relayAll_led t2 es1 (SetTable.grown es1.size)
    generalize relayAll t2 es1 (SetTable.grown es1.size) = Z at pm hf3 hr3 hl3 ⊢
    obtain ⟨es2, t3, gave⟩ := Z
    dsimp only at pm hf3 hr3 hl3 ⊢
    have hsz : es2.size = es1.size := by rw [← Array.length_toList, pm.length_eq, Array.length_toList]
    have hb2 : es2.size < scanBound := by rw [hsz]; exact hb1
    refine wpAny_bind (hg _ _ _ ?_)
    refine wpAny_bind (wpAny_storeSet_of ho1 rfl ?_ (fits_of_scanBound hb2))
    have ho2 := store_at (es' := es2) (t' := t3) ho1 rfl
    refine wpAny_pure (hR _ (sb1.trans (Heap.SameBut.update _ a _)) ?_)
    exact ⟨_, es2, _, t3, ho2, hex, rfl, fun e he => g1 e (pm.mem_iff.mp he), (pm.map keyE).nodup_iff.mpr nd1, fun k => (m1 k).trans (pm.map keyE).mem_iff.symm, hb2, hf3, hsz, hr3,
      hl.imp id fun z => by rw [hl3]; exact z⟩
  · exact wpAny_pure (hR _ sb1 ⟨_, es1, _, t2, ho1, hex, rfl, g1, nd1, m1, hb1, hf2, rfl, hr, hl⟩)
theorem setG_add_hashed {k : Key} {v : Value} {Q : Bool → Shared → Prop} (R : SetG w s.heap a S n) (hkey : keyIs k v = true) (room : n + 1 < scanBound)
    (hQ : ∀ h', Heap.SameBut a s.heap h' → SetG w h' a (fun j => S j || decide (j = k)) (if S k = true then n else n + 1) → Q (!S k) { s with heap := h' }) :
    wpAny (model P w) A (setAddHashed a v ((mixKind P w).hash k)) Q E s := by
  obtain ⟨o, es, ep, t, ho, hex, hd, g, nd, hm, hb, hf, hn, hr, hl⟩ := R
  have hkey' : (mixKind P w).is k v = true := hkey
  have hsc : v.scannable = true := by rcases keyIs_shape hkey with ⟨i, u, _, rfl⟩ | ⟨x, u, _, rfl⟩ <;> rfl
  have hel : ElemsOf (mixKind P w) es.toList := goodK_elems g
  unfold setAddHashed setAddHashedIn
  refine wpAny_holding (wpAny_bind (wpAny_setState_of ho hd hf ?_))
  dsimp only
  rw [byScan_of hsc hb hel]
  simp only [↓reduceIte]
  unfold setAddByScan
  refine wpAny_bind ?_
  refine wpAny_bind (wpAny_rule ?_)
  refine wpAny_bind (wpAny_setScan_of hkey' ho hd hf hel ?_)
  cases hfi : List.findIdx? (fun e => (mixKind P w).is k e.2) es.toList with
  | some j =>
    dsimp only
    obtain ⟨hj, pj, _⟩ := List.findIdx?_eq_some_iff_getElem.mp hfi
    have hSk : S k = true := (hm k).2 ((goodK_mem (P := P) (w := w) g k).2 ⟨es.toList[j], List.getElem_mem hj, pj⟩)
    refine wpAny_pure (wpAny_pure ?_)
    have q := hQ s.heap (Heap.SameBut.refl a s.heap) ⟨o, es, ep, t, ho, hex, hd, g, nd, fun i => by
      rw [Bool.or_eq_true, decide_eq_true_eq, ← hm i]
      exact ⟨fun z => z.elim id (fun e => e ▸ hSk), .inl⟩, hb, hf, by rw [if_pos hSk]; exact hn, hr, hl⟩
    rw [hSk] at q
    exact q
  | none =>
    dsimp only
    have hnk : k ∉ es.toList.map keyE := fun z => by
      obtain ⟨e, he, q⟩ := (goodK_mem (P := P) (w := w) g k).1 z
      have c := List.findIdx?_eq_none_iff.mp hfi e he
      rw [q] at c
      cases c
    have hSk : S k = false := by
      cases q : S k with
      | false => rfl
      | true => exact absurd ((hm k).1 q) hnk
    have hgw : ∀ (b : Bool) {s₁ : Shared} {Q' : Unit → Shared → Prop}, Q' () s₁ → wpAny (model P w) A (match b with | true => rule "set.scan.the-table-gave-way" | false => pure ()) Q' E s₁ :=
      fun b s₁ Q' q => by cases b <;> first | exact wpAny_pure q | exact wpAny_rule q
    have pm := layNew_perm t es ((mixKind P w).hash k) v
    have hf1 := layNew_fits t es ((mixKind P w).hash k) v
    have hr1 := layNew_ris t es ((mixKind P w).hash k) v hr
    have hl1 := layNew_led t es ((mixKind P w).hash k) v
    generalize layNew t es ((mixKind P w).hash k) v = Z at pm hf1 hr1 hl1 ⊢
    obtain ⟨es1, t1, wasDummy, gave⟩ := Z
    dsimp only at pm hf1 hr1 hl1 ⊢
    rw [Array.toList_push] at pm
    have pc : es1.toList.Perm (((mixKind P w).hash k, v) :: es.toList) := pm.trans (List.perm_append_singleton _ _)
    have pk : (es1.toList.map keyE).Perm (k :: es.toList.map keyE) := by
      have q := pc.map keyE
      rw [List.map_cons, keyE_is (e := ((mixKind P w).hash k, v)) hkey] at q
      exact q
    have g1 : ∀ e ∈ es1.toList, GoodK w e := fun e he => by
      rcases List.mem_cons.mp (pc.mem_iff.mp he) with z | z
      · rw [z]; exact ⟨k, hkey, rfl⟩
      · exact g e z
    have nd1 : (es1.toList.map keyE).Nodup := pk.nodup_iff.mpr (List.nodup_cons.mpr ⟨hnk, nd⟩)
    have m1 : ∀ i, (S i || decide (i = k)) = true ↔ i ∈ es1.toList.map keyE := fun i => by
      rw [Bool.or_eq_true, decide_eq_true_eq, hm i, pk.mem_iff, List.mem_cons]
      exact Or.comm
    have hsz : es1.size = n + 1 := by rw [← Array.length_toList, pc.length_eq, List.length_cons, Array.length_toList, hn]
    have hb1 : es1.size < scanBound := by rw [hsz]; exact room
    have hled : w.params.followText "set-order" = true ∨ t1.led = true := hl.imp id fun z => by rw [hl1]; exact z
    have fin : ∀ h', Heap.SameBut a s.heap h' → SetG w h' a (fun j => S j || decide (j = k)) es1.size → Q true { s with heap := h' } := fun h' sb r => by
      have q := hQ h' sb
      rw [hSk] at q
      rw [hsz] at r
      exact q r
    refine wpAny_bind (hgw _ ?_)
    split
    · refine wpAny_bind ?_
      rw [hashByValue_scannable 8 hsc]
      refine wpAny_pure ?_
      refine setG_add_tail ?_ ho hex hd g1 nd1 m1 hb1 ?_ ?_ ?_ ?_
      · intro b s₁ Q' q; cases b <;> first | exact wpAny_pure q | exact wpAny_rule q
      · first | (split <;> first | exact hf1 | exact SetTable.fits_plain_off hf1) | exact hf1
      · first | (split <;> exact hr1) | exact hr1
      · first | (split <;> exact hled) | exact hled
      · intro h' sb r; dsimp only; exact wpAny_pure (fin h' sb r)
    · refine wpAny_bind (wpAny_pure ?_)
      simp only [↓reduceIte]
      refine setG_add_tail ?_ ho hex hd g1 nd1 m1 hb1 hf1 hr1 hled ?_
      · intro b s₁ Q' q; cases b <;> first | exact wpAny_pure q | exact wpAny_rule q
      · intro h' sb r; dsimp only; exact wpAny_pure (fin h' sb r)
theorem setG_fresh {h : Heap} (w : World) : SetG w (h.push { cls := .type "set", dict := none, data := .set #[] 0 (.fresh 0 0 (!w.params.followText "set-order")) }) h.objs.size (fun _ => false) 0 :=
  ⟨_, #[], 0, _, Heap.get?_push_size _ rfl, ⟨rfl, rfl, rfl⟩, rfl, (fun e he => by simp at he), (by simp), (fun k => by simp), (by decide), (by rfl), rfl, List.Pairwise.nil, by
    show _ ∨ (!w.params.followText "set-order") = true
    cases w.params.followText "set-order"
    · exact .inr rfl
    · exact .inl rfl⟩
end
section
variable {P : Program} {w : World} {A : Around} {R : Result → Shared → Prop} {I : Addr} {fp wr : List Addr} {G : Array GenState → Array GenState → Prop} {n : Nat} {Pv : Nat → Value → Prop} {St : Nat → Shared → Prop}
theorem setG_loop (W : WalksS P w A.in1 I fp wr G n Pv St) (S : Addr) (hSf : S ∉ fp) (ks : List Key) (hl : ks.length = n) (hval : ∀ i v, Pv i v → ∃ k, ks[i]? = some k ∧ keyIs k v = true) (hb : n + 1 < scanBound) :
    ∀ (k i : Nat) (s : Shared), n - i = k → i ≤ n → St i s → (∃ m, m ≤ i ∧ SetG w s.heap S (inKs (ks.take i)) m) →
      (∀ s', Moved (S :: wr) G s s' → (∃ m, m ≤ n ∧ SetG w s'.heap S (inKs ks) m) → R (.ok (.ret .none)) s') →
      codeAny (model P w) A (.builtin "set.update.loop" ⟨[.ref S, .ref I], []⟩) R s := by
  have hSw : S ∉ wr := fun h => hSf (W.sub _ h)
  have hsub : ∀ b ∈ wr, b ∈ S :: wr := fun b hb => List.mem_cons_of_mem _ hb
  intro k
  induction k with
  | zero =>
    intro i s hk hi hst hS hR
    have hin : i = n := by omega
    subst hin
    refine codeAny_builtin F.entry_set_update_loop ?_
    rw [Around.under_plainId F.plain_set_update_loop _]
    show wpAny _ A.in1 (pyNext (.ref I) >>= _) _ _ s
    refine wpAny_bind (W.done s _ _ hst fun s' hm => ?_)
    show wpAny _ A.in1 (ret Value.none) _ _ s'
    obtain ⟨m, h1, h2⟩ := hS
    refine wpAny_pure (hR s' (hm.mono hsub) ⟨m, h1, SetG.at (h := s.heap) ?_ fun o ho => hm.heap S _ hSw ho⟩)
    rw [← hl, List.take_length] at h2
    exact h2
  | succ k ih =>
    intro i s hk hi hst hS hR
    have hlt : i < n := by omega
    refine codeAny_builtin F.entry_set_update_loop ?_
    rw [Around.under_plainId F.plain_set_update_loop _]
    show wpAny _ A.in1 (pyNext (.ref I) >>= _) _ _ s
    refine wpAny_bind (W.item i s _ _ hlt hst fun v s' hP hst' hm => ?_)
    obtain ⟨kk, ek, hkey⟩ := hval i v hP
    obtain ⟨m, hm1, hS⟩ := hS
    have hS' : SetG w s'.heap S (inKs (ks.take i)) m := hS.at fun o ho => hm.heap S _ hSw ho
    show wpAny _ A.in1 (holding [v] (setAdd S v) >>= _) _ _ s'
    refine wpAny_bind (wpAny_holding ?_)
    unfold setAdd
    refine wpAny_holding ?_
    refine wpAny_bind ((mixKind P w).pyHash (k := kk) hkey ?_)
    refine setG_add_hashed (s := { s' with toks := _ }) hS' hkey (by omega) fun h' hsb hS2 => ?_
    have et : ks.take (i + 1) = ks.take i ++ [kk] := by
      rw [List.take_add_one, ek]; rfl
    have hSi : ∃ m, m ≤ i + 1 ∧ SetG w h' S (inKs (ks.take (i + 1))) m := by
      refine ⟨_, ?_, hS2.congr fun j => ?_⟩
      · split <;> omega
      · rw [et]
        unfold inKs
        rw [List.any_append]
        simp only [List.any_cons, List.any_nil, Bool.or_false, eq_comm]
    refine wpAny_pure ⟨plainId_quiet F.plain_set_update_loop _, ih (i + 1) _ (by omega) hlt (W.frame _ s' _ _ hst' (Nat.le_add_right _ _) fun b hb o e => ?_) hSi fun s'' hm'' hS'' => ?_⟩
    · rw [hsb.2 b (fun h : b = S => hSf (by rw [← h]; exact hb))]; exact e
    · refine hR s'' (Moved.trans W.gtrans ((hm.mono hsub).then_heap (Nat.le_add_right _ _) fun b o hb e => ?_) hm'') hS''
      rw [hsb.2 b (fun h : b = S => hb (by rw [h]; exact List.mem_cons_self))]; exact e
end
section
variable {P : Program} {w : World} {A : Around} {E : Value → Shared → Prop} {s : Shared}

set_option maxHeartbeats 6400000 in
theorem call_set_l {l : Addr} {items : Array Value} {ks : List Key} {Q : Value → Shared → Prop} (hh : A.handled = none) (hl : s.heap.IsList l items) (hsz : ks.length = items.size) (hi : ∀ (i : Nat) (v : Value), items[i]? = some v → ∃ k, ks[i]? = some k ∧ keyIs k v = true) (hb : items.size + 1 < scanBound)
    (h : ∀ (h' : Heap) (tk m : Nat), m ≤ items.size → SetG w h' s.heap.objs.size (inKs ks) m → (∀ b o, s.heap.get? b = some o → h'.get? b = some o) → Q (.ref s.heap.objs.size) { s with heap := h', toks := tk }) :
    wpAny (model P w) A (call (.type "set") [.ref l]) Q E s := by
  obtain ⟨c, tl, hmro⟩ := F.called_set.mro
  have hmade := F.called_set.made
  have hsub := F.called_set.sub
  refine wpAny_call (codeAny_of_tree ?_)
  show wpAny _ _ (callAny (.type "set") _) _ _ _
  refine wpAny_pure ⟨Code.quiet_builtin _ (by decide +kernel), codeAny_builtin F.entry_type_call ?_⟩
  rw [Around.under_plain (weight_type_call_type "set" [.ref l] []) rfl]
  have h1 := F.called_set.notType
  have h2 := F.called_set.canCreate
  have hct := F.typeCall_set_1 (.ref l)
  repeat (any_goals (first | assumption | wp_step))
  refine codeAny_mono (code_set_led1 (.ref l) (E := E) (Q₁ := fun obj s₁ => obj = .ref s.heap.objs.size ∧ s₁ = { s with heap := s.heap.push { cls := .type "set", dict := none, data := .set #[] 0 (.fresh 0 0 (!w.params.followText "set-order")) } }) ⟨rfl, rfl⟩) fun r s₁ hr => ?_
  cases r with
  | error e => exact hr
  | ok fl =>
    cases fl with
    | ret obj =>
      obtain ⟨rfl, rfl⟩ := hr
      have hS : (s.heap.push { cls := .type "set", dict := none, data := .set #[] 0 (.fresh 0 0 (!w.params.followText "set-order")) }).get? s.heap.objs.size = some { cls := .type "set", dict := none, data := .set #[] 0 (.fresh 0 0 (!w.params.followText "set-order")) } := Heap.get?_push_size _ rfl
      have hT : Shared.TypeIs { s with heap := s.heap.push { cls := .type "set", dict := none, data := .set #[] 0 (.fresh 0 0 (!w.params.followText "set-order")) } } (.ref s.heap.objs.size) "set" := ⟨_, hS, rfl⟩
      have hli := F.called_set.init.lookup
      have hbi := F.called_set.init.bind (.ref s.heap.objs.size)
      repeat (any_goals (first | assumption | wp_step))
      refine codeAny_mono (codeAny_call_builtin (R := wants (fun r s₂ => r = .none ∧ ∃ h' tk m, s₂ = { s with heap := h', toks := tk } ∧ m ≤ items.size ∧ SetG w h' s.heap.objs.size (inKs ks) m ∧
          (∀ b o, s.heap.get? b = some o → h'.get? b = some o)) E) F.called_set.init.plain F.entry_set_init (check_set_init_1 hT ?_)) fun r₂ s₂ hr₂ => ?_
      · obtain ⟨ol, hol, hcl, nl, hdl⟩ := hl
        obtain ⟨ocls, odict, odata, oslots⟩ := ol
        simp only at hcl hdl
        subst hcl; subst hdl
        have hol' : (s.heap.push { cls := .type "set", dict := none, data := .set #[] 0 (.fresh 0 0 (!w.params.followText "set-order")) }).get? l = some { cls := .type "list", dict := odict, data := .seq items nl, slots := oslots } := Heap.get?_push_of_some _ hol
        have hsls := F.sub_list_set
        have hslf := F.sub_list_frozenset
        have hne : (Value.type "list" == Value.type "dict") = false := by decide
        have hl1 : (s.heap.push { cls := .type "set", dict := none, data := .set #[] 0 (.fresh 0 0 (!w.params.followText "set-order")) }).IsList l items := ⟨_, hol', rfl, nl, rfl⟩
        unfold Builtin.«set.__init__» noKeywords Builtin.Frozenset.updateFrom
        generalize hPI : pyIter = PI
        wp_walk
        subst hPI
        refine wpAny_pyIter_list hl1 ?_
        refine wpAny_bind (wpAny_runValue ?_)
        have hlS : l < s.heap.objs.size := Heap.lt_size hol
        have hh3 : A.in1.in1.in1.handled = none := by simp [hh]
        have hneI : l ≠ (s.heap.push { cls := .type "set", dict := none, data := .set #[] 0 (.fresh 0 0 (!w.params.followText "set-order")) }).objs.size := by
          rw [Heap.size_push]; exact Nat.ne_of_lt (Nat.lt_succ_of_lt hlS)
        have hSf : s.heap.objs.size ∉ [(s.heap.push { cls := .type "set", dict := none, data := .set #[] 0 (.fresh 0 0 (!w.params.followText "set-order")) }).objs.size, l] := by
          rw [Heap.size_push]; simp only [List.mem_cons, List.mem_singleton, List.not_mem_nil, or_false, not_or]
          exact ⟨Nat.ne_of_lt (Nat.lt_succ_self _), Nat.ne_of_gt hlS⟩
        refine setG_loop ((Walks.list hh3 _ l hneI items).toS) s.heap.objs.size hSf ks hsz hi hb (items.size - 0) 0 _ (by omega) (Nat.zero_le _)
          ⟨⟨_, Heap.get?_push_size _ rfl, rfl, rfl⟩, (hl1.push _)⟩ ?hS0 ?hR
        case hS0 =>
          exact ⟨0, Nat.le_refl 0, ((setG_fresh w).at fun o e => Heap.get?_push_of_some _ e).congr fun k => rfl⟩
        case hR =>
          intro s' hm hS'
          obtain ⟨h', g', d', tk', os'⟩ := s'
          have eg : g' = s.gens := hm.gens
          have ed : d' = s.drawn := hm.drawn
          have eo : os' = s.os := hm.os
          subst eg; subst ed; subst eo
          show wpAny _ _ _ _ _ _
          refine wpAny_pure ?_
          show wpAny _ _ (ret Value.none) _ _ _
          obtain ⟨m, hm1, hm2⟩ := hS'
          refine wpAny_pure ⟨rfl, h', tk', m, rfl, hm1, hm2, fun b o e => ?_⟩
          have hb0 : b < s.heap.objs.size := Heap.lt_size e
          have hb1 : b ≠ s.heap.objs.size := Nat.ne_of_lt hb0
          have hb2 : b ≠ (s.heap.push { cls := .type "set", dict := none, data := .set #[] 0 (.fresh 0 0 (!w.params.followText "set-order")) }).objs.size := by
            rw [Heap.size_push]; exact Nat.ne_of_lt (Nat.lt_succ_of_lt hb0)
          exact hm.heap b o (by simp only [List.mem_cons, List.mem_singleton, List.not_mem_nil, or_false, not_or]; exact ⟨hb1, hb2⟩) (Heap.get?_push_of_some _ (Heap.get?_push_of_some _ e))
      · cases r₂ with
        | error e => exact hr₂
        | ok fl₂ =>
          cases fl₂ with
          | ret r =>
            obtain ⟨rfl, h', tk, m, rfl, hm1, hm2, hk'⟩ := hr₂
            repeat (any_goals (first | assumption | wp_step))
            exact h _ _ _ hm1 hm2 hk'
          | _ => exact hr₂.elim
    | _ => exact hr.elim

set_option maxHeartbeats 6400000 in
theorem call_set_t {l : Addr} {items : Array Value} {ks : List Key} {Q : Value → Shared → Prop} (hh : A.handled = none) (hl : s.heap.IsTuple l items) (hsz : ks.length = items.size) (hi : ∀ (i : Nat) (v : Value), items[i]? = some v → ∃ k, ks[i]? = some k ∧ keyIs k v = true) (hb : items.size + 1 < scanBound)
    (h : ∀ (h' : Heap) (tk m : Nat), m ≤ items.size → SetG w h' s.heap.objs.size (inKs ks) m → (∀ b o, s.heap.get? b = some o → h'.get? b = some o) → Q (.ref s.heap.objs.size) { s with heap := h', toks := tk }) :
    wpAny (model P w) A (call (.type "set") [.ref l]) Q E s := by
  obtain ⟨c, tl, hmro⟩ := F.called_set.mro
  have hmade := F.called_set.made
  have hsub := F.called_set.sub
  refine wpAny_call (codeAny_of_tree ?_)
  show wpAny _ _ (callAny (.type "set") _) _ _ _
  refine wpAny_pure ⟨Code.quiet_builtin _ (by decide +kernel), codeAny_builtin F.entry_type_call ?_⟩
  rw [Around.under_plain (weight_type_call_type "set" [.ref l] []) rfl]
  have h1 := F.called_set.notType
  have h2 := F.called_set.canCreate
  have hct := F.typeCall_set_1 (.ref l)
  repeat (any_goals (first | assumption | wp_step))
  refine codeAny_mono (code_set_led1 (.ref l) (E := E) (Q₁ := fun obj s₁ => obj = .ref s.heap.objs.size ∧ s₁ = { s with heap := s.heap.push { cls := .type "set", dict := none, data := .set #[] 0 (.fresh 0 0 (!w.params.followText "set-order")) } }) ⟨rfl, rfl⟩) fun r s₁ hr => ?_
  cases r with
  | error e => exact hr
  | ok fl =>
    cases fl with
    | ret obj =>
      obtain ⟨rfl, rfl⟩ := hr
      have hS : (s.heap.push { cls := .type "set", dict := none, data := .set #[] 0 (.fresh 0 0 (!w.params.followText "set-order")) }).get? s.heap.objs.size = some { cls := .type "set", dict := none, data := .set #[] 0 (.fresh 0 0 (!w.params.followText "set-order")) } := Heap.get?_push_size _ rfl
      have hT : Shared.TypeIs { s with heap := s.heap.push { cls := .type "set", dict := none, data := .set #[] 0 (.fresh 0 0 (!w.params.followText "set-order")) } } (.ref s.heap.objs.size) "set" := ⟨_, hS, rfl⟩
      have hli := F.called_set.init.lookup
      have hbi := F.called_set.init.bind (.ref s.heap.objs.size)
      repeat (any_goals (first | assumption | wp_step))
      refine codeAny_mono (codeAny_call_builtin (R := wants (fun r s₂ => r = .none ∧ ∃ h' tk m, s₂ = { s with heap := h', toks := tk } ∧ m ≤ items.size ∧ SetG w h' s.heap.objs.size (inKs ks) m ∧
          (∀ b o, s.heap.get? b = some o → h'.get? b = some o)) E) F.called_set.init.plain F.entry_set_init (check_set_init_1 hT ?_)) fun r₂ s₂ hr₂ => ?_
      · obtain ⟨ol, hol, hcl, nl, hdl⟩ := hl
        obtain ⟨ocls, odict, odata, oslots⟩ := ol
        simp only at hcl hdl
        subst hcl; subst hdl
        have hol' : (s.heap.push { cls := .type "set", dict := none, data := .set #[] 0 (.fresh 0 0 (!w.params.followText "set-order")) }).get? l = some { cls := .type "tuple", dict := odict, data := .seq items nl, slots := oslots } := Heap.get?_push_of_some _ hol
        have hsls := F.sub_tuple_set
        have hslf := F.sub_tuple_frozenset
        have hne : (Value.type "tuple" == Value.type "dict") = false := by decide
        have hl1 : (s.heap.push { cls := .type "set", dict := none, data := .set #[] 0 (.fresh 0 0 (!w.params.followText "set-order")) }).IsTuple l items := ⟨_, hol', rfl, nl, rfl⟩
        unfold Builtin.«set.__init__» noKeywords Builtin.Frozenset.updateFrom
        generalize hPI : pyIter = PI
        wp_walk
        subst hPI
        refine wpAny_pyIter_tuple hl1 ?_
        refine wpAny_bind (wpAny_runValue ?_)
        have hlS : l < s.heap.objs.size := Heap.lt_size hol
        have hh3 : A.in1.in1.in1.handled = none := by simp [hh]
        have hneI : l ≠ (s.heap.push { cls := .type "set", dict := none, data := .set #[] 0 (.fresh 0 0 (!w.params.followText "set-order")) }).objs.size := by
          rw [Heap.size_push]; exact Nat.ne_of_lt (Nat.lt_succ_of_lt hlS)
        have hSf : s.heap.objs.size ∉ [(s.heap.push { cls := .type "set", dict := none, data := .set #[] 0 (.fresh 0 0 (!w.params.followText "set-order")) }).objs.size, l] := by
          rw [Heap.size_push]; simp only [List.mem_cons, List.mem_singleton, List.not_mem_nil, or_false, not_or]
          exact ⟨Nat.ne_of_lt (Nat.lt_succ_self _), Nat.ne_of_gt hlS⟩
        refine setG_loop ((Walks.tuple hh3 _ l hneI items).toS) s.heap.objs.size hSf ks hsz hi hb (items.size - 0) 0 _ (by omega) (Nat.zero_le _)
          ⟨⟨_, Heap.get?_push_size _ rfl, rfl, rfl⟩, (hl1.push _)⟩ ?hS0 ?hR
        case hS0 =>
          exact ⟨0, Nat.le_refl 0, ((setG_fresh w).at fun o e => Heap.get?_push_of_some _ e).congr fun k => rfl⟩
        case hR =>
          intro s' hm hS'
          obtain ⟨h', g', d', tk', os'⟩ := s'
          have eg : g' = s.gens := hm.gens
          have ed : d' = s.drawn := hm.drawn
          have eo : os' = s.os := hm.os
          subst eg; subst ed; subst eo
          show wpAny _ _ _ _ _ _
          refine wpAny_pure ?_
          show wpAny _ _ (ret Value.none) _ _ _
          obtain ⟨m, hm1, hm2⟩ := hS'
          refine wpAny_pure ⟨rfl, h', tk', m, rfl, hm1, hm2, fun b o e => ?_⟩
          have hb0 : b < s.heap.objs.size := Heap.lt_size e
          have hb1 : b ≠ s.heap.objs.size := Nat.ne_of_lt hb0
          have hb2 : b ≠ (s.heap.push { cls := .type "set", dict := none, data := .set #[] 0 (.fresh 0 0 (!w.params.followText "set-order")) }).objs.size := by
            rw [Heap.size_push]; exact Nat.ne_of_lt (Nat.lt_succ_of_lt hb0)
          exact hm.heap b o (by simp only [List.mem_cons, List.mem_singleton, List.not_mem_nil, or_false, not_or]; exact ⟨hb1, hb2⟩) (Heap.get?_push_of_some _ (Heap.get?_push_of_some _ e))
      · cases r₂ with
        | error e => exact hr₂
        | ok fl₂ =>
          cases fl₂ with
          | ret r =>
            obtain ⟨rfl, h', tk, m, rfl, hm1, hm2, hk'⟩ := hr₂
            repeat (any_goals (first | assumption | wp_step))
            exact h _ _ _ hm1 hm2 hk'
          | _ => exact hr₂.elim
    | _ => exact hr.elim
end
end Y

set_option Elab.async false
set_option linter.all false
set_option maxRecDepth 100000
set_option maxHeartbeats 2000000
/-! sorted(set(..)) by values. -/
namespace Y
open PySem PySem.Spec PyProof.Rows L2 PySem.W
/-! ### plain -/
def dedupK : List Key → List Key
  | [] => []
  | k :: ks => if inKs ks k = true then dedupK ks else k :: dedupK ks
theorem mem_dedup {k : Key} : ∀ {ks : List Key}, k ∈ dedupK ks ↔ k ∈ ks
  | [] => Iff.rfl
  | j :: ks => by
    unfold dedupK
    split
    · rename_i h
      rw [mem_dedup, List.mem_cons]
      exact ⟨.inr, fun z => z.elim (fun e => e ▸ inKs_iff.mp h) id⟩
    · rw [List.mem_cons, List.mem_cons, mem_dedup]
theorem nodup_dedup : ∀ {ks : List Key}, (dedupK ks).Nodup
  | [] => List.nodup_nil
  | j :: ks => by
    unfold dedupK
    split
    · exact nodup_dedup
    · rename_i h
      exact List.nodup_cons.mpr ⟨fun z => h (inKs_iff.mpr (mem_dedup.mp z)), nodup_dedup⟩
theorem length_dedup : ∀ {ks : List Key}, (dedupK ks).length ≤ ks.length
  | [] => Nat.le_refl _
  | j :: ks => by
    unfold dedupK
    have := length_dedup (ks := ks)
    split
    · simp; omega
    · simp; omega
def sortKs (ks : List Key) : D := .nd .lst (((dedupK ks).map kD).mergeSort leD)
theorem leD_int {i j : Int} : leD (.int i) (.int j) = decide (i ≤ j) := by
  show (!dataLt (py (.int j)) (py (.int i))) = _
  simp only [py]
  rw [dataLt_int, not_lt_int]
theorem leD_str {i j : Str} : leD (.str i) (.str j) = decide (i.cps.toList ≤ j.cps.toList) := by
  show (!dataLt (py (.str j)) (py (.str i))) = _
  simp only [py]
  rw [dataLt_str, not_lt_str]
theorem str_ext {i j : Str} (h : i.cps.toList = j.cps.toList) : i = j := by
  obtain ⟨a⟩ := i
  obtain ⟨b⟩ := j
  exact congrArg Str.mk (Array.toList_inj.mp h)
theorem kD_anti {k k' : Key} (al : alike (py (kD k)) (py (kD k')) = true) (h1 : leD (kD k) (kD k') = true) (h2 : leD (kD k') (kD k) = true) : kD k = kD k' := by
  cases k with
  | inl i =>
    cases k' with
    | inl j =>
      simp only [kD, leD_int, decide_eq_true_eq] at h1 h2
      rw [Int.le_antisymm h1 h2]
    | inr j => simp [kD, py, alike] at al
  | inr i =>
    cases k' with
    | inl j => simp [kD, py, alike] at al
    | inr j =>
      simp only [kD, leD_str, decide_eq_true_eq] at h1 h2
      rw [str_ext (List.le_antisymm h1 h2)]
theorem kD_inj {k k' : Key} (h : kD k = kD k') : k = k' := by
  cases k <;> cases k' <;> simp [kD] at h <;> rw [h]
theorem leD_total : TotalLe leD := show TotalLe (sortLe (listOrd itemOrd) false fun b : D => keyToks (py b)) from sortLe_total _ _ _
theorem sort_same {l l' : List D} (p : l.Perm l') (anti : ∀ a ∈ l, ∀ b ∈ l, leD a b = true → leD b a = true → a = b) : l.mergeSort leD = l'.mergeSort leD := by
  have p' : (l.mergeSort leD).Perm (l'.mergeSort leD) := (List.mergeSort_perm l leD).trans (p.trans (List.mergeSort_perm l' leD).symm)
  exact List.Perm.eq_of_pairwise (le := fun a b => leD a b = true) (fun a b ha hb => anti a ((List.mergeSort_perm l leD).mem_iff.mp ha) b (p.mem_iff.mpr ((List.mergeSort_perm l' leD).mem_iff.mp hb))) (sort_pairwise leD_total l) (sort_pairwise leD_total l') p'
theorem likeD_anti {ks : List Key} (h : likeD (ks.map kD) = true) : ∀ a ∈ ks.map kD, ∀ b ∈ ks.map kD, leD a b = true → leD b a = true → a = b := by
  intro a ha b hb h1 h2
  unfold likeD at h
  simp only [Bool.and_eq_true, List.all_eq_true] at h
  have al := h.1 a ha b hb
  obtain ⟨k, _, rfl⟩ := List.mem_map.mp ha
  obtain ⟨k', _, rfl⟩ := List.mem_map.mp hb
  exact kD_anti al h1 h2
theorem likeD_sub {l l' : List D} (h : likeD l = true) (s : ∀ a ∈ l', a ∈ l) : likeD l' = true := by
  unfold likeD at h ⊢
  simp only [Bool.and_eq_true, Bool.or_eq_true, List.all_eq_true] at h ⊢
  exact ⟨fun a ha b hb => h.1 a (s a ha) b (s b hb), fun a ha => h.2.1 a (s a ha), h.2.2.imp (fun z a ha => z a (s a ha)) fun z a ha => z a (s a ha)⟩
/-- whatever the order in which a set gives its members -/
theorem sortKs_any {ks ks' : List Key} (h : likeD (ks.map kD) = true) (nd : ks'.Nodup) (hm : ∀ k, k ∈ ks' ↔ k ∈ ks) : (ks'.map kD).mergeSort leD = ((dedupK ks).map kD).mergeSort leD := by
  have p : ks'.Perm (dedupK ks) := (List.perm_ext_iff_of_nodup nd nodup_dedup).mpr fun k => (hm k).trans mem_dedup.symm
  exact sort_same (p.map kD) (likeD_anti (likeD_sub h fun a ha => by
    obtain ⟨k, m, rfl⟩ := List.mem_map.mp ha
    exact List.mem_map.mpr ⟨k, (hm k).mp m, rfl⟩))

/-! ### the set as a tracked thing -/
def SetGO (w : World) (a : Addr) (S : Key → Bool) (n : Nat) : HO := .ext fun h => SetG w h a S n
theorem setGO_new {w : World} {P : Program} {H : Hp} {h : Heap} {a : Addr} {S : Key → Bool} {n : Nat} (R : SetG w h a S n) : ObjOk P w H h a (SetGO w a S n) := by
  have ⟨o, _, _, _, ho, _⟩ := R
  exact ⟨R, ⟨o, ho⟩, fun h1 h2 p k => SetG.at p k⟩
section
variable {X : Cx}
theorem keyIs_of {k : Key} {u : Value} (h : L2.RelV (kV k) u) : keyIs k u = true := by
  cases k with
  | inl i => obtain ⟨t, rfl⟩ := h; exact keyIs_int i t
  | inr x => obtain ⟨t, rfl⟩ := h; exact keyIs_str x t
def rSetOf (K : PySem.W.Frag) (w : World) : List V → Hp → VK → Prop := fun xs H Q => ∃ a ks, xs = [V.ref a] ∧ (SqL K H a (ks.map kV) ∨ SqT K H a (ks.map kV)) ∧ ks.length + 1 < scanBound ∧ ∀ p n, n ≤ ks.length → H p = none → Q (.ref p) (upd H p (SetGO w p (inKs ks) n))
theorem keys_vals {ks : List Key} {us : List Value} (r : Vals (ks.map kV) us) : ∀ (i : Nat) (v : Value), us.toArray[i]? = some v → ∃ k, ks[i]? = some k ∧ keyIs k v = true := by
  intro i v e
  have e' : us[i]? = some v := by simpa using e
  have hl := r.length
  have hi : i < ks.length := by
    have := (List.getElem?_eq_some_iff.mp e').1
    simp at hl; omega
  have ek : ks[i]? = some ks[i] := List.getElem?_eq_getElem hi
  obtain ⟨u, h1, h2⟩ := r.get (i := i) (x := kV ks[i]) (by rw [List.getElem?_map, ek]; rfl)
  rw [e'] at h1
  cases h1
  exact ⟨_, ek, keyIs_of h2⟩
theorem cr_setOf (hc : X.calm = true) : CallR X (.type "set") (rSetOf X.K X.w) := by
  intro pins s σ H xs us Q I r h
  obtain ⟨a, ks, rfl, hs, hb, q⟩ := h
  obtain ⟨u, rfl, rx⟩ := vals1 r
  cases rx
  have fin : ∀ (h' : Heap) (tk m : Nat), m ≤ ks.length → SetG X.w h' s.heap.objs.size (inKs ks) m → (∀ b o, s.heap.get? b = some o → h'.get? b = some o) → ∃ x H', Inv X pins σ H' { s with heap := h', toks := tk } ∧ RelV x (.ref s.heap.objs.size) ∧ Q x H' := fun h' tk m hm R k =>
    ⟨.ref s.heap.objs.size, _, I.laid (t' := tk) k (Nat.le_refl _) (setGO_new R), rfl, q _ m hm (I.hok.fresh (Nat.le_refl _))⟩
  rcases hs with hs | hs
  · obtain ⟨its, rv, pl, hl⟩ := I.list hs
    have e := rv.length
    rw [List.length_map] at e
    refine call_set_l (I.ok.hd hc) pl.isList (by simpa using e) (keys_vals rv) (by rw [List.size_toArray]; omega) fun h' tk m hm R k => fin h' tk m (by rw [List.size_toArray] at hm; omega) R k
  · obtain ⟨its, rv, pl, hl⟩ := I.tuple hs
    have e := rv.length
    rw [List.length_map] at e
    refine call_set_t (I.ok.hd hc) pl (by simpa using e) (keys_vals rv) (by rw [List.size_toArray]; omega) fun h' tk m hm R k => fin h' tk m (by rw [List.size_toArray] at hm; omega) R k
abbrev kb (k : Key) : V × D := (kV k, kD k)
def rSortSet (K : PySem.W.Frag) (w : World) : List V → Hp → VK → Prop := fun xs H Q => ∃ a ks n, xs = [V.ref a] ∧ H a = some (SetGO w a (inKs ks) n) ∧ (∀ ks' : List Key, ks'.Nodup → (∀ k, k ∈ ks' ↔ k ∈ ks) → SortOk K H (ks'.map kb)) ∧
  ∀ (ks' : List Key) p, ks'.Nodup → (∀ k, k ∈ ks' ↔ k ∈ ks) → H p = none → Q (.ref p) (upd H p (.lst (((ks'.map kb).mergeSort (dataLe false pyb)).map (·.1))))
theorem each_kb : ∀ {es : List (Int × Value)}, (∀ e ∈ es, keyIs (keyE e) e.2 = true) → Each (es.map (·.2)) ((es.map keyE).map kb)
  | [], _ => .nil
  | e :: es, h => .cons (keyIs_rel (h e List.mem_cons_self)) (each_kb fun x m => h x (List.mem_cons_of_mem _ m))
theorem perm_map_inv {α β : Type} (f : α → β) : ∀ {l : List α} {m : List β}, m.Perm (l.map f) → ∃ l' : List α, l'.Perm l ∧ l'.map f = m := by
  intro l m p
  generalize e : l.map f = n at p
  induction p generalizing l with
  | nil => exact ⟨l, .refl _, e⟩
  | @cons x l1 l2 p ih =>
    cases l with
    | nil => cases e
    | cons a l =>
      obtain ⟨e1, e2⟩ := List.cons.inj e
      obtain ⟨l', q1, q2⟩ := ih e2
      exact ⟨a :: l', q1.cons _, by rw [List.map_cons, e1, q2]⟩
  | swap x y l1 =>
    match l, e with
    | a :: b :: l, e =>
      simp only [List.map_cons, List.cons.injEq] at e
      obtain ⟨e1, e2, e3⟩ := e
      exact ⟨b :: a :: l, List.Perm.swap .., by rw [List.map_cons, List.map_cons, e1, e2, e3]⟩
  | trans p1 p2 ih1 ih2 =>
    obtain ⟨l1, q1, q2⟩ := ih2 e
    obtain ⟨l2, q3, q4⟩ := ih1 q2
    exact ⟨l2, q3.trans q1, q4⟩
theorem cr_sortSet (hc : X.calm = true) (hu : X.A.units + 69 < cLine) : CallR X (.builtin "sorted") (rSortSet X.K X.w) := by
  intro pins s σ H xs us Q I r h
  obtain ⟨a, ks, n, rfl, hs, ok, q⟩ := h
  obtain ⟨u, rfl, rx⟩ := vals1 r
  cases rx
  obtain ⟨o, es, ep, t, ho, hex, hd, g, nd, hm, hb, hf, hn, hr, hl⟩ : SetG X.w s.heap a (inKs ks) n := (I.hok a _ hs).1
  refine sorted_gath (P := fun bs => ∃ ks' : List Key, ks'.Nodup ∧ (∀ k, k ∈ ks' ↔ k ∈ ks) ∧ bs = ks'.map kb) hu (fun Q' E' gg => ?_) (fun b ⟨ks', n1, n2, e⟩ => e ▸ ok ks' n1 n2) (fun b p ⟨ks', n1, n2, e⟩ hp => e ▸ q ks' p n1 n2 hp)
  refine collect_set (A := X.A.in1) (I.ok.hd hc) ⟨o, ho, hex.1, hd⟩ hf hb hr hl fun s1 vs k1 hz g1 o1 pm => ?_
  obtain ⟨es', p1, e1⟩ := perm_map_inv (fun x : Int × Value => x.2) pm
  have g' : ∀ e ∈ es', keyIs (keyE e) e.2 = true := fun e m => by
    obtain ⟨k, h1, _⟩ := g e (p1.mem_iff.mp m)
    rw [keyE_is h1]; exact h1
  refine gg s1 vs _ ?_ (e1 ▸ each_kb g') ⟨es'.map keyE, (p1.map keyE).nodup_iff.mpr nd, fun k => ?_, rfl⟩
  · have J : Inv X pins σ H { s with heap := s1.heap, gens := s1.gens, drawn := s1.drawn, toks := s1.toks } := I.call (ch := []) (Un.kept k1) (I.hok.kept k1) (by rw [g1]; exact I.bare) (fun _ z => nomatch z)
    have e : s1 = { s with heap := s1.heap, gens := s1.gens, drawn := s1.drawn, toks := s1.toks } := by
      cases s1
      cases s
      cases o1
      rfl
    rw [e]
    exact J
  · rw [(p1.map keyE).mem_iff, ← hm k, inKs_iff]
/-! by values -/
theorem Sta.ghost {K : PySem.W.Frag} {β : V} {lk : Bool} {F H : Hp} {fp : List Addr} {σ : L2.St} {ρ : En} {p : Addr} {o : HO} (s : Sta K β lk F H σ ρ fp) (hp : H p = none) : Sta K β lk F (upd H p o) σ ρ fp ∧ Tr F H fp F (upd H p o) fp := by
  obtain ⟨n1, n2⟩ := s.fresh hp
  refine ⟨⟨same_updR s.ex n2, s.sl.frame (Same.refl _) fun a ha u h => ?_, s.nd, s.own, s.lock⟩, ⟨Same.refl _, fun a u h n => ?_, fun a h => ?_⟩⟩
  · rw [upd_ne (ne_of_none h hp)]; exact h
  · rw [upd_ne (ne_of_none h hp)]; exact h
  · exact h.elim .inl fun q => absurd q.1 q.2.1
def dSortSet : D → Option D
  | .nd k ds => if (match k with | .lst => true | .tup => true | _ => false) = true then (match keysD ds with
    | some ks => if likeD (ks.map kD) = true ∧ ks.length + 1 < scanBound then some (sortKs ks) else none
    | none => none) else none
  | _ => none
theorem fz_keyD {K : PySem.W.Frag} {F : Hp} : ∀ {vs : List V} {ds : List D} {ks : List Key}, Fzs K F vs ds → keysD ds = some ks → ∀ k ∈ ks, Fz K F (kV k) (kD k)
  | _, _, ks, .nil, e => by simp [keysD] at e; subst e; simp
  | _, _, ks, .cons (d := d) (ds := ds) h hs, e => by
    unfold keysD at e
    split at e
    · rename_i k ks' e1 e2
      cases e
      intro j m
      rcases List.mem_cons.mp m with rfl | m
      · rw [← keyD_rel h e1]
        unfold keyD at e1
        split at e1
        · cases e1; exact h
        · cases e1; exact h
        · cases e1
      · exact fz_keyD hs e2 j m
    · cases e
theorem d_sortedSet {w : Wd} {e : Expr} {fa : En → R D} {x y : Str} {p p2 pos pos2 : Pos} (hc : X.calm = true) (hu : X.A.units + 69 < cLine) (hg : Gl X x) (hm : X.mg x = none) (hv : bootBuiltins x = some (.builtin "sorted")) (hg2 : Gl X y) (hm2 : X.mg y = none) (hv2 : bootBuiltins y = some (.type "set")) (ha : PE X e (cB X.K w fa))
    (hn : x ≠ "__name__" := by decide) (hd : (x == ("__debug__" : Str)) = false := by decide) (hn2 : y ≠ "__name__" := by decide) (hd2 : (y == ("__debug__" : Str)) = false := by decide)
    (hs : starEach [e] X.env = (false, eval e X.env) :: starEach [] X.env := by rfl) (hs2 : starEach [.Call (.Name y p2) [e] [] pos2] X.env = (false, eval (.Call (.Name y p2) [e] [] pos2) X.env) :: starEach [] X.env := by rfl)
    (hpl : (backTo pos (starEach [] X.env)).any (·.1) = false := by rfl) (hpl2 : (backTo pos2 (starEach [] X.env)).any (·.1) = false := by rfl) :
    PE X (.Call (.Name x p) [.Call (.Name y p2) [e] [] pos2] [] pos) (cO X.K w (s1 dSortSet fa)) :=
  peI (pe_callB (cr_sortSet hc hu) hg hm hv (pa_cons (pe_callTy (cr_setOf hc) hg2 hm2 hv2 (pa_cons ha pa_nil hs) hn2 hd2 hs hpl2) pa_nil hs2) hn hd hs2 hpl) fun σ H Q h => by
    have goal : tCons (cB X.K w fa) tNil σ H (fun xs H1 => rSetOf X.K X.w xs H1 fun x H2 => rSortSet X.K X.w [x] H2 Q) := tB1 h fun F H v dx d ρ fp s z e n => by
      have main : ∀ a (ks : List Key) vs ds, v = .ref a → (SqL X.K H a vs ∨ SqT X.K H a vs) → Fzs X.K F vs ds → vs.length ≤ sizeLine → keysD ds = some ks → (if likeD (ks.map kD) = true ∧ ks.length + 1 < scanBound then some (sortKs ks) else none) = some d → rSetOf X.K X.w [v] H fun x H2 => rSortSet X.K X.w [x] H2 Q := by
        intro a ks vs ds ea hs hz hl hk e
        subst ea
        split at e
        · rename_i c
          cases e
          have ek := keysD_rel hz hk
          subst ek
          have fz : ∀ ks' : List Key, (∀ k, k ∈ ks' ↔ k ∈ ks) → ∀ b ∈ ks'.map kb, Fz X.K F b.1 b.2 := fun ks' hm b m => by
            obtain ⟨k, mk, rfl⟩ := List.mem_map.mp m
            exact fz_keyD hz hk k ((hm k).mp mk)
          have len : ∀ ks' : List Key, ks'.Nodup → (∀ k, k ∈ ks' ↔ k ∈ ks) → (ks'.map kb).length ≤ sizeLine := fun ks' nd hm => by
            have p : ks'.Perm (dedupK ks) := (List.perm_ext_iff_of_nodup nd nodup_dedup).mpr fun k => (hm k).trans mem_dedup.symm
            have := p.length_eq
            have := length_dedup (ks := ks)
            rw [List.length_map] at hl ⊢
            omega
          have m2 : ∀ ks' : List Key, (ks'.map kb).map (·.2) = ks'.map kD := fun ks' => by rw [List.map_map]; rfl
          refine ⟨a, ks, rfl, hs, c.2, fun p n' _ hp => ⟨p, ks, n', rfl, upd_same, fun ks' nd hm => ?_, fun ks' q nd hm hq => ?_⟩⟩
          · have lk : likeD ((ks'.map kb).map (·.2)) = true := likeD_sub c.1 fun x m => by
              rw [m2] at m
              obtain ⟨k, mk, rfl⟩ := List.mem_map.mp m
              exact List.mem_map.mpr ⟨k, (hm k).mp mk, rfl⟩
            exact sortOk (same_updR s.ex (s.fresh hp).2) (fz ks' hm) lk (len ks' nd hm)
          · obtain ⟨s1, t1⟩ := Sta.ghost (o := SetGO X.w p (inKs ks) n') s hp
            have z1 := fzs_sort (fz ks' hm)
            rw [m2, sortKs_any c.1 nd hm] at z1
            exact fin_newO s1 (fun F' H' fp' t => n F' H' fp' (t1.trans t)) q .lst _ _ _ rfl rfl hq (if_pos (by rw [List.length_map, List.length_mergeSort]; exact len ks' nd hm)) z1
        · cases e
      cases dx with
      | nd k ds =>
        cases k with
        | lst =>
          obtain ⟨a, vs, rfl, hi, hs⟩ := z.node s.ex
          simp only [dSortSet, if_true] at e
          split at e
          · rename_i ks hk
            exact main a ks vs ds rfl (.inl (SqL.of hi.1)) hs hi.2 hk e
          · cases e
        | tup =>
          obtain ⟨a, vs, rfl, hi, hs⟩ := z.node s.ex
          simp only [dSortSet, if_true] at e
          split at e
          · rename_i ks hk
            exact main a ks vs ds rfl (.inr (SqT.of hi.1)) hs hi.2 hk e
          · cases e
        | _ => simp [dSortSet] at e
      | _ => simp [dSortSet] at e
    exact goal
end
end Y

set_option Elab.async false
set_option linter.all false
set_option maxRecDepth 100000
set_option maxHeartbeats 2000000
/-! Walks over dicts. -/
namespace Y
open PySem L2
/-- as F, but for dicts locked or not -/
def LkR (F G : Hp) : Prop := ∀ a, G a = F a ∨ ∃ kvs o, (F a = some (.dK kvs) ∧ G a = some (.frz o (.dK kvs))) ∨ (F a = some (.frz o (.dK kvs)) ∧ G a = some (.dK kvs))
section
variable {K : PySem.W.Frag} {F G H : Hp} {a : Addr} {k : Kd} {v : V} {d : D} {vs : List V} {ds : List D}
theorem LkR.dK (r : LkR F G) {kvs : List (Key × V)} (h : Rd F a (.dK kvs)) : Rd G a (.dK kvs) := by
  rcases r a with e | ⟨kvs', o, e | e⟩
  · rcases h with h | ⟨o, h⟩
    · exact .inl (e.trans h)
    · exact .inr ⟨o, e.trans h⟩
  · rcases h with h | ⟨o, h⟩
    · rw [e.1] at h; cases h; exact .inr ⟨_, e.2⟩
    · rw [e.1] at h; cases h
  · rcases h with h | ⟨o, h⟩
    · rw [e.1] at h; cases h
    · rw [e.1] at h; cases h; exact .inl e.2
theorem LkR.other (r : LkR F G) {u : HO} (h : F a = some u) (n1 : ∀ kvs, u ≠ .dK kvs) (n2 : ∀ o kvs, u ≠ .frz o (.dK kvs)) : G a = some u := by
  rcases r a with e | ⟨kvs', o, e | e⟩
  · exact e.trans h
  · rw [e.1] at h; cases h; exact absurd rfl (n1 _)
  · rw [e.1] at h; cases h; exact absurd rfl (n2 _ _)
theorem LkR.dT (r : LkR F G) {kvs : List (List Key × V)} (h : Rd F a (.dT kvs)) : Rd G a (.dT kvs) := by
  rcases h with h | ⟨o, h⟩
  · exact .inl (r.other h (fun _ z => by cases z) (fun _ _ z => by cases z))
  · exact .inr ⟨o, r.other h (fun _ z => by cases z) (fun _ _ z => by cases z)⟩
theorem ItemAt.lk (r : LkR F G) (h : ItemAt K F a k vs) : ItemAt K G a k vs := by
  cases k with
  | tup => exact ⟨r.other h.1 (fun _ z => by cases z) (fun _ _ z => by cases z), h.2⟩
  | lst => exact ⟨r.other h.1 (fun _ z => by cases z) (fun _ _ z => by cases z), h.2⟩
  | scr =>
    refine ⟨?_, h.2⟩
    rcases h.1 with q | q
    · refine .inl ?_
      rcases q with q | ⟨o, q⟩
      · exact .inl (r.other q (fun _ z => by cases z) (fun _ _ z => by cases z))
      · exact .inr ⟨o, r.other q (fun _ z => by cases z) (fun _ _ z => by cases z)⟩
    · exact .inr q
  | ktp =>
    refine ⟨?_, h.2⟩
    rcases h.1 with q | q
    · rcases q with q | ⟨o, q⟩
      · exact .inl (.inl (r.other q (fun _ z => by cases z) (fun _ _ z => by cases z)))
      · exact .inl (.inr ⟨o, r.other q (fun _ z => by cases z) (fun _ _ z => by cases z)⟩)
    · exact .inr q
  | dK ks => exact ⟨h.1, r.dK h.2.1, h.2.2⟩
  | dT ks => exact ⟨h.1, r.dT h.2.1, h.2.2⟩
mutual
theorem Fz.lk (r : LkR F G) : ∀ {v : V} {d : D}, Fz K F v d → Fz K G v d
  | _, _, .non => .non
  | _, _, .bl b => .bl b
  | _, _, .int i => .int i
  | _, _, .str s h => .str s h
  | _, _, .ty n => .ty n
  | _, _, .nd h hs => .nd (h.lk r) (hs.lk r)
theorem Fzs.lk (r : LkR F G) : ∀ {vs : List V} {ds : List D}, Fzs K F vs ds → Fzs K G vs ds
  | _, _, .nil => .nil
  | _, _, .cons h hs => .cons (h.lk r) (hs.lk r)
end
theorem lkr_lock {kvs : List (Key × V)} {od : Obj} (h : F a = some (.dK kvs)) : LkR F (upd F a (.frz od (.dK kvs))) := fun b => by
  by_cases e : b = a
  · subst e; exact .inr ⟨kvs, od, .inl ⟨h, upd_same⟩⟩
  · exact .inl (upd_ne e)
theorem lkr_unlock {kvs : List (Key × V)} {od : Obj} (h : F a = some (.frz od (.dK kvs))) : LkR F (upd F a (.dK kvs)) := fun b => by
  by_cases e : b = a
  · subst e; exact .inr ⟨kvs, od, .inr ⟨h, upd_same⟩⟩
  · exact .inl (upd_ne e)
end
section
variable {K : PySem.W.Frag} {β : V} {lk : Bool} {F F' H H' : Hp} {fp fp' : List Addr} {σ σ' : St} {ρ : En} {a : Addr} {u x : HO}
theorem same_both (h : Same F H) : Same (upd F a u) (upd H a u) := fun b o e => by
  by_cases q : b = a
  · subst q; rw [upd_same] at e ⊢; exact e
  · rw [upd_ne q] at e ⊢; exact h b o e
theorem Sl.lkd (s : Sl K β F H σ ρ fp) (r : LkR F F') (k : ∀ b ∈ fp, ∀ o, H b = some o → H' b = some o) : Sl K β F' H' σ ρ fp := by
  induction s with
  | nil => exact .nil
  | skip t ih => exact .skip (ih k)
  | fr h t ih => exact .fr (h.lk r) (ih k)
  | ow h hs t ih => exact .ow (h.keep (k _ List.mem_cons_self)) (hs.lk r) (ih fun b hb => k b (List.mem_cons_of_mem _ hb))
  | bo e h hs t ih => exact .bo e (h.keep (k _ List.mem_cons_self)) (hs.lk r) (ih fun b hb => k b (List.mem_cons_of_mem _ hb))
theorem Sta.lkd (s : Sta K β lk F H σ ρ fp) (h : F a = some x) (r : LkR F (upd F a u)) : Sta K β lk (upd F a u) (upd H a u) σ ρ fp := by
  have nf : ∀ b ∈ fp, b ≠ a := fun b hb e => by rw [e] at hb; rw [s.own a hb] at h; cases h
  refine ⟨same_both s.ex, s.sl.lkd r fun b hb o e => by rw [upd_ne (nf b hb)]; exact e, s.nd, fun b hb => by rw [upd_ne (nf b hb)]; exact s.own b hb, fun _ => trivial⟩
/-- behind the unlocking -/
theorem Tr.lkd {v : HO} (hF : F a = some u) (hH : H a = some u) (n : a ∉ fp) (t : Tr (upd F a v) (upd H a v) fp F' H' fp') : Tr F H fp (upd F' a u) (upd H' a u) fp' := by
  refine ⟨fun b o e => ?_, fun b o e nb => ?_, fun b h => ?_⟩
  · by_cases q : b = a
    · subst q; rw [hF] at e; cases e; exact upd_same
    · rw [upd_ne q]; exact t.ex b o (by rw [upd_ne q]; exact e)
  · by_cases q : b = a
    · subst q; rw [hH] at e; cases e; exact upd_same
    · rw [upd_ne q]; exact t.keep b o (by rw [upd_ne q]; exact e) nb
  · by_cases q : b = a
    · subst q
      rcases h with h | h
      · rcases t.new b (.inl h) with z | z
        · exact .inl z
        · rw [upd_same] at z; cases z
      · rw [hF] at h; cases h.1
    · have h' : b ∈ fp' ∨ (upd F a v b = none ∧ F' b ≠ none ∧ ¬ IsTp (upd H a v) b) := h.imp id fun z => ⟨by rw [upd_ne q]; exact z.1, by have := z.2.1; rw [upd_ne q] at this; exact this, fun ⟨vs, e⟩ => z.2.2 ⟨vs, by rw [upd_ne q] at e; exact e⟩⟩
      exact (t.new b h').imp id fun z => by rw [upd_ne q] at z; exact z
/-- an owned slot is frozen -/
theorem Sta.toF {i : Nat} {d : D} (s : Sta K β lk F H σ ρ fp) (e : ρ[i]? = some (some (.o d))) : ∃ F' fp', Sta K β lk F' H σ (ρ.set i (some (.f d))) fp' ∧ Tr F H fp F' H fp' := by
  obtain ⟨a, k, vs, ds, fp1, fp2, rfl, rfl, e1, hw, hz, _, put, _, _⟩ := s.sl.own .o (.inl rfl) e
  obtain ⟨ho, em, hp⟩ := hw.nf
  obtain ⟨m1, m2, m3⟩ := mid s.nd
  have n2 : F a = none := s.own a (by simp)
  have ex : Same F (upd F a ho) := same_upd n2
  refine ⟨upd F a ho, fp1 ++ fp2, ⟨fun b o q => ?_, put _ H _ ex (fun _ _ _ h => h) (.nd (mkAt em upd_same) (hz.mono ex)), m2, fun b hb => ?_, fun _ => trivial⟩, ⟨ex, fun b o h n => h, fun b q => ?_⟩⟩
  · by_cases z : b = a
    · subst z; rw [upd_same] at q; rw [hp]; exact q
    · rw [upd_ne z] at q; exact s.ex b o q
  · rw [upd_ne (fun (z : b = a) => m1 (z ▸ hb))]; exact s.own b (m3.mem_iff.mp (List.mem_cons_of_mem _ hb))
  · rcases q with q | ⟨q1, q2, _⟩
    · exact .inl (m3.mem_iff.mp (List.mem_cons_of_mem _ q))
    · by_cases z : b = a
      · rw [z]; exact .inl (by simp)
      · rw [upd_ne z] at q2; exact absurd q1 q2
end
/-! ### what is walked -/
def isLk (F : Hp) (σ : St) (i : Nat) (a : Addr) (o : Obj) (kvs : List (Key × V)) : Prop := σ[i]? = some (some (.ref a)) ∧ F a = some (.frz o (.dK kvs))
/-- iter, over the dict in slot i, gives out src of it -/
def WkD (X : Cx) (tg iter : Expr) (i : Nat) (src : List Key → List D → List D) : Prop := ∃ wi, PI X tg iter wi ∧ ∀ σ F H a o ks vs ds R, isLk F σ i a o (ks.zip vs) → ks.length = vs.length → keysL ks = true → Same F H → Fzs X.K F vs ds → (∀ J, Itz X.K F J (src ks ds) → R J H) → wi σ H R
def vaD : List Key → List D → List D := fun _ ds => ds
def kyD : List Key → List D → List D := fun ks _ => ks.map kD
def imD : List Key → List D → List D := fun ks ds => (ks.zip ds).map fun p => .nd .tup [kD p.1, p.2]
section
variable {X : Cx} {tg e : Expr} {x : Str} {p apos cpos : Pos}
theorem zget {κ : Type} {ks : List κ} {vs : List V} {j : Nat} {k : κ} {v : V} (e : (ks.zip vs)[j]? = some (k, v)) : ks[j]? = some k ∧ vs[j]? = some v := List.getElem?_zip_eq_some.mp e
theorem itz_keys {K : PySem.W.Frag} {F : Hp} {a : Addr} {o : Obj} {ks : List Key} {vs : List V} {ds : List D} (h : F a = some (.frz o (.dK (ks.zip vs)))) (hl : ks.length = vs.length) (hk : keysL ks = true) : Itz K F (Itk a o (ks.zip vs)) (kyD ks ds) := by
  have hz : (ks.zip vs).length = ks.length := by rw [List.length_zip]; omega
  refine ⟨fun i H ex hi => ⟨ex _ _ h, by rw [hz]; simpa [kyD] using hi⟩, fun H ex => ⟨ex _ _ h, by rw [hz]; simp [kyD]⟩, fun i H x H' ex hi y => ?_⟩
  obtain ⟨rfl, k, v, e, rfl⟩ := y
  have ek := (zget e).1
  exact ⟨kD k, by simp [kyD, ek], .inl ⟨rfl, fz_key hk (List.mem_of_getElem? ek)⟩⟩
theorem itz_vals {K : PySem.W.Frag} {F : Hp} {a : Addr} {o : Obj} {ks : List Key} {vs : List V} {ds : List D} (h : F a = some (.frz o (.dK (ks.zip vs)))) (hl : ks.length = vs.length) (hs : Fzs K F vs ds) : Itz K F (Itd a o (ks.zip vs)) (vaD ks ds) := by
  have hz : (ks.zip vs).length = ds.length := by rw [List.length_zip, ← hs.length]; omega
  refine ⟨fun i H ex hi => ⟨ex _ _ h, by rw [hz]; exact hi⟩, fun H ex => ⟨ex _ _ h, by rw [hz]; exact Nat.le_refl _⟩, fun i H x H' ex hi y => ?_⟩
  obtain ⟨rfl, k, e⟩ := y
  obtain ⟨d, e3, z3⟩ := hs.getV (zget e).2
  exact ⟨d, e3, .inl ⟨rfl, z3⟩⟩
theorem itz_items {K : PySem.W.Frag} {F : Hp} {a : Addr} {o : Obj} {ks : List Key} {vs : List V} {ds : List D} (h : F a = some (.frz o (.dK (ks.zip vs)))) (hl : ks.length = vs.length) (hk : keysL ks = true) (hs : Fzs K F vs ds) : Itz K F (Iti a o (ks.zip vs)) (imD ks ds) := by
  have hz : (ks.zip vs).length = (imD ks ds).length := by simp [imD, ← hs.length]
  refine ⟨fun i H ex hi => ⟨ex _ _ h, by rw [hz]; exact hi⟩, fun H ex => ⟨ex _ _ h, by rw [hz]; exact Nat.le_refl _⟩, fun i H x H' ex hi y => ?_⟩
  obtain ⟨T, k, v, e, rfl, hT, rfl⟩ := y
  obtain ⟨d, e3, z3⟩ := hs.getV (zget e).2
  have ek := (zget e).1
  have e5 : (ks.zip ds)[i]? = some (k, d) := List.getElem?_zip_eq_some.mpr ⟨ek, e3⟩
  exact ⟨.nd .tup [kD k, d], by simp [imD, e5], .inr ⟨T, [kV k, v], [kD k, d], rfl, hT, rfl, .cons (fz_key hk (List.mem_of_getElem? ek)) (.cons z3 .nil), by show 2 ≤ sizeLine; decide, rfl⟩⟩
theorem k_keys (i : Nat) (hN : X.N[i]? = some x := by rfl) (hv : Vis X.env.scope x := by first | exact Or.inl rfl | exact Or.inr (Or.inl rfl) | exact Or.inr (Or.inr rfl)) (hd : (x == ("__debug__" : Str)) = false := by decide) (hcd : (x == ("__classdict__" : Str)) = false := by decide) : WkD X tg (.Name x p) i kyD :=
  ⟨_, pi_keys (pe_var hN hv hd hcd), fun σ F H a o ks vs ds R h hl hk ex hs q => ⟨.ref a, h.1, a, o, rfl, .inl ⟨_, ex _ _ h.2, q _ (itz_keys h.2 hl hk)⟩⟩⟩
theorem k_vals (i : Nat) (hN : X.N[i]? = some x := by rfl) (hv : Vis X.env.scope x := by first | exact Or.inl rfl | exact Or.inr (Or.inl rfl) | exact Or.inr (Or.inr rfl)) (hd : (x == ("__debug__" : Str)) = false := by decide) (hcd : (x == ("__classdict__" : Str)) = false := by decide)
    (hbase : attributeBase (.Name x p) "values" X.env (eval (.Name x p) X.env) = eval (.Name x p) X.env := by rfl) (hline : (apos.endLine == cpos.line) = true := by rfl) : WkD X tg (.Call (.Attribute (.Name x p) "values" apos) [] [] cpos) i vaD :=
  ⟨_, pi_values (pe_var hN hv hd hcd) hbase hline, fun σ F H a o ks vs ds R h hl hk ex hs q => ⟨.ref a, h.1, a, o, _, rfl, ex _ _ h.2, q _ (itz_vals h.2 hl hs)⟩⟩
theorem k_items (i : Nat) {elts : List Expr} {kk : Nat} {tpos : Pos} (hN : X.N[i]? = some x := by rfl) (hv : Vis X.env.scope x := by first | exact Or.inl rfl | exact Or.inr (Or.inl rfl) | exact Or.inr (Or.inr rfl)) (hd : (x == ("__debug__" : Str)) = false := by decide) (hcd : (x == ("__classdict__" : Str)) = false := by decide)
    (hbase : attributeBase (.Name x p) "items" X.env (eval (.Name x p) X.env) = eval (.Name x p) X.env := by rfl) (hline : (apos.endLine == cpos.line) = true := by rfl) : WkD X (.Tuple elts kk tpos) (.Call (.Attribute (.Name x p) "items" apos) [] [] cpos) i imD :=
  ⟨_, pi_items (pe_var hN hv hd hcd) hbase hline, fun σ F H a o ks vs ds R h hl hk ex hs q => ⟨.ref a, h.1, a, o, _, rfl, ex _ _ h.2, q _ (itz_items h.2 hl hk hs)⟩⟩
end
/-- the dict in slot i, frozen from now on -/
def sDct {α : Type} (i : Nat) (g : List Key → List D → En → R α) : En → R α := fun ρ => match ρ[i]? with
  | some (some (.f (.nd (.dK ks) ds))) => g ks ds ρ
  | some (some (.o (.nd (.dK ks) ds))) => g ks ds (ρ.set i (some (.f (.nd (.dK ks) ds))))
  | _ => .bad
def quiet {α : Type} : R α → Prop
  | .exc _ _ _ => False
  | _ => True
section
variable {K : PySem.W.Frag} {w : Wd} {F H : Hp} {fp : List Addr} {σ : St} {ρ : En} {α : Type} {i : Nat}
/-- a walk over the dict in slot i, as a value: in the locked world, or in this one where it is locked already -/
theorem dct_lock {g : List Key → List D → En → R D} {t : TE} {Q : VK} (s : StaW K w F H σ ρ fp) (h : Pst K w F H fp σ (sDct i g ρ) (nO K w σ Q)) (hq : ∀ ks ds ρ, quiet (g ks ds ρ))
    (run : ∀ F H ρ fp a o ks vs ds Q, StaW K w F H σ ρ fp → isLk F σ i a o (ks.zip vs) → ks.length = vs.length → keysL ks = true → Fzs K F vs ds → Pst K w F H fp σ (g ks ds ρ) (nO K w σ Q) → t σ H Q) :
    tLockE t σ H Q ∨ t σ H Q := by
  have main : ∀ F ρ fp ks ds, StaW K w F H σ ρ fp → ρ[i]? = some (some (.f (.nd (.dK ks) ds))) → Pst K w F H fp σ (g ks ds ρ) (nO K w σ Q) → tLockE t σ H Q ∨ t σ H Q := by
    intro F ρ fp ks ds s e h
    obtain ⟨v, e1, z⟩ := s.sl.getF e
    obtain ⟨a, vs, rfl, hi, hs⟩ := z.node
    rcases hi.2.1 with hu | ⟨o, hu⟩
    · left
      have hH := s.ex _ _ hu
      have na : a ∉ fp := fun m => by rw [s.own a m] at hu; cases hu
      refine ⟨a, _, hH, trivial, fun od => ?_⟩
      refine run (upd F a (.frz od (.dK (ks.zip vs)))) _ ρ fp a od ks vs ds _ (s.lkd hu (lkr_lock hu)) ⟨e1, upd_same⟩ hi.1 hi.2.2.2 (hs.lk (lkr_lock hu)) ?_
      have q := hq ks ds ρ
      cases r : g ks ds ρ with
      | bad => rw [r] at h; exact h
      | exc c x ρ1 => rw [r] at q; exact q.elim
      | ok d ρ1 =>
        rw [r] at h
        intro F1 H1 fp1 t1 v s1
        have k1 : H1 a = some (.frz od (.dK (ks.zip vs))) := t1.keep a _ upd_same na
        have k2 : F1 a = some (.frz od (.dK (ks.zip vs))) := t1.ex a _ upd_same
        exact ⟨k1, h _ _ _ (t1.lkd hu hH na) v (s1.lkd k2 (lkr_unlock k2))⟩
    · right
      exact run F H ρ fp a o ks vs ds Q s ⟨e1, hu⟩ hi.1 hi.2.2.2 hs h
  unfold sDct at h
  split at h
  · rename_i ks ds e
    exact main F ρ fp ks ds s e h
  · rename_i ks ds e
    obtain ⟨F', fp', s1, t1⟩ := s.toF e
    have hi : i < ρ.length := (List.getElem?_eq_some_iff.mp e).1
    exact main F' _ fp' ks ds s1 (by rw [List.getElem?_set_self hi]) (Pst.tr h t1)
  · exact h.elim
theorem lcL_quiet {g : D → En → Option En} {t : En → R Bool} {e : En → R D} {vs : List Nat} : ∀ (ds : List D) (ρ : En) (acc : List D), quiet (lcL g t e vs ds ρ acc)
  | [], ρ, acc => trivial
  | d :: ds, ρ, acc => by
    unfold lcL
    cases g d ρ with
    | none => trivial
    | some ρ1 =>
      dsimp only
      cases h : t ρ1 with
      | bad => trivial
      | exc c x ρ => trivial
      | ok b ρ2 =>
        cases b with
        | false => simpa [noX, bnd] using lcL_quiet ds _ acc
        | true =>
          cases h2 : e ρ2 with
          | bad => simp [noX, bnd, h2, quiet]
          | exc c x ρ => simp [noX, bnd, h2, quiet]
          | ok x ρ3 =>
            simp only [noX, bnd, h2, if_true]
            split
            · exact lcL_quiet ds _ _
            · trivial
end
section
variable {X : Cx} {w : Wd} {tg iter elt : Expr} {ifs : List Expr} {scope : Scope} {is : List Nat} {g : D → En → Option En} {t : En → R Bool} {e : En → R D} {src : List Key → List D → List D} {pos : Pos}
/-- [e for tg in a dict's walk if ..] -/
def sLcD (i : Nat) (src : List Key → List D → List D) (g : D → En → Option En) (t : En → R Bool) (e : En → R D) (vs : List Nat) : En → R D := sDct i fun ks ds ρ => lcL g t e vs (src ks ds) (wipeE vs ρ) []
theorem d_lcD (i : Nat) (own : List (Str × Nat)) (hc : X.calm = true) (hN : X.N.Nodup) (hi : WkD X tg iter i src) (ok : BlkOk X.N X.env.scope scope own) (his : ∀ i ∈ is, i ∈ own.map (·.2))
    (hg : ∀ (s : Shared) (H : Hp) (C : Addr) (cl : List (Str × Addr)) (fp : List Addr), PG (X.blk s H scope (compEnvC scope cl C X.env) fp) tg (cG X.K w.in1 is g)) (ht : ∀ (s : Shared) (H : Hp) (C : Addr) (cl : List (Str × Addr)) (fp : List Addr), PTs (X.blk s H scope (compEnvC scope cl C X.env) fp) ifs (cT X.K w.in1 t))
    (he : ∀ (s : Shared) (H : Hp) (C : Addr) (cl : List (Str × Addr)) (fp : List Addr), PE (X.blk s H scope (compEnvC scope cl C X.env) fp) elt (cF X.K w.in1 e)) (hs : ∀ x, foldedSetIterable iter X.env x = pure x := by intro _; rfl) :
    PE X (.ListComp elt [⟨tg, iter, ifs, 0⟩] scope pos) (cO X.K w (sLcD i src g t e (own.map (·.2)))) := by
  obtain ⟨wi, pw, run⟩ := hi
  have P := pe_lc (pos := pos) hc hN pw ok hg ht he hs
  refine peI (pe_or2 (pe_lock P) P) fun σ H Q h => ?_
  obtain ⟨F, ρ, fp, s, h⟩ := h
  refine dct_lock s h (fun ks ds ρ => lcL_quiet _ _ _) fun F H ρ fp a o ks vs ds Q s hl hlen hk hz h => ?_
  exact run σ F H a o ks vs ds _ hl hlen hk s.ex hz fun J I => lc_body his s I h
end
end Y

set_option Elab.async false
set_option linter.all false
set_option maxRecDepth 100000
set_option maxHeartbeats 2000000
/-! Comprehensions of two fors. -/
namespace Y
open PySem L2
def lc2I (g1 : D → En → Option En) (t1 : En → R Bool) (e : En → R D) (vs1 : List Nat) (k : En → List D → R D) : List D → En → List D → R D
  | [], ρ, acc => k ρ acc
  | d :: ds, ρ, acc => match g1 d ρ with
    | none => .bad
    | some ρ1 => bnd (noX (t1 ρ1)) fun b ρ2 => if b = true then bnd (noX (e ρ2)) fun x ρ3 => if acc.length < sizeLine then lc2I g1 t1 e vs1 k ds (wipeE vs1 ρ3) (acc ++ [x]) else .bad else lc2I g1 t1 e vs1 k ds (wipeE vs1 ρ2) acc
def lc2L (g : D → En → Option En) (t : En → R Bool) (s1 : En → R (List D)) (g1 : D → En → Option En) (t1 : En → R Bool) (e : En → R D) (vs vs1 : List Nat) : List D → En → List D → R D
  | [], ρ, acc => .ok (.nd .lst acc) ρ
  | d :: ds, ρ, acc => match g d ρ with
    | none => .bad
    | some ρ1 => bnd (noX (t ρ1)) fun b ρ2 => if b = true then bnd (noX (s1 ρ2)) fun ds1 ρ3 => lc2I g1 t1 e vs1 (fun ρ acc => lc2L g t s1 g1 t1 e vs vs1 ds (wipeE vs ρ) acc) ds1 (wipeE vs1 ρ3) acc else lc2L g t s1 g1 t1 e vs vs1 ds (wipeE vs ρ2) acc
section
variable {K : PySem.W.Frag} {w : Wd} {g g1 : D → En → Option En} {t t1 : En → R Bool} {e : En → R D} {src1 : En → R (List D)} {vs vs1 is is1 : List Nat} {σ : St} {Q : VK}
theorem lc2_body {ds : List D} {J : It} {F1 H1 : Hp} {ρ1 : En} {fp1 : List Addr} (his : ∀ i ∈ is, i ∈ vs) (his1 : ∀ i ∈ is1, i ∈ vs1) (hv : ∀ i ∈ vs1, i ∈ vs) (s1 : StaW K w F1 H1 σ ρ1 fp1) (I : Itz K F1 J ds) (h1 : Pst K w F1 H1 fp1 σ (lc2L g t src1 g1 t1 e vs vs1 ds (wipeE vs ρ1) []) (nO K w σ Q)) :
    tLc2 (fun _ H R => R J H) (cG K w.in1 is g) (cT K w.in1 t) (cI K w.in1 src1) (cG K w.in1 is1 g1) (cT K w.in1 t1) (cF K w.in1 e) vs vs1 σ H1 Q := fun L hL => by
  obtain ⟨fpw, sw, tw⟩ := StaW.wipe (vs := vs) s1
  obtain ⟨m0, t0⟩ := Mk.start sw hL
  refine ⟨fun i k H => k = ds.length - i ∧ i ≤ ds.length ∧ ∃ F ρ fp acc, Mk K w F1 F H L (wipe σ vs) ρ fp acc ∧ acc.length ≤ sizeLine ∧ Pst K w F H (L :: fp) σ (lc2L g t src1 g1 t1 e vs vs1 (ds.drop i) ρ acc) (nO K w σ Q), ⟨ds.length, by simp, Nat.zero_le _, F1, _, fpw, [], m0, Nat.zero_le _, Pst.tr h1 (tw.trans t0)⟩, ?_⟩
  rintro i k H ⟨rfl, hi, F, ρ, fp, acc, m, hz, h⟩
  by_cases hlt : i < ds.length
  · refine .inr ⟨I.go i H (m.ex.trans m.s.ex) hlt, fun H => ∃ F ρ fp acc, Mk K w F1 F H L (wipe σ vs) ρ fp acc ∧ acc.length ≤ sizeLine ∧ Pst K w F H (L :: fp) σ (lc2L g t src1 g1 t1 e vs vs1 (ds.drop (i + 1)) ρ acc) (nO K w σ Q), fun H' q => ⟨ds.length - (i + 1), by omega, rfl, hlt, q⟩, fun x H' y => ?_⟩
    obtain ⟨d, F2, ed, s2, t2, z⟩ := given I m.s m.ex hlt y
    have m2 := m.go t2 s2
    have edr : ds.drop i = d :: ds.drop (i + 1) := by
      obtain ⟨h1, h2⟩ := List.getElem?_eq_some_iff.mp ed
      rw [← h2]
      exact List.drop_eq_getElem_cons h1
    rw [edr] at h
    unfold lc2L at h
    cases q : g d ρ with
    | none => simp only [q] at h; exact h.elim
    | some ρ2 =>
      simp only [q] at h
      refine ⟨F2, ρ, fp, d, ρ2, s2, z, q, fun σ3 fp3 s3 t3 o3 => ?_⟩
      have ew : wipe σ3 vs = wipe σ vs := (o3 vs his).trans (wipe_sub fun _ h => h)
      have h3 := Pst.tr h (t2.trans t3).cons
      have m3 := m2.go t3 s3
      refine ⟨ew, F2, ρ2, fp3, s3, ?_⟩
      cases q1 : t ρ2 with
      | bad => rw [q1] at h3; exact h3.elim
      | exc c x ρ => rw [q1] at h3; exact h3.elim
      | ok b ρ4 =>
        rw [q1] at h3
        intro F4 H4 fp4 t4 s4
        have m4 := m3.go t4 s4
        have h4 := Pst.tr h3 t4.cons
        cases b with
        | false =>
          refine iteF ?_
          obtain ⟨fp5, s5, t5⟩ := StaW.wipe (vs := vs) s4
          rw [ew] at s5
          exact ⟨F4, _, fp5, acc, m4.go t5 s5, hz, by simpa [noX_ok, bnd_ok] using Pst.tr h4 t5.cons⟩
        | true =>
          refine iteT ⟨F4, ρ4, fp4, s4, ?_⟩
          have h4' : Pst K w F4 H4 (L :: fp4) σ (bnd (noX (src1 ρ4)) fun ds1 ρ3 => lc2I g1 t1 e vs1 (fun ρ acc => lc2L g t src1 g1 t1 e vs vs1 (ds.drop (i + 1)) (wipeE vs ρ) acc) ds1 (wipeE vs1 ρ3) acc) (nO K w σ Q) := by simpa [noX_ok, bnd_ok] using h4
          cases q2 : src1 ρ4 with
          | bad => rw [q2] at h4'; exact h4'.elim
          | exc c x ρ => rw [q2] at h4'; exact h4'.elim
          | ok ds1 ρ5 =>
            rw [q2] at h4'
            intro F5 H5 fp5 t5 J1 s5 I1
            have m5 := m4.go t5 s5
            have h5 := Pst.tr h4' t5.cons
            obtain ⟨fp6, s6, t6⟩ := StaW.wipe (vs := vs1) s5
            have m6 := m5.go t6 s6
            have h6 : Pst K w F5 H5 (L :: fp6) σ (lc2I g1 t1 e vs1 (fun ρ acc => lc2L g t src1 g1 t1 e vs vs1 (ds.drop (i + 1)) (wipeE vs ρ) acc) ds1 (wipeE vs1 ρ5) acc) (nO K w σ Q) := by simpa [noX_ok, bnd_ok] using Pst.tr h5 t6.cons
            refine ⟨fun j k H => k = ds1.length - j ∧ j ≤ ds1.length ∧ ∃ F ρ fp acc, Mk K w F1 F H L (wipe σ3 vs1) ρ fp acc ∧ Same F5 F ∧ acc.length ≤ sizeLine ∧ Pst K w F H (L :: fp) σ (lc2I g1 t1 e vs1 (fun ρ acc => lc2L g t src1 g1 t1 e vs vs1 (ds.drop (i + 1)) (wipeE vs ρ) acc) (ds1.drop j) ρ acc) (nO K w σ Q), ⟨ds1.length, by simp, Nat.zero_le _, F5, _, fp6, acc, m6, Same.refl _, hz, h6⟩, ?_⟩
            rintro j k H7 ⟨rfl, hj, F7, ρ7, fp7, acc7, m7, ex7, hz7, h7⟩
            by_cases hlt1 : j < ds1.length
            · refine .inr ⟨I1.go j H7 (ex7.trans m7.s.ex) hlt1, fun H => ∃ F ρ fp acc, Mk K w F1 F H L (wipe σ3 vs1) ρ fp acc ∧ Same F5 F ∧ acc.length ≤ sizeLine ∧ Pst K w F H (L :: fp) σ (lc2I g1 t1 e vs1 (fun ρ acc => lc2L g t src1 g1 t1 e vs vs1 (ds.drop (i + 1)) (wipeE vs ρ) acc) (ds1.drop (j + 1)) ρ acc) (nO K w σ Q), fun H' q => ⟨ds1.length - (j + 1), by omega, rfl, hlt1, q⟩, fun x H' y => ?_⟩
              obtain ⟨d8, F8, ed8, s8, t8, z8⟩ := given I1 m7.s ex7 hlt1 y
              have m8 := m7.go t8 s8
              have edr8 : ds1.drop j = d8 :: ds1.drop (j + 1) := by
                obtain ⟨h1, h2⟩ := List.getElem?_eq_some_iff.mp ed8
                rw [← h2]
                exact List.drop_eq_getElem_cons h1
              rw [edr8] at h7
              unfold lc2I at h7
              cases q8 : g1 d8 ρ7 with
              | none => simp only [q8] at h7; exact h7.elim
              | some ρ9 =>
                simp only [q8] at h7
                refine ⟨F8, ρ7, fp7, d8, ρ9, s8, z8, q8, fun σ9 fp9 s9 t9 o9 => ?_⟩
                have ew9 : wipe σ9 vs1 = wipe σ3 vs1 := (o9 vs1 his1).trans (wipe_sub fun _ h => h)
                have h9 := Pst.tr h7 (t8.trans t9).cons
                have m9 := m8.go t9 s9
                refine ⟨ew9, F8, ρ9, fp9, s9, ?_⟩
                have ex8 := ex7.trans (t8.trans t9).ex
                cases qa : t1 ρ9 with
                | bad => rw [qa] at h9; exact h9.elim
                | exc c x ρ => rw [qa] at h9; exact h9.elim
                | ok b ρa =>
                  rw [qa] at h9
                  intro Fa Ha fpa ta sa
                  have ma := m9.go ta sa
                  have ha := Pst.tr h9 ta.cons
                  cases b with
                  | false =>
                    refine iteF ?_
                    obtain ⟨fpb, sb, tb⟩ := StaW.wipe (vs := vs1) sa
                    rw [ew9] at sb
                    exact ⟨Fa, _, fpb, acc7, ma.go tb sb, ex8.trans ta.ex, hz7, by simpa [noX_ok, bnd_ok] using Pst.tr ha tb.cons⟩
                  | true =>
                    refine iteT ⟨Fa, ρa, fpa, sa, ?_⟩
                    have ha' : Pst K w Fa Ha (L :: fpa) σ (bnd (noX (e ρa)) fun x ρ3 => if acc7.length < sizeLine then lc2I g1 t1 e vs1 (fun ρ acc => lc2L g t src1 g1 t1 e vs vs1 (ds.drop (i + 1)) (wipeE vs ρ) acc) (ds1.drop (j + 1)) (wipeE vs1 ρ3) (acc7 ++ [x]) else .bad) (nO K w σ Q) := by simpa [noX_ok, bnd_ok] using ha
                    cases qb : e ρa with
                    | bad => rw [qb] at ha'; exact ha'.elim
                    | exc c x ρ => rw [qb] at ha'; exact ha'.elim
                    | ok dx ρb =>
                      rw [qb] at ha'
                      intro Fb Hb fpb tb v sb zv
                      have mb := ma.go tb sb
                      have hb := Pst.tr ha' tb.cons
                      obtain ⟨fpc, sc, tc⟩ := StaW.wipe (vs := vs1) sb
                      rw [ew9] at sc
                      have mc := mb.go tc sc
                      have hc := Pst.tr hb tc.cons
                      by_cases hl : acc7.length < sizeLine
                      · obtain ⟨ws, e1, e2, md, td⟩ := mc.app zv hl
                        refine ⟨ws, e1, e2, Fb, _, fpc, _, md, (ex8.trans ta.ex).trans (tb.trans tc).ex, by rw [List.length_append]; exact hl, ?_⟩
                        have he := Pst.tr hc td
                        simpa [bnd, noX, hl] using he
                      · exact (show False by simpa [bnd, noX, hl, Pst] using hc).elim
            · have ej : j = ds1.length := by omega
              subst ej
              rw [List.drop_length] at h7
              refine .inl ⟨I1.stop H7 (ex7.trans m7.s.ex), ?_⟩
              obtain ⟨fp8, s8, t8⟩ := StaW.wipe (vs := vs) m7.s
              rw [wipe_sub hv, ew] at s8
              exact ⟨F7, _, fp8, acc7, m7.go t8 s8, hz7, Pst.tr h7 t8.cons⟩
  · have e : i = ds.length := by omega
    subst e
    rw [List.drop_length] at h
    have mu : Mk K w F1 F H L σ ρ fp acc := ⟨StaW.unwipe m.s, m.ex, m.nf, m.nF, m.at_⟩
    exact .inl ⟨I.stop H (m.ex.trans m.s.ex), h F H (L :: fp) .refl (.ref L) (mu.done hz)⟩
theorem lc2I_quiet {k : En → List D → R D} (hk : ∀ ρ acc, quiet (k ρ acc)) : ∀ (ds : List D) (ρ : En) (acc : List D), quiet (lc2I g1 t1 e vs1 k ds ρ acc)
  | [], ρ, acc => hk ρ acc
  | d :: ds, ρ, acc => by
    unfold lc2I
    cases g1 d ρ with
    | none => trivial
    | some ρ1 =>
      dsimp only
      cases h : t1 ρ1 with
      | bad => trivial
      | exc c x ρ => trivial
      | ok b ρ2 =>
        cases b with
        | false => simpa [noX, bnd] using lc2I_quiet hk ds _ acc
        | true =>
          cases h2 : e ρ2 with
          | bad => simp [noX, bnd, h2, quiet]
          | exc c x ρ => simp [noX, bnd, h2, quiet]
          | ok x ρ3 =>
            simp only [noX, bnd, h2, if_true]
            split
            · exact lc2I_quiet hk ds _ _
            · trivial
theorem lc2L_quiet : ∀ (ds : List D) (ρ : En) (acc : List D), quiet (lc2L g t src1 g1 t1 e vs vs1 ds ρ acc)
  | [], ρ, acc => trivial
  | d :: ds, ρ, acc => by
    unfold lc2L
    cases g d ρ with
    | none => trivial
    | some ρ1 =>
      dsimp only
      cases h : t ρ1 with
      | bad => trivial
      | exc c x ρ => trivial
      | ok b ρ2 =>
        cases b with
        | false => simpa [noX, bnd] using lc2L_quiet ds _ acc
        | true =>
          cases h2 : src1 ρ2 with
          | bad => simp [noX, bnd, h2, quiet]
          | exc c x ρ => simp [noX, bnd, h2, quiet]
          | ok x ρ3 =>
            simp only [noX, bnd, h2, if_true]
            exact lc2I_quiet (fun ρ acc => lc2L_quiet ds _ acc) _ _ _
end
section
variable {X : Cx} {w : Wd} {tg iter tg1 iter1 elt : Expr} {ifs ifs1 : List Expr} {scope : Scope} {is is1 vs1 : List Nat} {g g1 : D → En → Option En} {t t1 : En → R Bool} {e : En → R D} {src : List Key → List D → List D} {srcL src1 : En → R (List D)} {pos : Pos}
def sLc2 (src : En → R (List D)) (g : D → En → Option En) (t : En → R Bool) (src1 : En → R (List D)) (g1 : D → En → Option En) (t1 : En → R Bool) (e : En → R D) (vs vs1 : List Nat) : En → R D := fun ρ => bnd (src ρ) fun ds ρ1 => lc2L g t src1 g1 t1 e vs vs1 ds (wipeE vs ρ1) []
def sLc2D (i : Nat) (src : List Key → List D → List D) (g : D → En → Option En) (t : En → R Bool) (src1 : En → R (List D)) (g1 : D → En → Option En) (t1 : En → R Bool) (e : En → R D) (vs vs1 : List Nat) : En → R D := sDct i fun ks ds ρ => lc2L g t src1 g1 t1 e vs vs1 (src ks ds) (wipeE vs ρ) []
theorem d_lc2 (own : List (Str × Nat)) (hc : X.calm = true) (hN : X.N.Nodup) (hi : PI X tg iter (cI X.K w srcL)) (ok : BlkOk X.N X.env.scope scope own) (his : ∀ i ∈ is, i ∈ own.map (·.2)) (his1 : ∀ i ∈ is1, i ∈ vs1) (hv : ∀ i ∈ vs1, i ∈ own.map (·.2))
    (hg : ∀ (s : Shared) (H : Hp) (C : Addr) (cl : List (Str × Addr)) (fp : List Addr), PG (X.blk s H scope (compEnvC scope cl C X.env) fp) tg (cG X.K w.in1 is g)) (ht : ∀ (s : Shared) (H : Hp) (C : Addr) (cl : List (Str × Addr)) (fp : List Addr), PTs (X.blk s H scope (compEnvC scope cl C X.env) fp) ifs (cT X.K w.in1 t))
    (hi1 : ∀ (s : Shared) (H : Hp) (C : Addr) (cl : List (Str × Addr)) (fp : List Addr), PI (X.blk s H scope (compEnvC scope cl C X.env) fp) tg1 iter1 (cI X.K w.in1 src1))
    (hg1 : ∀ (s : Shared) (H : Hp) (C : Addr) (cl : List (Str × Addr)) (fp : List Addr), PG (X.blk s H scope (compEnvC scope cl C X.env) fp) tg1 (cG X.K w.in1 is1 g1)) (ht1 : ∀ (s : Shared) (H : Hp) (C : Addr) (cl : List (Str × Addr)) (fp : List Addr), PTs (X.blk s H scope (compEnvC scope cl C X.env) fp) ifs1 (cT X.K w.in1 t1))
    (he : ∀ (s : Shared) (H : Hp) (C : Addr) (cl : List (Str × Addr)) (fp : List Addr), PE (X.blk s H scope (compEnvC scope cl C X.env) fp) elt (cF X.K w.in1 e)) (hs : ∀ x, foldedSetIterable iter X.env x = pure x := by intro _; rfl) (hs1 : ∀ env x, foldedSetIterable iter1 env x = pure x := by intro _ _; rfl) :
    PE X (.ListComp elt [⟨tg, iter, ifs, 0⟩, ⟨tg1, iter1, ifs1, 0⟩] scope pos) (cO X.K w (sLc2 srcL g t src1 g1 t1 e (own.map (·.2)) vs1)) :=
  peI (pe_lc2 hc hN hi ok hv hg ht hi1 hg1 ht1 he hs hs1) fun σ H Q h => by
    obtain ⟨F, ρ, fp, s, h⟩ := h
    exact ⟨F, ρ, fp, s, h.bnd fun ds ρ1 F1 H1 fp1 t1 h1 => fun J s1 I => lc2_body his his1 hv s1 I h1⟩
theorem d_lc2D (i : Nat) (own : List (Str × Nat)) (hc : X.calm = true) (hN : X.N.Nodup) (hi : WkD X tg iter i src) (ok : BlkOk X.N X.env.scope scope own) (his : ∀ i ∈ is, i ∈ own.map (·.2)) (his1 : ∀ i ∈ is1, i ∈ vs1) (hv : ∀ i ∈ vs1, i ∈ own.map (·.2))
    (hg : ∀ (s : Shared) (H : Hp) (C : Addr) (cl : List (Str × Addr)) (fp : List Addr), PG (X.blk s H scope (compEnvC scope cl C X.env) fp) tg (cG X.K w.in1 is g)) (ht : ∀ (s : Shared) (H : Hp) (C : Addr) (cl : List (Str × Addr)) (fp : List Addr), PTs (X.blk s H scope (compEnvC scope cl C X.env) fp) ifs (cT X.K w.in1 t))
    (hi1 : ∀ (s : Shared) (H : Hp) (C : Addr) (cl : List (Str × Addr)) (fp : List Addr), PI (X.blk s H scope (compEnvC scope cl C X.env) fp) tg1 iter1 (cI X.K w.in1 src1))
    (hg1 : ∀ (s : Shared) (H : Hp) (C : Addr) (cl : List (Str × Addr)) (fp : List Addr), PG (X.blk s H scope (compEnvC scope cl C X.env) fp) tg1 (cG X.K w.in1 is1 g1)) (ht1 : ∀ (s : Shared) (H : Hp) (C : Addr) (cl : List (Str × Addr)) (fp : List Addr), PTs (X.blk s H scope (compEnvC scope cl C X.env) fp) ifs1 (cT X.K w.in1 t1))
    (he : ∀ (s : Shared) (H : Hp) (C : Addr) (cl : List (Str × Addr)) (fp : List Addr), PE (X.blk s H scope (compEnvC scope cl C X.env) fp) elt (cF X.K w.in1 e)) (hs : ∀ x, foldedSetIterable iter X.env x = pure x := by intro _; rfl) (hs1 : ∀ env x, foldedSetIterable iter1 env x = pure x := by intro _ _; rfl) :
    PE X (.ListComp elt [⟨tg, iter, ifs, 0⟩, ⟨tg1, iter1, ifs1, 0⟩] scope pos) (cO X.K w (sLc2D i src g t src1 g1 t1 e (own.map (·.2)) vs1)) := by
  obtain ⟨wi, pw, run⟩ := hi
  have P := pe_lc2 (pos := pos) hc hN pw ok hv hg ht hi1 hg1 ht1 he hs hs1
  refine peI (pe_or2 (pe_lock P) P) fun σ H Q h => ?_
  obtain ⟨F, ρ, fp, s, h⟩ := h
  refine dct_lock s h (fun ks ds ρ => lc2L_quiet _ _ _) fun F H ρ fp a o ks vs ds Q s hl hlen hk hz h => ?_
  exact run σ F H a o ks vs ds _ hl hlen hk s.ex hz fun J I => lc2_body his his1 hv s I h
end
end Y

set_option Elab.async false
set_option linter.all false
set_option maxRecDepth 100000
set_option maxHeartbeats 2000000
/-! Parallel stores, slices of a name, dicts of pairs, dict comprehensions. -/
namespace Y
open PySem L2
/-! ### a, b = x, y, some of them ours -/
def nS (K : PySem.W.Frag) (w : Wd) (σ : St) (Q : List V → Hp → Prop) : List S → En → Hp → Hp → List Addr → Prop := fun ss ρ F H fp => ∀ vs, StaW K w F H (vs.map some ++ σ) (ss.map some ++ ρ) fp → vs.length = ss.length → Q vs H
def cS2 (K : PySem.W.Frag) (w : Wd) (f : En → R (List S)) : TA := fun σ H Q => ∃ F ρ fp, StaW K w F H σ ρ fp ∧ Pst K w F H fp σ (f ρ) (nS K w σ Q)
def pNil : En → R (List S) := fun ρ => .ok [] ρ
def pF (a : En → R D) (b : En → R (List S)) : En → R (List S) := fun ρ => bnd (a ρ) fun d ρ1 => bnd (b ρ1) fun ds ρ2 => .ok (.f d :: ds) ρ2
def pO (a : En → R D) (b : En → R (List S)) : En → R (List S) := fun ρ => bnd (a ρ) fun d ρ1 => bnd (b ρ1) fun ds ρ2 => .ok (.o d :: ds) ρ2
section
variable {X : Cx} {w : Wd} {e : Expr} {es : List Expr} {fa : En → R D} {fs : En → R (List S)} {pos : Pos}
theorem z_nil : PA X [] (cS2 X.K w pNil) := paI pa_nil fun σ H Q h => by
  obtain ⟨F, ρ, fp, s, h⟩ := h
  exact h F H fp .refl [] s rfl
theorem z_F (ha : PE X e (cF X.K w fa)) (hr : PA X es (cS2 X.K w fs)) (hs : starEach (e :: es) X.env = (false, eval e X.env) :: starEach es X.env := by rfl) : PA X (e :: es) (cS2 X.K w (pF fa fs)) :=
  paI (pa_cons ha hr hs) fun σ H Q h => by
    obtain ⟨F, ρ, fp, s, h⟩ := h
    refine ⟨F, ρ, fp, s, h.bnd fun d ρ1 F1 H1 fp1 t1 h1 => fun v s1 z => ⟨F1, ρ1, fp1, s1, h1.bnd fun ss ρ2 F2 H2 fp2 t2 h2 => fun vs s2 hl => ?_⟩⟩
    exact h2 F2 H2 fp2 .refl (v :: vs) ⟨s2.ex, .fr (z.mono t2.ex) s2.sl, s2.nd, s2.own, s2.lock⟩ (by simp [hl])
theorem z_O (ha : PE X e (cO X.K w fa)) (hr : PA X es (cS2 X.K w fs)) (hs : starEach (e :: es) X.env = (false, eval e X.env) :: starEach es X.env := by rfl) : PA X (e :: es) (cS2 X.K w (pO fa fs)) :=
  paI (pa_cons ha hr hs) fun σ H Q h => by
    obtain ⟨F, ρ, fp, s, h⟩ := h
    refine ⟨F, ρ, fp, s, h.bnd fun d ρ1 F1 H1 fp1 t1 h1 => fun v s1 => ?_⟩
    cases hsl : s1.sl with
    | @ow a k ws ds σ' ρ' fp0 hw hz sl =>
      have nd := List.nodup_cons.mp s1.nd
      have s0 : StaW X.K w F1 H1 σ ρ1 fp0 := ⟨s1.ex, sl, nd.2, fun b hb => s1.own b (List.mem_cons_of_mem _ hb), s1.lock⟩
      have t0 : Tr F1 H1 (a :: fp0) F1 H1 fp0 := Tr.refl.sub fun b hb => List.mem_cons_of_mem _ hb
      refine ⟨F1, ρ1, fp0, s0, ?_⟩
      cases q : fs ρ1 with
      | bad => rw [q] at h1; exact h1.elim
      | exc c x ρ2 => rw [q] at h1; exact Pst.tr (r := .exc c x ρ2) h1 t0
      | ok ss ρ2 =>
        rw [q] at h1
        intro F2 H2 fp2 t2 vs s2 hl
        obtain ⟨o, ha⟩ := hw.any
        have na : a ∉ fp2 := fun m => by
          rcases t2.new a (.inl m) with z | z
          · exact nd.1 z
          · rw [ha] at z; cases z
        have nF : F2 a = none := by
          cases r : F2 a with
          | none => rfl
          | some o' =>
            rcases t2.new a (.inr ⟨s1.own a List.mem_cons_self, by rw [r]; exact (fun z => nomatch z), hw.nt⟩) with z | z
            · exact absurd z nd.1
            · rw [ha] at z; cases z
        exact h1 F2 H2 (a :: fp2) t2.cons (.ref a :: vs) ⟨s2.ex, .ow (hw.keep fun o e => t2.keep a o e nd.1) (hz.mono t2.ex) s2.sl, List.nodup_cons.mpr ⟨na, s2.nd⟩, fun b hb => (List.mem_cons.mp hb).elim (fun e => e ▸ nF) (s2.own b), s2.lock⟩ (by simp [hl])
/-- the topmost value is stored -/
theorem Sta.storeS {K : PySem.W.Frag} {F H : Hp} {σ : St} {ρ : En} {fp : List Addr} {v : V} {x : S} (s : StaW K w F H (some v :: σ) (some x :: ρ) fp) (nb : ∀ d, x ≠ .b d) (i : Nat) : ∃ fp', StaW K w F H (σ.set i (some v)) (ρ.set i (some x)) fp' ∧ Tr F H fp F H fp' := by
  cases x with
  | f d =>
    cases hs : s.sl with
    | fr z sl => exact Sta.store ⟨s.ex, sl, s.nd, s.own, s.lock⟩ z i
  | o d => exact s.storeO i
  | b d => exact absurd rfl (nb d)
def noB : S → Bool | .b _ => false | _ => true
theorem noB_ne {x : S} (h : noB x = true) : ∀ d, x ≠ .b d := by
  intro d e
  rw [e] at h
  cases h
def sPar2 (i j : Nat) (f : En → R (List S)) : En → R Fl := fun ρ => bnd (f ρ) fun ss ρ1 => match ss with
  | [x, y] => if noB x = true ∧ noB y = true then .ok .nx ((ρ1.set i (some x)).set j (some y)) else .bad
  | _ => .bad
def sPar3 (i j l : Nat) (f : En → R (List S)) : En → R Fl := fun ρ => bnd (f ρ) fun ss ρ1 => match ss with
  | [x, y, z] => if noB x = true ∧ noB y = true ∧ noB z = true then .ok .nx (((ρ1.set i (some x)).set j (some y)).set l (some z)) else .bad
  | _ => .bad
theorem s_par2 (i j : Nat) {x y : Str} {a b : Expr} {px py pt : Pos} {kt k2 pt2} (hc : X.calm = true) (hN : X.N.Nodup) (ha : PA X [a, b] (cS2 X.K w fs)) (hi : X.N[i]? = some x := by rfl) (hj : X.N[j]? = some y := by rfl) (hij : i ≠ j := by decide)
    (hx : X.env.scope.names.lookup x = some .local := by rfl) (hy : X.env.scope.names.lookup y = some .local := by rfl)
    (hw : swappedStores [.Tuple [.Name x px, .Name y py] kt pt] (.Tuple [a, b] k2 pt2) X.env = pure (some [x, y]) := by rfl)
    (hs : swapsWithSole [.Tuple [.Name x px, .Name y py] kt pt] (.Tuple [a, b] k2 pt2) pos.line X.env = pure false := by rfl) :
    PS X (.Assign [.Tuple [.Name x px, .Name y py] kt pt] (.Tuple [a, b] k2 pt2) pos) (cS X.K w (sPar2 i j fs)) := psI (ps_par hc hN hi hj hij hx hy ha hw hs) fun D σ H h => by
  obtain ⟨F, ρ, fp, s, h⟩ := h
  refine ⟨F, ρ, fp, s, PstS.bnd (e := fs ρ) h fun ss ρ1 F1 H1 fp1 t1 h1 => fun vs s1 hl => ?_⟩
  match ss, vs, hl with
  | [x, y], [v, u], _ =>
    dsimp only at h1
    split at h1
    · rename_i c
      obtain ⟨fp2, s2, t2⟩ := Sta.storeS s1 (noB_ne c.1) (i + 1)
      obtain ⟨fp3, s3, t3⟩ := Sta.storeS s2 (noB_ne c.2) j
      exact ⟨v, u, rfl, h1 _ F1 H1 fp3 (t2.trans t3) s3⟩
    · exact h1.elim
  | [], _, _ => exact h1.elim
  | [_], _, _ => exact h1.elim
  | _ :: _ :: _ :: _, _, _ => exact h1.elim
theorem s_par3 (i j l : Nat) {x y z : Str} {a b c : Expr} {px py pz pt : Pos} {kt k2 pt2} (hc : X.calm = true) (hN : X.N.Nodup) (ha : PA X [a, b, c] (cS2 X.K w fs)) (hi : X.N[i]? = some x := by rfl) (hj : X.N[j]? = some y := by rfl) (hl : X.N[l]? = some z := by rfl) (hij : i ≠ j := by decide) (hil : i ≠ l := by decide) (hjl : j ≠ l := by decide)
    (hx : X.env.scope.names.lookup x = some .local := by rfl) (hy : X.env.scope.names.lookup y = some .local := by rfl) (hz : X.env.scope.names.lookup z = some .local := by rfl)
    (hw : swappedStores [.Tuple [.Name x px, .Name y py, .Name z pz] kt pt] (.Tuple [a, b, c] k2 pt2) X.env = pure (some [x, y, z]) := by rfl)
    (hs : swapsWithSole [.Tuple [.Name x px, .Name y py, .Name z pz] kt pt] (.Tuple [a, b, c] k2 pt2) pos.line X.env = pure false := by rfl) :
    PS X (.Assign [.Tuple [.Name x px, .Name y py, .Name z pz] kt pt] (.Tuple [a, b, c] k2 pt2) pos) (cS X.K w (sPar3 i j l fs)) := psI (ps_par3 hc hN hi hj hl hij hil hjl hx hy hz ha hw hs) fun D σ H h => by
  obtain ⟨F, ρ, fp, s, h⟩ := h
  refine ⟨F, ρ, fp, s, PstS.bnd (e := fs ρ) h fun ss ρ1 F1 H1 fp1 t1 h1 => fun vs s1 hl => ?_⟩
  match ss, vs, hl with
  | [x, y, z], [v, u, r], _ =>
    dsimp only at h1
    split at h1
    · rename_i c
      obtain ⟨fp2, s2, t2⟩ := Sta.storeS s1 (noB_ne c.1) (i + 1 + 1)
      obtain ⟨fp3, s3, t3⟩ := Sta.storeS s2 (noB_ne c.2.1) (j + 1)
      obtain ⟨fp4, s4, t4⟩ := Sta.storeS s3 (noB_ne c.2.2) l
      exact ⟨v, u, r, rfl, h1 _ F1 H1 fp4 (t2.trans (t3.trans t4)) s4⟩
    · exact h1.elim
  | [], _, _ => exact h1.elim
  | [_], _, _ => exact h1.elim
  | [_, _], _, _ => exact h1.elim
  | _ :: _ :: _ :: _ :: _, _, _ => exact h1.elim
/-! ### a slice of a name that changes -/
def sSlcV (i : Nat) (fl fu : En → R (Option Int)) : En → R D := fun ρ => bnd (sBor i ρ) fun _ _ => bnd (fl ρ) fun l ρ1 => bnd (fu ρ1) fun u ρ2 => bnd (sBor i ρ2) fun x ρ3 => lift (dSlc x l u) ρ3
theorem d_slcV (i : Nat) {x : Str} {p p2 : Pos} {lo hi : Option Expr} {fl fu : En → R (Option Int)} (hl : PO X lo (cP X.K w fl)) (hh : PO X hi (cP X.K w fu)) (hN : X.N[i]? = some x := by rfl) (hv : Vis X.env.scope x := by first | exact Or.inl rfl | exact Or.inr (Or.inl rfl) | exact Or.inr (Or.inr rfl)) (hd : (x == ("__debug__" : Str)) = false := by decide) (hcd : (x == ("__classdict__" : Str)) = false := by decide) :
    PE X (.Subscript (.Name x p) (.Slice lo hi none p2) pos) (cF X.K w (sSlcV i fl fu)) :=
  peI (pe_slice sl_any (pe_var hN hv hd hcd) hl hh) fun σ H Q h => by
    obtain ⟨F, ρ, fp, s, h⟩ := h
    unfold sSlcV at h
    obtain ⟨d0, v, _, ev, _, h⟩ := sBor_ok s h
    refine ⟨v, ev, F, ρ, fp, s, h.bnd fun l ρ2 F2 H2 fp2 t2 h2 => fun s2 => ⟨F2, ρ2, fp2, s2, h2.bnd fun u ρ3 F3 H3 fp3 t3 h3 => fun s3 => ?_⟩⟩
    obtain ⟨d, v', _, e1, z, h4⟩ := sBor_ok s3 h3
    rw [ev] at e1
    cases e1
    obtain ⟨r, e, n⟩ := h4.lift
    exact rslc s3.ex z e (fin_new s3 n).1 (fin_new s3 n).2
end
/-! ### dict(xs) of pairs; dict(d) -/
def mergeD : List Key → List D → List Key → List D → List Key × List D
  | ks, ds, q :: qs, d :: es => mergeD (putKs ks q) (putDs ks ds q d) qs es
  | ks, ds, _, _ => (ks, ds)
def pairsD : List D → Option (List Key × List D)
  | [] => some ([], [])
  | .nd .tup [k, d] :: ds => match keyD k, pairsD ds with
    | some q, some (qs, es) => some (q :: qs, d :: es)
    | _, _ => none
  | _ => none
def dDict : D → Option D
  | .nd .lst ds => (pairsD ds).map fun p => .nd (.dK (mergeD [] [] p.1 p.2).1) (mergeD [] [] p.1 p.2).2
  | .nd (.dK ks) ds => some (.nd (.dK ks) ds)
  | _ => none
def rDict (K : PySem.W.Frag) : List V → Hp → VK → Prop := fun xs H Q => (∃ (a : Addr) (ps : List Addr) (kvs : List (Key × V)), xs = [.ref a] ∧ SqL K H a (ps.map V.ref) ∧ Paired (fun p kv => SqT K H p [kV kv.1, kv.2]) ps kvs ∧ ∀ p, H p = none → Q (.ref p) (upd H p (.dK (mergeK [] kvs)))) ∨
  ∃ (a : Addr) (kvs : List (Key × V)), xs = [.ref a] ∧ Rd H a (.dK kvs) ∧ ∀ p, H p = none → Q (.ref p) (upd H p (.dK kvs))
theorem cr_dict {X : Cx} (hc : X.calm = true) : CallR X (.type "dict") (rDict X.K) := (call_dictP hc).or call_dictD
theorem keysL_put {ks : List Key} {k : Key} (h : keysL ks = true) (hk : keyL k = true) : keysL (putKs ks k) = true := by
  unfold putKs
  split
  · exact h
  · unfold keysL at h ⊢; rw [List.all_append, h]; simp [hk]
section
variable {K : PySem.W.Frag} {F H : Hp}
theorem merge_rel : ∀ {qs : List Key} {us : List V} {es : List D} {ks : List Key} {vs : List V} {ds : List D}, Fzs K F us es → qs.length = us.length → keysL qs = true → ks.length = vs.length → keysL ks = true → Fzs K F vs ds →
    ∃ vs', mergeK (ks.zip vs) (qs.zip us) = (mergeD ks ds qs es).1.zip vs' ∧ (mergeD ks ds qs es).1.length = vs'.length ∧ keysL (mergeD ks ds qs es).1 = true ∧ Fzs K F vs' (mergeD ks ds qs es).2 ∧ vs'.length ≤ vs.length + us.length
  | [], [], _, ks, vs, ds, .nil, _, _, hl, hk, hz => ⟨vs, by simp [mergeK, mergeD], hl, hk, hz, by simp⟩
  | q :: qs, u :: us, _, ks, vs, ds, .cons (d := d) (ds := es) z zs, e, hq, hl, hk, hz => by
    have hq' : keyL q = true ∧ keysL qs = true := by simpa [keysL] using hq
    obtain ⟨vs', h1, h2, h3, h4, h5⟩ := merge_rel (ks := putKs ks q) (vs := putVs ks vs q u) zs (by simpa using e) hq'.2 (putKs_len hl) (keysL_put hk hq'.1) (fzs_putVs z hz (k := q) (ks := ks))
    refine ⟨vs', ?_, h2, h3, h4, ?_⟩
    · show mergeK (putK (ks.zip vs) q u) (qs.zip us) = _
      rw [putK_zip hl]
      exact h1
    · have := putVs_le (ks := ks) (vs := vs) (k := q) (v := u)
      simp only [List.length_cons]
      omega
  | [], _ :: _, _, _, _, _, _, e, _, _, _, _ => by simp at e
  | _ :: _, [], _, _, _, _, _, e, _, _, _, _ => by simp at e
theorem pairs_rel : ∀ {vs : List V} {ds : List D} {qs : List Key} {es : List D}, Fzs K F vs ds → pairsD ds = some (qs, es) → ∃ ps us, vs = ps.map V.ref ∧ qs.length = us.length ∧ keysL qs = true ∧ Fzs K F us es ∧ Paired (fun p (kv : Key × V) => SqT K F p [kV kv.1, kv.2]) ps (qs.zip us)
  | _, _, qs, es, .nil, e => by
    simp [pairsD] at e
    obtain ⟨rfl, rfl⟩ := e
    exact ⟨[], [], rfl, rfl, rfl, .nil, .nil⟩
  | _, _, qs, es, .cons (d := d) (ds := ds) z zs, e => by
    unfold pairsD at e
    split at e
    · rename_i heq; cases heq
    · rename_i k x rest heq
      cases heq
      split at e
      · rename_i q qs' es' e1 e2
        cases e
        obtain ⟨ps, us, rfl, h2, h3, h4, h5⟩ := pairs_rel zs e2
        obtain ⟨a, ws, rfl, hi, hs⟩ := z.node
        cases hs with
        | cons z1 hs => cases hs with
          | cons z2 hs =>
            cases hs
            rename_i v1 v2
            refine ⟨a :: ps, v2 :: us, rfl, by simp [h2], by simpa [keysL] using ⟨keyL_of z1 e1, by simpa [keysL] using h3⟩, .cons z2 h4, .cons ?_ h5⟩
            rw [keyD_rel z1 e1] at hi
            exact SqT.of hi.1
      · cases e
    · cases e
theorem c1_dict : C1N K (rDict K) dDict := by
  intro F H x dx d Q ex z e new
  unfold dDict at e
  split at e
  · obtain ⟨p, e1, rfl⟩ := Option.map_eq_some_iff.mp e
    obtain ⟨a, vs, rfl, hi, hs⟩ := z.node ex
    obtain ⟨ps, us, rfl, h2, h3, h4, h5⟩ := pairs_rel (qs := p.1) (es := p.2) hs e1
    obtain ⟨vs', q1, q2, q3, q4, q5⟩ := merge_rel (ks := []) (vs := []) (ds := []) h4 h2 h3 rfl rfl .nil
    refine .inl ⟨a, ps, _, rfl, SqL.of hi.1, h5.mono fun p kv h => sqT_mono ex h, fun l hl => ?_⟩
    have e2 : mergeK [] (p.1.zip us) = (mergeD [] [] p.1 p.2).1.zip vs' := q1
    have e3 := h5.length
    have e4 := hi.2
    rw [List.length_zip] at e3
    rw [List.length_map] at e4
    rw [e2]
    exact new l (.dK _) vs' _ _ rfl rfl hl (if_pos ⟨q2, by rw [List.length_nil] at q5; omega, q3⟩) q4
  · cases e
    obtain ⟨a, vs, rfl, hi, hs⟩ := z.node ex
    exact .inr ⟨a, _, rfl, hi.2.1, fun p hp => new p _ vs _ _ rfl rfl hp (if_pos ⟨hi.1, hi.2.2⟩) hs⟩
  · cases e
end
end Y

set_option Elab.async false
set_option linter.all false
set_option maxRecDepth 100000
set_option maxHeartbeats 2000000
/-! Dict comprehensions. -/
namespace Y
open PySem L2
def dcL (g : D → En → Option En) (t : En → R Bool) (ek ev : En → R D) (vs : List Nat) : List D → En → List Key → List D → R D
  | [], ρ, ks, es => .ok (.nd (.dK ks) es) ρ
  | d :: ds, ρ, ks, es => match g d ρ with
    | none => .bad
    | some ρ1 => bnd (noX (t ρ1)) fun b ρ2 => if b = true then bnd (noX (ek ρ2)) fun k ρ3 => bnd (noX (ev ρ3)) fun x ρ4 => match keyD k with
      | some q => if ks.length < sizeLine then dcL g t ek ev vs ds (wipeE vs ρ4) (putKs ks q) (putDs ks es q x) else .bad
      | none => .bad else dcL g t ek ev vs ds (wipeE vs ρ2) ks es
structure MkD (K : PySem.W.Frag) (w : Wd) (F1 F H : Hp) (L : Addr) (σ : St) (ρ : En) (fp : List Addr) (ks : List Key) (es : List D) : Prop where
  s : StaW K w F H σ ρ fp
  ex : Same F1 F
  nf : L ∉ fp
  nF : F L = none
  kl : keysL ks = true
  at_ : ∃ vs, H L = some (.dK (ks.zip vs)) ∧ ks.length = vs.length ∧ Fzs K F vs es
section
variable {K : PySem.W.Frag} {w : Wd} {F1 F F' H H' : Hp} {fp fp' : List Addr} {σ σ' : St} {ρ ρ' : En} {L : Addr} {ks : List Key} {es : List D} {x : V} {d : D}
theorem MkD.go (m : MkD K w F1 F H L σ ρ fp ks es) (t : Tr F H fp F' H' fp') (s : StaW K w F' H' σ' ρ' fp') : MkD K w F1 F' H' L σ' ρ' fp' ks es := by
  obtain ⟨vs, h1, h0, h2⟩ := m.at_
  refine ⟨s, m.ex.trans t.ex, fun h => ?_, ?_, m.kl, vs, t.keep L _ h1 m.nf, h0, h2.mono t.ex⟩
  · rcases t.new L (.inl h) with q | q
    · exact m.nf q
    · rw [h1] at q; cases q
  · cases q : F' L with
    | none => rfl
    | some o =>
      rcases t.new L (.inr ⟨m.nF, by rw [q]; exact (fun z => nomatch z), IsTp.not h1 fun _ e => nomatch e⟩) with r | r
      · exact absurd r m.nf
      · rw [h1] at r; cases r
theorem MkD.app {q : Key} (m : MkD K w F1 F H L σ ρ fp ks es) (z : Fz K F x d) (hq : keyL q = true) : ∃ kvs, H L = some (.dK kvs) ∧ kvs.length = ks.length ∧ MkD K w F1 F (upd H L (.dK (putK kvs q x))) L σ ρ fp (putKs ks q) (putDs ks es q d) ∧ Tr F H (L :: fp) F (upd H L (.dK (putK kvs q x))) (L :: fp) := by
  obtain ⟨vs, h1, h0, h2⟩ := m.at_
  refine ⟨_, h1, by rw [List.length_zip]; omega, ⟨⟨same_updR m.s.ex m.nF, m.s.sl.frame (Same.refl _) fun a ha o h => ?_, m.s.nd, m.s.own, m.s.lock⟩, m.ex, m.nf, m.nF, keysL_put m.kl hq, putVs ks vs q x, ?_, putKs_len h0, fzs_putVs z h2⟩, ⟨Same.refl _, fun b o h n => ?_, fun b h => h.elim .inl fun ⟨q1, q2, _⟩ => absurd q1 q2⟩⟩
  · rw [upd_ne (fun (q : a = L) => m.nf (q ▸ ha))]; exact h
  · rw [upd_same, putK_zip h0]
  · rw [upd_ne (fun (q : b = L) => n (q ▸ List.mem_cons_self))]; exact h
theorem MkD.start (s : StaW K w F H σ ρ fp) (hL : H L = none) : MkD K w F F (upd H L (.dK [])) L σ ρ fp [] [] ∧ Tr F H fp F (upd H L (.dK [])) (L :: fp) := by
  obtain ⟨n1, n2⟩ := s.fresh hL
  obtain ⟨s1, t1⟩ := s.newO (k := .dK []) (vs := []) (ds := []) hL rfl rfl .nil
  refine ⟨⟨⟨same_updR s.ex n2, s.sl.frame (Same.refl _) fun a ha o h => ?_, s.nd, s.own, s.lock⟩, Same.refl _, n1, n2, rfl, [], upd_same, rfl, .nil⟩, t1⟩
  rw [upd_ne (ne_of_none h hL)]; exact h
theorem MkD.done (m : MkD K w F1 F H L σ ρ fp ks es) (hl : ks.length ≤ sizeLine) : StaW K w F H (some (.ref L) :: σ) (some (.o (.nd (.dK ks) es)) :: ρ) (L :: fp) := by
  obtain ⟨vs, h1, h0, h2⟩ := m.at_
  exact ⟨m.s.ex, .ow (k := .dK ks) ⟨h0, h1, by omega, m.kl⟩ h2 m.s.sl, List.nodup_cons.mpr ⟨m.nf, m.s.nd⟩, fun a ha => (List.mem_cons.mp ha).elim (fun e => e ▸ m.nF) (m.s.own a), m.s.lock⟩
end
section
variable {K : PySem.W.Frag} {w : Wd} {src : En → R (List D)} {g : D → En → Option En} {t : En → R Bool} {ek ev : En → R D} {vs is : List Nat} {σ : St} {H : Hp} {Q : VK}
theorem putKs_le {ks : List Key} {q : Key} (h : ks.length < sizeLine) : (putKs ks q).length ≤ sizeLine := by
  unfold putKs
  split
  · omega
  · rw [List.length_append]; exact h
theorem dc_body {ds : List D} {J : It} {F1 H1 : Hp} {ρ1 : En} {fp1 : List Addr} (his : ∀ i ∈ is, i ∈ vs) (s1 : StaW K w F1 H1 σ ρ1 fp1) (I : Itz K F1 J ds) (h1 : Pst K w F1 H1 fp1 σ (dcL g t ek ev vs ds (wipeE vs ρ1) [] []) (nO K w σ Q)) : tDc (fun _ H R => R J H) (cG K w.in1 is g) (cT K w.in1 t) (cF K w.in1 ek) (cF K w.in1 ev) vs σ H1 Q := fun L hL => by
  obtain ⟨fpw, sw, tw⟩ := StaW.wipe (vs := vs) s1
  obtain ⟨m0, t0⟩ := MkD.start sw hL
  refine ⟨fun i k H => k = ds.length - i ∧ i ≤ ds.length ∧ ∃ F ρ fp ks es, MkD K w F1 F H L (wipe σ vs) ρ fp ks es ∧ ks.length ≤ sizeLine ∧ Pst K w F H (L :: fp) σ (dcL g t ek ev vs (ds.drop i) ρ ks es) (nO K w σ Q), ⟨ds.length, by simp, Nat.zero_le _, F1, _, fpw, [], [], m0, Nat.zero_le _, Pst.tr h1 (tw.trans t0)⟩, ?_⟩
  rintro i k H ⟨rfl, hi, F, ρ, fp, ks, es, m, hz, h⟩
  by_cases hlt : i < ds.length
  · refine .inr ⟨I.go i H (m.ex.trans m.s.ex) hlt, fun H => ∃ F ρ fp ks es, MkD K w F1 F H L (wipe σ vs) ρ fp ks es ∧ ks.length ≤ sizeLine ∧ Pst K w F H (L :: fp) σ (dcL g t ek ev vs (ds.drop (i + 1)) ρ ks es) (nO K w σ Q), fun H' q => ⟨ds.length - (i + 1), by omega, rfl, hlt, q⟩, fun x H' y => ?_⟩
    obtain ⟨d, F2, ed, s2, t2, z⟩ := given I m.s m.ex hlt y
    have m2 := m.go t2 s2
    have edr : ds.drop i = d :: ds.drop (i + 1) := by
      obtain ⟨h1, h2⟩ := List.getElem?_eq_some_iff.mp ed
      rw [← h2]
      exact List.drop_eq_getElem_cons h1
    rw [edr] at h
    unfold dcL at h
    cases q : g d ρ with
    | none => simp only [q] at h; exact h.elim
    | some ρ2 =>
      simp only [q] at h
      refine ⟨F2, ρ, fp, d, ρ2, s2, z, q, fun σ3 fp3 s3 t3 o3 => ?_⟩
      have ew : wipe σ3 vs = wipe σ vs := (o3 vs his).trans (wipe_sub fun _ h => h)
      have h3 := Pst.tr h (t2.trans t3).cons
      have m3 := m2.go t3 s3
      refine ⟨ew, F2, ρ2, fp3, s3, ?_⟩
      cases q1 : t ρ2 with
      | bad => rw [q1] at h3; exact h3.elim
      | exc c x ρ => rw [q1] at h3; exact h3.elim
      | ok b ρ4 =>
        rw [q1] at h3
        intro F4 H4 fp4 t4 s4
        have m4 := m3.go t4 s4
        have h4 := Pst.tr h3 t4.cons
        cases b with
        | false =>
          refine iteF ?_
          obtain ⟨fp5, s5, t5⟩ := StaW.wipe (vs := vs) s4
          rw [ew] at s5
          exact ⟨F4, _, fp5, ks, es, m4.go t5 s5, hz, by simpa [noX_ok, bnd_ok] using Pst.tr h4 t5.cons⟩
        | true =>
          refine iteT ⟨F4, ρ4, fp4, s4, ?_⟩
          have h4' : Pst K w F4 H4 (L :: fp4) σ (bnd (noX (ek ρ4)) fun k ρ3 => bnd (noX (ev ρ3)) fun x ρ4 => match keyD k with
            | some q => if ks.length < sizeLine then dcL g t ek ev vs (ds.drop (i + 1)) (wipeE vs ρ4) (putKs ks q) (putDs ks es q x) else .bad
            | none => .bad) (nO K w σ Q) := by simpa [noX_ok, bnd_ok] using h4
          cases q2 : ek ρ4 with
          | bad => rw [q2] at h4'; exact h4'.elim
          | exc c x ρ => rw [q2] at h4'; exact h4'.elim
          | ok dk ρ5 =>
            rw [q2] at h4'
            intro F5 H5 fp5 t5 vk s5 zk
            have m5 := m4.go t5 s5
            have h5 := Pst.tr h4' t5.cons
            refine ⟨F5, ρ5, fp5, s5, ?_⟩
            have h5' : Pst K w F5 H5 (L :: fp5) σ (bnd (noX (ev ρ5)) fun x ρ4 => match keyD dk with
              | some q => if ks.length < sizeLine then dcL g t ek ev vs (ds.drop (i + 1)) (wipeE vs ρ4) (putKs ks q) (putDs ks es q x) else .bad
              | none => .bad) (nO K w σ Q) := by simpa [noX_ok, bnd_ok] using h5
            cases q3 : ev ρ5 with
            | bad => rw [q3] at h5'; exact h5'.elim
            | exc c x ρ => rw [q3] at h5'; exact h5'.elim
            | ok dx ρ6 =>
              rw [q3] at h5'
              intro F6 H6 fp6 t6 vx s6 zx
              have m6 := m5.go t6 s6
              have h6 := Pst.tr h5' t6.cons
              obtain ⟨fp7, s7, t7⟩ := StaW.wipe (vs := vs) s6
              rw [ew] at s7
              have m7 := m6.go t7 s7
              have h7 := Pst.tr h6 t7.cons
              cases q4 : keyD dk with
              | none => exact (show False by simpa [bnd, noX, q4, Pst] using h7).elim
              | some q =>
                by_cases hl : ks.length < sizeLine
                · obtain ⟨kvs, e1, e2, m8, t8⟩ := m7.app (q := q) zx (keyL_of zk q4)
                  refine ⟨kvs, q, keyD_rel zk q4, e1, by rw [e2]; exact hl, F6, _, fp7, _, _, m8, putKs_le hl, ?_⟩
                  have h8 := Pst.tr h7 t8
                  simpa [bnd, noX, q4, hl] using h8
                · exact (show False by simpa [bnd, noX, q4, hl, Pst] using h7).elim
  · have e : i = ds.length := by omega
    subst e
    rw [List.drop_length] at h
    have mu : MkD K w F1 F H L σ ρ fp ks es := ⟨StaW.unwipe m.s, m.ex, m.nf, m.nF, m.kl, m.at_⟩
    exact .inl ⟨I.stop H (m.ex.trans m.s.ex), h F H (L :: fp) .refl (.ref L) (mu.done hz)⟩
theorem dcL_quiet : ∀ (ds : List D) (ρ : En) (ks : List Key) (es : List D), quiet (dcL g t ek ev vs ds ρ ks es)
  | [], ρ, ks, es => trivial
  | d :: ds, ρ, ks, es => by
    unfold dcL
    cases g d ρ with
    | none => trivial
    | some ρ1 =>
      dsimp only
      cases h : t ρ1 with
      | bad => trivial
      | exc c x ρ => trivial
      | ok b ρ2 =>
        cases b with
        | false => simpa [noX, bnd] using dcL_quiet ds _ ks es
        | true =>
          cases h2 : ek ρ2 with
          | bad => simp [noX, bnd, h2, quiet]
          | exc c x ρ => simp [noX, bnd, h2, quiet]
          | ok k ρ3 =>
            cases h3 : ev ρ3 with
            | bad => simp [noX, bnd, h2, h3, quiet]
            | exc c x ρ => simp [noX, bnd, h2, h3, quiet]
            | ok x ρ4 =>
              simp only [noX, bnd, h2, h3, if_true]
              split
              · split
                · exact dcL_quiet ds _ _ _
                · trivial
              · trivial
end
section
variable {X : Cx} {w : Wd} {tg iter kx vx : Expr} {ifs : List Expr} {scope : Scope} {is : List Nat} {g : D → En → Option En} {t : En → R Bool} {ek ev : En → R D} {src : List Key → List D → List D} {srcL : En → R (List D)} {pos : Pos}
def sDc (src : En → R (List D)) (g : D → En → Option En) (t : En → R Bool) (ek ev : En → R D) (vs : List Nat) : En → R D := fun ρ => bnd (src ρ) fun ds ρ1 => dcL g t ek ev vs ds (wipeE vs ρ1) [] []
def sDcD (i : Nat) (src : List Key → List D → List D) (g : D → En → Option En) (t : En → R Bool) (ek ev : En → R D) (vs : List Nat) : En → R D := sDct i fun ks ds ρ => dcL g t ek ev vs (src ks ds) (wipeE vs ρ) [] []
theorem d_dc (own : List (Str × Nat)) (hc : X.calm = true) (hN : X.N.Nodup) (hi : PI X tg iter (cI X.K w srcL)) (ok : BlkOk X.N X.env.scope scope own) (his : ∀ i ∈ is, i ∈ own.map (·.2))
    (hg : ∀ (s : Shared) (H : Hp) (C : Addr) (cl : List (Str × Addr)) (fp : List Addr), PG (X.blk s H scope (compEnvC scope cl C X.env) fp) tg (cG X.K w.in1 is g)) (ht : ∀ (s : Shared) (H : Hp) (C : Addr) (cl : List (Str × Addr)) (fp : List Addr), PTs (X.blk s H scope (compEnvC scope cl C X.env) fp) ifs (cT X.K w.in1 t))
    (hk : ∀ (s : Shared) (H : Hp) (C : Addr) (cl : List (Str × Addr)) (fp : List Addr), PE (X.blk s H scope (compEnvC scope cl C X.env) fp) kx (cF X.K w.in1 ek))
    (he : ∀ (s : Shared) (H : Hp) (C : Addr) (cl : List (Str × Addr)) (fp : List Addr), PE (X.blk s H scope (compEnvC scope cl C X.env) fp) vx (cF X.K w.in1 ev)) (hs : ∀ x, foldedSetIterable iter X.env x = pure x := by intro _; rfl) :
    PE X (.DictComp kx vx [⟨tg, iter, ifs, 0⟩] scope pos) (cO X.K w (sDc srcL g t ek ev (own.map (·.2)))) :=
  peI (pe_dc hc hN hi ok hg ht hk he hs) fun σ H Q h => by
    obtain ⟨F, ρ, fp, s, h⟩ := h
    exact ⟨F, ρ, fp, s, h.bnd fun ds ρ1 F1 H1 fp1 t1 h1 => fun J s1 I => dc_body his s1 I h1⟩
theorem d_dcD (i : Nat) (own : List (Str × Nat)) (hc : X.calm = true) (hN : X.N.Nodup) (hi : WkD X tg iter i src) (ok : BlkOk X.N X.env.scope scope own) (his : ∀ i ∈ is, i ∈ own.map (·.2))
    (hg : ∀ (s : Shared) (H : Hp) (C : Addr) (cl : List (Str × Addr)) (fp : List Addr), PG (X.blk s H scope (compEnvC scope cl C X.env) fp) tg (cG X.K w.in1 is g)) (ht : ∀ (s : Shared) (H : Hp) (C : Addr) (cl : List (Str × Addr)) (fp : List Addr), PTs (X.blk s H scope (compEnvC scope cl C X.env) fp) ifs (cT X.K w.in1 t))
    (hk : ∀ (s : Shared) (H : Hp) (C : Addr) (cl : List (Str × Addr)) (fp : List Addr), PE (X.blk s H scope (compEnvC scope cl C X.env) fp) kx (cF X.K w.in1 ek))
    (he : ∀ (s : Shared) (H : Hp) (C : Addr) (cl : List (Str × Addr)) (fp : List Addr), PE (X.blk s H scope (compEnvC scope cl C X.env) fp) vx (cF X.K w.in1 ev)) (hs : ∀ x, foldedSetIterable iter X.env x = pure x := by intro _; rfl) :
    PE X (.DictComp kx vx [⟨tg, iter, ifs, 0⟩] scope pos) (cO X.K w (sDcD i src g t ek ev (own.map (·.2)))) := by
  obtain ⟨wi, pw, run⟩ := hi
  have P := pe_dc (pos := pos) hc hN pw ok hg ht hk he hs
  refine peI (pe_or2 (pe_lock P) P) fun σ H Q h => ?_
  obtain ⟨F, ρ, fp, s, h⟩ := h
  refine dct_lock s h (fun ks ds ρ => dcL_quiet _ _ _ _) fun F H ρ fp a o ks vs ds Q s hl hlen hk hz h => ?_
  exact run σ F H a o ks vs ds _ hl hlen hk s.ex hz fun J I => dc_body his s I h
end
end Y

set_option Elab.async false
set_option linter.all false
set_option maxRecDepth 100000
set_option maxHeartbeats 2000000
/-! A name that changes, read on the left of ==, !=, by isinstance; room; what calls itself. -/
namespace Y
open PySem PySem.Spec L2
theorem r64 {k : Nat} {A : Around} (r : Room k A) : A.units + 64 < cLine := by have := r.un; omega
theorem r65 {k : Nat} {A : Around} (r : Room k A) : A.units + 65 < cLine := by have := r.un; omega
theorem r69 {k : Nat} {A : Around} (r : Room k A) : A.units + 69 < cLine := by have := r.un; omega
theorem r1 {k : Nat} {A : Around} (r : Room k A) : A.units + 1 < cLine := by have := r.un; omega
def RTB (K : PySem.W.Frag) (r : R2) (g : D → D → Option Bool) : Prop := ∀ F H x y dx dy b Q, Same F H → Bz K F H x dx → Bz K F H y dy → g dx dy = some b → Q (.bl b) H → r x y H Q
section
variable {K : PySem.W.Frag}
theorem rtb_eq : RTB K (rEqD K) dEq := by
  intro F H x y dx dy b Q ex zx zy e q
  unfold dEq at e
  split at e
  · rename_i c
    cases e
    exact ⟨_, _, zx.dp ex (okD_of c.1), zy.dp ex (okD_of c.2), shaped_ok c.1, shaped_ok c.2, q⟩
  · cases e
theorem rtb_ne : RTB K (rNeD K) dNe := by
  intro F H x y dx dy b Q ex zx zy e q
  unfold dNe at e
  split at e
  · rename_i c
    cases e
    exact ⟨_, _, zx.dp ex (okD_of c.1), zy.dp ex (okD_of c.2), shaped_ok c.1, shaped_ok c.2, q⟩
  · cases e
end
section
variable {X : Cx} {w : Wd} {b : Expr} {fb : En → R D} {pos p : Pos} {x : Str} {r : R2} {g : D → D → Option Bool} {op : CmpOp}
/-- x op e, x a name that changes -/
def sCmpV {α : Type} (i : Nat) (g : D → D → Option α) (fb : En → R D) : En → R α := fun ρ => bnd (sBor i ρ) fun _ _ => bnd (fb ρ) fun y ρ1 => bnd (sBor i ρ1) fun x ρ2 => lift (g x y) ρ2
theorem twoV {K : PySem.W.Frag} {r : R2} {α : Type} {g : D → D → Option α} {σ : St} {H : Hp} {Q : VK} {N : α → En → Hp → Hp → List Addr → Prop} (i : Nat) (h : ∃ F ρ fp, StaW K w F H σ ρ fp ∧ Pst K w F H fp σ (sCmpV i g fb ρ) N)
    (k : ∀ F H x y dx dy d ρ fp, StaW K w F H σ ρ fp → Bz K F H x dx → Fz K F y dy → g dx dy = some d → (∀ F' H' fp', Tr F H fp F' H' fp' → N d ρ F' H' fp') → r x y H Q) : tOp r (tVar i) (cF K w fb) σ H Q := by
  obtain ⟨F, ρ, fp, s, h⟩ := h
  unfold sCmpV at h
  obtain ⟨d0, v, _, ev, _, h⟩ := sBor_ok s h
  refine ⟨v, ev, F, ρ, fp, s, h.bnd fun dy ρ1 F1 H1 fp1 t1 h1 => fun y s1 zy => ?_⟩
  obtain ⟨d, v', _, e1, z, h2⟩ := sBor_ok s1 h1
  rw [ev] at e1
  cases e1
  obtain ⟨d', e, n⟩ := h2.lift
  exact k F1 H1 v y d dy d' ρ1 fp1 s1 z zy e n
theorem d_cmpV (i : Nat) (ho : OpR X (compareOp op) r) (hr : RTB X.K r g) (hb : PE X b (cF X.K w fb)) (hm : behindInMarks op b = false) (hN : X.N[i]? = some x := by rfl) (hv : Vis X.env.scope x := by first | exact Or.inl rfl | exact Or.inr (Or.inl rfl) | exact Or.inr (Or.inr rfl)) (hd : (x == ("__debug__" : Str)) = false := by decide) (hcd : (x == ("__classdict__" : Str)) = false := by decide) :
    PE X (.Compare (.Name x p) [op] [b] pos) (cF X.K w (sCmpV i (fun x y => (g x y).map D.bl) fb)) :=
  peI (pe_cmpR ho (pe_var hN hv hd hcd) hb hm) fun σ H Q h => twoV (N := nF X.K w σ Q) i h fun F H x y dx dy d ρ fp s zx zy e n => by
    obtain ⟨b, e1, rfl⟩ := Option.map_eq_some_iff.mp e
    exact hr F H x y dx dy b Q s.ex zx (.fz zy) e1 (n F H fp .refl _ s (.bl b))
theorem t_cmpV (i : Nat) (ho : OpR X (compareOp op) r) (hr : RTB X.K r g) (hb : PE X b (cF X.K w fb)) (hm : behindInMarks op b = false) (hN : X.N[i]? = some x := by rfl) (hv : Vis X.env.scope x := by first | exact Or.inl rfl | exact Or.inr (Or.inl rfl) | exact Or.inr (Or.inr rfl)) (hd : (x == ("__debug__" : Str)) = false := by decide) (hcd : (x == ("__classdict__" : Str)) = false := by decide) :
    PT X (.Compare (.Name x p) [op] [b] pos) (cT X.K w (sCmpV i g fb)) :=
  ptI (pt_cmpR ho (pe_var hN hv hd hcd) hb hm) fun σ H Q h => twoV (N := nT X.K w σ Q) i h fun F H x y dx dy b ρ fp s zx zy e n => hr F H x y dx dy b _ s.ex zx (.fz zy) e ⟨b, rfl, n F H fp .refl s⟩
/-- isinstance(x, T), x a name that changes -/
def sIsiV (i : Nat) (T : String) : En → R D := fun ρ => bnd (sBor i ρ) fun d ρ1 => lift ((isTy d (.ty T)).map D.bl) ρ1
theorem d_isiV (i : Nat) {y z : Str} {T : String} {p1 p2 p3 : Pos} (hg : Gl X y) (hm : X.mg y = none) (hg2 : Gl X z) (hm2 : X.mg z = none) (hv2 : bootBuiltins z = some (.type T)) (hbv : bootBuiltins y = some (.builtin "isinstance")) (hN : X.N[i]? = some x := by rfl) (hv : Vis X.env.scope x := by first | exact Or.inl rfl | exact Or.inr (Or.inl rfl) | exact Or.inr (Or.inr rfl)) (hd : (x == ("__debug__" : Str)) = false := by decide) (hcd : (x == ("__classdict__" : Str)) = false := by decide)
    (hn : y ≠ "__name__" := by decide) (hn2 : z ≠ "__name__" := by decide) (hd1 : (y == ("__debug__" : Str)) = false := by decide) (hd2 : (z == ("__debug__" : Str)) = false := by decide)
    (hs : starEach [.Name x p1, .Name z p2] X.env = (false, eval (.Name x p1) X.env) :: starEach [.Name z p2] X.env := by rfl) (hs2 : starEach [.Name z p2] X.env = (false, eval (.Name z p2) X.env) :: starEach [] X.env := by rfl) (hpl : (backTo pos (starEach [.Name z p2] X.env)).any (·.1) = false := by rfl) :
    PE X (.Call (.Name y p3) [.Name x p1, .Name z p2] [] pos) (cF X.K w (sIsiV i T)) :=
  peI (pe_callB cr_isi hg hm hbv (pa_cons (pe_var hN hv hd hcd) (pa_cons (pe_bltn (v := .ty T) hg2 hm2 hv2 rfl hn2 hd2) pa_nil hs2) hs) hn hd1 hs hpl) fun σ H Q h => by
    obtain ⟨F, ρ, fp, s, h⟩ := h
    unfold sIsiV at h
    obtain ⟨d, v, _, ev, z, h⟩ := sBor_ok s h
    obtain ⟨r, e, n⟩ := h.lift
    obtain ⟨b, e1, rfl⟩ := Option.map_eq_some_iff.mp e
    unfold isTy at e1
    split at e1
    · rename_i t T' ht hT
      cases hT
      exact ⟨v, ev, .inl ⟨_, _, _, _, b, rfl, .ty T, z.tyx s.ex ht, kit_ty (isA_kit ht e1), n F H fp .refl _ s (.bl _)⟩⟩
    · cases e1
end
/-- +, of lists too -/
def dPlus : D → D → Option D
  | .nd .lst a, .nd .lst b => dCat (.nd .lst a) (.nd .lst b)
  | a, b => dAdd a b
def rPlusA (K : PySem.W.Frag) : R2 := fun x y H Q => rPlus K x y H Q ∨ rCat x y H Q
theorem op_plusA {X : Cx} : OpR X (binaryOp .Add) (rPlusA X.K) := op_plus.or op_cat
theorem rb_plusA {K : PySem.W.Frag} : RB K (rPlusA K) dPlus := by
  intro F H x y dx dy d Q ex zx zy e old new
  unfold dPlus at e
  split at e
  · exact .inr (rn_cat F H x y _ _ d Q ex zx zy e fun p k vs ds ho h1 _ h2 h3 h4 => new p k vs ds ho h1 h2 h3 h4)
  · exact .inl (rb_plus F H x y _ _ d Q ex zx zy e old new)
/-- a def of which nothing is asked -/
theorem mkDef0 {P : Program} {w : World} {K : PySem.W.Frag} {mg : Str → Option Value} {base : Heap} {x : Str} {st : Stmt} {f : Addr} {fd : FuncData} {N ps : List Str} {k np n : Nat} {cls : Str → Value} {io lk0 : Bool} {fs : List D → FO} (F : Fun K x x st f fd) (hm : mg x = some (.ref f)) (b : Binds K fd ps []) (S : FnScope N ps (defScope st)) (hf : ∀ ds, fs ds = .bad) (hp : ps.length = np := by rfl) : Def P w K mg base CX0 (k + 1) x cls io lk0 np fs := by
  refine ⟨⟨f, fd, ps, F.ok S (fun vs H Q E h => h.1.trans hp.symm) (fun cdv A outer s H vs Q E hr h => ?_), hm, F.kp, b⟩, fun ds _ => hf ds⟩
  obtain ⟨hl, G, fp, ds, lk, β, hlk, hio, st', h⟩ := h
  rw [hf] at h
  exact h.elim
end Y

set_option Elab.async false
set_option linter.all false
set_option maxRecDepth 100000
set_option maxHeartbeats 2000000
/-! The law's own head. -/
namespace Y
open PySem PySem.Spec PyProof.Rows L2
section
variable {P : Program} {w : World} {K : PySem.W.Frag} {mg : Str → Option Value} {base : Heap}
theorem mkFn {x : Str} {st : Stmt} {f : Addr} {fd : FuncData} {N ps : List Str} {k np n : Nat} {cls : Str → Value} {io lk0 : Bool} {m : En → R Fl} (F : Fun K x x st f fd) (S : FnScope N ps (defScope st)) (hn : N.length = n := by rfl) (hp : ps.length = np := by rfl)
    (body : ∀ (cdv : Value) (A : Around) (outer : List Env) (s : Shared) (H : Hp) (E : XK) (W : Wd), Room k (A.deeper (envOfC x (defScope st) s.heap.objs.size f cdv)) → (W.lk = true → lk0 = true) → W.cls = cls → PSs (cxOf CX0 P w K mg base N x (defScope st) f cdv A outer s H E).nox (defBody st) (cS K W m)) : FnOk P w K mg base CX0 (k + 1) f fd ps (spF K cls io lk0 np (runF io np n m)) := by
  refine F.ok S (fun vs H Q E h => h.1.trans hp.symm) (fun cdv A outer s H vs Q E hr h => ?_)
  obtain ⟨hl, G, fp, ds, lk, β, hlk, hio, st', h⟩ := h
  refine ⟨_, body cdv A outer s H E ⟨β, lk, cls, fun c dd _ H => E c dd H⟩ hr hlk rfl, ?_⟩
  subst hn
  exact body_ok (w := ⟨β, lk, cls, fun c dd _ H => E c dd H⟩) rfl st' hl h
end
theorem fz_ints {K : PySem.W.Frag} {F : Hp} : ∀ ns : List Int, Fzs K F (ns.map V.int) (ns.map D.int)
  | [] => .nil
  | n :: ns => .cons (.int n) (fz_ints ns)
def noCls : Str → Value := fun _ => .none
theorem end_law {K : PySem.W.Frag} {fs : List D → FO} {H : Hp} {a : Addr} {ns : List Int} (hl : ns.length ≤ 63) (hS : SqL K H a (ns.map V.int)) (h : fs [.nd .scr (ns.map D.int)] = .val false (.bl true) none) : spF K noCls false true 1 fs [.ref a] H (fun v _ => v = .bl true) (fun _ _ _ => False) := by
  have z : Fz K H (.ref a) (.nd .scr (ns.map D.int)) := .nd ⟨hS, by rw [List.length_map]; exact Nat.le_trans hl (by decide)⟩ (fz_ints ns)
  refine ⟨rfl, H, [], [.nd .scr (ns.map D.int)], true, .non, fun _ => rfl, (fun q => nomatch q), ⟨Same.refl _, .fr z .nil, List.nodup_nil, fun a ha => (by cases ha), fun _ => trivial⟩, ?_⟩
  rw [h]
  intro v F' H' fp' t s
  cases hs : s.sl with
  | fr z tl => exact z.bl_inv
theorem walk {fs : List D → FO} {k : Nat} {l : PySem.W.OpenLaw} {q : Program} {loose : List Str} {XP : (Str → Option Value) → Heap → Prop} {YP : World → Heap → Prop} {d : DefRec} {K : Params → PySem.W.Frag} (hk : Room k callerA) (hn : l.most = some 63) (hdf : d.params.defaults = [])
    (hfs : ∀ ns : List Int, ns.length ≤ 63 → fs [.nd .scr (ns.map D.int)] = .val false (.bl true) none)
    (hY : ∀ (w : World) (h : Heap), YP w h → (K w.params).In h)
    (F : ∀ (w : World) (mg : Str → Option Value) (fa : Addr) (h : Heap), (K w.params).In h → h.Ns mainGlobals mg → mg d.name = some (.ref fa) →
      ∃ fd : FuncData, (∀ (s : Shared) (u : Value), BindsTo s fd ⟨[u], []⟩ [("script", u)]) ∧ ∀ base : Heap, (K w.params).In base → base.Ns mainGlobals mg → FnOk l.prog w (K w.params) mg base CX0 k fa fd ["script"] (spF (K w.params) noCls false true 1 fs)) :
    PySem.W.WalkO q loose XP YP l.row.toRowW d [] (fun f vs => PySem.call f vs) :=
  L2.walk_ofK (n := 63) (k := k) (x := "script") (CX := CX0) (sp := fun K => spF K noCls false true 1 fs) hn (by decide) hdf hk hY F (fun K H a ns hl _ hS => end_law hl hS (hfs ns hl)) fun _ _ _ _ z => z
end Y

set_option Elab.async false
set_option linter.all false
set_option maxRecDepth 100000
set_option maxHeartbeats 2000000
/-! x += i; lists and tuples repeated; a, b = x, y of names that are used within; dicts with tuple keys: list, sorted. -/
namespace Y
open PySem PySem.Spec PyProof.Rows L2 PySem.W

/-! ### x += e, whole numbers -/
def dPlusI : D → D → Option D
  | .int a, .int b => some (.int (a + b))
  | _, _ => none
section
variable {X : Cx} {w : Wd} {e : Expr} {f : En → R D} {pos pos' : Pos} {x : Str}
theorem s_augI (i : Nat) (he : PE X e (cF X.K w f)) (hN : X.N.Nodup) (hi : X.N[i]? = some x := by rfl) (hx : Loc X.env.scope x := by first | exact Or.inl rfl | exact Or.inr rfl)
    (hf : X.fn x = true ∨ X.env.scope.names.lookup x = some .local := by first | exact .inl rfl | exact .inr rfl) : PS X (.AugAssign (.Name x pos') .Add e pos) (cS X.K w (sSet i (sBin dPlusI (sVar i) f))) := psI (ps_aug hN hi hx he ip_add hf) fun D σ H h => by
  obtain ⟨F, ρ, fp, s, h⟩ := h
  unfold sSet sBin sVar at h
  cases q : ρ[i]? with
  | none => simp only [q, bnd] at h; exact h.elim
  | some o =>
    cases o with
    | none => simp only [q, bnd] at h; exact h.elim
    | some c =>
      cases c with
      | o d => simp only [q, bnd] at h; exact h.elim
      | b d => simp only [q, bnd] at h; exact h.elim
      | f d =>
        obtain ⟨v, e1, z⟩ := s.sl.getF q
        simp only [q] at h
        have h' : PstS X.K w F H fp (bnd (f ρ) fun y ρ2 => bnd (lift (dPlusI d y) ρ2) fun d ρ1 => .ok .nx (ρ1.set i (some (.f d)))) D := by
          cases q2 : f ρ with
          | ok y ρ2 => simp only [bnd, q2] at h ⊢; exact h
          | exc c x ρ2 => simp only [bnd, q2] at h ⊢; exact h
          | bad => simp only [bnd, q2] at h; exact h.elim
        refine ⟨v, e1, F, ρ, fp, s, PstS.bnd (e := f ρ) h' fun y ρ1 F1 H1 fp1 t1 h1 => fun u s1 zu => ?_⟩
        cases q3 : dPlusI d y with
        | none => rw [q3] at h1; exact h1.elim
        | some r =>
          rw [q3] at h1
          unfold dPlusI at q3
          split at q3
          · cases q3
            obtain ⟨fp2, s2, t2⟩ := s1.store (.int _) i
            exact ⟨_, _, z.int_inv, zu.int_inv, h1 _ F1 H1 fp2 t2 s2⟩
          · cases q3
end

/-! ### repeated -/
def dRep : D → D → Option D
  | .nd .lst ds, .int k => if -(2 ^ 63) ≤ k ∧ k < 2 ^ 63 ∧ ds.length * k.toNat ≤ sizeLine then some (.nd .lst (List.replicate k.toNat ds).flatten) else none
  | .nd .tup ds, .int k => if ds ≠ [] ∧ 2 ≤ k ∧ k ≤ 1000 ∧ ds.length ≤ 1000 then some (.nd .tup (List.replicate k.toNat ds).flatten) else none
  | _, _ => none
theorem fzs_rep {K : PySem.W.Frag} {F : Hp} {vs : List V} {ds : List D} (h : Fzs K F vs ds) : ∀ n : Nat, Fzs K F (List.replicate n vs).flatten (List.replicate n ds).flatten
  | 0 => .nil
  | n + 1 => by
    rw [List.replicate_succ, List.replicate_succ, List.flatten_cons, List.flatten_cons]
    exact h.append (fzs_rep h n)
theorem len_rep {α : Type} (l : List α) : ∀ n : Nat, (List.replicate n l).flatten.length = l.length * n
  | 0 => by simp
  | n + 1 => by rw [List.replicate_succ, List.flatten_cons, List.length_append, len_rep l n, Nat.mul_succ, Nat.add_comm]
def rRepA (K : PySem.W.Frag) : R2 := fun x y H Q => rRep x y H Q ∨ rRepT K x y H Q
theorem op_repA {X : Cx} : OpR X (binaryOp .Mult) (rRepA X.K) := op_rep.or op_repT
theorem rb_rep {K : PySem.W.Frag} : RB K (rRepA K) dRep := by
  intro F H x y dx dy d Q ex zx zy e old new
  unfold dRep at e
  split at e
  · split at e
    · rename_i ds k c
      cases e
      obtain ⟨a, vs, rfl, hi, hs⟩ := zx.node
      have hl := hs.length
      have c' : vs.length * k.toNat ≤ sizeLine := by rw [hl]; exact c.2.2
      exact .inl ⟨a, k, vs, rfl, zy.int_inv, ex _ _ hi.1, c.1, c.2.1, c', fun p hp => new p .lst _ _ _ rfl hp (if_pos (by rw [len_rep]; exact c')) (fzs_rep hs _)⟩
    · cases e
  · split at e
    · rename_i ds k c
      cases e
      obtain ⟨a, vs, rfl, hi, hs⟩ := zx.node
      have hl := hs.length
      have hz : (List.replicate k.toNat vs).flatten.length ≤ sizeLine := by
        rw [len_rep]
        have h1 : vs.length ≤ 1000 := by rw [hl]; exact c.2.2.2
        have h2 : k.toNat ≤ 1000 := by omega
        exact Nat.le_trans (Nat.mul_le_mul h1 h2) (by decide)
      exact .inr ⟨a, k, vs, rfl, zy.int_inv, SqT.of (ex _ _ hi.1), fun q => c.1 (List.eq_nil_of_length_eq_zero (by rw [← hl, q]; rfl)), c.2.1, c.2.2.1, by rw [hl]; exact c.2.2.2, fun p hp => new p .tup _ _ _ rfl hp (if_pos hz) (fzs_rep hs _)⟩
    · cases e
  · cases e

/-! ### a, b = x, y, where a, b are used within -/
section
variable {X : Cx} {w : Wd} {fs : En → R (List S)} {pos : Pos}
theorem s_parC2 (i j : Nat) {x y : Str} {a b : Expr} {px py pt : Pos} {kt k2 pt2} (hc : X.calm = true) (hN : X.N.Nodup) (ha : PA X [a, b] (cS2 X.K w fs)) (hi : X.N[i]? = some x := by rfl) (hj : X.N[j]? = some y := by rfl)
    (hx : Loc X.env.scope x := by first | exact Or.inl rfl | exact Or.inr rfl) (hy : Loc X.env.scope y := by first | exact Or.inl rfl | exact Or.inr rfl)
    (fx : X.fn x = true ∨ X.env.scope.names.lookup x = some .local := by first | exact .inl rfl | exact .inr rfl) (fy : X.fn y = true ∨ X.env.scope.names.lookup y = some .local := by first | exact .inl rfl | exact .inr rfl)
    (h2 : (assignEach [.Name y py] X.env).map (·.2) = assign (.Name y py) X.env :: (assignEach [] X.env).map (·.2) := by rfl) (h3 : (assignEach [.Name x px, .Name y py] X.env).map (·.2) = assign (.Name x px) X.env :: (assignEach [.Name y py] X.env).map (·.2) := by rfl)
    (hn : (assignEach [.Name x px, .Name y py] X.env).length = 2 := by rfl) (hst : (assignEach [.Name x px, .Name y py] X.env).findIdx? (·.1) = none := by rfl)
    (hs : swapsWithSole [.Tuple [.Name x px, .Name y py] kt pt] (.Tuple [a, b] k2 pt2) pos.line X.env = pure false := by rfl)
    (hw : swappedStores [.Tuple [.Name x px, .Name y py] kt pt] (.Tuple [a, b] k2 pt2) X.env = pure none := by rfl)
    (h1 : (assignEach [.Tuple [.Name x px, .Name y py] kt pt] X.env).map (·.2) = [assign (.Tuple [.Name x px, .Name y py] kt pt) X.env] := by rfl) :
    PS X (.Assign [.Tuple [.Name x px, .Name y py] kt pt] (.Tuple [a, b] k2 pt2) pos) (cS X.K w (sPar2 i j fs)) :=
  psI (ps_asg (pe_tup ha) (pg_tup hc (pgs_cons (pg_name hN hi hx fx) (pgs_cons (pg_name hN hj hy fy) pgs_nil h2) h3) hn hst) hs hw h1) fun D σ H h => by
  obtain ⟨F, ρ, fp, s, h⟩ := h
  refine ⟨F, ρ, fp, s, PstS.bnd (e := fs ρ) h fun ss ρ1 F1 H1 fp1 t1 h1 => fun vs s1 hl => ?_⟩
  match ss, vs, hl with
  | [x, y], [v, u], _ =>
    dsimp only at h1
    split at h1
    · rename_i c
      refine ⟨show 2 ≤ sizeLine by decide, fun p hp => ⟨p, [v, u], rfl, SqT.of upd_same, rfl, ?_⟩⟩
      obtain ⟨s0, t0⟩ := Sta.ghost (o := .tup [v, u]) s1 hp
      obtain ⟨fp2, s2, t2⟩ := Sta.storeS s0 (noB_ne c.1) (i + 1)
      obtain ⟨fp3, s3, t3⟩ := Sta.storeS s2 (noB_ne c.2) j
      exact ⟨v, [u], rfl, u, [], rfl, rfl, h1 _ F1 _ fp3 (t0.trans (t2.trans t3)) s3⟩
    · exact h1.elim
  | [], _, _ => exact h1.elim
  | [_], _, _ => exact h1.elim
  | _ :: _ :: _ :: _, _, _ => exact h1.elim
end

/-! ### the keys of a dict with tuple keys -/
def kT (k : List Key) : D := .nd .tup (k.map kD)
/-- tuples may be frozen at any time -/
theorem Sta.tups {K : PySem.W.Frag} {β : V} {lk : Bool} {F H : Hp} {fp : List Addr} {σ : L2.St} {ρ : En} (s : Sta K β lk F H σ ρ fp) (bs : List Addr) (h : ∀ b ∈ bs, IsTp H b) :
    ∃ F', Sta K β lk F' H σ ρ fp ∧ Tr F H fp F' H fp ∧ ∀ b ∈ bs, F' b = H b := by
  have ex : Same F fun b => if b ∈ bs then H b else F b := fun b o e => by
    show (if b ∈ bs then H b else F b) = some o
    split
    · exact s.ex b o e
    · exact e
  refine ⟨fun b => if b ∈ bs then H b else F b, ⟨fun b o e => ?_, s.sl.frame ex fun _ _ _ e => e, s.nd, fun a ha => ?_, fun _ => trivial⟩, ⟨ex, fun _ _ e _ => e, fun a q => ?_⟩, fun b m => if_pos m⟩
  · have e' : (if b ∈ bs then H b else F b) = some o := e
    split at e'
    · exact e'
    · exact s.ex b o e'
  · show (if a ∈ bs then H a else F a) = none
    rw [if_neg fun m => s.sl.fpT a ha (h a m)]
    exact s.own a ha
  · rcases q with q | ⟨q1, q2, q3⟩
    · exact .inl q
    · have q2' : (if a ∈ bs then H a else F a) ≠ none := q2
      split at q2'
      · rename_i m; exact absurd (h a m) q3
      · exact absurd q1 q2'
theorem isKeys_tp {H : Hp} : ∀ {kvs : List (List Key × V)} {bs : List Addr}, IsKeys H kvs bs → ∀ b ∈ bs, IsTp H b
  | _, _, .nil, b, m => by cases m
  | _, _, .cons h t, b, m => by
    rcases List.mem_cons.mp m with e | m
    · rw [e]; exact ⟨_, h⟩
    · exact isKeys_tp t b m
theorem isKeys_len {H : Hp} {kvs : List (List Key × V)} {bs : List Addr} (h : IsKeys H kvs bs) : bs.length = kvs.length := (Paired.length h).symm
theorem isKeys_fz {K : PySem.W.Frag} {F H : Hp} : ∀ {kvs : List (List Key × V)} {bs : List Addr}, IsKeys H kvs bs → keyssL (kvs.map (·.1)) = true → (∀ b ∈ bs, F b = H b) → Fzs K F (bs.map V.ref) ((kvs.map (·.1)).map kT)
  | _, _, .nil, _, _ => .nil
  | _, _, .cons (a := p) (b := b) h t, l, e => by
    have l' := (Bool.and_eq_true _ _).mp (show (keyLL p.1 && keyssL (List.map (fun q : List Key × V => q.1) _)) = true from l)
    have l2 : keysL p.1 = true ∧ p.1.length ≤ sizeLine := by simpa [keyLL] using l'.1
    exact .cons (.nd ⟨(e b List.mem_cons_self).trans h, by rw [List.length_map]; exact l2.2⟩ (fz_keys l2.1)) (isKeys_fz t l'.2 fun c m => e c (List.mem_cons_of_mem _ m))
theorem zip_fst {α β : Type} : ∀ {ks : List α} {vs : List β}, ks.length = vs.length → (ks.zip vs).map (·.1) = ks
  | [], [], _ => rfl
  | k :: ks, v :: vs, e => by rw [List.zip_cons_cons, List.map_cons, zip_fst (by simpa using e)]
  | [], _ :: _, e => by simp at e
  | _ :: _, [], e => by simp at e
def dListT : D → Option D
  | .nd (.dT ks) _ => some (.nd .lst (ks.map kT))
  | _ => none
section
variable {X : Cx} {w : Wd} {e : Expr} {fa : En → R D} {x : Str} {p pos : Pos}
theorem d_listT (hc : X.calm = true) (hg : Gl X x) (hm : X.mg x = none) (hv : bootBuiltins x = some (.type "list")) (ha : PE X e (cB X.K w fa)) (hn : x ≠ "__name__" := by decide) (hd : (x == ("__debug__" : Str)) = false := by decide)
    (hs : starEach [e] X.env = (false, eval e X.env) :: starEach [] X.env := by rfl) (hpl : (backTo pos (starEach [] X.env)).any (·.1) = false := by rfl) : PE X (.Call (.Name x p) [e] [] pos) (cO X.K w (s1 dListT fa)) :=
  peI (pe_callTy (call_list_dT hc) hg hm hv (pa_cons ha pa_nil hs) hn hd hs hpl) fun σ H Q h => tB1 h fun F H v dx d ρ fp s z e n => by
    unfold dListT at e
    split at e
    · rename_i ks ds
      cases e
      obtain ⟨a, vs, rfl, hi, hz⟩ := z.node s.ex
      refine ⟨a, _, rfl, hi.2.1, fun p bs hp hk => ?_⟩
      obtain ⟨F', s', t', hb⟩ := s.tups bs (isKeys_tp hk)
      have z1 := isKeys_fz (K := X.K) hk (by rw [zip_fst hi.1]; exact hi.2.2.2) hb
      rw [zip_fst hi.1] at z1
      have hl : (bs.map V.ref).length ≤ sizeLine := by rw [List.length_map, isKeys_len hk, List.length_zip, hi.1, Nat.min_self]; exact hi.2.2.1
      exact fin_newO s' (fun F2 H2 fp2 t2 => n F2 H2 fp2 (t'.trans t2)) p .lst _ _ _ rfl rfl hp (if_pos hl) z1
    · cases e
/-- the keys beside their data -/
abbrev kbT (kvs : List (List Key × V)) (bs : List Addr) : List (V × D) := (bs.map V.ref).zip ((kvs.map (·.1)).map kT)
def rSortedT (K : PySem.W.Frag) : List V → Hp → VK → Prop := fun xs H Q => ∃ a kvs, xs = [V.ref a] ∧ Rd H a (.dT kvs) ∧ (∀ bs, IsKeys H kvs bs → SortOk K H (kbT kvs bs)) ∧
  ∀ bs p, IsKeys H kvs bs → H p = none → Q (.ref p) (upd H p (.lst (((kbT kvs bs).mergeSort (dataLe false pyb)).map (·.1))))
theorem cr_sortedT (hc : X.calm = true) (hu : X.A.units + 69 < cLine) : CallR X (.builtin "sorted") (rSortedT X.K) := by
  intro pins s σ H xs us Q I r h
  obtain ⟨a, kvs, rfl, hd, ok, q⟩ := h
  obtain ⟨u, rfl, rx⟩ := vals1 r
  cases rx
  obtain ⟨z, hs, rows, pr, o, es, ep, ho, hx, hdt, he, hnd⟩ := (show ObjOk X.prog X.w H s.heap a (.dT kvs) from hd.ok I.hok)
  have n1 := size_of_entries he
  have n2 := Paired.length pr
  refine sorted_gath (P := fun l => ∃ bs, IsKeys H kvs bs ∧ l = kbT kvs bs) hu (fun Q' E' gg => ?_) (fun l ⟨bs, k, el⟩ => el ▸ ok bs k) (fun l p ⟨bs, k, el⟩ hp => el ▸ q bs p k hp)
  refine PySem.W.kdu_collect (A := X.A.in1) (kdl_raw hs hx hdt) (I.ok.hd hc) ho (by omega) fun h' tk acc hk hacc => ?_
  have l1 : acc.toList.length = rows.length := by rw [Array.length_toList, hacc.1]; exact n1
  refine gg _ acc.toList _ (I.kept hk) (vals_each (vs := (rows.map fun x => x.2.1).map V.ref) (ds := (kvs.map (·.1)).map kT) (vals_of_at ?_ fun j x u e1 e2 => ?_) ?_) ⟨rows.map fun x => x.2.1, isKeys_of pr, rfl⟩
  · rw [List.length_map, List.length_map]; exact l1.symm
  · obtain ⟨en, g1, g2⟩ := hacc.2 j u (by rw [← Array.getElem?_toList]; exact e2)
    rw [entry_at he j] at g1
    obtain ⟨b, g3, g4⟩ := Option.map_eq_some_iff.mp g1
    rw [List.getElem?_map, List.getElem?_map, g3] at e1
    cases e1
    rw [g2, ← g4]
    rfl
  · simp only [List.length_map]; exact n2.symm
def dSortedT : D → Option D
  | .nd (.dT ks) _ => sortD (ks.map kT)
  | _ => none
theorem d_sortedT (hc : X.calm = true) (hu : X.A.units + 69 < cLine) (hg : Gl X x) (hm : X.mg x = none) (hv : bootBuiltins x = some (.builtin "sorted")) (ha : PE X e (cB X.K w fa)) (hn : x ≠ "__name__" := by decide) (hd : (x == ("__debug__" : Str)) = false := by decide)
    (hs : starEach [e] X.env = (false, eval e X.env) :: starEach [] X.env := by rfl) (hpl : (backTo pos (starEach [] X.env)).any (·.1) = false := by rfl) : PE X (.Call (.Name x p) [e] [] pos) (cO X.K w (s1 dSortedT fa)) :=
  peI (pe_callB (cr_sortedT hc hu) hg hm hv (pa_cons ha pa_nil hs) hn hd hs hpl) fun σ H Q h => tB1 h fun F H v dx d ρ fp s z e n => by
    unfold dSortedT at e
    split at e
    · rename_i ks ds
      unfold sortD at e
      split at e
      · rename_i c
        cases e
        obtain ⟨a, vs, rfl, hi, hz⟩ := z.node s.ex
        have zf := zip_fst hi.1
        have ln : ∀ bs, IsKeys H (ks.zip vs) bs → (bs.map V.ref).length = (((ks.zip vs).map (·.1)).map kT).length := fun bs k => by rw [List.length_map, isKeys_len k, List.length_map, List.length_map]
        have len : ∀ bs, IsKeys H (ks.zip vs) bs → (kbT (ks.zip vs) bs).length ≤ sizeLine := fun bs k => by
          rw [List.length_zip, ln bs k, Nat.min_self, zf]; exact c.2
        have fz : ∀ F' bs, IsKeys H (ks.zip vs) bs → (∀ b ∈ bs, F' b = H b) → ∀ b ∈ kbT (ks.zip vs) bs, Fz X.K F' b.1 b.2 := fun F' bs k hb => fzs_zip (isKeys_fz k (by rw [zf]; exact hi.2.2.2) hb)
        refine ⟨a, _, rfl, hi.2.1, fun bs k => ?_, fun bs p k hp => ?_⟩
        · refine sortOk (Same.refl H) (fz H bs k fun _ _ => rfl) ?_ (len bs k)
          rw [zip_2 (ln bs k), zf]
          exact c.1
        · obtain ⟨F', s', t', hb⟩ := s.tups bs (isKeys_tp k)
          have z1 := fzs_sort (fz F' bs k hb)
          rw [zip_2 (ln bs k), zf] at z1
          exact fin_newO s' (fun F2 H2 fp2 t2 => n F2 H2 fp2 (t'.trans t2)) p .lst _ _ _ rfl rfl hp (if_pos (by rw [List.length_map, List.length_mergeSort]; exact len bs k)) z1
      · cases e
    · cases e
end
end Y

set_option Elab.async false
set_option linter.all false
set_option maxRecDepth 100000
set_option maxHeartbeats 2000000
/-! Dict comprehensions of two fors: one lap of a walk as a step of its own, the two loops from it. -/
namespace Y
open PySem PySem.Spec PyProof.Rows L2
/-- one lap: the next thing, its target, the tests -/
def lap {β : Type} (t : Expr) (ts : List Expr) (it : Value) (ce : Env) (k0 : Sem β) (k : Bool → Sem β) : Sem β := do
  match ← pyNext it with
  | none => k0
  | some u =>
    letOwnedTupleGo t it u
    assign t ce u
    let mut go := true
    for q in ts do
      if go then go ← isTrue q ce (eval q ce)
    k go
abbrev dcx (kx vx t0 i0 : Expr) (ts0 : List Expr) (t1 i1 : Expr) (ts1 : List Expr) (scope : Scope) (pos : Pos) : Expr := .DictComp kx vx [⟨t0, i0, ts0, 0⟩, ⟨t1, i1, ts1, 0⟩] scope pos
section
variable {kx vx t0 i0 t1 i1 : Expr} {ts0 ts1 : List Expr} {scope : Scope} {pos : Pos}
theorem lap_out (it : Value) (L : Addr) (ce : Env) : compTurn (dcx kx vx t0 i0 ts0 t1 i1 ts1 scope pos) 0 it (.ref L) ce = (do
    standAt i0.pos
    lap t0 ts0 it ce (pure (.done .next)) fun go => do
      if go then
        let y ← eval i1 ce
        standAt i1.pos
        let y ← foldedSetIterable i1 ce y
        let _ ← runOwn (.compStart (dcx kx vx t0 i0 ts0 t1 i1 ts1 scope pos) 1 (← holding [y] (pyIter y)) (.ref L) ce) ce
      again (.compLoop (dcx kx vx t0 i0 ts0 t1 i1 ts1 scope pos) 0 it (.ref L) ce)) := by rfl
theorem lap_in (it : Value) (L : Addr) (ce : Env) : compTurn (dcx kx vx t0 i0 ts0 t1 i1 ts1 scope pos) 1 it (.ref L) ce = (do
    standAt i1.pos
    lap t1 ts1 it ce (pure (.done .next)) fun go => do
      if go then
        (do
          let a ← eval kx ce
          let b ← holding [a] (eval vx ce)
          standAt { kx.pos with endLine := vx.pos.endLine, endCol := vx.pos.endCol }
          holding [a, b] (dictSet L a b))
      again (.compLoop (dcx kx vx t0 i0 ts0 t1 i1 ts1 scope pos) 1 it (.ref L) ce)) := by rfl
end
section
variable {X : Cx} {β : Type} {pins : List (Addr × Obj)} {σ : L2.St} {H : Hp} {s : Shared} {t : Expr} {ts : List Expr} {J : It} {fp : List Addr} {it : Addr} {tn : Nat → Heap → Prop} {i : Nat} {k0 : Sem β} {k : Bool → Sem β} {Q : β → Shared → Prop} {E : Value → Shared → Prop}
theorem lap_stop (hc : X.calm = true) (T : Turn X.prog X.w X.K t J fp it tn) (I : Inv X pins σ H s) (fo : ∀ b ∈ fp, FpOk X pins H b) (st : tn i s.heap) (q : J.stop i H) (h : ∀ s', Inv X pins σ H s' → wpAny (model X.prog X.w) X.A k0 Q E s') :
    wpAny (model X.prog X.w) X.A (lap t ts (.ref it) X.env k0 k) Q E s := by
  unfold lap
  refine wpAny_bind (thnF (T.done X rfl rfl rfl hc i pins s σ H (fun _ _ => False) I fo st q) fun r s' ⟨e, I'⟩ => ?_)
  subst e
  exact h s' I'
theorem lap_go {g : TG} {tt : TT} {Z : Bool → L2.St → Hp → Prop} {P : L2.St → Prop} (hc : X.calm = true) (T : Turn X.prog X.w X.K t J fp it tn) (I : Inv X pins σ H s) (fo : ∀ b ∈ fp, FpOk X pins H b) (foN : ∀ (H' : Hp) (s' : Shared), Inv X pins σ H' s' → (∀ b ∈ fp, H' b = none) → ∀ b ∈ fp, FpOk X pins H' b)
    (st : tn i s.heap) (q : J.go i H) (pg : PG X t g) (pt : PTs X ts tt) (hxe : X.xe = fun _ _ => False) (h : ∀ x H', J.yld i H x H' → g x σ H' fun σ2 H2 => P σ2 ∧ tt σ2 H2 fun b H3 => Z b σ2 H3)
    (kk : ∀ b s' σ2 H3 ps, Inv X (pins ++ ps) σ2 H3 s' → P σ2 → Z b σ2 H3 → (∀ σ' H' s'', Inv X (pins ++ ps) σ' H' s'' → Inv X pins σ' H' s'' ∧ tn (i + 1) s''.heap ∧ ∀ b ∈ fp, H' b = none) → wpAny (model X.prog X.w) X.A (k b) Q E s') :
    wpAny (model X.prog X.w) X.A (lap t ts (.ref it) X.env k0 k) Q E s := by
  unfold lap
  refine wpAny_bind (thnF (T.item X rfl rfl rfl hc i pins s σ H (fun _ _ => False) I fo st q) fun r s1 ⟨u, e, h1⟩ => ?_)
  subst e
  refine wpAny_bind (thnF h1 fun _ s2 ⟨x, H2, I2, r2, y2, st2, n2⟩ => ?_)
  have I3 := I2.pinned (foN H2 s2 I2 n2) (T.obj _ _ st2)
  refine wpAny_bind (thnF (hxe ▸ pg.run _ s2 _ H2 x u _ I3 r2 (h x H2 y2)) fun _ s4 ⟨σ4, H4, I4, p4, q4⟩ => ?_)
  refine wpAny_bind (thnF (hxe ▸ pt.run _ s4 σ4 H4 _ I4 q4) fun b s5 ⟨H5, I5, q5⟩ => ?_)
  refine kk b s5 σ4 H5 _ I5 p4 q5 fun σ' H' s'' I' => ?_
  have pin' : ∀ b ∈ fp, ∀ o, s2.heap.get? b = some o → s''.heap.get? b = some o ∧ H' b = none := fun b hb o e =>
    let z := I'.pin (b, o) (List.mem_append_right _ (List.mem_append_right _ (mem_pinsAt hb e)))
    ⟨z.1, z.2.1⟩
  exact ⟨I'.unpinned, T.keep _ _ _ st2 fun b hb o e => (pin' b hb o e).1, fun b hb => let ⟨o, e, _⟩ := T.obj _ _ st2 b hb; (pin' b hb o e).2⟩
end
section
variable {prog : Program} {w : World} {A : Around} {R : Result → Shared → Prop} {s : Shared} {kx vx t0 i0 t1 i1 : Expr} {ts0 ts1 : List Expr} {scope : Scope} {pos : Pos} {it acc : Value} {ce : Env}
/-- the start of the inner walk -/
theorem dcx_start (h0 : codeAny (model prog w) A (.compLoop (dcx kx vx t0 i0 ts0 t1 i1 ts1 scope pos) 1 it acc ce) R s)
    (h : wpAny (model prog w) A (pyIter it) (fun j s' => codeAny (model prog w) A (.compLoop (dcx kx vx t0 i0 ts0 t1 i1 ts1 scope pos) 1 j acc ce) R s') (notedBy (model prog w) A ce fun x s' => R (.error x) s') s) :
    codeAny (model prog w) A (.compStart (dcx kx vx t0 i0 ts0 t1 i1 ts1 scope pos) 1 it acc ce) R s := by
  refine codeAny_of_tree ?_
  show wpAny _ _ ((compStart (dcx kx vx t0 i0 ts0 t1 i1 ts1 scope pos) 1 it acc ce).onRaise (fun x => do noteFrame x ce; standAt theWindowsPlace)) _ _ s
  refine wpAny_notedAt ?_
  unfold compStart
  show wpAny _ _ (ask >>= _) _ _ s
  refine wpAny_bind (wpAny_askSetting (wpAny_ite ?_))
  have last : wpAny (model prog w) A (pyIter it) (fun j s' => codeAny (model prog w) A (.compLoop (dcx kx vx t0 i0 ts0 t1 i1 ts1 scope pos) 1 j acc ce) R s') (notedBy (model prog w) A ce fun x s' => R (.error x) s') s := h
  split
  · first
      | exact wpAny_bind (wpAny_pure (wpAny_pure ⟨rfl, h0⟩))
      | exact wpAny_pure ⟨rfl, h0⟩
  · refine wpAny_bind (wpAny_rule ?_)
    first
      | exact wpAny_bind (wpAny_standAt (wpAny_bind (wpAny_mono last (fun j s' q => wpAny_pure ⟨rfl, q⟩) fun _ _ x => x)))
      | (show wpAny _ _ (standAt i1.pos >>= _) _ _ s; exact wpAny_bind (wpAny_standAt (wpAny_bind (wpAny_mono last (fun j s' q => wpAny_pure ⟨rfl, q⟩) fun _ _ x => x))))
end
section
variable {X : Cx}
/-- {k: v for .. in .. if .. for .. in .. if ..} -/
def tDc2 (wi : TI) (g : TG) (tt : TT) (wi1 : TI) (g1 : TG) (tt1 : TT) (tk tv : TE) (vs vs1 : List Nat) : TE := fun σ H Q => wi σ H fun J H1 => ∀ L, H1 L = none → ∃ W : Nat → Nat → Hp → Prop, (∃ m, W 0 m (upd H1 L (.dK []))) ∧ ∀ i m H, W i m H →
  (J.stop i H ∧ Q (.ref L) H) ∨ (J.go i H ∧ ∃ Nx : Hp → Prop, (∀ H', Nx H' → ∃ m', m' < m ∧ W (i + 1) m' H') ∧ ∀ x H', J.yld i H x H' → g x (wipe σ vs) H' fun σ2 H2 => wipe σ2 vs = wipe σ vs ∧ tt σ2 H2 fun b H3 =>
    if b = true then wi1 σ2 H3 fun J1 H4 => ∃ W1 : Nat → Nat → Hp → Prop, (∃ m, W1 0 m H4) ∧ ∀ j k H, W1 j k H →
      (J1.stop j H ∧ Nx H) ∨ (J1.go j H ∧ ∃ Nx1 : Hp → Prop, (∀ H', Nx1 H' → ∃ k', k' < k ∧ W1 (j + 1) k' H') ∧ ∀ x H', J1.yld j H x H' → g1 x (wipe σ2 vs1) H' fun σ3 H5 => wipe σ3 vs1 = wipe σ2 vs1 ∧ tt1 σ3 H5 fun b H6 =>
        if b = true then tk σ3 H6 fun y H7 => tv σ3 H7 fun z H8 => ∃ kvs k, y = kV k ∧ H8 L = some (.dK kvs) ∧ kvs.length < sizeLine ∧ Nx1 (upd H8 L (.dK (putK kvs k z))) else Nx1 H6)
    else Nx H3)
/-- what a block's step keeps: the slots that the block does not make -/
theorem keeps_wipe {σ σ2 : L2.St} {vs vs1 : List Nat} (e : wipe σ2 vs = wipe σ vs) (hv : ∀ i ∈ vs1, i ∈ vs) : (wipe σ vs).length = σ2.length ∧ (∀ (j : Nat) v, (wipe σ vs)[j]? = some (some v) → σ2[j]? = some (some v)) ∧ ∀ (j : Nat) v, (wipe σ vs)[j]? = some (some v) → (wipe σ2 vs1)[j]? = some (some v) := by
  refine ⟨by rw [← e, wipe_length], fun j v q => ?_, fun j v q => ?_⟩
  · rw [← e] at q; exact (wipe_some q).1
  · rw [← e] at q
    obtain ⟨q1, q2⟩ := wipe_some q
    rw [wipe_out fun z => q2 (hv j z)]
    exact q1
theorem dc2_core {kx vx tg iter tg1 iter1 : Expr} {ifs ifs1 : List Expr} {scope : Scope} {own : List (Str × Nat)} {vs1 : List Nat} {pos pos' : Pos} {wi wi1 : TI} {g g1 : TG} {tt tt1 : TT} {tk tv : TE} (hc : X.calm = true) (hN : X.N.Nodup) (hi : PI X tg iter wi) (ok : BlkOk X.N X.env.scope scope own) (hv : ∀ i ∈ vs1, i ∈ own.map (·.2))
    (hB : ∀ (s : Shared) (H : Hp) (C : Addr) (cl : List (Str × Addr)) (fp : List Addr), PG (X.blk s H scope (compEnvC scope cl C X.env) fp) tg g ∧ PTs (X.blk s H scope (compEnvC scope cl C X.env) fp) ifs tt ∧ PI (X.blk s H scope (compEnvC scope cl C X.env) fp) tg1 iter1 wi1 ∧
      PG (X.blk s H scope (compEnvC scope cl C X.env) fp) tg1 g1 ∧ PTs (X.blk s H scope (compEnvC scope cl C X.env) fp) ifs1 tt1 ∧ PE (X.blk s H scope (compEnvC scope cl C X.env) fp) kx tk ∧ PE (X.blk s H scope (compEnvC scope cl C X.env) fp) vx tv)
    (hs : ∀ x, foldedSetIterable iter X.env x = pure x) (hs1 : ∀ env x, foldedSetIterable iter1 env x = pure x) {pins : List (Addr × Obj)} {s : Shared} {σ : L2.St} {H : Hp} {Q : VK} {use : Option (Value → Sem Unit)} {Qf : Value → Shared → Prop} (I : Inv X pins σ H s)
    (h : tDc2 wi g tt wi1 g1 tt1 tk tv (own.map (·.2)) vs1 σ H Q) (hRR : ∀ L C s' m H', Inv X pins σ H' s' → Q (.ref L) H' → s'.heap.Ns C m → FpOk X pins H' C → compPost (model X.prog X.w) X.A X.xe use Qf (.ref L) C (.ok .next) s') :
    wpAny (model X.prog X.w) X.A (comprehension (dcx kx vx tg iter ifs tg1 iter1 ifs1 scope pos) scope X.env pos' newDict false (eval iter X.env) use) Qf X.xe s := by
  have hfree : ∀ y ∈ scope.names, y.2 = .free → ∃ c, X.env.cells.lookup y.1 = some c := fun y hy e => (ok.free y hy e).elim (fun k => I.ok.has _ (.inl k)) fun k => I.ok.has _ (.inr k)
  refine wpAny_comprehension_free (use := use) rfl hs (closure_ok hfree) ok.kind (fun y hy e => by rw [ok.uniq y hy, e]) (thn (hi.run pins s σ H _ I h) fun xv s1 hx => thn hx fun itv s2 h2 => ?_)
  obtain ⟨it, fp, tn, J, H2, e, I2, T, st2, f2, q⟩ := h2
  subst e
  refine wpAny_newObj_type (newEnv_comp ?_)
  generalize hL : s2.heap.objs.size = L
  obtain ⟨W, ⟨m0, w0⟩, turn⟩ := q L (I2.hok.fresh (Nat.le_of_eq hL))
  -- the new dict
  generalize hs3 : ({ s2 with heap := s2.heap.push { cls := .type "dict", data := .dict #[] } } : Shared) = s3
  have h3 : s3.heap = s2.heap.push { cls := .type "dict", data := .dict #[] } := by rw [← hs3]
  have up : ∀ b o, s2.heap.get? b = some o → s3.heap.get? b = some o := fun b o e => by rw [h3]; exact Heap.get?_push_of_some _ e
  have I3 : Inv X pins σ (upd H2 L (.dK [])) s3 := by
    rw [← hs3]
    refine I2.laid (t' := s2.toks) (fun b o e => Heap.get?_push_of_some _ e) (Nat.le_of_eq hL) ?_
    rw [← hL]
    exact dk_empty s2.heap I2.big
  have f3 : ∀ b ∈ fp, FpOk X pins (upd H2 L (.dK [])) b ∧ b < s3.heap.objs.size := fun b hb => by
    obtain ⟨o, e, _⟩ := T.obj _ _ st2 b hb
    have hlt := Heap.lt_size e
    have ne : b ≠ L := by rw [← hL]; exact Nat.ne_of_lt hlt
    exact ⟨⟨by rw [upd_ne ne]; exact (f2 b hb).1, (f2 b hb).2⟩, Heap.lt_size (up b o e)⟩
  have st3 : tn 0 s3.heap := T.keep _ _ _ st2 fun b _ o e => up b o e
  have I4 := block_start I3 ok hN f3
  obtain ⟨pg, pt, pi1, pg1, pt1, pk, pv⟩ := hB s3 (upd H2 L (.dK [])) s3.heap.objs.size (cellsFrom (s3.heap.objs.size + 1) scope.names (cloFrom X.env.cells scope.names [])) fp
  show codeAny _ _ (.compStart (dcx kx vx tg iter ifs tg1 iter1 ifs1 scope pos) 0 (.ref it) (.ref L) (compEnvC scope (cellsFrom (s3.heap.objs.size + 1) scope.names (cloFrom X.env.cells scope.names [])) s3.heap.objs.size X.env)) (compPost (model X.prog X.w) X.A X.xe use Qf (.ref L) s3.heap.objs.size) { s3 with heap := pushCells (s3.heap.push { cls := .type "dict", data := .dict #[] }) scope.names }
  have nfp : ∀ b ∈ fp, (upd H2 L (.dK [])) b = none := fun b hb => (f3 b hb).1.1
  generalize hce : compEnvC scope (cellsFrom (s3.heap.objs.size + 1) scope.names (cloFrom X.env.cells scope.names [])) s3.heap.objs.size X.env = ce at I4 pg pt pi1 pg1 pt1 pk pv ⊢
  have cL : ce.locals = s3.heap.objs.size := by subst hce; rfl
  generalize hH3 : upd H2 L (.dK []) = H3 at I3 I4 pg pt pi1 pg1 pt1 pk pv w0 nfp f3
  generalize hs4 : ({ s3 with heap := pushCells (s3.heap.push { cls := .type "dict", data := .dict #[] }) scope.names } : Shared) = s4 at I4 ⊢
  have st4 : tn 0 s4.heap := T.keep _ _ _ st3 fun b _ o e => by rw [← hs4]; exact pushCells_keeps _ _ _ _ (Heap.get?_push_of_some _ e)
  generalize hB' : X.blk s3 H3 scope ce fp = B at I4 pg pt pi1 pg1 pt1 pk pv
  have bp : B.prog = X.prog := by subst hB'; rfl
  have bw : B.w = X.w := by subst hB'; rfl
  have bK : B.K = X.K := by subst hB'; rfl
  have bA : B.A = X.A := by subst hB'; rfl
  have be : B.env = ce := by subst hB'; rfl
  have bx : B.xe = fun _ _ => False := by subst hB'; rfl
  have bc : B.calm = true := by subst hB'; exact hc
  have stat : ∀ (H' : Hp) (s' : Shared) σ', Inv B [] σ' H' s' → (∀ b ∈ fp, H' b = none) → ∀ b ∈ fp, FpOk B [] H' b := by
    subst hB'
    exact fun H' s' σ' I' hn b hb => ⟨hn b hb, (I'.ok.exf b hb).1, I'.ok.exfs b hb, .inl hb, fun x c e => (I'.ok.exf b hb).2 x c e, fun p hp => absurd (show p ∈ ([] : List (Addr × Obj)) ++ [] from hp) (by simp)⟩
  have back : ∀ (H' : Hp) (s' : Shared), Inv B [] (wipe σ (own.map (·.2))) H' s' → Q (.ref L) H' → compPost (model X.prog X.w) X.A X.xe use Qf (.ref L) s3.heap.objs.size (.ok .next) s' := by
    subst hB'
    intro H' s' I6 qq
    have I7 : Inv X pins σ H' s' := I3.call' (ch := fp) I6.os I6.base I6.hok I6.bare fun b hb => ⟨(f3 b hb).1.2.2.2.1, (f3 b hb).1.2.1, (f3 b hb).1.2.2.2.2.1, (f3 b hb).1.2.2.2.2.2⟩
    have nC : H' s3.heap.objs.size = none := by
      have z : H' ce.locals = none := I6.free
      rw [cL] at z
      exact z
    obtain ⟨m, hn, _⟩ := I6.loc
    have hn : s'.heap.Ns ce.locals m := hn
    rw [cL] at hn
    exact hRR L _ s' m H' I7 qq hn (I3.fpOk (Nat.le_refl _) nC)
  rw [← bp, ← bw, ← bK] at T
  have pg1' := pg1
  have loop : codeAny (model X.prog X.w) X.A (.compLoop (dcx kx vx tg iter ifs tg1 iter1 ifs1 scope pos) 0 (.ref it) (.ref L) ce) (compPost (model X.prog X.w) X.A X.xe use Qf (.ref L) s3.heap.objs.size) s4 := by
    refine codeAny_loop rfl (fun n s' => ∃ i H', Inv B [] (wipe σ (own.map (·.2))) H' s' ∧ tn i s'.heap ∧ (∀ b ∈ fp, H' b = none) ∧ W i n H') (fun n s5 ⟨i, H5, I5, st5, n5, w5⟩ => ?_) m0 ⟨0, H3, I4, st4, nfp, w0⟩
    show wpAny _ X.A ((compTurn (dcx kx vx tg iter ifs tg1 iter1 ifs1 scope pos) 0 (.ref it) (.ref L) ce).onRaise (fun x => do noteFrame x ce; theTreesLotGoes x)) _ _ s5
    refine wpAny_noted ?_
    rw [lap_out]
    refine wpAny_bind (wpAny_standAt ?_)
    rw [← bp, ← bw, ← bA, ← be]
    rcases turn i n H5 w5 with ⟨stop, qq⟩ | ⟨go, Nx, hNx, step⟩
    · exact lap_stop bc T I5 (stat H5 s5 _ I5 n5) st5 stop fun s6 I6 => wpAny_pure (by rw [bp, bw, bA]; exact back H5 s6 I6 qq)
    · refine lap_go (P := fun σ2 => wipe σ2 (own.map (·.2)) = wipe σ (own.map (·.2))) bc T I5 (stat H5 s5 _ I5 n5) (fun H' s' I' n' => stat H' s' _ I' n') st5 go pg pt bx step fun b s9 σ8 H9 ps I9 w8 q9 fin0 => ?_
      obtain ⟨kl, k1, k2⟩ := keeps_wipe w8 hv
      have fin : ∀ {σ9 : L2.St} {s' : Shared} {H' : Hp}, Inv B ([] ++ ps) σ9 H' s' → (wipe σ (own.map (·.2))).length = σ9.length → (∀ (j : Nat) v, (wipe σ (own.map (·.2)))[j]? = some (some v) → σ9[j]? = some (some v)) → Nx H' →
          ∃ m, m < n ∧ ∃ i H', Inv B [] (wipe σ (own.map (·.2))) H' s' ∧ tn i s'.heap ∧ (∀ b ∈ fp, H' b = none) ∧ W i m H' := fun {σ9 s' H'} I' hl hk nx => by
        obtain ⟨m', hm, w'⟩ := hNx H' nx
        obtain ⟨a1, a2, a3⟩ := fin0 _ _ _ I'
        exact ⟨m', hm, i + 1, H', a1.weak hl hk, a2, a3, w'⟩
      cases b with
      | false =>
        simp only [Bool.false_eq_true, if_false] at q9 ⊢
        exact wpAny_pure ⟨rfl, fin I9 kl k1 q9⟩
      | true =>
        simp only [if_true] at q9 ⊢
        refine wpAny_bind (thnF (bx ▸ pi1.run _ s9 σ8 H9 _ I9 q9) fun xv s10 hx => ?_)
        refine wpAny_bind (wpAny_standAt (wpAny_bind (wpAny_of_eq (hs1 _ xv) (wpAny_bind (wpAny_holding (thnF hx fun itv s11 h11 => ?_))))))
        obtain ⟨it1, fp1, tn1, J1, H11, e1, I11, T1, st11, f11, W1, ⟨m1, w1⟩, turn1⟩ := h11
        subst e1
        refine wpAny_bind (wpAny_runOwn ?_)
        rw [Around.mark_none]
        have inner : codeAny (model B.prog B.w) B.A (.compLoop (dcx kx vx tg iter ifs tg1 iter1 ifs1 scope pos) 1 (.ref it1) (.ref L) B.env) (fun r s' => match r with
            | .ok _ => ∃ m, m < n ∧ ∃ i H', Inv B [] (wipe σ (own.map (·.2))) H' s' ∧ tn i s'.heap ∧ (∀ b ∈ fp, H' b = none) ∧ W i m H'
            | .error _ => False) s11 := by
          refine codeAny_loop rfl (fun k s' => ∃ j H', Inv B ([] ++ ps) (wipe σ8 vs1) H' s' ∧ tn1 j s'.heap ∧ (∀ b ∈ fp1, H' b = none) ∧ W1 j k H') (fun k s12 ⟨j, H12, I12, st12, n12, w12⟩ => ?_) m1 ⟨0, H11, I11.weak (wipe_length _ _) (fun j v e => (wipe_some e).1), st11, fun b hb => (f11 b hb).1, w1⟩
          show wpAny _ B.A ((compTurn (dcx kx vx tg iter ifs tg1 iter1 ifs1 scope pos) 1 (.ref it1) (.ref L) B.env).onRaise (fun x => do noteFrame x B.env; theTreesLotGoes x)) _ _ s12
          refine wpAny_noted ?_
          rw [lap_in]
          refine wpAny_bind (wpAny_standAt ?_)
          have fo1 : ∀ (H' : Hp), (∀ b ∈ fp1, H' b = none) → ∀ b ∈ fp1, FpOk B ([] ++ ps) H' b := fun H' n' b hb => ⟨n' b hb, (f11 b hb).2⟩
          rcases turn1 j k H12 w12 with ⟨stop1, nx1⟩ | ⟨go1, Nx1, hNx1, step1⟩
          · exact lap_stop bc T1 I12 (fo1 H12 n12) st12 stop1 fun s13 I13 => wpAny_pure (fin I13 (kl.trans (wipe_length σ8 vs1).symm) k2 nx1)
          · refine lap_go (P := fun σ3 => wipe σ3 vs1 = wipe σ8 vs1) bc T1 I12 (fo1 H12 n12) (fun H' s' I' n' => fo1 H' n') st12 go1 pg1 pt1 bx step1 fun b1 s16 σ15 H16 ps1 I16 w15 q16 fin1 => ?_
            have again : ∀ {s' : Shared} {H' : Hp}, Inv B (([] ++ ps) ++ ps1) σ15 H' s' → Nx1 H' → ∃ m, m < k ∧ ∃ j H', Inv B ([] ++ ps) (wipe σ8 vs1) H' s' ∧ tn1 j s'.heap ∧ (∀ b ∈ fp1, H' b = none) ∧ W1 j m H' := fun {s' H'} I' nx => by
              obtain ⟨m', hm, w'⟩ := hNx1 H' nx
              obtain ⟨a1, a2, a3⟩ := fin1 _ _ _ I'
              exact ⟨m', hm, j + 1, H', a1.weak (by rw [← w15, wipe_length]) (fun j v e => by rw [← w15] at e; exact (wipe_some e).1), a2, a3, w'⟩
            cases b1 with
            | false =>
              simp only [Bool.false_eq_true, if_false] at q16 ⊢
              exact wpAny_pure ⟨rfl, again I16 q16⟩
            | true =>
              simp only [if_true] at q16 ⊢
              refine wpAny_bind (wpAny_bind (thnF (bx ▸ pk.run _ s16 σ15 H16 _ I16 q16) fun a s17 ⟨yk, H17, I17, r17, q17⟩ => ?_))
              refine wpAny_bind (wpAny_holding (thnF (bx ▸ pv.run _ s17 σ15 H17 _ I17 q17) fun z s18 ⟨yv, H18, I18, r18, kvs, key, ek, hD, hz, nx⟩ => ?_))
              subst ek
              refine wpAny_bind (wpAny_standAt (wpAny_holding ?_))
              exact d_dictSet (X := B) I18 hD hz r17 r18 fun s19 I19 => wpAny_pure ⟨rfl, again I19 nx⟩
        exact codeAny_mono (dcx_start inner (T1.self B.A 0 _ _ _ st11 inner)) fun r s' hr => by
          cases r with
          | ok f => exact wpAny_pure ⟨rfl, hr⟩
          | error e => exact hr.elim
  exact codeAny_compStart_dict loop (by rw [← bp, ← bw]; exact T.self X.A 0 _ _ _ st4 (by rw [bp, bw]; exact loop))
theorem pe_dc2 {kx vx tg iter tg1 iter1 : Expr} {ifs ifs1 : List Expr} {scope : Scope} {own : List (Str × Nat)} {vs1 : List Nat} {pos : Pos} {wi wi1 : TI} {g g1 : TG} {tt tt1 : TT} {tk tv : TE} (hc : X.calm = true) (hN : X.N.Nodup) (hi : PI X tg iter wi) (ok : BlkOk X.N X.env.scope scope own) (hv : ∀ i ∈ vs1, i ∈ own.map (·.2))
    (hB : ∀ (s : Shared) (H : Hp) (C : Addr) (cl : List (Str × Addr)) (fp : List Addr), PG (X.blk s H scope (compEnvC scope cl C X.env) fp) tg g ∧ PTs (X.blk s H scope (compEnvC scope cl C X.env) fp) ifs tt ∧ PI (X.blk s H scope (compEnvC scope cl C X.env) fp) tg1 iter1 wi1 ∧
      PG (X.blk s H scope (compEnvC scope cl C X.env) fp) tg1 g1 ∧ PTs (X.blk s H scope (compEnvC scope cl C X.env) fp) ifs1 tt1 ∧ PE (X.blk s H scope (compEnvC scope cl C X.env) fp) kx tk ∧ PE (X.blk s H scope (compEnvC scope cl C X.env) fp) vx tv)
    (hs : ∀ x, foldedSetIterable iter X.env x = pure x) (hs1 : ∀ env x, foldedSetIterable iter1 env x = pure x) :
    PE X (dcx kx vx tg iter ifs tg1 iter1 ifs1 scope pos) (tDc2 wi g tt wi1 g1 tt1 tk tv (own.map (·.2)) vs1) := by
  refine ⟨fun pins s σ H Q I h => ?_⟩
  rw [arm_eval_DictComp]
  refine dc2_core hc hN hi ok hv hB hs hs1 I h fun L C s' m H' I' q hn f => ⟨m, hn, fun h'' sb => ?_⟩
  obtain ⟨g0, g1, g2, g3, g4, g5⟩ := f
  exact ⟨.ref L, H', I'.turned (t' := s'.toks) (fun b o hb e => (sb.2 b hb).trans e) g0 g1 g3 g4 g5, rfl, q⟩
theorem swD_true {kx vx : Expr} {gs : List Comprehension} {scope : Scope} {pos py : Pos} {y : Str} {l : Nat} {env : Env} (hk : env.scope.kind = .function) (hy : env.scope.names.lookup y = some .local) (hl : (py.line == pos.line) = true)
    (ha : (scope.names.any fun (n, k) => n == y && (k == .local || k == .cell)) = false) : swapsWith (.DictComp kx vx gs scope pos) (some (.Name y py)) l env = pure true := by
  have e1 : env.kindOf y = some .local := hy
  have e2 : env.blockKind = .function := by unfold Env.blockKind; rw [hk]; rfl
  unfold swapsWith
  simp only [e1, e2, ha, Expr.pos, hl]
  rfl
/-- the new dict is a name's -/
theorem ps_setDc2 {i : Nat} {y : Str} {py spos : Pos} {kx vx tg iter tg1 iter1 : Expr} {ifs ifs1 : List Expr} {scope : Scope} {own : List (Str × Nat)} {vs1 : List Nat} {pos : Pos} {wi wi1 : TI} {g g1 : TG} {tt tt1 : TT} {tk tv : TE} (hc : X.calm = true) (hN : X.N.Nodup) (hi : PI X tg iter wi) (ok : BlkOk X.N X.env.scope scope own) (hv : ∀ i ∈ vs1, i ∈ own.map (·.2)) (hy : X.N[i]? = some y) (hyl : X.env.scope.names.lookup y = some .local)
    (hsw : swapsWith (dcx kx vx tg iter ifs tg1 iter1 ifs1 scope pos) (some (.Name y py)) spos.line X.env = pure true)
    (hB : ∀ (s : Shared) (H : Hp) (C : Addr) (cl : List (Str × Addr)) (fp : List Addr), PG (X.blk s H scope (compEnvC scope cl C X.env) fp) tg g ∧ PTs (X.blk s H scope (compEnvC scope cl C X.env) fp) ifs tt ∧ PI (X.blk s H scope (compEnvC scope cl C X.env) fp) tg1 iter1 wi1 ∧
      PG (X.blk s H scope (compEnvC scope cl C X.env) fp) tg1 g1 ∧ PTs (X.blk s H scope (compEnvC scope cl C X.env) fp) ifs1 tt1 ∧ PE (X.blk s H scope (compEnvC scope cl C X.env) fp) kx tk ∧ PE (X.blk s H scope (compEnvC scope cl C X.env) fp) vx tv)
    (hs : ∀ x, foldedSetIterable iter X.env x = pure x) (hs1 : ∀ env x, foldedSetIterable iter1 env x = pure x) :
    PS X (.Assign [.Name y py] (dcx kx vx tg iter ifs tg1 iter1 ifs1 scope pos) spos) (tAsg (tDc2 wi g tt wi1 g1 tt1 tk tv (own.map (·.2)) vs1) (gName i)) := by
  refine ⟨fun pins s σ H D I h => ?_⟩
  rw [exec_Assign_Name_used _ _ _ _ hsw]
  refine wpAny_bind (wpAny_standAt (wpAny_bind ?_))
  have core := dc2_core (pos := pos) (pos' := firstIterPos [⟨tg, iter, ifs, 0⟩, ⟨tg1, iter1, ifs1, 0⟩] pos) (use := some (assign (.Name y py) X.env)) (Qf := fun _ s' => SP X pins D .next s') hc hN hi ok hv hB hs hs1 I (show tDc2 wi g tt wi1 g1 tt1 tk tv (own.map (·.2)) vs1 σ H (fun x H1 => gName i x σ H1 D.nx) from h) fun L C s' m H' I' q hn f => by
    show wpAny _ _ (assign (.Name y py) X.env (.ref L)) _ _ _
    refine wpAny_assign_Name (store_ok2 (v := V.ref L) I' hN hy (.inl hyl) rfl (fun s2 I2 ⟨a, sb, ha⟩ => ?_) (.inr hyl))
    obtain ⟨g0, g1, g2, g3, g4, g5⟩ := f
    have ne : C ≠ a := ha.elim (fun z => by rw [z]; exact g1) fun z e => g4 y a z e.symm
    exact ⟨m, hn.sameBut sb ne, fun h3 sb3 => ⟨_, H', I2.turned (t' := s2.toks) (fun b o hb e => (sb3.2 b hb).trans e) g0 g1 g3 g4 g5, q⟩⟩
  show wpAny _ X.A (do let _ ← comprehension (dcx kx vx tg iter ifs tg1 iter1 ifs1 scope pos) scope X.env (firstIterPos [⟨tg, iter, ifs, 0⟩, ⟨tg1, iter1, ifs1, 0⟩] pos) newDict false (eval iter X.env) (some (assign (.Name y py) X.env))) _ _ s
  exact wpAny_bind (thn core fun _ s' hq => wpAny_pure (wpAny_pure hq))
end
/-! ### by values -/
section
def dc2I (g1 : D → En → Option En) (t1 : En → R Bool) (ek ev : En → R D) (vs1 : List Nat) (k : En → List Key → List D → R D) : List D → En → List Key → List D → R D
  | [], ρ, ks, es => k ρ ks es
  | d :: ds, ρ, ks, es => match g1 d ρ with
    | none => .bad
    | some ρ1 => bnd (noX (t1 ρ1)) fun b ρ2 => if b = true then bnd (noX (ek ρ2)) fun kk ρ3 => bnd (noX (ev ρ3)) fun x ρ4 => match keyD kk with
      | some q => if ks.length < sizeLine then dc2I g1 t1 ek ev vs1 k ds (wipeE vs1 ρ4) (putKs ks q) (putDs ks es q x) else .bad
      | none => .bad else dc2I g1 t1 ek ev vs1 k ds (wipeE vs1 ρ2) ks es
def dc2L (g : D → En → Option En) (t : En → R Bool) (s1 : En → R (List D)) (g1 : D → En → Option En) (t1 : En → R Bool) (ek ev : En → R D) (vs vs1 : List Nat) : List D → En → List Key → List D → R D
  | [], ρ, ks, es => .ok (.nd (.dK ks) es) ρ
  | d :: ds, ρ, ks, es => match g d ρ with
    | none => .bad
    | some ρ1 => bnd (noX (t ρ1)) fun b ρ2 => if b = true then bnd (noX (s1 ρ2)) fun ds1 ρ3 => dc2I g1 t1 ek ev vs1 (fun ρ ks es => dc2L g t s1 g1 t1 ek ev vs vs1 ds (wipeE vs ρ) ks es) ds1 (wipeE vs1 ρ3) ks es else dc2L g t s1 g1 t1 ek ev vs vs1 ds (wipeE vs ρ2) ks es
variable {K : PySem.W.Frag} {w : Wd} {g g1 : D → En → Option En} {t t1 : En → R Bool} {ek ev : En → R D} {src1 : En → R (List D)} {vs vs1 is is1 : List Nat} {σ : L2.St} {Q : VK}
theorem dc2_body {ds : List D} {J : It} {F1 H1 : Hp} {ρ1 : En} {fp1 : List Addr} (his : ∀ i ∈ is, i ∈ vs) (his1 : ∀ i ∈ is1, i ∈ vs1) (hv : ∀ i ∈ vs1, i ∈ vs) (s1 : StaW K w F1 H1 σ ρ1 fp1) (I : Itz K F1 J ds) (h1 : Pst K w F1 H1 fp1 σ (dc2L g t src1 g1 t1 ek ev vs vs1 ds (wipeE vs ρ1) [] []) (nO K w σ Q)) :
    tDc2 (fun _ H R => R J H) (cG K w.in1 is g) (cT K w.in1 t) (cI K w.in1 src1) (cG K w.in1 is1 g1) (cT K w.in1 t1) (cF K w.in1 ek) (cF K w.in1 ev) vs vs1 σ H1 Q := fun L hL => by
  obtain ⟨fpw, sw, tw⟩ := StaW.wipe (vs := vs) s1
  obtain ⟨m0, t0⟩ := MkD.start sw hL
  refine ⟨fun i k H => k = ds.length - i ∧ i ≤ ds.length ∧ ∃ F ρ fp ks es, MkD K w F1 F H L (wipe σ vs) ρ fp ks es ∧ ks.length ≤ sizeLine ∧ Pst K w F H (L :: fp) σ (dc2L g t src1 g1 t1 ek ev vs vs1 (ds.drop i) ρ ks es) (nO K w σ Q), ⟨ds.length, by simp, Nat.zero_le _, F1, _, fpw, [], [], m0, Nat.zero_le _, Pst.tr h1 (tw.trans t0)⟩, ?_⟩
  rintro i k H ⟨rfl, hi, F, ρ, fp, ks, es, m, hz, h⟩
  by_cases hlt : i < ds.length
  · refine .inr ⟨I.go i H (m.ex.trans m.s.ex) hlt, fun H => ∃ F ρ fp ks es, MkD K w F1 F H L (wipe σ vs) ρ fp ks es ∧ ks.length ≤ sizeLine ∧ Pst K w F H (L :: fp) σ (dc2L g t src1 g1 t1 ek ev vs vs1 (ds.drop (i + 1)) ρ ks es) (nO K w σ Q), fun H' q => ⟨ds.length - (i + 1), by omega, rfl, hlt, q⟩, fun x H' y => ?_⟩
    obtain ⟨d, F2, ed, s2, t2, z⟩ := given I m.s m.ex hlt y
    have m2 := m.go t2 s2
    have edr : ds.drop i = d :: ds.drop (i + 1) := by
      obtain ⟨h1, h2⟩ := List.getElem?_eq_some_iff.mp ed
      rw [← h2]
      exact List.drop_eq_getElem_cons h1
    rw [edr] at h
    unfold dc2L at h
    cases q : g d ρ with
    | none => simp only [q] at h; exact h.elim
    | some ρ2 =>
      simp only [q] at h
      refine ⟨F2, ρ, fp, d, ρ2, s2, z, q, fun σ3 fp3 s3 t3 o3 => ?_⟩
      have ew : wipe σ3 vs = wipe σ vs := (o3 vs his).trans (wipe_sub fun _ h => h)
      have h3 := Pst.tr h (t2.trans t3).cons
      have m3 := m2.go t3 s3
      refine ⟨ew, F2, ρ2, fp3, s3, ?_⟩
      cases q1 : t ρ2 with
      | bad => rw [q1] at h3; exact h3.elim
      | exc c x ρ => rw [q1] at h3; exact h3.elim
      | ok b ρ4 =>
        rw [q1] at h3
        intro F4 H4 fp4 t4 s4
        have m4 := m3.go t4 s4
        have h4 := Pst.tr h3 t4.cons
        cases b with
        | false =>
          refine iteF ?_
          obtain ⟨fp5, s5, t5⟩ := StaW.wipe (vs := vs) s4
          rw [ew] at s5
          exact ⟨F4, _, fp5, ks, es, m4.go t5 s5, hz, by simpa [noX_ok, bnd_ok] using Pst.tr h4 t5.cons⟩
        | true =>
          refine iteT ⟨F4, ρ4, fp4, s4, ?_⟩
          have h4' : Pst K w F4 H4 (L :: fp4) σ (bnd (noX (src1 ρ4)) fun ds1 ρ3 => dc2I g1 t1 ek ev vs1 (fun ρ ks es => dc2L g t src1 g1 t1 ek ev vs vs1 (ds.drop (i + 1)) (wipeE vs ρ) ks es) ds1 (wipeE vs1 ρ3) ks es) (nO K w σ Q) := by simpa [noX_ok, bnd_ok] using h4
          cases q2 : src1 ρ4 with
          | bad => rw [q2] at h4'; exact h4'.elim
          | exc c x ρ => rw [q2] at h4'; exact h4'.elim
          | ok ds1 ρ5 =>
            rw [q2] at h4'
            intro F5 H5 fp5 t5 J1 s5 I1
            have m5 := m4.go t5 s5
            have h5 := Pst.tr h4' t5.cons
            obtain ⟨fp6, s6, t6⟩ := StaW.wipe (vs := vs1) s5
            have m6 := m5.go t6 s6
            have h6 : Pst K w F5 H5 (L :: fp6) σ (dc2I g1 t1 ek ev vs1 (fun ρ ks es => dc2L g t src1 g1 t1 ek ev vs vs1 (ds.drop (i + 1)) (wipeE vs ρ) ks es) ds1 (wipeE vs1 ρ5) ks es) (nO K w σ Q) := by simpa [noX_ok, bnd_ok] using Pst.tr h5 t6.cons
            refine ⟨fun j k H => k = ds1.length - j ∧ j ≤ ds1.length ∧ ∃ F ρ fp ks es, MkD K w F1 F H L (wipe σ3 vs1) ρ fp ks es ∧ Same F5 F ∧ ks.length ≤ sizeLine ∧ Pst K w F H (L :: fp) σ (dc2I g1 t1 ek ev vs1 (fun ρ ks es => dc2L g t src1 g1 t1 ek ev vs vs1 (ds.drop (i + 1)) (wipeE vs ρ) ks es) (ds1.drop j) ρ ks es) (nO K w σ Q), ⟨ds1.length, by simp, Nat.zero_le _, F5, _, fp6, ks, es, m6, Same.refl _, hz, h6⟩, ?_⟩
            rintro j k H7 ⟨rfl, hj, F7, ρ7, fp7, ks7, es7, m7, ex7, hz7, h7⟩
            by_cases hlt1 : j < ds1.length
            · refine .inr ⟨I1.go j H7 (ex7.trans m7.s.ex) hlt1, fun H => ∃ F ρ fp ks es, MkD K w F1 F H L (wipe σ3 vs1) ρ fp ks es ∧ Same F5 F ∧ ks.length ≤ sizeLine ∧ Pst K w F H (L :: fp) σ (dc2I g1 t1 ek ev vs1 (fun ρ ks es => dc2L g t src1 g1 t1 ek ev vs vs1 (ds.drop (i + 1)) (wipeE vs ρ) ks es) (ds1.drop (j + 1)) ρ ks es) (nO K w σ Q), fun H' q => ⟨ds1.length - (j + 1), by omega, rfl, hlt1, q⟩, fun x H' y => ?_⟩
              obtain ⟨d8, F8, ed8, s8, t8, z8⟩ := given I1 m7.s ex7 hlt1 y
              have m8 := m7.go t8 s8
              have edr8 : ds1.drop j = d8 :: ds1.drop (j + 1) := by
                obtain ⟨h1, h2⟩ := List.getElem?_eq_some_iff.mp ed8
                rw [← h2]
                exact List.drop_eq_getElem_cons h1
              rw [edr8] at h7
              unfold dc2I at h7
              cases q8 : g1 d8 ρ7 with
              | none => simp only [q8] at h7; exact h7.elim
              | some ρ9 =>
                simp only [q8] at h7
                refine ⟨F8, ρ7, fp7, d8, ρ9, s8, z8, q8, fun σ9 fp9 s9 t9 o9 => ?_⟩
                have ew9 : wipe σ9 vs1 = wipe σ3 vs1 := (o9 vs1 his1).trans (wipe_sub fun _ h => h)
                have h9 := Pst.tr h7 (t8.trans t9).cons
                have m9 := m8.go t9 s9
                refine ⟨ew9, F8, ρ9, fp9, s9, ?_⟩
                have ex8 := ex7.trans (t8.trans t9).ex
                cases qa : t1 ρ9 with
                | bad => rw [qa] at h9; exact h9.elim
                | exc c x ρ => rw [qa] at h9; exact h9.elim
                | ok b ρa =>
                  rw [qa] at h9
                  intro Fa Ha fpa ta sa
                  have ma := m9.go ta sa
                  have ha := Pst.tr h9 ta.cons
                  cases b with
                  | false =>
                    refine iteF ?_
                    obtain ⟨fpb, sb, tb⟩ := StaW.wipe (vs := vs1) sa
                    rw [ew9] at sb
                    exact ⟨Fa, _, fpb, ks7, es7, ma.go tb sb, ex8.trans ta.ex, hz7, by simpa [noX_ok, bnd_ok] using Pst.tr ha tb.cons⟩
                  | true =>
                    refine iteT ⟨Fa, ρa, fpa, sa, ?_⟩
                    have ha' : Pst K w Fa Ha (L :: fpa) σ (bnd (noX (ek ρa)) fun kk ρ3 => bnd (noX (ev ρ3)) fun x ρ4 => match keyD kk with
                      | some q => if ks7.length < sizeLine then dc2I g1 t1 ek ev vs1 (fun ρ ks es => dc2L g t src1 g1 t1 ek ev vs vs1 (ds.drop (i + 1)) (wipeE vs ρ) ks es) (ds1.drop (j + 1)) (wipeE vs1 ρ4) (putKs ks7 q) (putDs ks7 es7 q x) else .bad
                      | none => .bad) (nO K w σ Q) := by simpa [noX_ok, bnd_ok] using ha
                    cases qb : ek ρa with
                    | bad => rw [qb] at ha'; exact ha'.elim
                    | exc c x ρ => rw [qb] at ha'; exact ha'.elim
                    | ok dk ρk =>
                      rw [qb] at ha'
                      intro Fk Hk fpk tk vk sk zk
                      have mk := ma.go tk sk
                      have hk := Pst.tr ha' tk.cons
                      refine ⟨Fk, ρk, fpk, sk, ?_⟩
                      have hk' : Pst K w Fk Hk (L :: fpk) σ (bnd (noX (ev ρk)) fun x ρ4 => match keyD dk with
                        | some q => if ks7.length < sizeLine then dc2I g1 t1 ek ev vs1 (fun ρ ks es => dc2L g t src1 g1 t1 ek ev vs vs1 (ds.drop (i + 1)) (wipeE vs ρ) ks es) (ds1.drop (j + 1)) (wipeE vs1 ρ4) (putKs ks7 q) (putDs ks7 es7 q x) else .bad
                        | none => .bad) (nO K w σ Q) := by simpa [noX_ok, bnd_ok] using hk
                      cases qv : ev ρk with
                      | bad => rw [qv] at hk'; exact hk'.elim
                      | exc c x ρ => rw [qv] at hk'; exact hk'.elim
                      | ok dx ρb =>
                        rw [qv] at hk'
                        intro Fb Hb fpb tb v sb zv
                        have mb := mk.go tb sb
                        have hb := Pst.tr hk' tb.cons
                        obtain ⟨fpc, sc, tc⟩ := StaW.wipe (vs := vs1) sb
                        rw [ew9] at sc
                        have mc := mb.go tc sc
                        have hc := Pst.tr hb tc.cons
                        cases q4 : keyD dk with
                        | none => exact (show False by simpa [bnd, noX, q4, Pst] using hc).elim
                        | some q =>
                          by_cases hl : ks7.length < sizeLine
                          · obtain ⟨kvs, e1, e2, md, td⟩ := mc.app (q := q) zv (keyL_of zk q4)
                            refine ⟨kvs, q, keyD_rel zk q4, e1, by rw [e2]; exact hl, Fb, _, fpc, _, _, md, (ex8.trans ta.ex).trans ((tk.trans tb).trans tc).ex, putKs_le hl, ?_⟩
                            have he := Pst.tr hc td
                            simpa [bnd, noX, q4, hl] using he
                          · exact (show False by simpa [bnd, noX, q4, hl, Pst] using hc).elim
            · have ej : j = ds1.length := by omega
              subst ej
              rw [List.drop_length] at h7
              refine .inl ⟨I1.stop H7 (ex7.trans m7.s.ex), ?_⟩
              obtain ⟨fp8, s8, t8⟩ := StaW.wipe (vs := vs) m7.s
              rw [wipe_sub hv, ew] at s8
              exact ⟨F7, _, fp8, ks7, es7, m7.go t8 s8, hz7, Pst.tr h7 t8.cons⟩
  · have e : i = ds.length := by omega
    subst e
    rw [List.drop_length] at h
    have mu : MkD K w F1 F H L σ ρ fp ks es := ⟨StaW.unwipe m.s, m.ex, m.nf, m.nF, m.kl, m.at_⟩
    exact .inl ⟨I.stop H (m.ex.trans m.s.ex), h F H (L :: fp) .refl (.ref L) (mu.done hz)⟩

end
section
variable {X : Cx} {w : Wd} {tg iter tg1 iter1 kx vx : Expr} {ifs ifs1 : List Expr} {scope : Scope} {is is1 vs1 : List Nat} {g g1 : D → En → Option En} {t t1 : En → R Bool} {ek ev : En → R D} {srcL src1 : En → R (List D)} {pos : Pos}
def sDc2 (src : En → R (List D)) (g : D → En → Option En) (t : En → R Bool) (src1 : En → R (List D)) (g1 : D → En → Option En) (t1 : En → R Bool) (ek ev : En → R D) (vs vs1 : List Nat) : En → R D := fun ρ => bnd (src ρ) fun ds ρ1 => dc2L g t src1 g1 t1 ek ev vs vs1 ds (wipeE vs ρ1) [] []
theorem d_dc2 (own : List (Str × Nat)) (hc : X.calm = true) (hN : X.N.Nodup) (hi : PI X tg iter (cI X.K w srcL)) (ok : BlkOk X.N X.env.scope scope own) (his : ∀ i ∈ is, i ∈ own.map (·.2)) (his1 : ∀ i ∈ is1, i ∈ vs1) (hv : ∀ i ∈ vs1, i ∈ own.map (·.2))
    (hg : ∀ (s : Shared) (H : Hp) (C : Addr) (cl : List (Str × Addr)) (fp : List Addr), PG (X.blk s H scope (compEnvC scope cl C X.env) fp) tg (cG X.K w.in1 is g)) (ht : ∀ (s : Shared) (H : Hp) (C : Addr) (cl : List (Str × Addr)) (fp : List Addr), PTs (X.blk s H scope (compEnvC scope cl C X.env) fp) ifs (cT X.K w.in1 t))
    (hi1 : ∀ (s : Shared) (H : Hp) (C : Addr) (cl : List (Str × Addr)) (fp : List Addr), PI (X.blk s H scope (compEnvC scope cl C X.env) fp) tg1 iter1 (cI X.K w.in1 src1))
    (hg1 : ∀ (s : Shared) (H : Hp) (C : Addr) (cl : List (Str × Addr)) (fp : List Addr), PG (X.blk s H scope (compEnvC scope cl C X.env) fp) tg1 (cG X.K w.in1 is1 g1)) (ht1 : ∀ (s : Shared) (H : Hp) (C : Addr) (cl : List (Str × Addr)) (fp : List Addr), PTs (X.blk s H scope (compEnvC scope cl C X.env) fp) ifs1 (cT X.K w.in1 t1))
    (hk : ∀ (s : Shared) (H : Hp) (C : Addr) (cl : List (Str × Addr)) (fp : List Addr), PE (X.blk s H scope (compEnvC scope cl C X.env) fp) kx (cF X.K w.in1 ek))
    (he : ∀ (s : Shared) (H : Hp) (C : Addr) (cl : List (Str × Addr)) (fp : List Addr), PE (X.blk s H scope (compEnvC scope cl C X.env) fp) vx (cF X.K w.in1 ev)) (hs : ∀ x, foldedSetIterable iter X.env x = pure x := by intro _; rfl) (hs1 : ∀ env x, foldedSetIterable iter1 env x = pure x := by intro _ _; rfl) :
    PE X (.DictComp kx vx [⟨tg, iter, ifs, 0⟩, ⟨tg1, iter1, ifs1, 0⟩] scope pos) (cO X.K w (sDc2 srcL g t src1 g1 t1 ek ev (own.map (·.2)) vs1)) :=
  peI (pe_dc2 hc hN hi ok hv (fun s H C cl fp => ⟨hg s H C cl fp, ht s H C cl fp, hi1 s H C cl fp, hg1 s H C cl fp, ht1 s H C cl fp, hk s H C cl fp, he s H C cl fp⟩) hs hs1) fun σ H Q h => by
    obtain ⟨F, ρ, fp, s, h⟩ := h
    exact ⟨F, ρ, fp, s, h.bnd fun ds ρ1 F1 H1 fp1 t1 h1 => fun J s1 I => dc2_body his his1 hv s1 I h1⟩
theorem s_setDc2 (i : Nat) (own : List (Str × Nat)) {y : Str} {py spos : Pos} (hc : X.calm = true) (hN : X.N.Nodup) (hi : PI X tg iter (cI X.K w srcL)) (ok : BlkOk X.N X.env.scope scope own) (his : ∀ i ∈ is, i ∈ own.map (·.2)) (his1 : ∀ i ∈ is1, i ∈ vs1) (hv : ∀ i ∈ vs1, i ∈ own.map (·.2))
    (hg : ∀ (s : Shared) (H : Hp) (C : Addr) (cl : List (Str × Addr)) (fp : List Addr), PG (X.blk s H scope (compEnvC scope cl C X.env) fp) tg (cG X.K w.in1 is g)) (ht : ∀ (s : Shared) (H : Hp) (C : Addr) (cl : List (Str × Addr)) (fp : List Addr), PTs (X.blk s H scope (compEnvC scope cl C X.env) fp) ifs (cT X.K w.in1 t))
    (hi1 : ∀ (s : Shared) (H : Hp) (C : Addr) (cl : List (Str × Addr)) (fp : List Addr), PI (X.blk s H scope (compEnvC scope cl C X.env) fp) tg1 iter1 (cI X.K w.in1 src1))
    (hg1 : ∀ (s : Shared) (H : Hp) (C : Addr) (cl : List (Str × Addr)) (fp : List Addr), PG (X.blk s H scope (compEnvC scope cl C X.env) fp) tg1 (cG X.K w.in1 is1 g1)) (ht1 : ∀ (s : Shared) (H : Hp) (C : Addr) (cl : List (Str × Addr)) (fp : List Addr), PTs (X.blk s H scope (compEnvC scope cl C X.env) fp) ifs1 (cT X.K w.in1 t1))
    (hk : ∀ (s : Shared) (H : Hp) (C : Addr) (cl : List (Str × Addr)) (fp : List Addr), PE (X.blk s H scope (compEnvC scope cl C X.env) fp) kx (cF X.K w.in1 ek))
    (he : ∀ (s : Shared) (H : Hp) (C : Addr) (cl : List (Str × Addr)) (fp : List Addr), PE (X.blk s H scope (compEnvC scope cl C X.env) fp) vx (cF X.K w.in1 ev))
    (hsw : swapsWith (.DictComp kx vx [⟨tg, iter, ifs, 0⟩, ⟨tg1, iter1, ifs1, 0⟩] scope pos) (some (.Name y py)) spos.line X.env = pure true) (hy : X.N[i]? = some y := by rfl) (hyl : X.env.scope.names.lookup y = some .local := by rfl) (hs : ∀ x, foldedSetIterable iter X.env x = pure x := by intro _; rfl) (hs1 : ∀ env x, foldedSetIterable iter1 env x = pure x := by intro _ _; rfl) :
    PS X (.Assign [.Name y py] (.DictComp kx vx [⟨tg, iter, ifs, 0⟩, ⟨tg1, iter1, ifs1, 0⟩] scope pos) spos) (cS X.K w (sSetO i (sDc2 srcL g t src1 g1 t1 ek ev (own.map (·.2)) vs1))) :=
  psI (ps_setDc2 hc hN hi ok hv hy hyl hsw (fun s H C cl fp => ⟨hg s H C cl fp, ht s H C cl fp, hi1 s H C cl fp, hg1 s H C cl fp, ht1 s H C cl fp, hk s H C cl fp, he s H C cl fp⟩) hs hs1) fun D σ H h => by
    obtain ⟨F, ρ, fp, s, h⟩ := h
    have q : cO X.K w (sDc2 srcL g t src1 g1 t1 ek ev (own.map (·.2)) vs1) σ H (fun x H1 => D.nx (σ.set i (some x)) H1) := ⟨F, ρ, fp, s, h.bnd fun d ρ1 F1 H1 fp1 t1 h1 => fun v s1 => by
      obtain ⟨fp2, s2, t2⟩ := s1.storeO i
      exact h1 _ F1 H1 fp2 t2 s2⟩
    obtain ⟨F, ρ, fp, s, h⟩ := q
    exact ⟨F, ρ, fp, s, h.bnd fun ds ρ1 F1 H1 fp1 t1 h1 => fun J s1 I => dc2_body his his1 hv s1 I h1⟩
theorem s_setDc2F (i : Nat) (own : List (Str × Nat)) {y : Str} {py spos : Pos} (hc : X.calm = true) (hN : X.N.Nodup) (hi : PI X tg iter (cI X.K w srcL)) (ok : BlkOk X.N X.env.scope scope own) (his : ∀ i ∈ is, i ∈ own.map (·.2)) (his1 : ∀ i ∈ is1, i ∈ vs1) (hv : ∀ i ∈ vs1, i ∈ own.map (·.2))
    (hg : ∀ (s : Shared) (H : Hp) (C : Addr) (cl : List (Str × Addr)) (fp : List Addr), PG (X.blk s H scope (compEnvC scope cl C X.env) fp) tg (cG X.K w.in1 is g)) (ht : ∀ (s : Shared) (H : Hp) (C : Addr) (cl : List (Str × Addr)) (fp : List Addr), PTs (X.blk s H scope (compEnvC scope cl C X.env) fp) ifs (cT X.K w.in1 t))
    (hi1 : ∀ (s : Shared) (H : Hp) (C : Addr) (cl : List (Str × Addr)) (fp : List Addr), PI (X.blk s H scope (compEnvC scope cl C X.env) fp) tg1 iter1 (cI X.K w.in1 src1))
    (hg1 : ∀ (s : Shared) (H : Hp) (C : Addr) (cl : List (Str × Addr)) (fp : List Addr), PG (X.blk s H scope (compEnvC scope cl C X.env) fp) tg1 (cG X.K w.in1 is1 g1)) (ht1 : ∀ (s : Shared) (H : Hp) (C : Addr) (cl : List (Str × Addr)) (fp : List Addr), PTs (X.blk s H scope (compEnvC scope cl C X.env) fp) ifs1 (cT X.K w.in1 t1))
    (hk : ∀ (s : Shared) (H : Hp) (C : Addr) (cl : List (Str × Addr)) (fp : List Addr), PE (X.blk s H scope (compEnvC scope cl C X.env) fp) kx (cF X.K w.in1 ek))
    (he : ∀ (s : Shared) (H : Hp) (C : Addr) (cl : List (Str × Addr)) (fp : List Addr), PE (X.blk s H scope (compEnvC scope cl C X.env) fp) vx (cF X.K w.in1 ev))
    (hsw : swapsWith (.DictComp kx vx [⟨tg, iter, ifs, 0⟩, ⟨tg1, iter1, ifs1, 0⟩] scope pos) (some (.Name y py)) spos.line X.env = pure true) (hy : X.N[i]? = some y := by rfl) (hyl : X.env.scope.names.lookup y = some .local := by rfl) (hs : ∀ x, foldedSetIterable iter X.env x = pure x := by intro _; rfl) (hs1 : ∀ env x, foldedSetIterable iter1 env x = pure x := by intro _ _; rfl) :
    PS X (.Assign [.Name y py] (.DictComp kx vx [⟨tg, iter, ifs, 0⟩, ⟨tg1, iter1, ifs1, 0⟩] scope pos) spos) (cS X.K w (sSet i (sDc2 srcL g t src1 g1 t1 ek ev (own.map (·.2)) vs1))) :=
  psI (ps_setDc2 hc hN hi ok hv hy hyl hsw (fun s H C cl fp => ⟨hg s H C cl fp, ht s H C cl fp, hi1 s H C cl fp, hg1 s H C cl fp, ht1 s H C cl fp, hk s H C cl fp, he s H C cl fp⟩) hs hs1) fun D σ H h => by
    obtain ⟨F, ρ, fp, s, h⟩ := h
    have q : cO X.K w (sDc2 srcL g t src1 g1 t1 ek ev (own.map (·.2)) vs1) σ H (fun x H1 => D.nx (σ.set i (some x)) H1) := cF_fz ⟨F, ρ, fp, s, h.bnd fun d ρ1 F1 H1 fp1 t1 h1 => fun v s1 z => by
      obtain ⟨fp2, s2, t2⟩ := s1.store z i
      exact h1 _ F1 H1 fp2 t2 s2⟩
    obtain ⟨F, ρ, fp, s, h⟩ := q
    exact ⟨F, ρ, fp, s, h.bnd fun ds ρ1 F1 H1 fp1 t1 h1 => fun J s1 I => dc2_body his his1 hv s1 I h1⟩
end
/-! ### d.get(k, x) -/
section
variable {X : Cx} {w : Wd} {e f : Expr} {fk fd : En → R D} {x : Str} {p apos cpos : Pos}
def sGet (i : Nat) (fk fd : En → R D) : En → R D := fun ρ => bnd (sBor i ρ) fun x0 _ => if isDct x0 = true then bnd (fk ρ) fun k ρ1 => bnd (fd ρ1) fun z ρ2 => bnd (sBor i ρ2) fun x ρ3 => lift ((lookD x k).map (·.getD z)) ρ3 else .bad
theorem isD_of {K : PySem.W.Frag} {F H : Hp} {v : V} {d : D} (ex : Same F H) (z : Bz K F H v d) (h : isDct d = true) : ∃ a, v = .ref a ∧ IsD H a := by
  cases d with
  | nd k ds =>
    obtain ⟨a, vs, rfl, hi, hs⟩ := z.node ex
    cases k with
    | dK ks => exact ⟨a, rfl, .inl ⟨_, hi.2.1⟩⟩
    | dT ks => exact ⟨a, rfl, .inr ⟨_, hi.2.1⟩⟩
    | _ => simp [isDct] at h
  | _ => simp [isDct] at h
theorem d_get (i : Nat) (hu : X.A.units + 1 < cLine) (ha : PE X e (cF X.K w fk)) (hb : PE X f (cF X.K w fd)) (hN : X.N[i]? = some x := by rfl) (hv : Vis X.env.scope x := by first | exact Or.inl rfl | exact Or.inr (Or.inl rfl) | exact Or.inr (Or.inr rfl)) (hd : (x == ("__debug__" : Str)) = false := by decide) (hcd : (x == ("__classdict__" : Str)) = false := by decide)
    (m : M2 X (.Name x p) "get" apos e f cpos := by exact ⟨rfl, rfl, rfl, rfl⟩) : PE X (.Call (.Attribute (.Name x p) "get" apos) [e, f] [] cpos) (cF X.K w (sGet i fk fd)) :=
  peI (pe_dget2 hu (pe_var hN hv hd hcd) ha hb m) fun σ H Q h => by
    obtain ⟨F, ρ, fp, s, h⟩ := h
    unfold sGet at h
    obtain ⟨d0, v, _, ev, z, h⟩ := sBor_ok s h
    by_cases c : isDct d0 = true
    · rw [if_pos c] at h
      obtain ⟨a, rfl, hD⟩ := isD_of s.ex z c
      refine ⟨.ref a, ev, a, rfl, hD, F, ρ, fp, s, h.bnd fun dk ρ1 F1 H1 fp1 t1 h1 => fun y s1 zy => ⟨F1, ρ1, fp1, s1, h1.bnd fun dz ρ2 F2 H2 fp2 t2 h2 => fun u s2 zu => ?_⟩⟩
      obtain ⟨d, v', _, e1, z', h3⟩ := sBor_ok s2 h2
      rw [ev] at e1
      cases e1
      obtain ⟨r, e3, n⟩ := h3.lift
      obtain ⟨o, e4, rfl⟩ := Option.map_eq_some_iff.mp e3
      obtain ⟨a', r', e5, g, rel⟩ := lookD_rel s2.ex z' (zy.mono t2.ex) e4
      cases e5
      refine ⟨r', g, n F2 H2 fp2 .refl _ s2 ?_⟩
      cases o with
      | none => cases r' with
        | none => exact zu
        | some _ => exact rel.elim
      | some d' => cases r' with
        | none => exact rel.elim
        | some v' => exact rel
    · rw [if_neg c] at h
      exact h.elim
end
/-! ### a, b, c, d = .. -/
section
variable {X : Cx} {w : Wd} {fs : En → R (List S)} {pos : Pos}
def sPar4 (i j k l : Nat) (f : En → R (List S)) : En → R Fl := fun ρ => bnd (f ρ) fun ss ρ1 => match ss with
  | [x, y, z, u] => if noB x = true ∧ noB y = true ∧ noB z = true ∧ noB u = true then .ok .nx ((((ρ1.set i (some x)).set j (some y)).set k (some z)).set l (some u)) else .bad
  | _ => .bad
theorem s_par4 (i j k l : Nat) {x y z u : Str} {a b c d : Expr} {px py pz pu pt : Pos} {kt k2 pt2} (hc : X.calm = true) (hN : X.N.Nodup) (ha : PA X [a, b, c, d] (cS2 X.K w fs)) (hi : X.N[i]? = some x := by rfl) (hj : X.N[j]? = some y := by rfl) (hk : X.N[k]? = some z := by rfl) (hl : X.N[l]? = some u := by rfl)
    (hx : Loc X.env.scope x := by first | exact Or.inl rfl | exact Or.inr rfl) (hy : Loc X.env.scope y := by first | exact Or.inl rfl | exact Or.inr rfl) (hz : Loc X.env.scope z := by first | exact Or.inl rfl | exact Or.inr rfl) (hu : Loc X.env.scope u := by first | exact Or.inl rfl | exact Or.inr rfl)
    (fx : X.fn x = true ∨ X.env.scope.names.lookup x = some .local := by first | exact .inl rfl | exact .inr rfl) (fy : X.fn y = true ∨ X.env.scope.names.lookup y = some .local := by first | exact .inl rfl | exact .inr rfl) (fz : X.fn z = true ∨ X.env.scope.names.lookup z = some .local := by first | exact .inl rfl | exact .inr rfl) (fu : X.fn u = true ∨ X.env.scope.names.lookup u = some .local := by first | exact .inl rfl | exact .inr rfl)
    (hp1 : (assignEach [.Name u pu] X.env).map (·.2) = assign (.Name u pu) X.env :: (assignEach [] X.env).map (·.2) := by rfl) (hp2 : (assignEach [.Name z pz, .Name u pu] X.env).map (·.2) = assign (.Name z pz) X.env :: (assignEach [.Name u pu] X.env).map (·.2) := by rfl)
    (hp3 : (assignEach [.Name y py, .Name z pz, .Name u pu] X.env).map (·.2) = assign (.Name y py) X.env :: (assignEach [.Name z pz, .Name u pu] X.env).map (·.2) := by rfl) (hp4 : (assignEach [.Name x px, .Name y py, .Name z pz, .Name u pu] X.env).map (·.2) = assign (.Name x px) X.env :: (assignEach [.Name y py, .Name z pz, .Name u pu] X.env).map (·.2) := by rfl)
    (hn : (assignEach [.Name x px, .Name y py, .Name z pz, .Name u pu] X.env).length = 4 := by rfl) (hst : (assignEach [.Name x px, .Name y py, .Name z pz, .Name u pu] X.env).findIdx? (·.1) = none := by rfl)
    (hs : swapsWithSole [.Tuple [.Name x px, .Name y py, .Name z pz, .Name u pu] kt pt] (.Tuple [a, b, c, d] k2 pt2) pos.line X.env = pure false := by rfl)
    (hw : swappedStores [.Tuple [.Name x px, .Name y py, .Name z pz, .Name u pu] kt pt] (.Tuple [a, b, c, d] k2 pt2) X.env = pure none := by rfl)
    (h1 : (assignEach [.Tuple [.Name x px, .Name y py, .Name z pz, .Name u pu] kt pt] X.env).map (·.2) = [assign (.Tuple [.Name x px, .Name y py, .Name z pz, .Name u pu] kt pt) X.env] := by rfl) :
    PS X (.Assign [.Tuple [.Name x px, .Name y py, .Name z pz, .Name u pu] kt pt] (.Tuple [a, b, c, d] k2 pt2) pos) (cS X.K w (sPar4 i j k l fs)) :=
  psI (ps_asg (pe_tup ha) (pg_tup hc (pgs_cons (pg_name hN hi hx fx) (pgs_cons (pg_name hN hj hy fy) (pgs_cons (pg_name hN hk hz fz) (pgs_cons (pg_name hN hl hu fu) pgs_nil hp1) hp2) hp3) hp4) hn hst) hs hw h1) fun D σ H h => by
  obtain ⟨F, ρ, fp, s, h⟩ := h
  refine ⟨F, ρ, fp, s, PstS.bnd (e := fs ρ) h fun ss ρ1 F1 H1 fp1 t1 h1 => fun vs s1 hl => ?_⟩
  match ss, vs, hl with
  | [x, y, z, u], [v1, v2, v3, v4], _ =>
    dsimp only at h1
    split at h1
    · rename_i c
      refine ⟨show 4 ≤ sizeLine by decide, fun p hp => ⟨p, [v1, v2, v3, v4], rfl, SqT.of upd_same, rfl, ?_⟩⟩
      obtain ⟨s0, t0⟩ := Sta.ghost (o := .tup [v1, v2, v3, v4]) s1 hp
      obtain ⟨fp2, s2, t2⟩ := Sta.storeS s0 (noB_ne c.1) (i + 3)
      obtain ⟨fp3, s3, t3⟩ := Sta.storeS s2 (noB_ne c.2.1) (j + 2)
      obtain ⟨fp4, s4, t4⟩ := Sta.storeS s3 (noB_ne c.2.2.1) (k + 1)
      obtain ⟨fp5, s5, t5⟩ := Sta.storeS s4 (noB_ne c.2.2.2) l
      exact ⟨v1, [v2, v3, v4], rfl, v2, [v3, v4], rfl, v3, [v4], rfl, v4, [], rfl, rfl, h1 _ F1 _ fp5 (t0.trans (t2.trans (t3.trans (t4.trans t5)))) s5⟩
    · exact h1.elim
  | [], _, _ => exact h1.elim
  | [_], _, _ => exact h1.elim
  | [_, _], _, _ => exact h1.elim
  | [_, _, _], _, _ => exact h1.elim
  | _ :: _ :: _ :: _ :: _ :: _, _, _ => exact h1.elim
end
end Y

set_option maxHeartbeats 4000000
namespace Y
open PySem PySem.Spec PyProof.Rows L2
def m_is_from : En → R Fl := (sRet (sAndV (sN dIsi (sCons (sVar 0) (sCons (sC (.ty "int")) sNil))) (sAndV (sNotV (sN dIsi (sCons (sVar 0) (sCons (sC (.ty "bool")) sNil)))) (sChain dLe dLe D.bl (sVar 1) (sVar 0) (sVar 2)))))
def fs_is_from : List D → FO := runF false 3 3 m_is_from
def m_is_name : En → R Fl := (sSeq (sIfS (sOrT (sNotT (sTru (sN dIsi (sCons (sVar 0) (sCons (sC (.ty "str")) sNil))))) (sNotT (sChain dLe dLe id (sC (.int 1)) (s1 dLen' (sBor 0)) (sC (.int 8)))))
  (sRet (sC (.bl false)))
  sNx)
  (sRet (s1 dAll (sLc (sIt (sVar 0)) (hName 1) sYes (sCmp dIn (sVar 1) (sC (.str "abcdefghijklmnopqrstuvwxyz"))) [1]))))
def fs_is_name : List D → FO := runF false 1 2 m_is_name
def m_rises : En → R Fl := (sRet (s1 dAll (sLc (sRg zp2 (sCons (sVar 0) (sCons (sSlc (sVar 0) (sPt (sC (.int 1))) sNoPt) sNil))) (hTup 2 (hCons (hName 1) (hCons (hName 2) hNil))) sYes (sCmp dLt (sVar 1) (sBor 2)) [1, 2])))
def fs_rises : List D → FO := runF false 1 3 m_rises
def m_are_rows : En → R Fl := (sSeq (sIfS (sOrT (sNotT (sTru (sN dIsi (sCons (sVar 0) (sCons (sC (.ty "tuple")) sNil))))) (sBin dGt (s1 dLen' (sBor 0)) (sBor 1)))
  (sRet (sC (.bl false)))
  sNx)
  (sRet (s1 dAll (sLc (sIt (sVar 0)) (hName 3) sYes (sAndV (sN dIsi (sCons (sVar 3) (sCons (sC (.ty "tuple")) sNil))) (sCmp dEq (s1 dLen' (sBor 3)) (sBor 2))) [3]))))
def fs_are_rows : List D → FO := runF false 3 4 m_are_rows
def m_lowest : En → R Fl := (sSeq (sPar2 2 3 (pF (s1 dAbs (sBor 0)) (pF (sVar 1) pNil)))
  (sSeq (whL (sTru (sBor 3))
  (sPar2 2 3 (pF (sVar 3) (pF (sBin dMod (sVar 2) (sBor 3)) pNil))) 1000)
  (sRet (sMk .tup (sCons (sBin dDiv (sVar 0) (sBor 2)) (sCons (sBin dDiv (sVar 1) (sBor 2)) sNil))))))
def fs_lowest : List D → FO := runF false 2 4 m_lowest
def m_added : En → R Fl := (sRet (sCall fs_lowest (sCons (sBin dPlus (sBin dMul (sBin dIx (sVar 0) (sC (.int 0))) (sBin dIx (sVar 1) (sC (.int 1)))) (sBin dMul (sBin dIx (sVar 1) (sC (.int 0))) (sBin dIx (sVar 0) (sC (.int 1))))) (sCons (sBin dMul (sBin dIx (sVar 0) (sC (.int 1))) (sBin dIx (sVar 1) (sC (.int 1)))) sNil))))
def fs_added : List D → FO := runF false 2 2 m_added
def m_mean : En → R Fl := (sSeq (sIfS (sBin dEq (sBin dIx (sVar 1) (sC (.int 2))) (sMk .tup sNil))
  (sRet (sC .non))
  sNx)
  (sSeq (sAsg (hTup 2 (hCons (hName 2) (hCons (hName 3) hNil))) (sMk .tup (sCons (sMk .tup (sCons (sC (.int 0)) (sCons (sC (.int 1)) sNil))) (sCons (sC (.int 0)) sNil))))
  (sSeq (sFor (sIt (sBin dIx (sVar 0) (sC (.int 0)))) (hTup 2 (hCons (hName 4) (hCons (hName 5) hNil)))
  (sSeq (sSet 6 (sLc (sIt (sBin dIx (sVar 1) (sC (.int 2)))) (hTup 3 (hCons (hName 7) (hCons (hName 8) (hCons (hName 9) hNil)))) (sBin dEq (sVar 8) (sBor 4)) (sVar 9) [7, 8, 9]))
  (sIfS (sTru (sBor 6))
  (sSeq (sSet 2 (sCall fs_added (sCons (sVar 2) (sCons (sCall fs_lowest (sCons (sBin dMul (sVar 5) (s1 dSum (sBor 6))) (sCons (s1 dLen' (sBor 6)) sNil))) sNil))))
  (sSet 3 (sBin dPlusI (sVar 3) (sVar 5))))
  sNx)))
  (sRet (sCall fs_lowest (sCons (sBin dIx (sVar 2) (sC (.int 0))) (sCons (sBin dMul (sBin dIx (sVar 2) (sC (.int 1))) (sBor 3)) sNil)))))))
def fs_mean : List D → FO := runF false 2 10 m_mean
def m_hours : En → R Fl := (sRet (s1 dSum (sLc (sIt (sBin dIx (sVar 0) (sC (.int 3)))) (hTup 3 (hCons (hName 2) (hCons (hName 3) (hCons (hName 4) hNil)))) (sBin dEq (sVar 4) (sBor 1)) (sVar 3) [2, 3, 4])))
def fs_hours : List D → FO := runF false 2 5 m_hours
def m_grade_place : En → R Fl := (sRet (sBin dSub (s1 dLen' (sLc (sIt (sBin dIx (sVar 0) (sC (.int 1)))) (hTup 2 (hCons (hName 2) (hCons (hName 3) hNil))) (sBin dLe (sBin dMul (sVar 2) (sBin dIx (sVar 1) (sC (.int 1)))) (sBin dIx (sVar 1) (sC (.int 0)))) (sC (.int 1)) [2, 3])) (sC (.int 1))))
def fs_grade_place : List D → FO := runF false 2 4 m_grade_place
def m_result : En → R Fl := (sSeq (sIfS (sBin dGt (sCall fs_hours (sCons (sVar 1) (sCons (sC (.bl false)) sNil))) (sBin dIx (sVar 0) (sC (.int 3))))
  (sRet (sC (.str "out")))
  sNx)
  (sSeq (sSet 2 (sCall fs_mean (sCons (sVar 0) (sCons (sVar 1) sNil))))
  (sRet (sIf (sBin dIs (sVar 2) (sC .non)) (sC (.str "open")) (sBin dIx (sBin dIx (sBin dIx (sVar 0) (sC (.int 1))) (sCall fs_grade_place (sCons (sVar 0) (sCons (sVar 2) sNil)))) (sC (.int 1)))))))
def fs_result : List D → FO := runF false 2 3 m_result
def m_has_grade : En → R Fl := (sRet (sAndV (sCmp dLe (sCall fs_hours (sCons (sVar 1) (sCons (sC (.bl false)) sNil))) (sBin dIx (sVar 0) (sC (.int 3)))) (sCmp dNe (sBin dIx (sVar 1) (sC (.int 2))) (sMk .tup sNil))))
def fs_has_grade : List D → FO := runF false 2 2 m_has_grade
def m_is_good : En → R Fl := (sRet (sAndV (sCall fs_has_grade (sCons (sVar 0) (sCons (sVar 1) sNil))) (sCmp dGe (sCall fs_grade_place (sCons (sVar 0) (sCons (sCall fs_mean (sCons (sVar 0) (sCons (sVar 1) sNil))) sNil))) (sBin dIx (sVar 0) (sC (.int 2))))))
def fs_is_good : List D → FO := runF false 2 2 m_is_good
def m_standing : En → R Fl := (sSeq (sSet 1 (sBin dIx (sVar 0) (sC (.int 1))))
  (sSeq (sIfS (sTru (s1 dAny (sLc (sIt (sBin dIx (sVar 0) (sC (.int 3)))) (hName 3) sYes (sAndV (sCmp dLe (sCall fs_hours (sCons (sVar 3) (sCons (sC (.bl false)) sNil))) (sBin dIx (sVar 1) (sC (.int 3)))) (sCmp dEq (sBin dIx (sVar 3) (sC (.int 2))) (sMk .tup sNil))) [3])))
  (sRet (sC (.str "open")))
  sNx)
  (sSeq (sSet 2 (s1 dSum (sLc (sIt (sBin dIx (sVar 0) (sC (.int 3)))) (hName 3) (sNotT (sTru (sCall fs_is_good (sCons (sVar 1) (sCons (sVar 3) sNil))))) (sBin dIx (sVar 3) (sC (.int 1))) [3])))
  (sRet (sIf (sBin dLe (sVar 2) (sBin dIx (sVar 1) (sC (.int 4)))) (sC (.str "up")) (sC (.str "stays")))))))
def fs_standing : List D → FO := runF false 1 4 m_standing
def m_passed : En → R Fl := (sSeq (sSet 2 (sDc2 (sIt (sVar 0)) (hName 3) (sBin dLt (sBin dIx (sVar 3) (sC (.int 0))) (sBor 1)) (sIt (sBin dIx (sVar 3) (sC (.int 3)))) (hName 4) (sTru (sCall fs_is_good (sCons (sBin dIx (sVar 3) (sC (.int 1))) (sCons (sVar 4) sNil)))) (sBin dIx (sVar 4) (sC (.int 0))) (sC (.bl true)) [3, 4] [4]))
  (sRetO (s1 dSorted (s1 dList (sBor 2)))))
def fs_passed : List D → FO := runF false 2 5 m_passed
def m_report : En → R Fl := (sSeq (sSet 1 (sBin dIx (sVar 0) (sC (.int 1))))
  (sSeq (sSetO 2 (sMk .lst sNil))
  (sSeq (sAsg (hTup 2 (hCons (hName 5) (hCons (hName 6) hNil))) (sMk .tup (sCons (sMk .tup (sCons (sC (.int 0)) (sCons (sC (.int 1)) sNil))) (sCons (sC (.int 0)) sNil))))
  (sSeq (sFor (sIt (sBin dIx (sVar 0) (sC (.int 3)))) (hName 3)
  (sSeq (sSet 7 (sCall fs_mean (sCons (sVar 1) (sCons (sVar 3) sNil))))
  (sSeq (sSet 8 (sMk .tup (sCons (sBin dIx (sVar 3) (sC (.int 0))) (sCons (sCall fs_result (sCons (sVar 1) (sCons (sVar 3) sNil))) (sCons (sVar 7) (sCons (sCall fs_is_good (sCons (sVar 1) (sCons (sVar 3) sNil))) (sCons (sCall fs_hours (sCons (sVar 3) (sCons (sC (.bl false)) sNil))) (sCons (sCall fs_hours (sCons (sVar 3) (sCons (sC (.bl true)) sNil))) sNil))))))))
  (sSeq (sDrop (sMeth 2 gAppend (sCons (sVar 8) sNil)))
  (sIfS (sTru (sCall fs_has_grade (sCons (sVar 1) (sCons (sVar 3) sNil))))
  (sSeq (sSet 5 (sCall fs_added (sCons (sVar 5) (sCons (sCall fs_lowest (sCons (sBin dMul (sBin dIx (sVar 3) (sC (.int 1))) (sBin dIx (sVar 7) (sC (.int 0)))) (sCons (sBin dIx (sVar 7) (sC (.int 1))) sNil))) sNil))))
  (sSet 6 (sBin dPlusI (sVar 6) (sBin dIx (sVar 3) (sC (.int 1))))))
  sNx)))))
  (sSeq (sSet 4 (sIf (sBin dGt (sVar 6) (sC (.int 0))) (sCall fs_lowest (sCons (sBin dIx (sVar 5) (sC (.int 0))) (sCons (sBin dMul (sBin dIx (sVar 5) (sC (.int 1))) (sBor 6)) sNil))) (sC .non)))
  (sRet (sMk .tup (sCons (s1 dTuple (sBor 2)) (sCons (sVar 4) (sCons (s1 dSum (sLc (sIt (sFrz 2)) (hName 8) sYes (sBin dIx (sVar 8) (sC (.int 4))) [8])) (sCons (sCall fs_standing (sCons (sVar 0) sNil)) sNil)))))))))))
def fs_report : List D → FO := runF false 1 9 m_report
def m_are_kinds : En → R Fl := (sSeq (sIfS (sOrT (sNotT (sTru (sCall fs_are_rows (sCons (sVar 0) (sCons (sC (.int 4)) (sCons (sC (.int 2)) sNil)))))) (sBin dEq (sVar 0) (sMk .tup sNil)))
  (sRet (sC (.bl false)))
  sNx)
  (sSeq (sIfS (sNotT (sTru (s1 dAll (sLc (sIt (sVar 0)) (hTup 2 (hCons (hName 2) (hCons (hName 3) hNil))) sYes (sAndV (sCall fs_is_name (sCons (sVar 2) sNil)) (sCall fs_is_from (sCons (sVar 3) (sCons (sC (.int 1)) (sCons (sC (.int 9)) sNil))))) [2, 3]))))
  (sRet (sC (.bl false)))
  sNx)
  (sRet (sCall fs_rises (sCons (sLc (sIt (sVar 0)) (hName 1) sYes (sBin dIx (sVar 1) (sC (.int 0))) [1]) sNil)))))
def fs_are_kinds : List D → FO := runF false 1 4 m_are_kinds
def m_are_grades : En → R Fl := (sSeq (sIfS (sOrT (sNotT (sTru (sCall fs_are_rows (sCons (sVar 0) (sCons (sC (.int 6)) (sCons (sC (.int 2)) sNil)))))) (sBin dEq (sVar 0) (sMk .tup sNil)))
  (sRet (sC (.bl false)))
  sNx)
  (sSeq (sIfS (sNotT (sTru (s1 dAll (sLc (sIt (sVar 0)) (hTup 2 (hCons (hName 1) (hCons (hName 2) hNil))) sYes (sAndV (sCall fs_is_from (sCons (sVar 1) (sCons (sC (.int 0)) (sCons (sC (.int 100)) sNil)))) (sCall fs_is_name (sCons (sVar 2) sNil))) [1, 2]))))
  (sRet (sC (.bl false)))
  sNx)
  (sRet (sAndV (sCmp dEq (sBin dIx (sBin dIx (sVar 0) (sC (.int 0))) (sC (.int 0))) (sC (.int 0))) (sAndV (sCall fs_rises (sCons (sLc (sIt (sVar 0)) (hName 3) sYes (sBin dIx (sVar 3) (sC (.int 0))) [3]) sNil)) (sCall fs_rises (sCons (s1 dSorted (sLc (sIt (sVar 0)) (hName 3) sYes (sBin dIx (sVar 3) (sC (.int 1))) [3])) sNil)))))))
def fs_are_grades : List D → FO := runF false 1 4 m_are_grades
def m_are_rules : En → R Fl := (sSeq (sIfS (sOrT (sNotT (sTru (sN dIsi (sCons (sVar 0) (sCons (sC (.ty "tuple")) sNil))))) (sOrT (sBin dNe (s1 dLen' (sBor 0)) (sC (.int 5))) (sOrT (sNotT (sTru (sCall fs_are_kinds (sCons (sBin dIx (sVar 0) (sC (.int 0))) sNil)))) (sNotT (sTru (sCall fs_are_grades (sCons (sBin dIx (sVar 0) (sC (.int 1))) sNil)))))))
  (sRet (sC (.bl false)))
  sNx)
  (sRet (sAndV (sCall fs_is_from (sCons (sBin dIx (sVar 0) (sC (.int 2))) (sCons (sC (.int 0)) (sCons (sBin dSub (s1 dLen' (sBin dIx (sVar 0) (sC (.int 1)))) (sC (.int 1))) sNil)))) (sAndV (sCall fs_is_from (sCons (sBin dIx (sVar 0) (sC (.int 3))) (sCons (sC (.int 0)) (sCons (sC (.int 99)) sNil)))) (sCall fs_is_from (sCons (sBin dIx (sVar 0) (sC (.int 4))) (sCons (sC (.int 0)) (sCons (sC (.int 40)) sNil))))))))
def fs_are_rules : List D → FO := runF false 1 1 m_are_rules
def m_is_day : En → R Fl := (sRet (sCall fs_is_from (sCons (sVar 0) (sCons (sC (.int 0)) (sCons (sC (.int 400)) sNil)))))
def fs_is_day : List D → FO := runF false 1 1 m_is_day
def m_are_marks : En → R Fl := (sSeq (sSet 2 (sLc (sIt (sBin dIx (sVar 0) (sC (.int 0)))) (hName 6) sYes (sBin dIx (sVar 6) (sC (.int 0))) [6]))
  (sSeq (sIfS (sNotT (sTru (sCall fs_are_rows (sCons (sVar 1) (sCons (sC (.int 12)) (sCons (sC (.int 3)) sNil))))))
  (sRet (sC (.bl false)))
  sNx)
  (sSeq (sFor (sIt (sVar 1)) (hTup 3 (hCons (hName 3) (hCons (hName 4) (hCons (hName 5) hNil))))
  (sIfS (sOrT (sNotT (sTru (sCall fs_is_day (sCons (sVar 3) sNil)))) (sOrT (sNotT (sTru (sN dIsi (sCons (sVar 4) (sCons (sC (.ty "str")) sNil))))) (sOrT (sBin dNotIn (sVar 4) (sBor 2)) (sNotT (sTru (sCall fs_is_from (sCons (sVar 5) (sCons (sC (.int 0)) (sCons (sC (.int 100)) sNil)))))))))
  (sRet (sC (.bl false)))
  sNx))
  (sRet (sCall fs_rises (sCons (sLc (sIt (sVar 1)) (hName 6) sYes (sSlc (sVar 6) sNoPt (sPt (sC (.int 2)))) [6]) sNil))))))
def fs_are_marks : List D → FO := runF false 2 7 m_are_marks
def m_are_gaps : En → R Fl := (sSeq (sIfS (sNotT (sTru (sCall fs_are_rows (sCons (sVar 0) (sCons (sC (.int 12)) (sCons (sC (.int 3)) sNil))))))
  (sRet (sC (.bl false)))
  sNx)
  (sSeq (sIfS (sNotT (sTru (s1 dAll (sLc (sIt (sVar 0)) (hName 1) sYes (sAndV (sCall fs_is_day (sCons (sBin dIx (sVar 1) (sC (.int 0))) sNil)) (sAndV (sCall fs_is_from (sCons (sBin dIx (sVar 1) (sC (.int 1))) (sCons (sC (.int 1)) (sCons (sC (.int 9)) sNil)))) (sN dIsi (sCons (sBin dIx (sVar 1) (sC (.int 2))) (sCons (sC (.ty "bool")) sNil))))) [1]))))
  (sRet (sC (.bl false)))
  sNx)
  (sRet (sCall fs_rises (sCons (sLc (sIt (sVar 0)) (hName 1) sYes (sBin dIx (sVar 1) (sC (.int 0))) [1]) sNil)))))
def fs_are_gaps : List D → FO := runF false 1 2 m_are_gaps
def m_is_take : En → R Fl := (sSeq (sIfS (sOrT (sNotT (sTru (sCall fs_is_name (sCons (sBin dIx (sVar 1) (sC (.int 0))) sNil)))) (sNotT (sTru (sCall fs_is_from (sCons (sBin dIx (sVar 1) (sC (.int 1))) (sCons (sC (.int 1)) (sCons (sC (.int 9)) sNil)))))))
  (sRet (sC (.bl false)))
  sNx)
  (sRet (sAndV (sCall fs_are_marks (sCons (sVar 0) (sCons (sBin dIx (sVar 1) (sC (.int 2))) sNil))) (sCall fs_are_gaps (sCons (sBin dIx (sVar 1) (sC (.int 3))) sNil)))))
def fs_is_take : List D → FO := runF false 2 2 m_is_take
def m_is_year : En → R Fl := (sRet (sCall fs_is_from (sCons (sVar 0) (sCons (sC (.int 1900)) (sCons (sC (.int 2100)) sNil)))))
def fs_is_year : List D → FO := runF false 1 1 m_is_year
def m_is_entry : En → R Fl := (sSeq (sIfS (sOrT (sNotT (sTru (sCall fs_is_year (sCons (sBin dIx (sVar 0) (sC (.int 0))) sNil)))) (sOrT (sNotT (sTru (sCall fs_are_rules (sCons (sBin dIx (sVar 0) (sC (.int 1))) sNil)))) (sNotT (sTru (sCall fs_is_name (sCons (sBin dIx (sVar 0) (sC (.int 2))) sNil))))))
  (sRet (sC (.bl false)))
  sNx)
  (sSeq (sIfS (sNotT (sTru (sCall fs_are_rows (sCons (sBin dIx (sVar 0) (sC (.int 3))) (sCons (sC (.int 8)) (sCons (sC (.int 4)) sNil))))))
  (sRet (sC (.bl false)))
  sNx)
  (sRet (sAndV (s1 dAll (sLc (sIt (sBin dIx (sVar 0) (sC (.int 3)))) (hName 1) sYes (sCall fs_is_take (sCons (sBin dIx (sVar 0) (sC (.int 1))) (sCons (sVar 1) sNil))) [1])) (sCall fs_rises (sCons (sLc (sIt (sBin dIx (sVar 0) (sC (.int 3)))) (hName 1) sYes (sBin dIx (sVar 1) (sC (.int 0))) [1]) sNil))))))
def fs_is_entry : List D → FO := runF false 1 2 m_is_entry
def m_is_record : En → R Fl := (sSeq (sIfS (sOrT (sNotT (sTru (sCall fs_are_rows (sCons (sVar 0) (sCons (sC (.int 6)) (sCons (sC (.int 4)) sNil)))))) (sNotT (sTru (s1 dAll (sLc (sIt (sVar 0)) (hName 1) sYes (sCall fs_is_entry (sCons (sVar 1) sNil)) [1])))))
  (sRet (sC (.bl false)))
  sNx)
  (sRet (sCall fs_rises (sCons (sLc (sIt (sVar 0)) (hName 1) sYes (sBin dIx (sVar 1) (sC (.int 0))) [1]) sNil))))
def fs_is_record : List D → FO := runF false 1 2 m_is_record
def m__law_bag : En → R Fl := (sSeq (sSet 2 (sC (.int 0)))
  (sSeq (sIfS (sBin dLt (sVar 1) (s1 dLen' (sBor 0)))
  (sSet 2 (sBin dMod (sBin dIx (sVar 0) (sVar 1)) (sBin dPow (sC (.int 10)) (sC (.int 60)))))
  sNx)
  (sSeq (sSet 3 (sBin dPlus (sC (.int 1)) (sBin dMod (sBin dPlus (sBin dPlus (sBin dPlus (sBin dMul (sBin dMod (sVar 2) (sC (.int 2147483629))) (sC (.int 16807))) (sBin dMul (sBin dMul (sC (.int 40009)) (sBor 1)) (sBor 1))) (sBin dMul (sC (.int 7919)) (sBor 1))) (sC (.int 1009))) (sC (.int 2147483645)))))
  (sSeq (sIfS (sBin dLt (sVar 2) (sBin dPow (sC (.int 10)) (sC (.int 18))))
  (sRetO (sMk .lst (sCons (sC (.int 0)) (sCons (sVar 3) sNil))))
  sNx)
  (sRetO (sMk .lst (sCons (sVar 2) (sCons (sVar 3) sNil))))))))
def fs__law_bag : List D → FO := runF false 2 4 m__law_bag
def m__law_take : En → R Fl := (sSeq (sIfS (sBin dGt (sIxV 0 (sC (.int 0))) (sC (.int 0)))
  (sSeq (sSet 2 (sBin dMod (sIxV 0 (sC (.int 0))) (sBor 1)))
  (sSeq (sPut 0 gSetL (sC (.int 0)) (sBin dDiv (sIxV 0 (sC (.int 0))) (sBor 1)))
  (sRet (sVar 2))))
  sNx)
  (sSeq (sPut 0 gSetL (sC (.int 1)) (sBin dMod (sBin dMul (sIxV 0 (sC (.int 1))) (sC (.int 48271))) (sC (.int 2147483647))))
  (sRet (sBin dMod (sBin dDiv (sBin dMod (sBin dMul (sBin dDiv (sIxV 0 (sC (.int 1))) (sC (.int 13))) (sBin dPlus (sBin dMod (sIxV 0 (sC (.int 1))) (sC (.int 32749))) (sC (.int 17)))) (sC (.int 2147483629))) (sC (.int 32))) (sBor 1)))))
def fs__law_take : List D → FO := runF true 2 3 m__law_take
def m__law_frac : En → R Fl := (sSeq (sPar2 2 3 (pF (s1 dAbs (sBor 0)) (pF (sVar 1) pNil)))
  (sSeq (whL (sBin dNe (sVar 3) (sC (.int 0)))
  (sPar2 2 3 (pF (sVar 3) (pF (sBin dMod (sVar 2) (sBor 3)) pNil))) 1000)
  (sRet (sMk .tup (sCons (sBin dDiv (sVar 0) (sBor 2)) (sCons (sBin dDiv (sVar 1) (sBor 2)) sNil))))))
def fs__law_frac : List D → FO := runF false 2 4 m__law_frac
def m__law_takes_right : En → R Fl := (sSeq (sSet 2 (sMk .tup (sCons (sMk .tup (sCons (sC (.str "oral")) (sCons (sBin dPlus (sC (.int 1)) (sCallI 0 fs__law_take (sCons (sC (.int 9)) sNil))) sNil))) (sCons (sMk .tup (sCons (sC (.str "test")) (sCons (sBin dPlus (sC (.int 1)) (sCallI 0 fs__law_take (sCons (sC (.int 9)) sNil))) sNil))) (sCons (sMk .tup (sCons (sC (.str "work")) (sCons (sBin dPlus (sC (.int 1)) (sCallI 0 fs__law_take (sCons (sC (.int 9)) sNil))) sNil))) sNil)))))
  (sSeq (sSet 3 (sCallI 0 fs__law_take (sCons (sC (.int 99)) sNil)))
  (sSeq (sSet 4 (sMk .tup (sCons (sVar 2) (sCons (sMk .tup (sCons (sMk .tup (sCons (sC (.int 0)) (sCons (sC (.str "open")) sNil))) (sCons (sMk .tup (sCons (sVar 1) (sCons (sC (.str "out")) sNil))) sNil))) (sCons (sC (.int 1)) (sCons (sVar 3) (sCons (sC (.int 5)) sNil)))))))
  (sSeq (sSet 5 (sMk .tup (sCons (sC (.str "art")) (sCons (sC (.int 3)) (sCons (sMk .tup (sCons (sMk .tup (sCons (sC (.int 1)) (sCons (sC (.str "test")) (sCons (sVar 1) sNil)))) (sCons (sMk .tup (sCons (sC (.int 2)) (sCons (sC (.str "test")) (sCons (sVar 1) sNil)))) (sCons (sMk .tup (sCons (sC (.int 2)) (sCons (sC (.str "work")) (sCons (sVar 1) sNil)))) sNil)))) (sCons (sMk .tup sNil) sNil))))))
  (sSeq (sSet 6 (sMk .tup (sCons (sC (.str "art")) (sCons (sC (.int 3)) (sCons (sMk .tup (sCons (sMk .tup (sCons (sC (.int 1)) (sCons (sC (.str "test")) (sCons (sVar 1) sNil)))) (sCons (sMk .tup (sCons (sC (.int 2)) (sCons (sC (.str "test")) (sCons (sVar 1) sNil)))) (sCons (sMk .tup (sCons (sC (.int 3)) (sCons (sC (.str "test")) (sCons (sBin dSub (sVar 1) (sC (.int 1))) sNil)))) sNil)))) (sCons (sMk .tup sNil) sNil))))))
  (sSeq (sIfS (sBin dNe (sMk .lst (sCons (sCall fs_mean (sCons (sVar 4) (sCons (sVar 5) sNil))) (sCons (sCall fs_result (sCons (sVar 4) (sCons (sVar 5) sNil))) (sCons (sCall fs_is_good (sCons (sVar 4) (sCons (sVar 5) sNil))) sNil)))) (sMk .lst (sCons (sMk .tup (sCons (sVar 1) (sCons (sC (.int 1)) sNil))) (sCons (sC (.str "out")) (sCons (sC (.bl true)) sNil)))))
  (sRet (sC (.bl false)))
  sNx)
  (sSeq (sIfS (sBin dNe (sMk .lst (sCons (sCall fs_mean (sCons (sVar 4) (sCons (sVar 6) sNil))) (sCons (sCall fs_result (sCons (sVar 4) (sCons (sVar 6) sNil))) (sCons (sCall fs_is_good (sCons (sVar 4) (sCons (sVar 6) sNil))) sNil)))) (sMk .lst (sCons (sMk .tup (sCons (sBin dSub (sBin dMul (sC (.int 3)) (sBor 1)) (sC (.int 1))) (sCons (sC (.int 3)) sNil))) (sCons (sC (.str "open")) (sCons (sC (.bl false)) sNil)))))
  (sRet (sC (.bl false)))
  sNx)
  (sSeq (sSet 7 (sMk .lst (sCons (sBin dDiv (sVar 3) (sC (.int 9))) (sCons (sBin dMod (sVar 3) (sC (.int 9))) sNil))))
  (sSeq (sSet 8 (sBin dPlus (sLc (sRg rg1 (sCons (sBin dIx (sVar 7) (sC (.int 0))) sNil)) (hName 13) sYes (sMk .tup (sCons (sVar 13) (sCons (sC (.int 9)) (sCons (sC (.bl false)) sNil)))) [13]) (sBin dRep (sMk .lst (sCons (sMk .tup (sCons (sC (.int 50)) (sCons (sBin dIx (sVar 7) (sC (.int 1))) (sCons (sC (.bl false)) sNil)))) sNil)) (s1 dInt (sCmp dGt (sBin dIx (sVar 7) (sC (.int 1))) (sC (.int 0)))))))
  (sSeq (sSet 8 (sBin dPlus (s1 dTuple (sSlc (sVar 8) sNoPt (sPt (sC (.int 11))))) (sMk .tup (sCons (sMk .tup (sCons (sC (.int 60)) (sCons (sC (.int 9)) (sCons (sC (.bl true)) sNil)))) sNil))))
  (sSeq (sSet 9 (s1 dSum (sLc (sIt (sVar 8)) (hName 14) (sNotT (sTru (sBin dIx (sVar 14) (sC (.int 2))))) (sBin dIx (sVar 14) (sC (.int 1))) [14])))
  (sSeq (sSet 10 (sBin dPlus (sSlc (sVar 5) sNoPt (sPt (sC (.int 3)))) (sMk .tup (sCons (sVar 8) sNil))))
  (sSeq (sSet 11 (sBin dPlus (sBin dPlus (sSlc (sVar 4) sNoPt (sPt (sC (.int 3)))) (sMk .tup (sCons (sVar 9) sNil))) (sSlc (sVar 4) (sPt (sC (.int 4))) sNoPt)))
  (sSeq (sIfS (sOrT (sBin dNe (sCall fs_result (sCons (sVar 11) (sCons (sVar 10) sNil))) (sC (.str "out"))) (sNotT (sTru (sCall fs_is_good (sCons (sVar 11) (sCons (sVar 10) sNil))))))
  (sRet (sC (.bl false)))
  sNx)
  (sSeq (sIfS (sBin dGt (sVar 9) (sC (.int 0)))
  (sSeq (sSet 12 (sBin dPlus (sBin dPlus (sSlc (sVar 4) sNoPt (sPt (sC (.int 3)))) (sMk .tup (sCons (sBin dSub (sVar 9) (sC (.int 1))) sNil))) (sSlc (sVar 4) (sPt (sC (.int 4))) sNoPt)))
  (sIfS (sOrT (sBin dNe (sCall fs_result (sCons (sVar 12) (sCons (sVar 10) sNil))) (sC (.str "out"))) (sOrT (sTru (sCall fs_is_good (sCons (sVar 12) (sCons (sVar 10) sNil)))) (sBin dNe (sCall fs_mean (sCons (sVar 12) (sCons (sVar 10) sNil))) (sMk .tup (sCons (sVar 1) (sCons (sC (.int 1)) sNil))))))
  (sRet (sC (.bl false)))
  sNx))
  sNx)
  (sRet (sCmp dIs (sCall fs_is_record (sCons (sMk .tup (sCons (sMk .tup (sCons (sC (.int 2000)) (sCons (sVar 4) (sCons (sC (.str "one")) (sCons (sMk .tup (sCons (sVar 5) sNil)) sNil))))) sNil)) sNil)) (sC (.bl true)))))))))))))))))))
def fs__law_takes_right : List D → FO := runF true 2 15 m__law_takes_right
def m__law_standing_right : En → R Fl := (sSeq (sSet 1 (sMk .tup (sCons (sMk .tup (sCons (sMk .tup (sCons (sC (.str "test")) (sCons (sC (.int 2)) sNil))) sNil)) (sCons (sMk .tup (sCons (sMk .tup (sCons (sC (.int 0)) (sCons (sC (.str "f")) sNil))) (sCons (sMk .tup (sCons (sC (.int 50)) (sCons (sC (.str "d")) sNil))) sNil))) (sCons (sC (.int 1)) (sCons (sC (.int 4)) (sCons (sC (.int 5)) sNil)))))))
  (sSeq (sAsg (hTup 2 (hCons (hName 6) (hCons (hName 7) hNil))) (sMk .tup (sCons (sMk .tup (sCons (sC (.str "art")) (sCons (sC (.int 2)) (sCons (sMk .tup (sCons (sMk .tup (sCons (sC (.int 1)) (sCons (sC (.str "test")) (sCons (sC (.int 80)) sNil)))) sNil)) (sCons (sMk .tup sNil) sNil))))) (sCons (sMk .tup (sCons (sC (.str "bio")) (sCons (sC (.int 5)) (sCons (sMk .tup (sCons (sMk .tup (sCons (sC (.int 1)) (sCons (sC (.str "test")) (sCons (sC (.int 10)) sNil)))) sNil)) (sCons (sMk .tup sNil) sNil))))) sNil))))
  (sSeq (sAsg (hTup 2 (hCons (hName 8) (hCons (hName 9) hNil))) (sMk .tup (sCons (sMk .tup (sCons (sC (.str "chem")) (sCons (sC (.int 6)) (sCons (sMk .tup (sCons (sMk .tup (sCons (sC (.int 1)) (sCons (sC (.str "test")) (sCons (sC (.int 90)) sNil)))) sNil)) (sCons (sMk .tup (sCons (sMk .tup (sCons (sC (.int 1)) (sCons (sC (.int 5)) (sCons (sC (.bl false)) sNil)))) sNil)) sNil))))) (sCons (sMk .tup (sCons (sC (.str "dutch")) (sCons (sC (.int 1)) (sCons (sMk .tup sNil) (sCons (sMk .tup sNil) sNil))))) sNil))))
  (sSeq (sSet 2 (sMk .tup (sCons (sC (.str "eng")) (sCons (sC (.int 3)) (sCons (sMk .tup sNil) (sCons (sMk .tup (sCons (sMk .tup (sCons (sC (.int 1)) (sCons (sC (.int 9)) (sCons (sC (.bl false)) sNil)))) sNil)) sNil))))))
  (sSeq (sSet 3 (sLc (sIt (sMk .lst (sCons (sMk .tup (sCons (sVar 6) (sCons (sVar 7) sNil))) (sCons (sMk .tup (sCons (sVar 6) (sCons (sVar 7) (sCons (sVar 9) sNil)))) (sCons (sMk .tup (sCons (sVar 8) sNil)) (sCons (sMk .tup (sCons (sVar 2) sNil)) (sCons (sMk .tup sNil) sNil))))))) (hName 14) sYes (sCall fs_standing (sCons (sMk .tup (sCons (sC (.int 2000)) (sCons (sVar 1) (sCons (sC (.str "one")) (sCons (sVar 14) sNil))))) sNil)) [14]))
  (sSeq (sIfS (sOrT (sBin dNe (sVar 3) (sMk .lst (sCons (sC (.str "up")) (sCons (sC (.str "open")) (sCons (sC (.str "stays")) (sCons (sC (.str "up")) (sCons (sC (.str "up")) sNil))))))) (sBin dNe (sCall fs_standing (sCons (sMk .tup (sCons (sC (.int 2000)) (sCons (sVar 1) (sCons (sC (.str "one")) (sCons (sMk .tup (sCons (sVar 7) (sCons (sVar 2) sNil))) sNil))))) sNil)) (sC (.str "stays"))))
  (sRet (sC (.bl false)))
  sNx)
  (sSeq (sAsg (hTup 4 (hCons (hName 10) (hCons (hName 11) (hCons (hName 12) (hCons (hName 13) hNil))))) (sCall fs_report (sCons (sMk .tup (sCons (sC (.int 2000)) (sCons (sVar 1) (sCons (sC (.str "one")) (sCons (sMk .tup (sCons (sVar 6) (sCons (sVar 7) (sCons (sVar 8) (sCons (sVar 9) sNil))))) sNil))))) sNil)))
  (sSeq (sIfS (sOrT (sBin dNe (sVar 11) (sCall fs__law_frac (sCons (sBin dPlus (sBin dMul (sC (.int 2)) (sC (.int 80))) (sBin dMul (sC (.int 5)) (sC (.int 10)))) (sCons (sC (.int 7)) sNil)))) (sOrT (sBin dNe (sVar 12) (sC (.int 5))) (sBin dNe (sVar 13) (sC (.str "open")))))
  (sRet (sC (.bl false)))
  sNx)
  (sSeq (sIfS (sOrT (sBin dNe (sBin dIx (sVar 10) (sC (.int 2))) (sMk .tup (sCons (sC (.str "chem")) (sCons (sC (.str "out")) (sCons (sMk .tup (sCons (sC (.int 90)) (sCons (sC (.int 1)) sNil))) (sCons (sC (.bl false)) (sCons (sC (.int 5)) (sCons (sC (.int 0)) sNil)))))))) (sBin dNe (sBin dIx (sVar 10) (sC (.int 3))) (sMk .tup (sCons (sC (.str "dutch")) (sCons (sC (.str "open")) (sCons (sC .non) (sCons (sC (.bl false)) (sCons (sC (.int 0)) (sCons (sC (.int 0)) sNil)))))))))
  (sRet (sC (.bl false)))
  sNx)
  (sSeq (sSet 4 (sBin dPlus (sSlc (sVar 6) sNoPt (sPt (sC (.int 2)))) (sMk .tup (sCons (sMk .tup (sCons (sMk .tup (sCons (sC (.int 1)) (sCons (sC (.str "test")) (sCons (sC (.int 3)) sNil)))) sNil)) (sCons (sMk .tup sNil) sNil)))))
  (sSeq (sSet 5 (sMk .tup (sCons (sMk .tup (sCons (sC (.int 2000)) (sCons (sVar 1) (sCons (sC (.str "one")) (sCons (sMk .tup (sCons (sVar 6) sNil)) sNil))))) (sCons (sMk .tup (sCons (sC (.int 2001)) (sCons (sVar 1) (sCons (sC (.str "one")) (sCons (sMk .tup (sCons (sVar 4) sNil)) sNil))))) sNil))))
  (sRet (sCmp dEq (sLc (sIt (sMk .lst (sCons (sC (.int 2000)) (sCons (sC (.int 2001)) (sCons (sC (.int 2002)) sNil))))) (hName 15) sYes (sCall fs_passed (sCons (sVar 5) (sCons (sVar 15) sNil))) [15]) (sMk .lst (sCons (sMk .lst sNil) (sCons (sMk .lst (sCons (sC (.str "art")) sNil)) (sCons (sMk .lst (sCons (sC (.str "art")) sNil)) sNil)))))))))))))))))
def fs__law_standing_right : List D → FO := runF false 1 16 m__law_standing_right
def m_law : En → R Fl := (sSeq (sFor (sRg rg1 (sCons (sBin dPlus (sN dMin2 (sCons (s1 dLen' (sBor 0)) (sCons (sC (.int 8)) sNil))) (sC (.int 2))) sNil)) (hName 1)
  (sSeq (sSetO 2 (sCallO fs__law_bag (sCons (sVar 0) (sCons (sVar 1) sNil))))
  (sSeq (sFor (sIt (sMk .lst (sCons (sC (.int 1)) (sCons (sC (.int 100)) (sCons (sBin dPlus (sC (.int 1)) (sCallI 2 fs__law_take (sCons (sC (.int 100)) sNil))) sNil))))) (hName 3)
  (sIfS (sNotT (sTru (sCallI 2 fs__law_takes_right (sCons (sVar 3) sNil))))
  (sRet (sC (.bl false)))
  sNx))
  (sIfS (sNotT (sTru (sCall fs__law_standing_right (sCons (sFrz 2) sNil))))
  (sRet (sC (.bl false)))
  sNx))))
  (sRet (sC (.bl true))))
def fs_law : List D → FO := runF false 1 4 m_law
def top (i : Nat) : Stmt := PySem.Challenge.pw_schoolbook_k30_results_by_hand.main.body.getD i (.Pass ⟨0, 0, 0, 0⟩)
structure TX (mg : Str → Option Value) : Prop where
  n_abs : mg "abs" = none
  n_all : mg "all" = none
  n_any : mg "any" = none
  n_bool : mg "bool" = none
  n_int : mg "int" = none
  n_isinstance : mg "isinstance" = none
  n_len : mg "len" = none
  n_list : mg "list" = none
  n_min : mg "min" = none
  n_range : mg "range" = none
  n_sorted : mg "sorted" = none
  n_str : mg "str" = none
  n_sum : mg "sum" = none
  n_tuple : mg "tuple" = none
  n_zip : mg "zip" = none
  c_MOST_KINDS : ∃ t, mg "MOST_KINDS" = some (.int 4 t)
  c_MOST_GRADES : ∃ t, mg "MOST_GRADES" = some (.int 6 t)
  c_MOST_MARKS : ∃ t, mg "MOST_MARKS" = some (.int 12 t)
  c_MOST_TAKES : ∃ t, mg "MOST_TAKES" = some (.int 8 t)
  c_MOST_ENTRIES : ∃ t, mg "MOST_ENTRIES" = some (.int 6 t)
  c_LAST_DAY : ∃ t, mg "LAST_DAY" = some (.int 400 t)
theorem boot_abs' : bootBuiltins "abs" = some (.builtin "abs") := by decide +kernel
theorem boot_all' : bootBuiltins "all" = some (.builtin "all") := by decide +kernel
theorem boot_any' : bootBuiltins "any" = some (.builtin "any") := by decide +kernel
theorem boot_bool' : bootBuiltins "bool" = some (.type "bool") := by decide +kernel
theorem boot_int' : bootBuiltins "int" = some (.type "int") := by decide +kernel
theorem boot_isinstance' : bootBuiltins "isinstance" = some (.builtin "isinstance") := by decide +kernel
theorem boot_len' : bootBuiltins "len" = some (.builtin "len") := by decide +kernel
theorem boot_list' : bootBuiltins "list" = some (.type "list") := by decide +kernel
theorem boot_min' : bootBuiltins "min" = some (.builtin "min") := by decide +kernel
theorem boot_range' : bootBuiltins "range" = some (.type "range") := by decide +kernel
theorem boot_sorted' : bootBuiltins "sorted" = some (.builtin "sorted") := by decide +kernel
theorem boot_str' : bootBuiltins "str" = some (.type "str") := by decide +kernel
theorem boot_sum' : bootBuiltins "sum" = some (.builtin "sum") := by decide +kernel
theorem boot_tuple' : bootBuiltins "tuple" = some (.type "tuple") := by decide +kernel
theorem boot_zip' : bootBuiltins "zip" = some (.type "zip") := by decide +kernel
abbrev st_is_from : Stmt := top 1
theorem sc_is_from : FnScope ["thing", "low", "high"] ["thing", "low", "high"] (defScope st_is_from) := ⟨rfl, rfl, rfl, by decide +kernel, rfl, by decide +kernel, by decide +kernel⟩
theorem D_is_from {P : Program} {w : World} {K : PySem.W.Frag} {mg : Str → Option Value} {base : Heap} {cls : Str → Value} (T : TX mg) {f : Addr} {fd : FuncData} (F : Fun K "is_from" "is_from" st_is_from f fd) (hm : mg "is_from" = some (.ref f)) (bd : Binds K fd ["thing", "low", "high"] [])  : Def P w K mg base CX0 1 "is_from" cls false true 3 fs_is_from := by
  exact mkDef (k := 0) F hm bd sc_is_from rfl rfl (fun cdv A outer s H E W hr _ hcls => by
    subst hcls
    have sc := sc_is_from
    exact (ss_one (s_ret (d_and (d_bN cr_isi cn_isi rfl T.n_isinstance boot_isinstance' (a_cons (d_var 0) (a_cons (d_ty rfl T.n_int boot_int') a_nil))) (d_and (d_not (dB (d_bN cr_isi cn_isi rfl T.n_isinstance boot_isinstance' (a_cons (d_var 0) (a_cons (d_ty rfl T.n_bool boot_bool') a_nil))))) (d_one (d_chain op_le op_le rt_le rt_le (d_var 1) (d_var 0) (d_var 2))))))))
abbrev st_is_name : Stmt := top 2
theorem sc_is_name : FnScope ["thing", "sign"] ["thing"] (defScope st_is_name) := ⟨rfl, rfl, rfl, by decide +kernel, rfl, by decide +kernel, by decide +kernel⟩
theorem D_is_name {P : Program} {w : World} {K : PySem.W.Frag} {mg : Str → Option Value} {base : Heap} {cls : Str → Value} (T : TX mg) {f : Addr} {fd : FuncData} (F : Fun K "is_name" "is_name" st_is_name f fd) (hm : mg "is_name" = some (.ref f)) (bd : Binds K fd ["thing"] [])  : Def P w K mg base CX0 1 "is_name" cls false true 1 fs_is_name := by
  exact mkDef (k := 0) F hm bd sc_is_name rfl rfl (fun cdv A outer s H E W hr _ hcls => by
    subst hcls
    have sc := sc_is_name
    exact (ss_cons (s_if (PW.pt (w_or (t_not (t_tru (dB (d_bN cr_isi cn_isi rfl T.n_isinstance boot_isinstance' (a_cons (d_var 0) (a_cons (d_ty rfl T.n_str boot_str') a_nil)))))) (w_or1 (t_not (t_chain op_le op_le rt_le rt_le d_int (d_b1 cr_len c1_len rfl T.n_len boot_len' (d_bor 0)) d_int)))))
    (ss_one (s_ret d_bl))
    ss_nil)
    (ss_one (s_ret (d_b1 (cr_all rfl) c1_all rfl T.n_all boot_all' (dB (dF (d_lc [("sign", 1)] rfl sc.nd (i_seq (d_var 0)) (blkOk_by (N := ["thing", "sign"]) (sc := defScope st_is_name) (by decide +kernel)) (by decide) (fun _ _ _ _ _ => (g_name 1 sc.nd)) (fun _ _ _ _ _ => ts_nil) (fun _ _ _ _ _ => (d_cmp (op_in' (r65 hr)) rt_in (d_var 1) (dB d_str) rfl))))))))))
abbrev st_rises : Stmt := top 3
theorem sc_rises : FnScope ["some", "one", "other"] ["some"] (defScope st_rises) := ⟨rfl, rfl, rfl, by decide +kernel, rfl, by decide +kernel, by decide +kernel⟩
theorem D_rises {P : Program} {w : World} {K : PySem.W.Frag} {mg : Str → Option Value} {base : Heap} {cls : Str → Value} (T : TX mg) {f : Addr} {fd : FuncData} (F : Fun K "rises" "rises" st_rises f fd) (hm : mg "rises" = some (.ref f)) (bd : Binds K fd ["some"] [])  : Def P w K mg base CX0 1 "rises" cls false true 1 fs_rises := by
  exact mkDef (k := 0) F hm bd sc_rises rfl rfl (fun cdv A outer s H E W hr _ hcls => by
    subst hcls
    have sc := sc_rises
    exact (ss_one (s_ret (d_b1 (cr_all rfl) c1_all rfl T.n_all boot_all' (dB (dF (d_lc [("one", 1), ("other", 2)] rfl sc.nd (i_zip rfl T.n_zip (a_cons (d_var 0) (a_cons (d_slc (d_var 0) (p_some d_int) p_none) a_nil))) (blkOk_by (N := ["some", "one", "other"]) (sc := defScope st_rises) (by decide +kernel)) (by decide) (fun _ _ _ _ _ => (g_tup rfl (gs_cons (g_name 1 sc.nd) (gs_cons (g_name 2 sc.nd) gs_nil)))) (fun _ _ _ _ _ => ts_nil) (fun _ _ _ _ _ => (d_cmp (op_lt' (r64 hr)) rt_lt (d_var 1) (d_bor 2) rfl)))))))))
abbrev st_are_rows : Stmt := top 4
theorem sc_are_rows : FnScope ["thing", "most", "many", "row"] ["thing", "most", "many"] (defScope st_are_rows) := ⟨rfl, rfl, rfl, by decide +kernel, rfl, by decide +kernel, by decide +kernel⟩
theorem D_are_rows {P : Program} {w : World} {K : PySem.W.Frag} {mg : Str → Option Value} {base : Heap} {cls : Str → Value} (T : TX mg) {f : Addr} {fd : FuncData} (F : Fun K "are_rows" "are_rows" st_are_rows f fd) (hm : mg "are_rows" = some (.ref f)) (bd : Binds K fd ["thing", "most", "many"] [])  : Def P w K mg base CX0 1 "are_rows" cls false true 3 fs_are_rows := by
  exact mkDef (k := 0) F hm bd sc_are_rows rfl rfl (fun cdv A outer s H E W hr _ hcls => by
    subst hcls
    have sc := sc_are_rows
    exact (ss_cons (s_if (PW.pt (w_or (t_not (t_tru (dB (d_bN cr_isi cn_isi rfl T.n_isinstance boot_isinstance' (a_cons (d_var 0) (a_cons (d_ty rfl T.n_tuple boot_tuple') a_nil)))))) (w_or1 (t_cmp op_gt rt_gt (d_b1 cr_len c1_len rfl T.n_len boot_len' (d_bor 0)) (d_bor 1) rfl))))
    (ss_one (s_ret d_bl))
    ss_nil)
    (ss_one (s_ret (d_b1 (cr_all rfl) c1_all rfl T.n_all boot_all' (dB (dF (d_lc [("row", 3)] rfl sc.nd (i_seq (d_var 0)) (blkOk_by (N := ["thing", "most", "many", "row"]) (sc := defScope st_are_rows) (by decide +kernel)) (by decide) (fun _ _ _ _ _ => (g_name 3 sc.nd)) (fun _ _ _ _ _ => ts_nil) (fun _ _ _ _ _ => (d_and (d_bN cr_isi cn_isi rfl T.n_isinstance boot_isinstance' (a_cons (d_var 3) (a_cons (d_ty rfl T.n_tuple boot_tuple') a_nil))) (d_one (d_cmp (op_eqD (r64 hr)) rt_eq (d_b1 cr_len c1_len rfl T.n_len boot_len' (d_bor 3)) (d_bor 2) rfl))))))))))))
abbrev st_lowest : Stmt := top 5
theorem sc_lowest : FnScope ["top", "bottom", "one", "other"] ["top", "bottom"] (defScope st_lowest) := ⟨rfl, rfl, rfl, by decide +kernel, rfl, by decide +kernel, by decide +kernel⟩
theorem D_lowest {P : Program} {w : World} {K : PySem.W.Frag} {mg : Str → Option Value} {base : Heap} {cls : Str → Value} (T : TX mg) {f : Addr} {fd : FuncData} (F : Fun K "lowest" "lowest" st_lowest f fd) (hm : mg "lowest" = some (.ref f)) (bd : Binds K fd ["top", "bottom"] [])  : Def P w K mg base CX0 1 "lowest" cls false true 2 fs_lowest := by
  exact mkDef (k := 0) F hm bd sc_lowest rfl rfl (fun cdv A outer s H E W hr _ hcls => by
    subst hcls
    have sc := sc_lowest
    exact (ss_cons (s_par2 2 3 rfl sc.nd (z_F (d_b1 call_abs c1_abs rfl T.n_abs boot_abs' (d_bor 0)) (z_F (d_var 1) z_nil)))
    (ss_cons (s_while 1000 PassesOwn.never (t_tru (d_bor 3))
    (ss_one (s_par2 2 3 rfl sc.nd (z_F (d_var 3) (z_F (d_bin op_mod rb_mod (d_var 2) (d_bor 3)) z_nil)))))
    (ss_one (s_ret (d_tup (a_cons (d_bin op_fdiv rb_div (d_var 0) (d_bor 2)) (a_cons (d_bin op_fdiv rb_div (d_var 1) (d_bor 2)) a_nil))))))))
abbrev st_added : Stmt := top 6
theorem sc_added : FnScope ["one", "other"] ["one", "other"] (defScope st_added) := ⟨rfl, rfl, rfl, by decide +kernel, rfl, by decide +kernel, by decide +kernel⟩
theorem D_added {P : Program} {w : World} {K : PySem.W.Frag} {mg : Str → Option Value} {base : Heap} {cls : Str → Value} (T : TX mg) {f : Addr} {fd : FuncData} (F : Fun K "added" "added" st_added f fd) (hm : mg "added" = some (.ref f)) (bd : Binds K fd ["one", "other"] []) (G_lowest : Def P w K mg base CX0 1 "lowest" cls false true 2 fs_lowest) : Def P w K mg base CX0 2 "added" cls false true 2 fs_added := by
  exact mkDef (k := 1) F hm bd sc_added rfl rfl (fun cdv A outer s H E W hr _ hcls => by
    subst hcls
    have sc := sc_added
    exact (ss_one (s_ret (d_call (Def.mono G_lowest (by decide)) (fun _ => rfl) hr rfl (a_cons (d_bin op_plusA rb_plusA (d_bin op_mul rb_mul (d_sub (r1 hr) (d_var 0) d_int) (dB (d_sub (r1 hr) (d_var 1) d_int))) (dB (d_bin op_mul rb_mul (d_sub (r1 hr) (d_var 1) d_int) (dB (d_sub (r1 hr) (d_var 0) d_int))))) (a_cons (d_bin op_mul rb_mul (d_sub (r1 hr) (d_var 0) d_int) (dB (d_sub (r1 hr) (d_var 1) d_int))) a_nil))))))
abbrev st_mean : Stmt := top 8
theorem sc_mean : FnScope ["rules", "take", "total", "shares", "kind", "share", "values", "day", "one", "value"] ["rules", "take"] (defScope st_mean) := ⟨rfl, rfl, rfl, by decide +kernel, rfl, by decide +kernel, by decide +kernel⟩
theorem D_mean {P : Program} {w : World} {K : PySem.W.Frag} {mg : Str → Option Value} {base : Heap} {cls : Str → Value} (T : TX mg) {f : Addr} {fd : FuncData} (F : Fun K "mean" "mean" st_mean f fd) (hm : mg "mean" = some (.ref f)) (bd : Binds K fd ["rules", "take"] []) (G_lowest : Def P w K mg base CX0 1 "lowest" cls false true 2 fs_lowest) (G_added : Def P w K mg base CX0 2 "added" cls false true 2 fs_added) : Def P w K mg base CX0 3 "mean" cls false true 2 fs_mean := by
  exact mkDef (k := 2) F hm bd sc_mean rfl rfl (fun cdv A outer s H E W hr _ hcls => by
    subst hcls
    have sc := sc_mean
    exact (ss_cons (s_if (t_cmp (op_eqD (r64 hr)) rt_eq (d_sub (r1 hr) (d_var 1) d_int) (dB (d_tup a_nil)) rfl)
    (ss_one (s_ret d_non))
    ss_nil)
    (ss_cons (s_asg (d_tup (a_cons (d_tup (a_cons d_int (a_cons d_int a_nil))) (a_cons d_int a_nil))) (g_tup rfl (gs_cons (g_name 2 sc.nd) (gs_cons (g_name 3 sc.nd) gs_nil))))
    (ss_cons (s_for PassesOwn.never rfl (i_seq (d_sub (r1 hr) (d_var 0) d_int)) (g_tup rfl (gs_cons (g_name 4 sc.nd) (gs_cons (g_name 5 sc.nd) gs_nil)))
    (ss_cons (s_setLcF 6 [("day", 7), ("one", 8), ("value", 9)] rfl sc.nd (i_seq (d_sub (r1 hr) (d_var 1) d_int)) (blkOk_by (N := ["rules", "take", "total", "shares", "kind", "share", "values", "day", "one", "value"]) (sc := defScope st_mean) (by decide +kernel)) (by decide) (fun _ _ _ _ _ => (g_tup rfl (gs_cons (g_name 7 sc.nd) (gs_cons (g_name 8 sc.nd) (gs_cons (g_name 9 sc.nd) gs_nil))))) (fun _ _ _ _ _ => (ts_one (t_cmp (op_eqD (r64 hr)) rt_eq (d_var 8) (d_bor 4) rfl))) (fun _ _ _ _ _ => (d_var 9)) (sw_true rfl rfl rfl (by decide +kernel)))
    (ss_one (s_if (t_tru (d_bor 6))
    (ss_cons (s_set 2 (d_call (Def.mono G_added (by decide)) (fun _ => rfl) hr rfl (a_cons (d_var 2) (a_cons (d_call (Def.mono G_lowest (by decide)) (fun _ => rfl) hr rfl (a_cons (d_bin op_mul rb_mul (d_var 5) (dB (d_b1 (cr_sum rfl) c1_sum rfl T.n_sum boot_sum' (d_bor 6)))) (a_cons (d_b1 cr_len c1_len rfl T.n_len boot_len' (d_bor 6)) a_nil))) a_nil))) sc.nd)
    (ss_one (s_augI 3 (d_var 5) sc.nd)))
    ss_nil))))
    (ss_one (s_ret (d_call (Def.mono G_lowest (by decide)) (fun _ => rfl) hr rfl (a_cons (d_sub (r1 hr) (d_var 2) d_int) (a_cons (d_bin op_mul rb_mul (d_sub (r1 hr) (d_var 2) d_int) (d_bor 3)) a_nil)))))))))
abbrev st_hours : Stmt := top 9
theorem sc_hours : FnScope ["take", "excused", "day", "many", "yes"] ["take", "excused"] (defScope st_hours) := ⟨rfl, rfl, rfl, by decide +kernel, rfl, by decide +kernel, by decide +kernel⟩
theorem D_hours {P : Program} {w : World} {K : PySem.W.Frag} {mg : Str → Option Value} {base : Heap} {cls : Str → Value} (T : TX mg) {f : Addr} {fd : FuncData} (F : Fun K "hours" "hours" st_hours f fd) (hm : mg "hours" = some (.ref f)) (bd : Binds K fd ["take", "excused"] [])  : Def P w K mg base CX0 1 "hours" cls false true 2 fs_hours := by
  exact mkDef (k := 0) F hm bd sc_hours rfl rfl (fun cdv A outer s H E W hr _ hcls => by
    subst hcls
    have sc := sc_hours
    exact (ss_one (s_ret (d_b1 (cr_sum rfl) c1_sum rfl T.n_sum boot_sum' (dB (dF (d_lc [("day", 2), ("many", 3), ("yes", 4)] rfl sc.nd (i_seq (d_sub (r1 hr) (d_var 0) d_int)) (blkOk_by (N := ["take", "excused", "day", "many", "yes"]) (sc := defScope st_hours) (by decide +kernel)) (by decide) (fun _ _ _ _ _ => (g_tup rfl (gs_cons (g_name 2 sc.nd) (gs_cons (g_name 3 sc.nd) (gs_cons (g_name 4 sc.nd) gs_nil))))) (fun _ _ _ _ _ => (ts_one (t_cmp (op_eqD (r64 hr)) rt_eq (d_var 4) (d_bor 1) rfl))) (fun _ _ _ _ _ => (d_var 3)))))))))
abbrev st_grade_place : Stmt := top 10
theorem sc_grade_place : FnScope ["rules", "value", "bound", "name"] ["rules", "value"] (defScope st_grade_place) := ⟨rfl, rfl, rfl, by decide +kernel, rfl, by decide +kernel, by decide +kernel⟩
theorem D_grade_place {P : Program} {w : World} {K : PySem.W.Frag} {mg : Str → Option Value} {base : Heap} {cls : Str → Value} (T : TX mg) {f : Addr} {fd : FuncData} (F : Fun K "grade_place" "grade_place" st_grade_place f fd) (hm : mg "grade_place" = some (.ref f)) (bd : Binds K fd ["rules", "value"] [])  : Def P w K mg base CX0 1 "grade_place" cls false true 2 fs_grade_place := by
  exact mkDef (k := 0) F hm bd sc_grade_place rfl rfl (fun cdv A outer s H E W hr _ hcls => by
    subst hcls
    have sc := sc_grade_place
    exact (ss_one (s_ret (d_bin op_sub rb_sub (d_b1 cr_len c1_len rfl T.n_len boot_len' (dB (dF (d_lc [("bound", 2), ("name", 3)] rfl sc.nd (i_seq (d_sub (r1 hr) (d_var 0) d_int)) (blkOk_by (N := ["rules", "value", "bound", "name"]) (sc := defScope st_grade_place) (by decide +kernel)) (by decide) (fun _ _ _ _ _ => (g_tup rfl (gs_cons (g_name 2 sc.nd) (gs_cons (g_name 3 sc.nd) gs_nil)))) (fun _ _ _ _ _ => (ts_one (t_cmp op_le rt_le (d_bin op_mul rb_mul (d_var 2) (dB (d_sub (r1 hr) (d_var 1) d_int))) (dB (d_sub (r1 hr) (d_var 1) d_int)) rfl))) (fun _ _ _ _ _ => d_int))))) (dB d_int)))))
abbrev st_result : Stmt := top 11
theorem sc_result : FnScope ["rules", "take", "value"] ["rules", "take"] (defScope st_result) := ⟨rfl, rfl, rfl, by decide +kernel, rfl, by decide +kernel, by decide +kernel⟩
theorem D_result {P : Program} {w : World} {K : PySem.W.Frag} {mg : Str → Option Value} {base : Heap} {cls : Str → Value} (T : TX mg) {f : Addr} {fd : FuncData} (F : Fun K "result" "result" st_result f fd) (hm : mg "result" = some (.ref f)) (bd : Binds K fd ["rules", "take"] []) (G_mean : Def P w K mg base CX0 3 "mean" cls false true 2 fs_mean) (G_hours : Def P w K mg base CX0 1 "hours" cls false true 2 fs_hours) (G_grade_place : Def P w K mg base CX0 1 "grade_place" cls false true 2 fs_grade_place) : Def P w K mg base CX0 4 "result" cls false true 2 fs_result := by
  exact mkDef (k := 3) F hm bd sc_result rfl rfl (fun cdv A outer s H E W hr _ hcls => by
    subst hcls
    have sc := sc_result
    exact (ss_cons (s_if (t_cmp op_gt rt_gt (d_call (Def.mono G_hours (by decide)) (fun _ => rfl) hr rfl (a_cons (d_var 1) (a_cons d_bl a_nil))) (dB (d_sub (r1 hr) (d_var 0) d_int)) rfl)
    (ss_one (s_ret d_str))
    ss_nil)
    (ss_cons (s_set 2 (d_call (Def.mono G_mean (by decide)) (fun _ => rfl) hr rfl (a_cons (d_var 0) (a_cons (d_var 1) a_nil))) sc.nd)
    (ss_one (s_ret (d_if (t_cmp op_is rt_is (d_var 2) (dB d_non) rfl) d_str (d_sub (r1 hr) (d_sub (r1 hr) (d_sub (r1 hr) (d_var 0) d_int) (d_call (Def.mono G_grade_place (by decide)) (fun _ => rfl) hr rfl (a_cons (d_var 0) (a_cons (d_var 2) a_nil)))) d_int)))))))
abbrev st_has_grade : Stmt := top 12
theorem sc_has_grade : FnScope ["rules", "take"] ["rules", "take"] (defScope st_has_grade) := ⟨rfl, rfl, rfl, by decide +kernel, rfl, by decide +kernel, by decide +kernel⟩
theorem D_has_grade {P : Program} {w : World} {K : PySem.W.Frag} {mg : Str → Option Value} {base : Heap} {cls : Str → Value} (T : TX mg) {f : Addr} {fd : FuncData} (F : Fun K "has_grade" "has_grade" st_has_grade f fd) (hm : mg "has_grade" = some (.ref f)) (bd : Binds K fd ["rules", "take"] []) (G_hours : Def P w K mg base CX0 1 "hours" cls false true 2 fs_hours) : Def P w K mg base CX0 2 "has_grade" cls false true 2 fs_has_grade := by
  exact mkDef (k := 1) F hm bd sc_has_grade rfl rfl (fun cdv A outer s H E W hr _ hcls => by
    subst hcls
    have sc := sc_has_grade
    exact (ss_one (s_ret (d_and (d_cmp op_le rt_le (d_call (Def.mono G_hours (by decide)) (fun _ => rfl) hr rfl (a_cons (d_var 1) (a_cons d_bl a_nil))) (dB (d_sub (r1 hr) (d_var 0) d_int)) rfl) (d_one (d_cmp (op_neD (r64 hr)) rt_ne (d_sub (r1 hr) (d_var 1) d_int) (dB (d_tup a_nil)) rfl))))))
abbrev st_is_good : Stmt := top 13
theorem sc_is_good : FnScope ["rules", "take"] ["rules", "take"] (defScope st_is_good) := ⟨rfl, rfl, rfl, by decide +kernel, rfl, by decide +kernel, by decide +kernel⟩
theorem D_is_good {P : Program} {w : World} {K : PySem.W.Frag} {mg : Str → Option Value} {base : Heap} {cls : Str → Value} (T : TX mg) {f : Addr} {fd : FuncData} (F : Fun K "is_good" "is_good" st_is_good f fd) (hm : mg "is_good" = some (.ref f)) (bd : Binds K fd ["rules", "take"] []) (G_has_grade : Def P w K mg base CX0 2 "has_grade" cls false true 2 fs_has_grade) (G_grade_place : Def P w K mg base CX0 1 "grade_place" cls false true 2 fs_grade_place) (G_mean : Def P w K mg base CX0 3 "mean" cls false true 2 fs_mean) : Def P w K mg base CX0 4 "is_good" cls false true 2 fs_is_good := by
  exact mkDef (k := 3) F hm bd sc_is_good rfl rfl (fun cdv A outer s H E W hr _ hcls => by
    subst hcls
    have sc := sc_is_good
    exact (ss_one (s_ret (d_and (d_call (Def.mono G_has_grade (by decide)) (fun _ => rfl) hr rfl (a_cons (d_var 0) (a_cons (d_var 1) a_nil))) (d_one (d_cmp op_ge rt_ge (d_call (Def.mono G_grade_place (by decide)) (fun _ => rfl) hr rfl (a_cons (d_var 0) (a_cons (d_call (Def.mono G_mean (by decide)) (fun _ => rfl) hr rfl (a_cons (d_var 0) (a_cons (d_var 1) a_nil))) a_nil))) (dB (d_sub (r1 hr) (d_var 0) d_int)) rfl))))))
abbrev st_standing : Stmt := top 14
theorem sc_standing : FnScope ["entry", "rules", "missed", "take"] ["entry"] (defScope st_standing) := ⟨rfl, rfl, rfl, by decide +kernel, rfl, by decide +kernel, by decide +kernel⟩
theorem D_standing {P : Program} {w : World} {K : PySem.W.Frag} {mg : Str → Option Value} {base : Heap} {cls : Str → Value} (T : TX mg) {f : Addr} {fd : FuncData} (F : Fun K "standing" "standing" st_standing f fd) (hm : mg "standing" = some (.ref f)) (bd : Binds K fd ["entry"] []) (G_hours : Def P w K mg base CX0 1 "hours" cls false true 2 fs_hours) (G_is_good : Def P w K mg base CX0 4 "is_good" cls false true 2 fs_is_good) : Def P w K mg base CX0 5 "standing" cls false true 1 fs_standing := by
  exact mkDef (k := 4) F hm bd sc_standing rfl rfl (fun cdv A outer s H E W hr _ hcls => by
    subst hcls
    have sc := sc_standing
    exact (ss_cons (s_set 1 (d_sub (r1 hr) (d_var 0) d_int) sc.nd)
    (ss_cons (s_if (t_tru (dB (d_b1 (cr_any rfl) c1_any rfl T.n_any boot_any' (dB (dF (d_lc [("take", 3)] rfl sc.nd (i_seq (d_sub (r1 hr) (d_var 0) d_int)) (blkOk_by (N := ["entry", "rules", "missed", "take"]) (sc := defScope st_standing) (by decide +kernel)) (by decide) (fun _ _ _ _ _ => (g_name 3 sc.nd)) (fun _ _ _ _ _ => ts_nil) (fun _ _ _ _ _ => (d_and (d_cmp op_le rt_le (d_call (Def.mono G_hours (by decide)) (fun _ => rfl) hr rfl (a_cons (d_var 3) (a_cons d_bl a_nil))) (dB (d_sub (r1 hr) (d_var 1) d_int)) rfl) (d_one (d_cmp (op_eqD (r64 hr)) rt_eq (d_sub (r1 hr) (d_var 3) d_int) (dB (d_tup a_nil)) rfl))))))))))
    (ss_one (s_ret d_str))
    ss_nil)
    (ss_cons (s_set 2 (d_b1 (cr_sum rfl) c1_sum rfl T.n_sum boot_sum' (dB (dF (d_lc [("take", 3)] rfl sc.nd (i_seq (d_sub (r1 hr) (d_var 0) d_int)) (blkOk_by (N := ["entry", "rules", "missed", "take"]) (sc := defScope st_standing) (by decide +kernel)) (by decide) (fun _ _ _ _ _ => (g_name 3 sc.nd)) (fun _ _ _ _ _ => (ts_one (t_not (t_tru (dB (d_call (Def.mono G_is_good (by decide)) (fun _ => rfl) hr rfl (a_cons (d_var 1) (a_cons (d_var 3) a_nil)))))))) (fun _ _ _ _ _ => (d_sub (r1 hr) (d_var 3) d_int)))))) sc.nd)
    (ss_one (s_ret (d_if (t_cmp op_le rt_le (d_var 2) (dB (d_sub (r1 hr) (d_var 1) d_int)) rfl) d_str d_str)))))))
abbrev st_passed : Stmt := top 15
theorem sc_passed : FnScope ["record", "year", "found", "entry", "take"] ["record", "year"] (defScope st_passed) := ⟨rfl, rfl, rfl, by decide +kernel, rfl, by decide +kernel, by decide +kernel⟩
theorem D_passed {P : Program} {w : World} {K : PySem.W.Frag} {mg : Str → Option Value} {base : Heap} {cls : Str → Value} (T : TX mg) {f : Addr} {fd : FuncData} (F : Fun K "passed" "passed" st_passed f fd) (hm : mg "passed" = some (.ref f)) (bd : Binds K fd ["record", "year"] []) (G_is_good : Def P w K mg base CX0 4 "is_good" cls false true 2 fs_is_good) : Def P w K mg base CX0 5 "passed" cls false true 2 fs_passed := by
  exact mkDef (k := 4) F hm bd sc_passed rfl rfl (fun cdv A outer s H E W hr _ hcls => by
    subst hcls
    have sc := sc_passed
    exact (ss_cons (s_setDc2F (vs1 := [4]) 2 [("entry", 3), ("take", 4)] rfl sc.nd (i_seq (d_var 0)) (blkOk_by (N := ["record", "year", "found", "entry", "take"]) (sc := defScope st_passed) (by decide +kernel)) (by decide) (by decide) (by decide) (fun _ _ _ _ _ => (g_name 3 sc.nd)) (fun _ _ _ _ _ => (ts_one (t_cmp (op_lt' (r64 hr)) rt_lt (d_sub (r1 hr) (d_var 3) d_int) (d_bor 1) rfl))) (fun _ _ _ _ _ => (i_seq (d_sub (r1 hr) (d_var 3) d_int))) (fun _ _ _ _ _ => (g_name 4 sc.nd)) (fun _ _ _ _ _ => (ts_one (t_tru (dB (d_call (Def.mono G_is_good (by decide)) (fun _ => rfl) hr rfl (a_cons (d_sub (r1 hr) (d_var 3) d_int) (a_cons (d_var 4) a_nil))))))) (fun _ _ _ _ _ => (d_sub (r1 hr) (d_var 4) d_int)) (fun _ _ _ _ _ => d_bl) (swD_true rfl rfl rfl (by decide +kernel)))
    (ss_one (s_retO (d_b1O (cr_sorted rfl (r69 hr)) c1_sorted rfl T.n_sorted boot_sorted' (dB (dF (d_t1O (cr_list rfl) c1_list rfl T.n_list boot_list' (d_bor 2)))))))))
abbrev st_report : Stmt := top 16
theorem sc_report : FnScope ["entry", "rules", "rows", "take", "whole", "total", "weights", "value", "row"] ["entry"] (defScope st_report) := ⟨rfl, rfl, rfl, by decide +kernel, rfl, by decide +kernel, by decide +kernel⟩
theorem D_report {P : Program} {w : World} {K : PySem.W.Frag} {mg : Str → Option Value} {base : Heap} {cls : Str → Value} (T : TX mg) {f : Addr} {fd : FuncData} (F : Fun K "report" "report" st_report f fd) (hm : mg "report" = some (.ref f)) (bd : Binds K fd ["entry"] []) (G_mean : Def P w K mg base CX0 3 "mean" cls false true 2 fs_mean) (G_has_grade : Def P w K mg base CX0 2 "has_grade" cls false true 2 fs_has_grade) (G_lowest : Def P w K mg base CX0 1 "lowest" cls false true 2 fs_lowest) (G_standing : Def P w K mg base CX0 5 "standing" cls false true 1 fs_standing) (G_result : Def P w K mg base CX0 4 "result" cls false true 2 fs_result) (G_is_good : Def P w K mg base CX0 4 "is_good" cls false true 2 fs_is_good) (G_hours : Def P w K mg base CX0 1 "hours" cls false true 2 fs_hours) (G_added : Def P w K mg base CX0 2 "added" cls false true 2 fs_added) : Def P w K mg base CX0 6 "report" cls false true 1 fs_report := by
  exact mkDef (k := 5) F hm bd sc_report rfl rfl (fun cdv A outer s H E W hr _ hcls => by
    subst hcls
    have sc := sc_report
    exact (ss_cons (s_set 1 (d_sub (r1 hr) (d_var 0) d_int) sc.nd)
    (ss_cons (s_setO 2 (d_lst a_nil) sc.nd)
    (ss_cons (s_asg (d_tup (a_cons (d_tup (a_cons d_int (a_cons d_int a_nil))) (a_cons d_int a_nil))) (g_tup rfl (gs_cons (g_name 5 sc.nd) (gs_cons (g_name 6 sc.nd) gs_nil))))
    (ss_cons (s_for PassesOwn.never rfl (i_seq (d_sub (r1 hr) (d_var 0) d_int)) (g_name 3 sc.nd)
    (ss_cons (s_set 7 (d_call (Def.mono G_mean (by decide)) (fun _ => rfl) hr rfl (a_cons (d_var 1) (a_cons (d_var 3) a_nil))) sc.nd)
    (ss_cons (s_set 8 (d_tup (a_cons (d_sub (r1 hr) (d_var 3) d_int) (a_cons (d_call (Def.mono G_result (by decide)) (fun _ => rfl) hr rfl (a_cons (d_var 1) (a_cons (d_var 3) a_nil))) (a_cons (d_var 7) (a_cons (d_call (Def.mono G_is_good (by decide)) (fun _ => rfl) hr rfl (a_cons (d_var 1) (a_cons (d_var 3) a_nil))) (a_cons (d_call (Def.mono G_hours (by decide)) (fun _ => rfl) hr rfl (a_cons (d_var 3) (a_cons d_bl a_nil))) (a_cons (d_call (Def.mono G_hours (by decide)) (fun _ => rfl) hr rfl (a_cons (d_var 3) (a_cons d_bl a_nil))) a_nil))))))) sc.nd)
    (ss_cons (s_expr (d_meth 2 PySem.slot_list_append PySem.type_list_append mt_append mo_append (a_cons (d_var 8) a_nil)))
    (ss_one (s_if (t_tru (dB (d_call (Def.mono G_has_grade (by decide)) (fun _ => rfl) hr rfl (a_cons (d_var 1) (a_cons (d_var 3) a_nil)))))
    (ss_cons (s_set 5 (d_call (Def.mono G_added (by decide)) (fun _ => rfl) hr rfl (a_cons (d_var 5) (a_cons (d_call (Def.mono G_lowest (by decide)) (fun _ => rfl) hr rfl (a_cons (d_bin op_mul rb_mul (d_sub (r1 hr) (d_var 3) d_int) (dB (d_sub (r1 hr) (d_var 7) d_int))) (a_cons (d_sub (r1 hr) (d_var 7) d_int) a_nil))) a_nil))) sc.nd)
    (ss_one (s_augI 6 (d_sub (r1 hr) (d_var 3) d_int) sc.nd)))
    ss_nil))))))
    (ss_cons (s_set 4 (d_if (t_cmp op_gt rt_gt (d_var 6) (dB d_int) rfl) (d_call (Def.mono G_lowest (by decide)) (fun _ => rfl) hr rfl (a_cons (d_sub (r1 hr) (d_var 5) d_int) (a_cons (d_bin op_mul rb_mul (d_sub (r1 hr) (d_var 5) d_int) (d_bor 6)) a_nil))) d_non) sc.nd)
    (ss_one (s_ret (d_tup (a_cons (d_t1 call_tuple_of c1_tuple rfl T.n_tuple boot_tuple' (d_bor 2)) (a_cons (d_var 4) (a_cons (d_b1 (cr_sum rfl) c1_sum rfl T.n_sum boot_sum' (dB (dF (d_lc [("row", 8)] rfl sc.nd (i_seq (d_frz 2)) (blkOk_by (N := ["entry", "rules", "rows", "take", "whole", "total", "weights", "value", "row"]) (sc := defScope st_report) (by decide +kernel)) (by decide) (fun _ _ _ _ _ => (g_name 8 sc.nd)) (fun _ _ _ _ _ => ts_nil) (fun _ _ _ _ _ => (d_sub (r1 hr) (d_var 8) d_int)))))) (a_cons (d_call (Def.mono G_standing (by decide)) (fun _ => rfl) hr rfl (a_cons (d_var 0) a_nil)) a_nil)))))))))))))
abbrev st_are_kinds : Stmt := top 24
theorem sc_are_kinds : FnScope ["thing", "row", "name", "share"] ["thing"] (defScope st_are_kinds) := ⟨rfl, rfl, rfl, by decide +kernel, rfl, by decide +kernel, by decide +kernel⟩
theorem D_are_kinds {P : Program} {w : World} {K : PySem.W.Frag} {mg : Str → Option Value} {base : Heap} {cls : Str → Value} (T : TX mg) {f : Addr} {fd : FuncData} (F : Fun K "are_kinds" "are_kinds" st_are_kinds f fd) (hm : mg "are_kinds" = some (.ref f)) (bd : Binds K fd ["thing"] []) (G_rises : Def P w K mg base CX0 1 "rises" cls false true 1 fs_rises) (G_are_rows : Def P w K mg base CX0 1 "are_rows" cls false true 3 fs_are_rows) (G_is_name : Def P w K mg base CX0 1 "is_name" cls false true 1 fs_is_name) (G_is_from : Def P w K mg base CX0 1 "is_from" cls false true 3 fs_is_from) : Def P w K mg base CX0 2 "are_kinds" cls false true 1 fs_are_kinds := by
  exact mkDef (k := 1) F hm bd sc_are_kinds rfl rfl (fun cdv A outer s H E W hr _ hcls => by
    subst hcls
    have sc := sc_are_kinds
    exact (ss_cons (s_if (PW.pt (w_or (t_not (t_tru (dB (d_call (Def.mono G_are_rows (by decide)) (fun _ => rfl) hr rfl (a_cons (d_var 0) (a_cons (d_glob (v := .int 4) rfl T.c_MOST_KINDS.choose_spec (⟨_, rfl⟩) (fun _ => .int 4)) (a_cons d_int a_nil))))))) (w_or1 (t_cmp (op_eqD (r64 hr)) rt_eq (d_var 0) (dB (d_tup a_nil)) rfl))))
    (ss_one (s_ret d_bl))
    ss_nil)
    (ss_cons (s_if (t_not (t_tru (dB (d_b1 (cr_all rfl) c1_all rfl T.n_all boot_all' (dB (dF (d_lc [("name", 2), ("share", 3)] rfl sc.nd (i_seq (d_var 0)) (blkOk_by (N := ["thing", "row", "name", "share"]) (sc := defScope st_are_kinds) (by decide +kernel)) (by decide) (fun _ _ _ _ _ => (g_tup rfl (gs_cons (g_name 2 sc.nd) (gs_cons (g_name 3 sc.nd) gs_nil)))) (fun _ _ _ _ _ => ts_nil) (fun _ _ _ _ _ => (d_and (d_call (Def.mono G_is_name (by decide)) (fun _ => rfl) hr rfl (a_cons (d_var 2) a_nil)) (d_one (d_call (Def.mono G_is_from (by decide)) (fun _ => rfl) hr rfl (a_cons (d_var 3) (a_cons d_int (a_cons d_int a_nil))))))))))))))
    (ss_one (s_ret d_bl))
    ss_nil)
    (ss_one (s_ret (d_call (Def.mono G_rises (by decide)) (fun _ => rfl) hr rfl (a_cons (dF (d_lc [("row", 1)] rfl sc.nd (i_seq (d_var 0)) (blkOk_by (N := ["thing", "row", "name", "share"]) (sc := defScope st_are_kinds) (by decide +kernel)) (by decide) (fun _ _ _ _ _ => (g_name 1 sc.nd)) (fun _ _ _ _ _ => ts_nil) (fun _ _ _ _ _ => (d_sub (r1 hr) (d_var 1) d_int)))) a_nil)))))))
abbrev st_are_grades : Stmt := top 25
theorem sc_are_grades : FnScope ["thing", "bound", "name", "row"] ["thing"] (defScope st_are_grades) := ⟨rfl, rfl, rfl, by decide +kernel, rfl, by decide +kernel, by decide +kernel⟩
theorem D_are_grades {P : Program} {w : World} {K : PySem.W.Frag} {mg : Str → Option Value} {base : Heap} {cls : Str → Value} (T : TX mg) {f : Addr} {fd : FuncData} (F : Fun K "are_grades" "are_grades" st_are_grades f fd) (hm : mg "are_grades" = some (.ref f)) (bd : Binds K fd ["thing"] []) (G_rises : Def P w K mg base CX0 1 "rises" cls false true 1 fs_rises) (G_are_rows : Def P w K mg base CX0 1 "are_rows" cls false true 3 fs_are_rows) (G_is_from : Def P w K mg base CX0 1 "is_from" cls false true 3 fs_is_from) (G_is_name : Def P w K mg base CX0 1 "is_name" cls false true 1 fs_is_name) : Def P w K mg base CX0 2 "are_grades" cls false true 1 fs_are_grades := by
  exact mkDef (k := 1) F hm bd sc_are_grades rfl rfl (fun cdv A outer s H E W hr _ hcls => by
    subst hcls
    have sc := sc_are_grades
    exact (ss_cons (s_if (PW.pt (w_or (t_not (t_tru (dB (d_call (Def.mono G_are_rows (by decide)) (fun _ => rfl) hr rfl (a_cons (d_var 0) (a_cons (d_glob (v := .int 6) rfl T.c_MOST_GRADES.choose_spec (⟨_, rfl⟩) (fun _ => .int 6)) (a_cons d_int a_nil))))))) (w_or1 (t_cmp (op_eqD (r64 hr)) rt_eq (d_var 0) (dB (d_tup a_nil)) rfl))))
    (ss_one (s_ret d_bl))
    ss_nil)
    (ss_cons (s_if (t_not (t_tru (dB (d_b1 (cr_all rfl) c1_all rfl T.n_all boot_all' (dB (dF (d_lc [("bound", 1), ("name", 2)] rfl sc.nd (i_seq (d_var 0)) (blkOk_by (N := ["thing", "bound", "name", "row"]) (sc := defScope st_are_grades) (by decide +kernel)) (by decide) (fun _ _ _ _ _ => (g_tup rfl (gs_cons (g_name 1 sc.nd) (gs_cons (g_name 2 sc.nd) gs_nil)))) (fun _ _ _ _ _ => ts_nil) (fun _ _ _ _ _ => (d_and (d_call (Def.mono G_is_from (by decide)) (fun _ => rfl) hr rfl (a_cons (d_var 1) (a_cons d_int (a_cons d_int a_nil)))) (d_one (d_call (Def.mono G_is_name (by decide)) (fun _ => rfl) hr rfl (a_cons (d_var 2) a_nil))))))))))))
    (ss_one (s_ret d_bl))
    ss_nil)
    (ss_one (s_ret (d_and (d_cmp (op_eqD (r64 hr)) rt_eq (d_sub (r1 hr) (d_sub (r1 hr) (d_var 0) d_int) d_int) (dB d_int) rfl) (d_and (d_call (Def.mono G_rises (by decide)) (fun _ => rfl) hr rfl (a_cons (dF (d_lc [("row", 3)] rfl sc.nd (i_seq (d_var 0)) (blkOk_by (N := ["thing", "bound", "name", "row"]) (sc := defScope st_are_grades) (by decide +kernel)) (by decide) (fun _ _ _ _ _ => (g_name 3 sc.nd)) (fun _ _ _ _ _ => ts_nil) (fun _ _ _ _ _ => (d_sub (r1 hr) (d_var 3) d_int)))) a_nil)) (d_one (d_call (Def.mono G_rises (by decide)) (fun _ => rfl) hr rfl (a_cons (dF (d_b1O (cr_sorted rfl (r69 hr)) c1_sorted rfl T.n_sorted boot_sorted' (dB (dF (d_lc [("row", 3)] rfl sc.nd (i_seq (d_var 0)) (blkOk_by (N := ["thing", "bound", "name", "row"]) (sc := defScope st_are_grades) (by decide +kernel)) (by decide) (fun _ _ _ _ _ => (g_name 3 sc.nd)) (fun _ _ _ _ _ => ts_nil) (fun _ _ _ _ _ => (d_sub (r1 hr) (d_var 3) d_int))))))) a_nil))))))))))
abbrev st_are_rules : Stmt := top 26
theorem sc_are_rules : FnScope ["thing"] ["thing"] (defScope st_are_rules) := ⟨rfl, rfl, rfl, by decide +kernel, rfl, by decide +kernel, by decide +kernel⟩
theorem D_are_rules {P : Program} {w : World} {K : PySem.W.Frag} {mg : Str → Option Value} {base : Heap} {cls : Str → Value} (T : TX mg) {f : Addr} {fd : FuncData} (F : Fun K "are_rules" "are_rules" st_are_rules f fd) (hm : mg "are_rules" = some (.ref f)) (bd : Binds K fd ["thing"] []) (G_is_from : Def P w K mg base CX0 1 "is_from" cls false true 3 fs_is_from) (G_are_kinds : Def P w K mg base CX0 2 "are_kinds" cls false true 1 fs_are_kinds) (G_are_grades : Def P w K mg base CX0 2 "are_grades" cls false true 1 fs_are_grades) : Def P w K mg base CX0 3 "are_rules" cls false true 1 fs_are_rules := by
  exact mkDef (k := 2) F hm bd sc_are_rules rfl rfl (fun cdv A outer s H E W hr _ hcls => by
    subst hcls
    have sc := sc_are_rules
    exact (ss_cons (s_if (PW.pt (w_or (t_not (t_tru (dB (d_bN cr_isi cn_isi rfl T.n_isinstance boot_isinstance' (a_cons (d_var 0) (a_cons (d_ty rfl T.n_tuple boot_tuple') a_nil)))))) (w_or (t_cmp (op_neD (r64 hr)) rt_ne (d_b1 cr_len c1_len rfl T.n_len boot_len' (d_bor 0)) (dB d_int) rfl) (w_or (t_not (t_tru (dB (d_call (Def.mono G_are_kinds (by decide)) (fun _ => rfl) hr rfl (a_cons (d_sub (r1 hr) (d_var 0) d_int) a_nil))))) (w_or1 (t_not (t_tru (dB (d_call (Def.mono G_are_grades (by decide)) (fun _ => rfl) hr rfl (a_cons (d_sub (r1 hr) (d_var 0) d_int) a_nil))))))))))
    (ss_one (s_ret d_bl))
    ss_nil)
    (ss_one (s_ret (d_and (d_call (Def.mono G_is_from (by decide)) (fun _ => rfl) hr rfl (a_cons (d_sub (r1 hr) (d_var 0) d_int) (a_cons d_int (a_cons (d_bin op_sub rb_sub (d_b1 cr_len c1_len rfl T.n_len boot_len' (dB (d_sub (r1 hr) (d_var 0) d_int))) (dB d_int)) a_nil)))) (d_and (d_call (Def.mono G_is_from (by decide)) (fun _ => rfl) hr rfl (a_cons (d_sub (r1 hr) (d_var 0) d_int) (a_cons d_int (a_cons d_int a_nil)))) (d_one (d_call (Def.mono G_is_from (by decide)) (fun _ => rfl) hr rfl (a_cons (d_sub (r1 hr) (d_var 0) d_int) (a_cons d_int (a_cons d_int a_nil)))))))))))
abbrev st_is_day : Stmt := top 27
theorem sc_is_day : FnScope ["thing"] ["thing"] (defScope st_is_day) := ⟨rfl, rfl, rfl, by decide +kernel, rfl, by decide +kernel, by decide +kernel⟩
theorem D_is_day {P : Program} {w : World} {K : PySem.W.Frag} {mg : Str → Option Value} {base : Heap} {cls : Str → Value} (T : TX mg) {f : Addr} {fd : FuncData} (F : Fun K "is_day" "is_day" st_is_day f fd) (hm : mg "is_day" = some (.ref f)) (bd : Binds K fd ["thing"] []) (G_is_from : Def P w K mg base CX0 1 "is_from" cls false true 3 fs_is_from) : Def P w K mg base CX0 2 "is_day" cls false true 1 fs_is_day := by
  exact mkDef (k := 1) F hm bd sc_is_day rfl rfl (fun cdv A outer s H E W hr _ hcls => by
    subst hcls
    have sc := sc_is_day
    exact (ss_one (s_ret (d_call (Def.mono G_is_from (by decide)) (fun _ => rfl) hr rfl (a_cons (d_var 0) (a_cons d_int (a_cons (d_glob (v := .int 400) rfl T.c_LAST_DAY.choose_spec (⟨_, rfl⟩) (fun _ => .int 400)) a_nil)))))))
abbrev st_are_marks : Stmt := top 28
theorem sc_are_marks : FnScope ["rules", "thing", "kinds", "day", "kind", "value", "row"] ["rules", "thing"] (defScope st_are_marks) := ⟨rfl, rfl, rfl, by decide +kernel, rfl, by decide +kernel, by decide +kernel⟩
theorem D_are_marks {P : Program} {w : World} {K : PySem.W.Frag} {mg : Str → Option Value} {base : Heap} {cls : Str → Value} (T : TX mg) {f : Addr} {fd : FuncData} (F : Fun K "are_marks" "are_marks" st_are_marks f fd) (hm : mg "are_marks" = some (.ref f)) (bd : Binds K fd ["rules", "thing"] []) (G_rises : Def P w K mg base CX0 1 "rises" cls false true 1 fs_rises) (G_are_rows : Def P w K mg base CX0 1 "are_rows" cls false true 3 fs_are_rows) (G_is_day : Def P w K mg base CX0 2 "is_day" cls false true 1 fs_is_day) (G_is_from : Def P w K mg base CX0 1 "is_from" cls false true 3 fs_is_from) : Def P w K mg base CX0 3 "are_marks" cls false true 2 fs_are_marks := by
  exact mkDef (k := 2) F hm bd sc_are_marks rfl rfl (fun cdv A outer s H E W hr _ hcls => by
    subst hcls
    have sc := sc_are_marks
    exact (ss_cons (s_setLcF 2 [("row", 6)] rfl sc.nd (i_seq (d_sub (r1 hr) (d_var 0) d_int)) (blkOk_by (N := ["rules", "thing", "kinds", "day", "kind", "value", "row"]) (sc := defScope st_are_marks) (by decide +kernel)) (by decide) (fun _ _ _ _ _ => (g_name 6 sc.nd)) (fun _ _ _ _ _ => ts_nil) (fun _ _ _ _ _ => (d_sub (r1 hr) (d_var 6) d_int)) (sw_true rfl rfl rfl (by decide +kernel)))
    (ss_cons (s_if (t_not (t_tru (dB (d_call (Def.mono G_are_rows (by decide)) (fun _ => rfl) hr rfl (a_cons (d_var 1) (a_cons (d_glob (v := .int 12) rfl T.c_MOST_MARKS.choose_spec (⟨_, rfl⟩) (fun _ => .int 12)) (a_cons d_int a_nil)))))))
    (ss_one (s_ret d_bl))
    ss_nil)
    (ss_cons (s_for PassesOwn.never rfl (i_seq (d_var 1)) (g_tup rfl (gs_cons (g_name 3 sc.nd) (gs_cons (g_name 4 sc.nd) (gs_cons (g_name 5 sc.nd) gs_nil))))
    (ss_one (s_if (PW.pt (w_or (t_not (t_tru (dB (d_call (Def.mono G_is_day (by decide)) (fun _ => rfl) hr rfl (a_cons (d_var 3) a_nil))))) (w_or (t_not (t_tru (dB (d_bN cr_isi cn_isi rfl T.n_isinstance boot_isinstance' (a_cons (d_var 4) (a_cons (d_ty rfl T.n_str boot_str') a_nil)))))) (w_or (t_cmp (op_notin' (r65 hr)) rt_notin (d_var 4) (d_bor 2) rfl) (w_or1 (t_not (t_tru (dB (d_call (Def.mono G_is_from (by decide)) (fun _ => rfl) hr rfl (a_cons (d_var 5) (a_cons d_int (a_cons d_int a_nil))))))))))))
    (ss_one (s_ret d_bl))
    ss_nil)))
    (ss_one (s_ret (d_call (Def.mono G_rises (by decide)) (fun _ => rfl) hr rfl (a_cons (dF (d_lc [("row", 6)] rfl sc.nd (i_seq (d_var 1)) (blkOk_by (N := ["rules", "thing", "kinds", "day", "kind", "value", "row"]) (sc := defScope st_are_marks) (by decide +kernel)) (by decide) (fun _ _ _ _ _ => (g_name 6 sc.nd)) (fun _ _ _ _ _ => ts_nil) (fun _ _ _ _ _ => (d_slc (d_var 6) p_none (p_some d_int))))) a_nil))))))))
abbrev st_are_gaps : Stmt := top 29
theorem sc_are_gaps : FnScope ["thing", "row"] ["thing"] (defScope st_are_gaps) := ⟨rfl, rfl, rfl, by decide +kernel, rfl, by decide +kernel, by decide +kernel⟩
theorem D_are_gaps {P : Program} {w : World} {K : PySem.W.Frag} {mg : Str → Option Value} {base : Heap} {cls : Str → Value} (T : TX mg) {f : Addr} {fd : FuncData} (F : Fun K "are_gaps" "are_gaps" st_are_gaps f fd) (hm : mg "are_gaps" = some (.ref f)) (bd : Binds K fd ["thing"] []) (G_rises : Def P w K mg base CX0 1 "rises" cls false true 1 fs_rises) (G_are_rows : Def P w K mg base CX0 1 "are_rows" cls false true 3 fs_are_rows) (G_is_day : Def P w K mg base CX0 2 "is_day" cls false true 1 fs_is_day) (G_is_from : Def P w K mg base CX0 1 "is_from" cls false true 3 fs_is_from) : Def P w K mg base CX0 3 "are_gaps" cls false true 1 fs_are_gaps := by
  exact mkDef (k := 2) F hm bd sc_are_gaps rfl rfl (fun cdv A outer s H E W hr _ hcls => by
    subst hcls
    have sc := sc_are_gaps
    exact (ss_cons (s_if (t_not (t_tru (dB (d_call (Def.mono G_are_rows (by decide)) (fun _ => rfl) hr rfl (a_cons (d_var 0) (a_cons (d_glob (v := .int 12) rfl T.c_MOST_MARKS.choose_spec (⟨_, rfl⟩) (fun _ => .int 12)) (a_cons d_int a_nil)))))))
    (ss_one (s_ret d_bl))
    ss_nil)
    (ss_cons (s_if (t_not (t_tru (dB (d_b1 (cr_all rfl) c1_all rfl T.n_all boot_all' (dB (dF (d_lc [("row", 1)] rfl sc.nd (i_seq (d_var 0)) (blkOk_by (N := ["thing", "row"]) (sc := defScope st_are_gaps) (by decide +kernel)) (by decide) (fun _ _ _ _ _ => (g_name 1 sc.nd)) (fun _ _ _ _ _ => ts_nil) (fun _ _ _ _ _ => (d_and (d_call (Def.mono G_is_day (by decide)) (fun _ => rfl) hr rfl (a_cons (d_sub (r1 hr) (d_var 1) d_int) a_nil)) (d_and (d_call (Def.mono G_is_from (by decide)) (fun _ => rfl) hr rfl (a_cons (d_sub (r1 hr) (d_var 1) d_int) (a_cons d_int (a_cons d_int a_nil)))) (d_one (d_bN cr_isi cn_isi rfl T.n_isinstance boot_isinstance' (a_cons (d_sub (r1 hr) (d_var 1) d_int) (a_cons (d_ty rfl T.n_bool boot_bool') a_nil))))))))))))))
    (ss_one (s_ret d_bl))
    ss_nil)
    (ss_one (s_ret (d_call (Def.mono G_rises (by decide)) (fun _ => rfl) hr rfl (a_cons (dF (d_lc [("row", 1)] rfl sc.nd (i_seq (d_var 0)) (blkOk_by (N := ["thing", "row"]) (sc := defScope st_are_gaps) (by decide +kernel)) (by decide) (fun _ _ _ _ _ => (g_name 1 sc.nd)) (fun _ _ _ _ _ => ts_nil) (fun _ _ _ _ _ => (d_sub (r1 hr) (d_var 1) d_int)))) a_nil)))))))
abbrev st_is_take : Stmt := top 30
theorem sc_is_take : FnScope ["rules", "thing"] ["rules", "thing"] (defScope st_is_take) := ⟨rfl, rfl, rfl, by decide +kernel, rfl, by decide +kernel, by decide +kernel⟩
theorem D_is_take {P : Program} {w : World} {K : PySem.W.Frag} {mg : Str → Option Value} {base : Heap} {cls : Str → Value} (T : TX mg) {f : Addr} {fd : FuncData} (F : Fun K "is_take" "is_take" st_is_take f fd) (hm : mg "is_take" = some (.ref f)) (bd : Binds K fd ["rules", "thing"] []) (G_are_marks : Def P w K mg base CX0 3 "are_marks" cls false true 2 fs_are_marks) (G_are_gaps : Def P w K mg base CX0 3 "are_gaps" cls false true 1 fs_are_gaps) (G_is_name : Def P w K mg base CX0 1 "is_name" cls false true 1 fs_is_name) (G_is_from : Def P w K mg base CX0 1 "is_from" cls false true 3 fs_is_from) : Def P w K mg base CX0 4 "is_take" cls false true 2 fs_is_take := by
  exact mkDef (k := 3) F hm bd sc_is_take rfl rfl (fun cdv A outer s H E W hr _ hcls => by
    subst hcls
    have sc := sc_is_take
    exact (ss_cons (s_if (PW.pt (w_or (t_not (t_tru (dB (d_call (Def.mono G_is_name (by decide)) (fun _ => rfl) hr rfl (a_cons (d_sub (r1 hr) (d_var 1) d_int) a_nil))))) (w_or1 (t_not (t_tru (dB (d_call (Def.mono G_is_from (by decide)) (fun _ => rfl) hr rfl (a_cons (d_sub (r1 hr) (d_var 1) d_int) (a_cons d_int (a_cons d_int a_nil))))))))))
    (ss_one (s_ret d_bl))
    ss_nil)
    (ss_one (s_ret (d_and (d_call (Def.mono G_are_marks (by decide)) (fun _ => rfl) hr rfl (a_cons (d_var 0) (a_cons (d_sub (r1 hr) (d_var 1) d_int) a_nil))) (d_one (d_call (Def.mono G_are_gaps (by decide)) (fun _ => rfl) hr rfl (a_cons (d_sub (r1 hr) (d_var 1) d_int) a_nil))))))))
abbrev st_is_year : Stmt := top 31
theorem sc_is_year : FnScope ["thing"] ["thing"] (defScope st_is_year) := ⟨rfl, rfl, rfl, by decide +kernel, rfl, by decide +kernel, by decide +kernel⟩
theorem D_is_year {P : Program} {w : World} {K : PySem.W.Frag} {mg : Str → Option Value} {base : Heap} {cls : Str → Value} (T : TX mg) {f : Addr} {fd : FuncData} (F : Fun K "is_year" "is_year" st_is_year f fd) (hm : mg "is_year" = some (.ref f)) (bd : Binds K fd ["thing"] []) (G_is_from : Def P w K mg base CX0 1 "is_from" cls false true 3 fs_is_from) : Def P w K mg base CX0 2 "is_year" cls false true 1 fs_is_year := by
  exact mkDef (k := 1) F hm bd sc_is_year rfl rfl (fun cdv A outer s H E W hr _ hcls => by
    subst hcls
    have sc := sc_is_year
    exact (ss_one (s_ret (d_call (Def.mono G_is_from (by decide)) (fun _ => rfl) hr rfl (a_cons (d_var 0) (a_cons d_int (a_cons d_int a_nil)))))))
abbrev st_is_entry : Stmt := top 32
theorem sc_is_entry : FnScope ["thing", "take"] ["thing"] (defScope st_is_entry) := ⟨rfl, rfl, rfl, by decide +kernel, rfl, by decide +kernel, by decide +kernel⟩
theorem D_is_entry {P : Program} {w : World} {K : PySem.W.Frag} {mg : Str → Option Value} {base : Heap} {cls : Str → Value} (T : TX mg) {f : Addr} {fd : FuncData} (F : Fun K "is_entry" "is_entry" st_is_entry f fd) (hm : mg "is_entry" = some (.ref f)) (bd : Binds K fd ["thing"] []) (G_are_rows : Def P w K mg base CX0 1 "are_rows" cls false true 3 fs_are_rows) (G_rises : Def P w K mg base CX0 1 "rises" cls false true 1 fs_rises) (G_is_year : Def P w K mg base CX0 2 "is_year" cls false true 1 fs_is_year) (G_are_rules : Def P w K mg base CX0 3 "are_rules" cls false true 1 fs_are_rules) (G_is_name : Def P w K mg base CX0 1 "is_name" cls false true 1 fs_is_name) (G_is_take : Def P w K mg base CX0 4 "is_take" cls false true 2 fs_is_take) : Def P w K mg base CX0 5 "is_entry" cls false true 1 fs_is_entry := by
  exact mkDef (k := 4) F hm bd sc_is_entry rfl rfl (fun cdv A outer s H E W hr _ hcls => by
    subst hcls
    have sc := sc_is_entry
    exact (ss_cons (s_if (PW.pt (w_or (t_not (t_tru (dB (d_call (Def.mono G_is_year (by decide)) (fun _ => rfl) hr rfl (a_cons (d_sub (r1 hr) (d_var 0) d_int) a_nil))))) (w_or (t_not (t_tru (dB (d_call (Def.mono G_are_rules (by decide)) (fun _ => rfl) hr rfl (a_cons (d_sub (r1 hr) (d_var 0) d_int) a_nil))))) (w_or1 (t_not (t_tru (dB (d_call (Def.mono G_is_name (by decide)) (fun _ => rfl) hr rfl (a_cons (d_sub (r1 hr) (d_var 0) d_int) a_nil)))))))))
    (ss_one (s_ret d_bl))
    ss_nil)
    (ss_cons (s_if (t_not (t_tru (dB (d_call (Def.mono G_are_rows (by decide)) (fun _ => rfl) hr rfl (a_cons (d_sub (r1 hr) (d_var 0) d_int) (a_cons (d_glob (v := .int 8) rfl T.c_MOST_TAKES.choose_spec (⟨_, rfl⟩) (fun _ => .int 8)) (a_cons d_int a_nil)))))))
    (ss_one (s_ret d_bl))
    ss_nil)
    (ss_one (s_ret (d_and (d_b1 (cr_all rfl) c1_all rfl T.n_all boot_all' (dB (dF (d_lc [("take", 1)] rfl sc.nd (i_seq (d_sub (r1 hr) (d_var 0) d_int)) (blkOk_by (N := ["thing", "take"]) (sc := defScope st_is_entry) (by decide +kernel)) (by decide) (fun _ _ _ _ _ => (g_name 1 sc.nd)) (fun _ _ _ _ _ => ts_nil) (fun _ _ _ _ _ => (d_call (Def.mono G_is_take (by decide)) (fun _ => rfl) hr rfl (a_cons (d_sub (r1 hr) (d_var 0) d_int) (a_cons (d_var 1) a_nil)))))))) (d_one (d_call (Def.mono G_rises (by decide)) (fun _ => rfl) hr rfl (a_cons (dF (d_lc [("take", 1)] rfl sc.nd (i_seq (d_sub (r1 hr) (d_var 0) d_int)) (blkOk_by (N := ["thing", "take"]) (sc := defScope st_is_entry) (by decide +kernel)) (by decide) (fun _ _ _ _ _ => (g_name 1 sc.nd)) (fun _ _ _ _ _ => ts_nil) (fun _ _ _ _ _ => (d_sub (r1 hr) (d_var 1) d_int)))) a_nil)))))))))
abbrev st_is_record : Stmt := top 33
theorem sc_is_record : FnScope ["thing", "entry"] ["thing"] (defScope st_is_record) := ⟨rfl, rfl, rfl, by decide +kernel, rfl, by decide +kernel, by decide +kernel⟩
theorem D_is_record {P : Program} {w : World} {K : PySem.W.Frag} {mg : Str → Option Value} {base : Heap} {cls : Str → Value} (T : TX mg) {f : Addr} {fd : FuncData} (F : Fun K "is_record" "is_record" st_is_record f fd) (hm : mg "is_record" = some (.ref f)) (bd : Binds K fd ["thing"] []) (G_rises : Def P w K mg base CX0 1 "rises" cls false true 1 fs_rises) (G_are_rows : Def P w K mg base CX0 1 "are_rows" cls false true 3 fs_are_rows) (G_is_entry : Def P w K mg base CX0 5 "is_entry" cls false true 1 fs_is_entry) : Def P w K mg base CX0 6 "is_record" cls false true 1 fs_is_record := by
  exact mkDef (k := 5) F hm bd sc_is_record rfl rfl (fun cdv A outer s H E W hr _ hcls => by
    subst hcls
    have sc := sc_is_record
    exact (ss_cons (s_if (PW.pt (w_or (t_not (t_tru (dB (d_call (Def.mono G_are_rows (by decide)) (fun _ => rfl) hr rfl (a_cons (d_var 0) (a_cons (d_glob (v := .int 6) rfl T.c_MOST_ENTRIES.choose_spec (⟨_, rfl⟩) (fun _ => .int 6)) (a_cons d_int a_nil))))))) (w_or1 (t_not (t_tru (dB (d_b1 (cr_all rfl) c1_all rfl T.n_all boot_all' (dB (dF (d_lc [("entry", 1)] rfl sc.nd (i_seq (d_var 0)) (blkOk_by (N := ["thing", "entry"]) (sc := defScope st_is_record) (by decide +kernel)) (by decide) (fun _ _ _ _ _ => (g_name 1 sc.nd)) (fun _ _ _ _ _ => ts_nil) (fun _ _ _ _ _ => (d_call (Def.mono G_is_entry (by decide)) (fun _ => rfl) hr rfl (a_cons (d_var 1) a_nil)))))))))))))
    (ss_one (s_ret d_bl))
    ss_nil)
    (ss_one (s_ret (d_call (Def.mono G_rises (by decide)) (fun _ => rfl) hr rfl (a_cons (dF (d_lc [("entry", 1)] rfl sc.nd (i_seq (d_var 0)) (blkOk_by (N := ["thing", "entry"]) (sc := defScope st_is_record) (by decide +kernel)) (by decide) (fun _ _ _ _ _ => (g_name 1 sc.nd)) (fun _ _ _ _ _ => ts_nil) (fun _ _ _ _ _ => (d_sub (r1 hr) (d_var 1) d_int)))) a_nil))))))
abbrev st__law_bag : Stmt := top 35
theorem sc__law_bag : FnScope ["script", "k", "cell", "seed"] ["script", "k"] (defScope st__law_bag) := ⟨rfl, rfl, rfl, by decide +kernel, rfl, by decide +kernel, by decide +kernel⟩
theorem D__law_bag {P : Program} {w : World} {K : PySem.W.Frag} {mg : Str → Option Value} {base : Heap} {cls : Str → Value} (T : TX mg) {f : Addr} {fd : FuncData} (F : Fun K "_law_bag" "_law_bag" st__law_bag f fd) (hm : mg "_law_bag" = some (.ref f)) (bd : Binds K fd ["script", "k"] [])  : Def P w K mg base CX0 1 "_law_bag" cls false true 2 fs__law_bag := by
  exact mkDef (k := 0) F hm bd sc__law_bag rfl rfl (fun cdv A outer s H E W hr _ hcls => by
    subst hcls
    have sc := sc__law_bag
    exact (ss_cons (s_set 2 d_int sc.nd)
    (ss_cons (s_if (t_cmp (op_lt' (r64 hr)) rt_lt (d_var 1) (dB (d_b1 cr_len c1_len rfl T.n_len boot_len' (d_bor 0))) rfl)
    (ss_one (s_set 2 (d_bin op_mod rb_mod (d_sub (r1 hr) (d_var 0) (d_var 1)) (dB (d_bin op_pow rb_pow d_int (dB d_int)))) sc.nd))
    ss_nil)
    (ss_cons (s_set 3 (d_bin op_plusA rb_plusA d_int (dB (d_bin op_mod rb_mod (d_bin op_plusA rb_plusA (d_bin op_plusA rb_plusA (d_bin op_plusA rb_plusA (d_bin op_mul rb_mul (d_bin op_mod rb_mod (d_var 2) (dB d_int)) (dB d_int)) (dB (d_bin op_mul rb_mul (d_bin op_mul rb_mul d_int (d_bor 1)) (d_bor 1)))) (dB (d_bin op_mul rb_mul d_int (d_bor 1)))) (dB d_int)) (dB d_int)))) sc.nd)
    (ss_cons (s_if (t_cmp (op_lt' (r64 hr)) rt_lt (d_var 2) (dB (d_bin op_pow rb_pow d_int (dB d_int))) rfl)
    (ss_one (s_retO (d_lst (a_cons d_int (a_cons (d_var 3) a_nil)))))
    ss_nil)
    (ss_one (s_retO (d_lst (a_cons (d_var 2) (a_cons (d_var 3) a_nil))))))))))
abbrev st__law_take : Stmt := top 36
theorem sc__law_take : FnScope ["bag", "count", "found"] ["bag", "count"] (defScope st__law_take) := ⟨rfl, rfl, rfl, by decide +kernel, rfl, by decide +kernel, by decide +kernel⟩
theorem D__law_take {P : Program} {w : World} {K : PySem.W.Frag} {mg : Str → Option Value} {base : Heap} {cls : Str → Value} (T : TX mg) {f : Addr} {fd : FuncData} (F : Fun K "_law_take" "_law_take" st__law_take f fd) (hm : mg "_law_take" = some (.ref f)) (bd : Binds K fd ["bag", "count"] [])  : Def P w K mg base CX0 1 "_law_take" cls true true 2 fs__law_take := by
  exact mkDef (k := 0) F hm bd sc__law_take rfl rfl (fun cdv A outer s H E W hr _ hcls => by
    subst hcls
    have sc := sc__law_take
    exact (ss_cons (s_if (t_cmp op_gt rt_gt (d_subV 0 (r1 hr) d_int) (dB d_int) rfl)
    (ss_cons (s_set 2 (d_bin op_mod rb_mod (d_subV 0 (r1 hr) d_int) (d_bor 1)) sc.nd)
    (ss_cons (s_setL 0 (d_bin op_fdiv rb_div (d_subV 0 (r1 hr) d_int) (d_bor 1)) d_int)
    (ss_one (s_ret (d_var 2)))))
    ss_nil)
    (ss_cons (s_setL 0 (d_bin op_mod rb_mod (d_bin op_mul rb_mul (d_subV 0 (r1 hr) d_int) (dB d_int)) (dB d_int)) d_int)
    (ss_one (s_ret (d_bin op_mod rb_mod (d_bin op_fdiv rb_div (d_bin op_mod rb_mod (d_bin op_mul rb_mul (d_bin op_fdiv rb_div (d_subV 0 (r1 hr) d_int) (dB d_int)) (dB (d_bin op_plusA rb_plusA (d_bin op_mod rb_mod (d_subV 0 (r1 hr) d_int) (dB d_int)) (dB d_int)))) (dB d_int)) (dB d_int)) (d_bor 1)))))))
abbrev st__law_frac : Stmt := top 38
theorem sc__law_frac : FnScope ["top", "bottom", "one", "other"] ["top", "bottom"] (defScope st__law_frac) := ⟨rfl, rfl, rfl, by decide +kernel, rfl, by decide +kernel, by decide +kernel⟩
theorem D__law_frac {P : Program} {w : World} {K : PySem.W.Frag} {mg : Str → Option Value} {base : Heap} {cls : Str → Value} (T : TX mg) {f : Addr} {fd : FuncData} (F : Fun K "_law_frac" "_law_frac" st__law_frac f fd) (hm : mg "_law_frac" = some (.ref f)) (bd : Binds K fd ["top", "bottom"] [])  : Def P w K mg base CX0 1 "_law_frac" cls false true 2 fs__law_frac := by
  exact mkDef (k := 0) F hm bd sc__law_frac rfl rfl (fun cdv A outer s H E W hr _ hcls => by
    subst hcls
    have sc := sc__law_frac
    exact (ss_cons (s_par2 2 3 rfl sc.nd (z_F (d_b1 call_abs c1_abs rfl T.n_abs boot_abs' (d_bor 0)) (z_F (d_var 1) z_nil)))
    (ss_cons (s_while 1000 PassesOwn.never (t_cmp (op_neD (r64 hr)) rt_ne (d_var 3) (dB d_int) rfl)
    (ss_one (s_par2 2 3 rfl sc.nd (z_F (d_var 3) (z_F (d_bin op_mod rb_mod (d_var 2) (d_bor 3)) z_nil)))))
    (ss_one (s_ret (d_tup (a_cons (d_bin op_fdiv rb_div (d_var 0) (d_bor 2)) (a_cons (d_bin op_fdiv rb_div (d_var 1) (d_bor 2)) a_nil))))))))
abbrev st__law_takes_right : Stmt := top 40
theorem sc__law_takes_right : FnScope ["bag", "bound", "kinds", "limit", "rules", "at", "below", "full", "gaps", "shown", "still", "good", "strict", "day", "row"] ["bag", "bound"] (defScope st__law_takes_right) := ⟨rfl, rfl, rfl, by decide +kernel, rfl, by decide +kernel, by decide +kernel⟩
theorem D__law_takes_right {P : Program} {w : World} {K : PySem.W.Frag} {mg : Str → Option Value} {base : Heap} {cls : Str → Value} (T : TX mg) {f : Addr} {fd : FuncData} (F : Fun K "_law_takes_right" "_law_takes_right" st__law_takes_right f fd) (hm : mg "_law_takes_right" = some (.ref f)) (bd : Binds K fd ["bag", "bound"] []) (G__law_take : Def P w K mg base CX0 1 "_law_take" cls true true 2 fs__law_take) (G_is_record : Def P w K mg base CX0 6 "is_record" cls false true 1 fs_is_record) (G_mean : Def P w K mg base CX0 3 "mean" cls false true 2 fs_mean) (G_result : Def P w K mg base CX0 4 "result" cls false true 2 fs_result) (G_is_good : Def P w K mg base CX0 4 "is_good" cls false true 2 fs_is_good) : Def P w K mg base CX0 7 "_law_takes_right" cls true true 2 fs__law_takes_right := by
  exact mkDef (k := 6) F hm bd sc__law_takes_right rfl rfl (fun cdv A outer s H E W hr _ hcls => by
    subst hcls
    have sc := sc__law_takes_right
    exact (ss_cons (s_set 2 (d_tup (a_cons (d_tup (a_cons d_str (a_cons (d_bin op_plusA rb_plusA d_int (dB (d_callI 0 (Def.mono G__law_take (by decide)) (fun _ => rfl) hr rfl (a_cons d_int a_nil)))) a_nil))) (a_cons (d_tup (a_cons d_str (a_cons (d_bin op_plusA rb_plusA d_int (dB (d_callI 0 (Def.mono G__law_take (by decide)) (fun _ => rfl) hr rfl (a_cons d_int a_nil)))) a_nil))) (a_cons (d_tup (a_cons d_str (a_cons (d_bin op_plusA rb_plusA d_int (dB (d_callI 0 (Def.mono G__law_take (by decide)) (fun _ => rfl) hr rfl (a_cons d_int a_nil)))) a_nil))) a_nil)))) sc.nd)
    (ss_cons (s_set 3 (d_callI 0 (Def.mono G__law_take (by decide)) (fun _ => rfl) hr rfl (a_cons d_int a_nil)) sc.nd)
    (ss_cons (s_set 4 (d_tup (a_cons (d_var 2) (a_cons (d_tup (a_cons (d_tup (a_cons d_int (a_cons d_str a_nil))) (a_cons (d_tup (a_cons (d_var 1) (a_cons d_str a_nil))) a_nil))) (a_cons d_int (a_cons (d_var 3) (a_cons d_int a_nil)))))) sc.nd)
    (ss_cons (s_set 5 (d_tup (a_cons d_str (a_cons d_int (a_cons (d_tup (a_cons (d_tup (a_cons d_int (a_cons d_str (a_cons (d_var 1) a_nil)))) (a_cons (d_tup (a_cons d_int (a_cons d_str (a_cons (d_var 1) a_nil)))) (a_cons (d_tup (a_cons d_int (a_cons d_str (a_cons (d_var 1) a_nil)))) a_nil)))) (a_cons (d_tup a_nil) a_nil))))) sc.nd)
    (ss_cons (s_set 6 (d_tup (a_cons d_str (a_cons d_int (a_cons (d_tup (a_cons (d_tup (a_cons d_int (a_cons d_str (a_cons (d_var 1) a_nil)))) (a_cons (d_tup (a_cons d_int (a_cons d_str (a_cons (d_var 1) a_nil)))) (a_cons (d_tup (a_cons d_int (a_cons d_str (a_cons (d_bin op_sub rb_sub (d_var 1) (dB d_int)) a_nil)))) a_nil)))) (a_cons (d_tup a_nil) a_nil))))) sc.nd)
    (ss_cons (s_if (t_cmp (op_neD (r64 hr)) rt_ne (dF (d_lst (a_cons (d_call (Def.mono G_mean (by decide)) (fun _ => rfl) hr rfl (a_cons (d_var 4) (a_cons (d_var 5) a_nil))) (a_cons (d_call (Def.mono G_result (by decide)) (fun _ => rfl) hr rfl (a_cons (d_var 4) (a_cons (d_var 5) a_nil))) (a_cons (d_call (Def.mono G_is_good (by decide)) (fun _ => rfl) hr rfl (a_cons (d_var 4) (a_cons (d_var 5) a_nil))) a_nil))))) (dB (dF (d_lst (a_cons (d_tup (a_cons (d_var 1) (a_cons d_int a_nil))) (a_cons d_str (a_cons d_bl a_nil)))))) rfl)
    (ss_one (s_ret d_bl))
    ss_nil)
    (ss_cons (s_if (t_cmp (op_neD (r64 hr)) rt_ne (dF (d_lst (a_cons (d_call (Def.mono G_mean (by decide)) (fun _ => rfl) hr rfl (a_cons (d_var 4) (a_cons (d_var 6) a_nil))) (a_cons (d_call (Def.mono G_result (by decide)) (fun _ => rfl) hr rfl (a_cons (d_var 4) (a_cons (d_var 6) a_nil))) (a_cons (d_call (Def.mono G_is_good (by decide)) (fun _ => rfl) hr rfl (a_cons (d_var 4) (a_cons (d_var 6) a_nil))) a_nil))))) (dB (dF (d_lst (a_cons (d_tup (a_cons (d_bin op_sub rb_sub (d_bin op_mul rb_mul d_int (d_bor 1)) (dB d_int)) (a_cons d_int a_nil))) (a_cons d_str (a_cons d_bl a_nil)))))) rfl)
    (ss_one (s_ret d_bl))
    ss_nil)
    (ss_cons (s_set 7 (dF (d_lst (a_cons (d_bin op_fdiv rb_div (d_var 3) (dB d_int)) (a_cons (d_bin op_mod rb_mod (d_var 3) (dB d_int)) a_nil)))) sc.nd)
    (ss_cons (s_set 8 (d_bin op_plusA rb_plusA (dF (d_lc [("day", 13)] rfl sc.nd (i_range1 rfl T.n_range (a_cons (d_sub (r1 hr) (d_var 7) d_int) a_nil)) (blkOk_by (N := ["bag", "bound", "kinds", "limit", "rules", "at", "below", "full", "gaps", "shown", "still", "good", "strict", "day", "row"]) (sc := defScope st__law_takes_right) (by decide +kernel)) (by decide) (fun _ _ _ _ _ => (g_name 13 sc.nd)) (fun _ _ _ _ _ => ts_nil) (fun _ _ _ _ _ => (d_tup (a_cons (d_var 13) (a_cons d_int (a_cons d_bl a_nil))))))) (dB (d_bin op_repA rb_rep (dF (d_lst (a_cons (d_tup (a_cons d_int (a_cons (d_sub (r1 hr) (d_var 7) d_int) (a_cons d_bl a_nil)))) a_nil))) (dB (d_t1 cr_int c1_int rfl T.n_int boot_int' (dB (d_cmp op_gt rt_gt (d_sub (r1 hr) (d_var 7) d_int) (dB d_int) rfl))))))) sc.nd)
    (ss_cons (s_set 8 (d_bin op_plusA rb_plusA (d_t1 call_tuple_of c1_tuple rfl T.n_tuple boot_tuple' (dB (d_slc (d_var 8) p_none (p_some d_int)))) (dB (d_tup (a_cons (d_tup (a_cons d_int (a_cons d_int (a_cons d_bl a_nil)))) a_nil)))) sc.nd)
    (ss_cons (s_set 9 (d_b1 (cr_sum rfl) c1_sum rfl T.n_sum boot_sum' (dB (dF (d_lc [("row", 14)] rfl sc.nd (i_seq (d_var 8)) (blkOk_by (N := ["bag", "bound", "kinds", "limit", "rules", "at", "below", "full", "gaps", "shown", "still", "good", "strict", "day", "row"]) (sc := defScope st__law_takes_right) (by decide +kernel)) (by decide) (fun _ _ _ _ _ => (g_name 14 sc.nd)) (fun _ _ _ _ _ => (ts_one (t_not (t_tru (dB (d_sub (r1 hr) (d_var 14) d_int)))))) (fun _ _ _ _ _ => (d_sub (r1 hr) (d_var 14) d_int)))))) sc.nd)
    (ss_cons (s_set 10 (d_bin op_plusA rb_plusA (d_slc (d_var 5) p_none (p_some d_int)) (dB (d_tup (a_cons (d_var 8) a_nil)))) sc.nd)
    (ss_cons (s_set 11 (d_bin op_plusA rb_plusA (d_bin op_plusA rb_plusA (d_slc (d_var 4) p_none (p_some d_int)) (dB (d_tup (a_cons (d_var 9) a_nil)))) (dB (d_slc (d_var 4) (p_some d_int) p_none))) sc.nd)
    (ss_cons (s_if (PW.pt (w_or (t_cmp (op_neD (r64 hr)) rt_ne (d_call (Def.mono G_result (by decide)) (fun _ => rfl) hr rfl (a_cons (d_var 11) (a_cons (d_var 10) a_nil))) (dB d_str) rfl) (w_or1 (t_not (t_tru (dB (d_call (Def.mono G_is_good (by decide)) (fun _ => rfl) hr rfl (a_cons (d_var 11) (a_cons (d_var 10) a_nil)))))))))
    (ss_one (s_ret d_bl))
    ss_nil)
    (ss_cons (s_if (t_cmp op_gt rt_gt (d_var 9) (dB d_int) rfl)
    (ss_cons (s_set 12 (d_bin op_plusA rb_plusA (d_bin op_plusA rb_plusA (d_slc (d_var 4) p_none (p_some d_int)) (dB (d_tup (a_cons (d_bin op_sub rb_sub (d_var 9) (dB d_int)) a_nil)))) (dB (d_slc (d_var 4) (p_some d_int) p_none))) sc.nd)
    (ss_one (s_if (PW.pt (w_or (t_cmp (op_neD (r64 hr)) rt_ne (d_call (Def.mono G_result (by decide)) (fun _ => rfl) hr rfl (a_cons (d_var 12) (a_cons (d_var 10) a_nil))) (dB d_str) rfl) (w_or (t_tru (dB (d_call (Def.mono G_is_good (by decide)) (fun _ => rfl) hr rfl (a_cons (d_var 12) (a_cons (d_var 10) a_nil))))) (w_or1 (t_cmp (op_neD (r64 hr)) rt_ne (d_call (Def.mono G_mean (by decide)) (fun _ => rfl) hr rfl (a_cons (d_var 12) (a_cons (d_var 10) a_nil))) (dB (d_tup (a_cons (d_var 1) (a_cons d_int a_nil)))) rfl)))))
    (ss_one (s_ret d_bl))
    ss_nil)))
    ss_nil)
    (ss_one (s_ret (d_cmp op_is rt_is (d_call (Def.mono G_is_record (by decide)) (fun _ => rfl) hr rfl (a_cons (d_tup (a_cons (d_tup (a_cons d_int (a_cons (d_var 4) (a_cons d_str (a_cons (d_tup (a_cons (d_var 5) a_nil)) a_nil))))) a_nil)) a_nil)) (dB d_bl) rfl)))))))))))))))))))
abbrev st__law_standing_right : Stmt := top 41
theorem sc__law_standing_right : FnScope ["bag", "rules", "lost", "told", "worse", "book", "good", "bad", "gone", "bare", "rows", "whole_mean", "missed", "word", "takes", "when"] ["bag"] (defScope st__law_standing_right) := ⟨rfl, rfl, rfl, by decide +kernel, rfl, by decide +kernel, by decide +kernel⟩
theorem D__law_standing_right {P : Program} {w : World} {K : PySem.W.Frag} {mg : Str → Option Value} {base : Heap} {cls : Str → Value} (T : TX mg) {f : Addr} {fd : FuncData} (F : Fun K "_law_standing_right" "_law_standing_right" st__law_standing_right f fd) (hm : mg "_law_standing_right" = some (.ref f)) (bd : Binds K fd ["bag"] []) (G_report : Def P w K mg base CX0 6 "report" cls false true 1 fs_report) (G_standing : Def P w K mg base CX0 5 "standing" cls false true 1 fs_standing) (G__law_frac : Def P w K mg base CX0 1 "_law_frac" cls false true 2 fs__law_frac) (G_passed : Def P w K mg base CX0 5 "passed" cls false true 2 fs_passed) : Def P w K mg base CX0 7 "_law_standing_right" cls false true 1 fs__law_standing_right := by
  exact mkDef (k := 6) F hm bd sc__law_standing_right rfl rfl (fun cdv A outer s H E W hr _ hcls => by
    subst hcls
    have sc := sc__law_standing_right
    exact (ss_cons (s_set 1 (d_tup (a_cons (d_tup (a_cons (d_tup (a_cons d_str (a_cons d_int a_nil))) a_nil)) (a_cons (d_tup (a_cons (d_tup (a_cons d_int (a_cons d_str a_nil))) (a_cons (d_tup (a_cons d_int (a_cons d_str a_nil))) a_nil))) (a_cons d_int (a_cons d_int (a_cons d_int a_nil)))))) sc.nd)
    (ss_cons (s_asg (d_tup (a_cons (d_tup (a_cons d_str (a_cons d_int (a_cons (d_tup (a_cons (d_tup (a_cons d_int (a_cons d_str (a_cons d_int a_nil)))) a_nil)) (a_cons (d_tup a_nil) a_nil))))) (a_cons (d_tup (a_cons d_str (a_cons d_int (a_cons (d_tup (a_cons (d_tup (a_cons d_int (a_cons d_str (a_cons d_int a_nil)))) a_nil)) (a_cons (d_tup a_nil) a_nil))))) a_nil))) (g_tup rfl (gs_cons (g_name 6 sc.nd) (gs_cons (g_name 7 sc.nd) gs_nil))))
    (ss_cons (s_asg (d_tup (a_cons (d_tup (a_cons d_str (a_cons d_int (a_cons (d_tup (a_cons (d_tup (a_cons d_int (a_cons d_str (a_cons d_int a_nil)))) a_nil)) (a_cons (d_tup (a_cons (d_tup (a_cons d_int (a_cons d_int (a_cons d_bl a_nil)))) a_nil)) a_nil))))) (a_cons (d_tup (a_cons d_str (a_cons d_int (a_cons (d_tup a_nil) (a_cons (d_tup a_nil) a_nil))))) a_nil))) (g_tup rfl (gs_cons (g_name 8 sc.nd) (gs_cons (g_name 9 sc.nd) gs_nil))))
    (ss_cons (s_set 2 (d_tup (a_cons d_str (a_cons d_int (a_cons (d_tup a_nil) (a_cons (d_tup (a_cons (d_tup (a_cons d_int (a_cons d_int (a_cons d_bl a_nil)))) a_nil)) a_nil))))) sc.nd)
    (ss_cons (s_setLcF 3 [("takes", 14)] rfl sc.nd (i_seq (dF (d_lst (a_cons (d_tup (a_cons (d_var 6) (a_cons (d_var 7) a_nil))) (a_cons (d_tup (a_cons (d_var 6) (a_cons (d_var 7) (a_cons (d_var 9) a_nil)))) (a_cons (d_tup (a_cons (d_var 8) a_nil)) (a_cons (d_tup (a_cons (d_var 2) a_nil)) (a_cons (d_tup a_nil) a_nil)))))))) (blkOk_by (N := ["bag", "rules", "lost", "told", "worse", "book", "good", "bad", "gone", "bare", "rows", "whole_mean", "missed", "word", "takes", "when"]) (sc := defScope st__law_standing_right) (by decide +kernel)) (by decide) (fun _ _ _ _ _ => (g_name 14 sc.nd)) (fun _ _ _ _ _ => ts_nil) (fun _ _ _ _ _ => (d_call (Def.mono G_standing (by decide)) (fun _ => rfl) hr rfl (a_cons (d_tup (a_cons d_int (a_cons (d_var 1) (a_cons d_str (a_cons (d_var 14) a_nil))))) a_nil))) (sw_true rfl rfl rfl (by decide +kernel)))
    (ss_cons (s_if (PW.pt (w_or (t_cmp (op_neD (r64 hr)) rt_ne (d_var 3) (dB (dF (d_lst (a_cons d_str (a_cons d_str (a_cons d_str (a_cons d_str (a_cons d_str a_nil)))))))) rfl) (w_or1 (t_cmp (op_neD (r64 hr)) rt_ne (d_call (Def.mono G_standing (by decide)) (fun _ => rfl) hr rfl (a_cons (d_tup (a_cons d_int (a_cons (d_var 1) (a_cons d_str (a_cons (d_tup (a_cons (d_var 7) (a_cons (d_var 2) a_nil))) a_nil))))) a_nil)) (dB d_str) rfl))))
    (ss_one (s_ret d_bl))
    ss_nil)
    (ss_cons (s_asg (d_call (Def.mono G_report (by decide)) (fun _ => rfl) hr rfl (a_cons (d_tup (a_cons d_int (a_cons (d_var 1) (a_cons d_str (a_cons (d_tup (a_cons (d_var 6) (a_cons (d_var 7) (a_cons (d_var 8) (a_cons (d_var 9) a_nil))))) a_nil))))) a_nil)) (g_tup rfl (gs_cons (g_name 10 sc.nd) (gs_cons (g_name 11 sc.nd) (gs_cons (g_name 12 sc.nd) (gs_cons (g_name 13 sc.nd) gs_nil))))))
    (ss_cons (s_if (PW.pt (w_or (t_cmp (op_neD (r64 hr)) rt_ne (d_var 11) (dB (d_call (Def.mono G__law_frac (by decide)) (fun _ => rfl) hr rfl (a_cons (d_bin op_plusA rb_plusA (d_bin op_mul rb_mul d_int (dB d_int)) (dB (d_bin op_mul rb_mul d_int (dB d_int)))) (a_cons d_int a_nil)))) rfl) (w_or (t_cmp (op_neD (r64 hr)) rt_ne (d_var 12) (dB d_int) rfl) (w_or1 (t_cmp (op_neD (r64 hr)) rt_ne (d_var 13) (dB d_str) rfl)))))
    (ss_one (s_ret d_bl))
    ss_nil)
    (ss_cons (s_if (PW.pt (w_or (t_cmp (op_neD (r64 hr)) rt_ne (d_sub (r1 hr) (d_var 10) d_int) (dB (d_tup (a_cons d_str (a_cons d_str (a_cons (d_tup (a_cons d_int (a_cons d_int a_nil))) (a_cons d_bl (a_cons d_int (a_cons d_int a_nil)))))))) rfl) (w_or1 (t_cmp (op_neD (r64 hr)) rt_ne (d_sub (r1 hr) (d_var 10) d_int) (dB (d_tup (a_cons d_str (a_cons d_str (a_cons d_non (a_cons d_bl (a_cons d_int (a_cons d_int a_nil)))))))) rfl))))
    (ss_one (s_ret d_bl))
    ss_nil)
    (ss_cons (s_set 4 (d_bin op_plusA rb_plusA (d_slc (d_var 6) p_none (p_some d_int)) (dB (d_tup (a_cons (d_tup (a_cons (d_tup (a_cons d_int (a_cons d_str (a_cons d_int a_nil)))) a_nil)) (a_cons (d_tup a_nil) a_nil))))) sc.nd)
    (ss_cons (s_set 5 (d_tup (a_cons (d_tup (a_cons d_int (a_cons (d_var 1) (a_cons d_str (a_cons (d_tup (a_cons (d_var 6) a_nil)) a_nil))))) (a_cons (d_tup (a_cons d_int (a_cons (d_var 1) (a_cons d_str (a_cons (d_tup (a_cons (d_var 4) a_nil)) a_nil))))) a_nil))) sc.nd)
    (ss_one (s_ret (d_cmp (op_eqD (r64 hr)) rt_eq (dF (d_lc [("when", 15)] rfl sc.nd (i_seq (dF (d_lst (a_cons d_int (a_cons d_int (a_cons d_int a_nil)))))) (blkOk_by (N := ["bag", "rules", "lost", "told", "worse", "book", "good", "bad", "gone", "bare", "rows", "whole_mean", "missed", "word", "takes", "when"]) (sc := defScope st__law_standing_right) (by decide +kernel)) (by decide) (fun _ _ _ _ _ => (g_name 15 sc.nd)) (fun _ _ _ _ _ => ts_nil) (fun _ _ _ _ _ => (d_call (Def.mono G_passed (by decide)) (fun _ => rfl) hr rfl (a_cons (d_var 5) (a_cons (d_var 15) a_nil)))))) (dB (dF (d_lst (a_cons (dF (d_lst a_nil)) (a_cons (dF (d_lst (a_cons d_str a_nil))) (a_cons (dF (d_lst (a_cons d_str a_nil))) a_nil)))))) rfl)))))))))))))))
abbrev st_law : Stmt := top 42
theorem sc_law : FnScope ["script", "k", "bag", "bound"] ["script"] (defScope st_law) := ⟨rfl, rfl, rfl, by decide +kernel, rfl, by decide +kernel, by decide +kernel⟩
theorem D_law {P : Program} {w : World} {K : PySem.W.Frag} {mg : Str → Option Value} {base : Heap} {cls : Str → Value} (T : TX mg) {f : Addr} {fd : FuncData} (F : Fun K "law" "law" st_law f fd) (G__law_bag : Def P w K mg base CX0 1 "_law_bag" cls false true 2 fs__law_bag) (G__law_standing_right : Def P w K mg base CX0 7 "_law_standing_right" cls false true 1 fs__law_standing_right) (G__law_take : Def P w K mg base CX0 1 "_law_take" cls true true 2 fs__law_take) (G__law_takes_right : Def P w K mg base CX0 7 "_law_takes_right" cls true true 2 fs__law_takes_right) : FnOk P w K mg base CX0 8 f fd ["script"] (spF K cls false true 1 fs_law) := by
  exact mkFn (k := 7) F sc_law rfl rfl (fun cdv A outer s H E W hr _ hcls => by
    subst hcls
    have sc := sc_law
    exact (ss_cons (s_for PassesOwn.never rfl (i_range1 rfl T.n_range (a_cons (d_bin op_plusA rb_plusA (d_bN (call_min2 rfl) cn_min2 rfl T.n_min boot_min' (a_cons (d_b1 cr_len c1_len rfl T.n_len boot_len' (d_bor 0)) (a_cons d_int a_nil))) (dB d_int)) a_nil)) (g_name 1 sc.nd)
    (ss_cons (s_setO 2 (d_callO (Def.mono G__law_bag (by decide)) (fun _ => rfl) hr rfl (a_cons (d_var 0) (a_cons (d_var 1) a_nil))) sc.nd)
    (ss_cons (s_for PassesOwn.never rfl (i_seq (dF (d_lst (a_cons d_int (a_cons d_int (a_cons (d_bin op_plusA rb_plusA d_int (dB (d_callI 2 (Def.mono G__law_take (by decide)) (fun _ => rfl) hr rfl (a_cons d_int a_nil)))) a_nil)))))) (g_name 3 sc.nd)
    (ss_one (s_if (t_not (t_tru (dB (d_callI 2 (Def.mono G__law_takes_right (by decide)) (fun _ => rfl) hr rfl (a_cons (d_var 3) a_nil)))))
    (ss_one (s_ret d_bl))
    ss_nil)))
    (ss_one (s_if (t_not (t_tru (dB (d_call (Def.mono G__law_standing_right (by decide)) (fun _ => rfl) hr rfl (a_cons (d_frz 2) a_nil)))))
    (ss_one (s_ret d_bl))
    ss_nil)))))
    (ss_one (s_ret d_bl))))
theorem all_mk {l : PySem.W.OpenLaw} {w : World} {K : PySem.W.Frag} {h : Heap} {mg : Str → Option Value} {fa : Addr} (X : K.In h) (G : h.Ns mainGlobals mg) (hfa : mg "law" = some (.ref fa))
    {f0 f1 f2 f3 f4 f5 f6 f7 f8 f9 f10 f11 f12 f13 f14 f15 f16 f17 f18 f19 f20 f21 f22 f23 f24 f25 f26 f27 f28 f29 f30 : Addr} {od0 an0 od1 an1 od2 an2 od3 an3 od4 an4 od5 an5 od6 an6 od7 an7 od8 an8 od9 an9 od10 an10 od11 an11 od12 an12 od13 an13 od14 an14 od15 an15 od16 an16 od17 an17 od18 an18 od19 an19 od20 an20 od21 an21 od22 an22 od23 an23 od24 an24 od25 an25 od26 an26 od27 an27 od28 an28 od29 an29 od30 an30 : Option Addr} {sl0 sl1 sl2 sl3 sl4 sl5 sl6 sl7 sl8 sl9 sl10 sl11 sl12 sl13 sl14 sl15 sl16 sl17 sl18 sl19 sl20 sl21 sl22 sl23 sl24 sl25 sl26 sl27 sl28 sl29 sl30 : Array (Option Value)} {oc0 kV0 dc0 pm0 cd0 ct0 oc1 kV1 dc1 pm1 cd1 ct1 oc2 kV2 dc2 pm2 cd2 ct2 oc3 kV3 dc3 pm3 cd3 ct3 oc4 kV4 dc4 pm4 cd4 ct4 oc5 kV5 dc5 pm5 cd5 ct5 oc6 kV6 dc6 pm6 cd6 ct6 oc7 kV7 dc7 pm7 cd7 ct7 oc8 kV8 dc8 pm8 cd8 ct8 oc9 kV9 dc9 pm9 cd9 ct9 oc10 kV10 dc10 pm10 cd10 ct10 oc11 kV11 dc11 pm11 cd11 ct11 oc12 kV12 dc12 pm12 cd12 ct12 oc13 kV13 dc13 pm13 cd13 ct13 oc14 kV14 dc14 pm14 cd14 ct14 oc15 kV15 dc15 pm15 cd15 ct15 oc16 kV16 dc16 pm16 cd16 ct16 oc17 kV17 dc17 pm17 cd17 ct17 oc18 kV18 dc18 pm18 cd18 ct18 oc19 kV19 dc19 pm19 cd19 ct19 oc20 kV20 dc20 pm20 cd20 ct20 oc21 kV21 dc21 pm21 cd21 ct21 oc22 kV22 dc22 pm22 cd22 ct22 oc23 kV23 dc23 pm23 cd23 ct23 oc24 kV24 dc24 pm24 cd24 ct24 oc25 kV25 dc25 pm25 cd25 ct25 oc26 kV26 dc26 pm26 cd26 ct26 oc27 kV27 dc27 pm27 cd27 ct27 oc28 kV28 dc28 pm28 cd28 ct28 oc29 kV29 dc29 pm29 cd29 ct29 oc30 kV30 dc30 pm30 cd30 ct30 : Value}
    (a0 : PySem.W.nsIn K mainGlobals "is_from" = some (some (.ref f0))) (l0 : K.lookup f0 = some ⟨oc0, od0, .func (PySem.W.fnOf "is_from" "is_from" (defArgs st_is_from) (defBody st_is_from) (defScope st_is_from) .none kV0 dc0 pm0 an0 cd0 ct0), sl0⟩) (c0 : PySem.W.codeIn K cd0 "is_from" = true) (k0 : PySem.W.keepIn K (.ref f0) = true)
    (a1 : PySem.W.nsIn K mainGlobals "is_name" = some (some (.ref f1))) (l1 : K.lookup f1 = some ⟨oc1, od1, .func (PySem.W.fnOf "is_name" "is_name" (defArgs st_is_name) (defBody st_is_name) (defScope st_is_name) .none kV1 dc1 pm1 an1 cd1 ct1), sl1⟩) (c1 : PySem.W.codeIn K cd1 "is_name" = true) (k1 : PySem.W.keepIn K (.ref f1) = true)
    (a2 : PySem.W.nsIn K mainGlobals "rises" = some (some (.ref f2))) (l2 : K.lookup f2 = some ⟨oc2, od2, .func (PySem.W.fnOf "rises" "rises" (defArgs st_rises) (defBody st_rises) (defScope st_rises) .none kV2 dc2 pm2 an2 cd2 ct2), sl2⟩) (c2 : PySem.W.codeIn K cd2 "rises" = true) (k2 : PySem.W.keepIn K (.ref f2) = true)
    (a3 : PySem.W.nsIn K mainGlobals "are_rows" = some (some (.ref f3))) (l3 : K.lookup f3 = some ⟨oc3, od3, .func (PySem.W.fnOf "are_rows" "are_rows" (defArgs st_are_rows) (defBody st_are_rows) (defScope st_are_rows) .none kV3 dc3 pm3 an3 cd3 ct3), sl3⟩) (c3 : PySem.W.codeIn K cd3 "are_rows" = true) (k3 : PySem.W.keepIn K (.ref f3) = true)
    (a4 : PySem.W.nsIn K mainGlobals "lowest" = some (some (.ref f4))) (l4 : K.lookup f4 = some ⟨oc4, od4, .func (PySem.W.fnOf "lowest" "lowest" (defArgs st_lowest) (defBody st_lowest) (defScope st_lowest) .none kV4 dc4 pm4 an4 cd4 ct4), sl4⟩) (c4 : PySem.W.codeIn K cd4 "lowest" = true) (k4 : PySem.W.keepIn K (.ref f4) = true)
    (a5 : PySem.W.nsIn K mainGlobals "added" = some (some (.ref f5))) (l5 : K.lookup f5 = some ⟨oc5, od5, .func (PySem.W.fnOf "added" "added" (defArgs st_added) (defBody st_added) (defScope st_added) .none kV5 dc5 pm5 an5 cd5 ct5), sl5⟩) (c5 : PySem.W.codeIn K cd5 "added" = true) (k5 : PySem.W.keepIn K (.ref f5) = true)
    (a6 : PySem.W.nsIn K mainGlobals "mean" = some (some (.ref f6))) (l6 : K.lookup f6 = some ⟨oc6, od6, .func (PySem.W.fnOf "mean" "mean" (defArgs st_mean) (defBody st_mean) (defScope st_mean) .none kV6 dc6 pm6 an6 cd6 ct6), sl6⟩) (c6 : PySem.W.codeIn K cd6 "mean" = true) (k6 : PySem.W.keepIn K (.ref f6) = true)
    (a7 : PySem.W.nsIn K mainGlobals "hours" = some (some (.ref f7))) (l7 : K.lookup f7 = some ⟨oc7, od7, .func (PySem.W.fnOf "hours" "hours" (defArgs st_hours) (defBody st_hours) (defScope st_hours) .none kV7 dc7 pm7 an7 cd7 ct7), sl7⟩) (c7 : PySem.W.codeIn K cd7 "hours" = true) (k7 : PySem.W.keepIn K (.ref f7) = true)
    (a8 : PySem.W.nsIn K mainGlobals "grade_place" = some (some (.ref f8))) (l8 : K.lookup f8 = some ⟨oc8, od8, .func (PySem.W.fnOf "grade_place" "grade_place" (defArgs st_grade_place) (defBody st_grade_place) (defScope st_grade_place) .none kV8 dc8 pm8 an8 cd8 ct8), sl8⟩) (c8 : PySem.W.codeIn K cd8 "grade_place" = true) (k8 : PySem.W.keepIn K (.ref f8) = true)
    (a9 : PySem.W.nsIn K mainGlobals "result" = some (some (.ref f9))) (l9 : K.lookup f9 = some ⟨oc9, od9, .func (PySem.W.fnOf "result" "result" (defArgs st_result) (defBody st_result) (defScope st_result) .none kV9 dc9 pm9 an9 cd9 ct9), sl9⟩) (c9 : PySem.W.codeIn K cd9 "result" = true) (k9 : PySem.W.keepIn K (.ref f9) = true)
    (a10 : PySem.W.nsIn K mainGlobals "has_grade" = some (some (.ref f10))) (l10 : K.lookup f10 = some ⟨oc10, od10, .func (PySem.W.fnOf "has_grade" "has_grade" (defArgs st_has_grade) (defBody st_has_grade) (defScope st_has_grade) .none kV10 dc10 pm10 an10 cd10 ct10), sl10⟩) (c10 : PySem.W.codeIn K cd10 "has_grade" = true) (k10 : PySem.W.keepIn K (.ref f10) = true)
    (a11 : PySem.W.nsIn K mainGlobals "is_good" = some (some (.ref f11))) (l11 : K.lookup f11 = some ⟨oc11, od11, .func (PySem.W.fnOf "is_good" "is_good" (defArgs st_is_good) (defBody st_is_good) (defScope st_is_good) .none kV11 dc11 pm11 an11 cd11 ct11), sl11⟩) (c11 : PySem.W.codeIn K cd11 "is_good" = true) (k11 : PySem.W.keepIn K (.ref f11) = true)
    (a12 : PySem.W.nsIn K mainGlobals "standing" = some (some (.ref f12))) (l12 : K.lookup f12 = some ⟨oc12, od12, .func (PySem.W.fnOf "standing" "standing" (defArgs st_standing) (defBody st_standing) (defScope st_standing) .none kV12 dc12 pm12 an12 cd12 ct12), sl12⟩) (c12 : PySem.W.codeIn K cd12 "standing" = true) (k12 : PySem.W.keepIn K (.ref f12) = true)
    (a13 : PySem.W.nsIn K mainGlobals "passed" = some (some (.ref f13))) (l13 : K.lookup f13 = some ⟨oc13, od13, .func (PySem.W.fnOf "passed" "passed" (defArgs st_passed) (defBody st_passed) (defScope st_passed) .none kV13 dc13 pm13 an13 cd13 ct13), sl13⟩) (c13 : PySem.W.codeIn K cd13 "passed" = true) (k13 : PySem.W.keepIn K (.ref f13) = true)
    (a14 : PySem.W.nsIn K mainGlobals "report" = some (some (.ref f14))) (l14 : K.lookup f14 = some ⟨oc14, od14, .func (PySem.W.fnOf "report" "report" (defArgs st_report) (defBody st_report) (defScope st_report) .none kV14 dc14 pm14 an14 cd14 ct14), sl14⟩) (c14 : PySem.W.codeIn K cd14 "report" = true) (k14 : PySem.W.keepIn K (.ref f14) = true)
    (a15 : PySem.W.nsIn K mainGlobals "are_kinds" = some (some (.ref f15))) (l15 : K.lookup f15 = some ⟨oc15, od15, .func (PySem.W.fnOf "are_kinds" "are_kinds" (defArgs st_are_kinds) (defBody st_are_kinds) (defScope st_are_kinds) .none kV15 dc15 pm15 an15 cd15 ct15), sl15⟩) (c15 : PySem.W.codeIn K cd15 "are_kinds" = true) (k15 : PySem.W.keepIn K (.ref f15) = true)
    (a16 : PySem.W.nsIn K mainGlobals "are_grades" = some (some (.ref f16))) (l16 : K.lookup f16 = some ⟨oc16, od16, .func (PySem.W.fnOf "are_grades" "are_grades" (defArgs st_are_grades) (defBody st_are_grades) (defScope st_are_grades) .none kV16 dc16 pm16 an16 cd16 ct16), sl16⟩) (c16 : PySem.W.codeIn K cd16 "are_grades" = true) (k16 : PySem.W.keepIn K (.ref f16) = true)
    (a17 : PySem.W.nsIn K mainGlobals "are_rules" = some (some (.ref f17))) (l17 : K.lookup f17 = some ⟨oc17, od17, .func (PySem.W.fnOf "are_rules" "are_rules" (defArgs st_are_rules) (defBody st_are_rules) (defScope st_are_rules) .none kV17 dc17 pm17 an17 cd17 ct17), sl17⟩) (c17 : PySem.W.codeIn K cd17 "are_rules" = true) (k17 : PySem.W.keepIn K (.ref f17) = true)
    (a18 : PySem.W.nsIn K mainGlobals "is_day" = some (some (.ref f18))) (l18 : K.lookup f18 = some ⟨oc18, od18, .func (PySem.W.fnOf "is_day" "is_day" (defArgs st_is_day) (defBody st_is_day) (defScope st_is_day) .none kV18 dc18 pm18 an18 cd18 ct18), sl18⟩) (c18 : PySem.W.codeIn K cd18 "is_day" = true) (k18 : PySem.W.keepIn K (.ref f18) = true)
    (a19 : PySem.W.nsIn K mainGlobals "are_marks" = some (some (.ref f19))) (l19 : K.lookup f19 = some ⟨oc19, od19, .func (PySem.W.fnOf "are_marks" "are_marks" (defArgs st_are_marks) (defBody st_are_marks) (defScope st_are_marks) .none kV19 dc19 pm19 an19 cd19 ct19), sl19⟩) (c19 : PySem.W.codeIn K cd19 "are_marks" = true) (k19 : PySem.W.keepIn K (.ref f19) = true)
    (a20 : PySem.W.nsIn K mainGlobals "are_gaps" = some (some (.ref f20))) (l20 : K.lookup f20 = some ⟨oc20, od20, .func (PySem.W.fnOf "are_gaps" "are_gaps" (defArgs st_are_gaps) (defBody st_are_gaps) (defScope st_are_gaps) .none kV20 dc20 pm20 an20 cd20 ct20), sl20⟩) (c20 : PySem.W.codeIn K cd20 "are_gaps" = true) (k20 : PySem.W.keepIn K (.ref f20) = true)
    (a21 : PySem.W.nsIn K mainGlobals "is_take" = some (some (.ref f21))) (l21 : K.lookup f21 = some ⟨oc21, od21, .func (PySem.W.fnOf "is_take" "is_take" (defArgs st_is_take) (defBody st_is_take) (defScope st_is_take) .none kV21 dc21 pm21 an21 cd21 ct21), sl21⟩) (c21 : PySem.W.codeIn K cd21 "is_take" = true) (k21 : PySem.W.keepIn K (.ref f21) = true)
    (a22 : PySem.W.nsIn K mainGlobals "is_year" = some (some (.ref f22))) (l22 : K.lookup f22 = some ⟨oc22, od22, .func (PySem.W.fnOf "is_year" "is_year" (defArgs st_is_year) (defBody st_is_year) (defScope st_is_year) .none kV22 dc22 pm22 an22 cd22 ct22), sl22⟩) (c22 : PySem.W.codeIn K cd22 "is_year" = true) (k22 : PySem.W.keepIn K (.ref f22) = true)
    (a23 : PySem.W.nsIn K mainGlobals "is_entry" = some (some (.ref f23))) (l23 : K.lookup f23 = some ⟨oc23, od23, .func (PySem.W.fnOf "is_entry" "is_entry" (defArgs st_is_entry) (defBody st_is_entry) (defScope st_is_entry) .none kV23 dc23 pm23 an23 cd23 ct23), sl23⟩) (c23 : PySem.W.codeIn K cd23 "is_entry" = true) (k23 : PySem.W.keepIn K (.ref f23) = true)
    (a24 : PySem.W.nsIn K mainGlobals "is_record" = some (some (.ref f24))) (l24 : K.lookup f24 = some ⟨oc24, od24, .func (PySem.W.fnOf "is_record" "is_record" (defArgs st_is_record) (defBody st_is_record) (defScope st_is_record) .none kV24 dc24 pm24 an24 cd24 ct24), sl24⟩) (c24 : PySem.W.codeIn K cd24 "is_record" = true) (k24 : PySem.W.keepIn K (.ref f24) = true)
    (a25 : PySem.W.nsIn K mainGlobals "_law_bag" = some (some (.ref f25))) (l25 : K.lookup f25 = some ⟨oc25, od25, .func (PySem.W.fnOf "_law_bag" "_law_bag" (defArgs st__law_bag) (defBody st__law_bag) (defScope st__law_bag) .none kV25 dc25 pm25 an25 cd25 ct25), sl25⟩) (c25 : PySem.W.codeIn K cd25 "_law_bag" = true) (k25 : PySem.W.keepIn K (.ref f25) = true)
    (a26 : PySem.W.nsIn K mainGlobals "_law_take" = some (some (.ref f26))) (l26 : K.lookup f26 = some ⟨oc26, od26, .func (PySem.W.fnOf "_law_take" "_law_take" (defArgs st__law_take) (defBody st__law_take) (defScope st__law_take) .none kV26 dc26 pm26 an26 cd26 ct26), sl26⟩) (c26 : PySem.W.codeIn K cd26 "_law_take" = true) (k26 : PySem.W.keepIn K (.ref f26) = true)
    (a27 : PySem.W.nsIn K mainGlobals "_law_frac" = some (some (.ref f27))) (l27 : K.lookup f27 = some ⟨oc27, od27, .func (PySem.W.fnOf "_law_frac" "_law_frac" (defArgs st__law_frac) (defBody st__law_frac) (defScope st__law_frac) .none kV27 dc27 pm27 an27 cd27 ct27), sl27⟩) (c27 : PySem.W.codeIn K cd27 "_law_frac" = true) (k27 : PySem.W.keepIn K (.ref f27) = true)
    (a28 : PySem.W.nsIn K mainGlobals "_law_takes_right" = some (some (.ref f28))) (l28 : K.lookup f28 = some ⟨oc28, od28, .func (PySem.W.fnOf "_law_takes_right" "_law_takes_right" (defArgs st__law_takes_right) (defBody st__law_takes_right) (defScope st__law_takes_right) .none kV28 dc28 pm28 an28 cd28 ct28), sl28⟩) (c28 : PySem.W.codeIn K cd28 "_law_takes_right" = true) (k28 : PySem.W.keepIn K (.ref f28) = true)
    (a29 : PySem.W.nsIn K mainGlobals "_law_standing_right" = some (some (.ref f29))) (l29 : K.lookup f29 = some ⟨oc29, od29, .func (PySem.W.fnOf "_law_standing_right" "_law_standing_right" (defArgs st__law_standing_right) (defBody st__law_standing_right) (defScope st__law_standing_right) .none kV29 dc29 pm29 an29 cd29 ct29), sl29⟩) (c29 : PySem.W.codeIn K cd29 "_law_standing_right" = true) (k29 : PySem.W.keepIn K (.ref f29) = true)
    (a30 : PySem.W.nsIn K mainGlobals "law" = some (some (.ref f30))) (l30 : K.lookup f30 = some ⟨oc30, od30, .func (PySem.W.fnOf "law" "law" (defArgs st_law) (defBody st_law) (defScope st_law) .none kV30 dc30 pm30 an30 cd30 ct30), sl30⟩) (c30 : PySem.W.codeIn K cd30 "law" = true) (k30 : PySem.W.keepIn K (.ref f30) = true)
    {t_MOST_KINDS : Tok} (g_MOST_KINDS : PySem.W.nsIn K mainGlobals "MOST_KINDS" = some (some (.int 4 t_MOST_KINDS)))
    {t_MOST_GRADES : Tok} (g_MOST_GRADES : PySem.W.nsIn K mainGlobals "MOST_GRADES" = some (some (.int 6 t_MOST_GRADES)))
    {t_MOST_MARKS : Tok} (g_MOST_MARKS : PySem.W.nsIn K mainGlobals "MOST_MARKS" = some (some (.int 12 t_MOST_MARKS)))
    {t_MOST_TAKES : Tok} (g_MOST_TAKES : PySem.W.nsIn K mainGlobals "MOST_TAKES" = some (some (.int 8 t_MOST_TAKES)))
    {t_MOST_ENTRIES : Tok} (g_MOST_ENTRIES : PySem.W.nsIn K mainGlobals "MOST_ENTRIES" = some (some (.int 6 t_MOST_ENTRIES)))
    {t_LAST_DAY : Tok} (g_LAST_DAY : PySem.W.nsIn K mainGlobals "LAST_DAY" = some (some (.int 400 t_LAST_DAY)))
    (z_abs : PySem.W.nsIn K mainGlobals "abs" = some none)
    (z_all : PySem.W.nsIn K mainGlobals "all" = some none)
    (z_any : PySem.W.nsIn K mainGlobals "any" = some none)
    (z_bool : PySem.W.nsIn K mainGlobals "bool" = some none)
    (z_int : PySem.W.nsIn K mainGlobals "int" = some none)
    (z_isinstance : PySem.W.nsIn K mainGlobals "isinstance" = some none)
    (z_len : PySem.W.nsIn K mainGlobals "len" = some none)
    (z_list : PySem.W.nsIn K mainGlobals "list" = some none)
    (z_min : PySem.W.nsIn K mainGlobals "min" = some none)
    (z_range : PySem.W.nsIn K mainGlobals "range" = some none)
    (z_sorted : PySem.W.nsIn K mainGlobals "sorted" = some none)
    (z_str : PySem.W.nsIn K mainGlobals "str" = some none)
    (z_sum : PySem.W.nsIn K mainGlobals "sum" = some none)
    (z_tuple : PySem.W.nsIn K mainGlobals "tuple" = some none)
    (z_zip : PySem.W.nsIn K mainGlobals "zip" = some none)
    : ∃ fd : FuncData, (∀ (s : Shared) (v : Value), BindsTo s fd ⟨[v], []⟩ [("script", v)]) ∧ ∀ base : Heap, K.In base → base.Ns mainGlobals mg → FnOk l.prog w K mg base CX0 8 fa fd ["script"] (spF K noCls false true 1 fs_law) := by
  have e := hfa.symm.trans (PySem.W.mg_of X G a30)
  cases e
  have T : TX mg := ⟨PySem.W.mg_none_of X G z_abs, PySem.W.mg_none_of X G z_all, PySem.W.mg_none_of X G z_any, PySem.W.mg_none_of X G z_bool, PySem.W.mg_none_of X G z_int, PySem.W.mg_none_of X G z_isinstance, PySem.W.mg_none_of X G z_len, PySem.W.mg_none_of X G z_list, PySem.W.mg_none_of X G z_min, PySem.W.mg_none_of X G z_range, PySem.W.mg_none_of X G z_sorted, PySem.W.mg_none_of X G z_str, PySem.W.mg_none_of X G z_sum, PySem.W.mg_none_of X G z_tuple, PySem.W.mg_none_of X G z_zip, ⟨_, PySem.W.mg_of X G g_MOST_KINDS⟩, ⟨_, PySem.W.mg_of X G g_MOST_GRADES⟩, ⟨_, PySem.W.mg_of X G g_MOST_MARKS⟩, ⟨_, PySem.W.mg_of X G g_MOST_TAKES⟩, ⟨_, PySem.W.mg_of X G g_MOST_ENTRIES⟩, ⟨_, PySem.W.mg_of X G g_LAST_DAY⟩⟩
  refine ⟨PySem.W.fnOf "law" "law" (defArgs st_law) (defBody st_law) (defScope st_law) .none kV30 dc30 pm30 an30 cd30 ct30, fun s v => .of_eq rfl, fun base _ _ => ?_⟩
  have F25 := fun_mk (st := st__law_bag) l25 c25 k25
  have b25 := F25.binds (ps := ["script", "k"]) fun _ _ _ _ _ _ us hl => match us, hl with | [_, _], _ => rfl
  have G__law_bag := D__law_bag (P := l.prog) (w := w) (base := base) (cls := noCls) T F25 (PySem.W.mg_of X G a25) b25 
  have F4 := fun_mk (st := st_lowest) l4 c4 k4
  have b4 := F4.binds (ps := ["top", "bottom"]) fun _ _ _ _ _ _ us hl => match us, hl with | [_, _], _ => rfl
  have G_lowest := D_lowest (P := l.prog) (w := w) (base := base) (cls := noCls) T F4 (PySem.W.mg_of X G a4) b4 
  have F5 := fun_mk (st := st_added) l5 c5 k5
  have b5 := F5.binds (ps := ["one", "other"]) fun _ _ _ _ _ _ us hl => match us, hl with | [_, _], _ => rfl
  have G_added := D_added (P := l.prog) (w := w) (base := base) (cls := noCls) T F5 (PySem.W.mg_of X G a5) b5 G_lowest
  have F6 := fun_mk (st := st_mean) l6 c6 k6
  have b6 := F6.binds (ps := ["rules", "take"]) fun _ _ _ _ _ _ us hl => match us, hl with | [_, _], _ => rfl
  have G_mean := D_mean (P := l.prog) (w := w) (base := base) (cls := noCls) T F6 (PySem.W.mg_of X G a6) b6 G_lowest G_added
  have F7 := fun_mk (st := st_hours) l7 c7 k7
  have b7 := F7.binds (ps := ["take", "excused"]) fun _ _ _ _ _ _ us hl => match us, hl with | [_, _], _ => rfl
  have G_hours := D_hours (P := l.prog) (w := w) (base := base) (cls := noCls) T F7 (PySem.W.mg_of X G a7) b7 
  have F10 := fun_mk (st := st_has_grade) l10 c10 k10
  have b10 := F10.binds (ps := ["rules", "take"]) fun _ _ _ _ _ _ us hl => match us, hl with | [_, _], _ => rfl
  have G_has_grade := D_has_grade (P := l.prog) (w := w) (base := base) (cls := noCls) T F10 (PySem.W.mg_of X G a10) b10 G_hours
  have F8 := fun_mk (st := st_grade_place) l8 c8 k8
  have b8 := F8.binds (ps := ["rules", "value"]) fun _ _ _ _ _ _ us hl => match us, hl with | [_, _], _ => rfl
  have G_grade_place := D_grade_place (P := l.prog) (w := w) (base := base) (cls := noCls) T F8 (PySem.W.mg_of X G a8) b8 
  have F11 := fun_mk (st := st_is_good) l11 c11 k11
  have b11 := F11.binds (ps := ["rules", "take"]) fun _ _ _ _ _ _ us hl => match us, hl with | [_, _], _ => rfl
  have G_is_good := D_is_good (P := l.prog) (w := w) (base := base) (cls := noCls) T F11 (PySem.W.mg_of X G a11) b11 G_has_grade G_grade_place G_mean
  have F12 := fun_mk (st := st_standing) l12 c12 k12
  have b12 := F12.binds (ps := ["entry"]) fun _ _ _ _ _ _ us hl => match us, hl with | [_], _ => rfl
  have G_standing := D_standing (P := l.prog) (w := w) (base := base) (cls := noCls) T F12 (PySem.W.mg_of X G a12) b12 G_hours G_is_good
  have F9 := fun_mk (st := st_result) l9 c9 k9
  have b9 := F9.binds (ps := ["rules", "take"]) fun _ _ _ _ _ _ us hl => match us, hl with | [_, _], _ => rfl
  have G_result := D_result (P := l.prog) (w := w) (base := base) (cls := noCls) T F9 (PySem.W.mg_of X G a9) b9 G_mean G_hours G_grade_place
  have F14 := fun_mk (st := st_report) l14 c14 k14
  have b14 := F14.binds (ps := ["entry"]) fun _ _ _ _ _ _ us hl => match us, hl with | [_], _ => rfl
  have G_report := D_report (P := l.prog) (w := w) (base := base) (cls := noCls) T F14 (PySem.W.mg_of X G a14) b14 G_mean G_has_grade G_lowest G_standing G_result G_is_good G_hours G_added
  have F27 := fun_mk (st := st__law_frac) l27 c27 k27
  have b27 := F27.binds (ps := ["top", "bottom"]) fun _ _ _ _ _ _ us hl => match us, hl with | [_, _], _ => rfl
  have G__law_frac := D__law_frac (P := l.prog) (w := w) (base := base) (cls := noCls) T F27 (PySem.W.mg_of X G a27) b27 
  have F13 := fun_mk (st := st_passed) l13 c13 k13
  have b13 := F13.binds (ps := ["record", "year"]) fun _ _ _ _ _ _ us hl => match us, hl with | [_, _], _ => rfl
  have G_passed := D_passed (P := l.prog) (w := w) (base := base) (cls := noCls) T F13 (PySem.W.mg_of X G a13) b13 G_is_good
  have F29 := fun_mk (st := st__law_standing_right) l29 c29 k29
  have b29 := F29.binds (ps := ["bag"]) fun _ _ _ _ _ _ us hl => match us, hl with | [_], _ => rfl
  have G__law_standing_right := D__law_standing_right (P := l.prog) (w := w) (base := base) (cls := noCls) T F29 (PySem.W.mg_of X G a29) b29 G_report G_standing G__law_frac G_passed
  have F26 := fun_mk (st := st__law_take) l26 c26 k26
  have b26 := F26.binds (ps := ["bag", "count"]) fun _ _ _ _ _ _ us hl => match us, hl with | [_, _], _ => rfl
  have G__law_take := D__law_take (P := l.prog) (w := w) (base := base) (cls := noCls) T F26 (PySem.W.mg_of X G a26) b26 
  have F2 := fun_mk (st := st_rises) l2 c2 k2
  have b2 := F2.binds (ps := ["some"]) fun _ _ _ _ _ _ us hl => match us, hl with | [_], _ => rfl
  have G_rises := D_rises (P := l.prog) (w := w) (base := base) (cls := noCls) T F2 (PySem.W.mg_of X G a2) b2 
  have F3 := fun_mk (st := st_are_rows) l3 c3 k3
  have b3 := F3.binds (ps := ["thing", "most", "many"]) fun _ _ _ _ _ _ us hl => match us, hl with | [_, _, _], _ => rfl
  have G_are_rows := D_are_rows (P := l.prog) (w := w) (base := base) (cls := noCls) T F3 (PySem.W.mg_of X G a3) b3 
  have F0 := fun_mk (st := st_is_from) l0 c0 k0
  have b0 := F0.binds (ps := ["thing", "low", "high"]) fun _ _ _ _ _ _ us hl => match us, hl with | [_, _, _], _ => rfl
  have G_is_from := D_is_from (P := l.prog) (w := w) (base := base) (cls := noCls) T F0 (PySem.W.mg_of X G a0) b0 
  have F22 := fun_mk (st := st_is_year) l22 c22 k22
  have b22 := F22.binds (ps := ["thing"]) fun _ _ _ _ _ _ us hl => match us, hl with | [_], _ => rfl
  have G_is_year := D_is_year (P := l.prog) (w := w) (base := base) (cls := noCls) T F22 (PySem.W.mg_of X G a22) b22 G_is_from
  have F1 := fun_mk (st := st_is_name) l1 c1 k1
  have b1 := F1.binds (ps := ["thing"]) fun _ _ _ _ _ _ us hl => match us, hl with | [_], _ => rfl
  have G_is_name := D_is_name (P := l.prog) (w := w) (base := base) (cls := noCls) T F1 (PySem.W.mg_of X G a1) b1 
  have F15 := fun_mk (st := st_are_kinds) l15 c15 k15
  have b15 := F15.binds (ps := ["thing"]) fun _ _ _ _ _ _ us hl => match us, hl with | [_], _ => rfl
  have G_are_kinds := D_are_kinds (P := l.prog) (w := w) (base := base) (cls := noCls) T F15 (PySem.W.mg_of X G a15) b15 G_rises G_are_rows G_is_name G_is_from
  have F16 := fun_mk (st := st_are_grades) l16 c16 k16
  have b16 := F16.binds (ps := ["thing"]) fun _ _ _ _ _ _ us hl => match us, hl with | [_], _ => rfl
  have G_are_grades := D_are_grades (P := l.prog) (w := w) (base := base) (cls := noCls) T F16 (PySem.W.mg_of X G a16) b16 G_rises G_are_rows G_is_from G_is_name
  have F17 := fun_mk (st := st_are_rules) l17 c17 k17
  have b17 := F17.binds (ps := ["thing"]) fun _ _ _ _ _ _ us hl => match us, hl with | [_], _ => rfl
  have G_are_rules := D_are_rules (P := l.prog) (w := w) (base := base) (cls := noCls) T F17 (PySem.W.mg_of X G a17) b17 G_is_from G_are_kinds G_are_grades
  have F18 := fun_mk (st := st_is_day) l18 c18 k18
  have b18 := F18.binds (ps := ["thing"]) fun _ _ _ _ _ _ us hl => match us, hl with | [_], _ => rfl
  have G_is_day := D_is_day (P := l.prog) (w := w) (base := base) (cls := noCls) T F18 (PySem.W.mg_of X G a18) b18 G_is_from
  have F19 := fun_mk (st := st_are_marks) l19 c19 k19
  have b19 := F19.binds (ps := ["rules", "thing"]) fun _ _ _ _ _ _ us hl => match us, hl with | [_, _], _ => rfl
  have G_are_marks := D_are_marks (P := l.prog) (w := w) (base := base) (cls := noCls) T F19 (PySem.W.mg_of X G a19) b19 G_rises G_are_rows G_is_day G_is_from
  have F20 := fun_mk (st := st_are_gaps) l20 c20 k20
  have b20 := F20.binds (ps := ["thing"]) fun _ _ _ _ _ _ us hl => match us, hl with | [_], _ => rfl
  have G_are_gaps := D_are_gaps (P := l.prog) (w := w) (base := base) (cls := noCls) T F20 (PySem.W.mg_of X G a20) b20 G_rises G_are_rows G_is_day G_is_from
  have F21 := fun_mk (st := st_is_take) l21 c21 k21
  have b21 := F21.binds (ps := ["rules", "thing"]) fun _ _ _ _ _ _ us hl => match us, hl with | [_, _], _ => rfl
  have G_is_take := D_is_take (P := l.prog) (w := w) (base := base) (cls := noCls) T F21 (PySem.W.mg_of X G a21) b21 G_are_marks G_are_gaps G_is_name G_is_from
  have F23 := fun_mk (st := st_is_entry) l23 c23 k23
  have b23 := F23.binds (ps := ["thing"]) fun _ _ _ _ _ _ us hl => match us, hl with | [_], _ => rfl
  have G_is_entry := D_is_entry (P := l.prog) (w := w) (base := base) (cls := noCls) T F23 (PySem.W.mg_of X G a23) b23 G_are_rows G_rises G_is_year G_are_rules G_is_name G_is_take
  have F24 := fun_mk (st := st_is_record) l24 c24 k24
  have b24 := F24.binds (ps := ["thing"]) fun _ _ _ _ _ _ us hl => match us, hl with | [_], _ => rfl
  have G_is_record := D_is_record (P := l.prog) (w := w) (base := base) (cls := noCls) T F24 (PySem.W.mg_of X G a24) b24 G_rises G_are_rows G_is_entry
  have F28 := fun_mk (st := st__law_takes_right) l28 c28 k28
  have b28 := F28.binds (ps := ["bag", "bound"]) fun _ _ _ _ _ _ us hl => match us, hl with | [_, _], _ => rfl
  have G__law_takes_right := D__law_takes_right (P := l.prog) (w := w) (base := base) (cls := noCls) T F28 (PySem.W.mg_of X G a28) b28 G__law_take G_is_record G_mean G_result G_is_good
  have F30 := fun_mk (st := st_law) l30 c30 k30
  exact D_law (P := l.prog) (w := w) (base := base) (cls := noCls) T F30 G__law_bag G__law_standing_right G__law_take G__law_takes_right
end Y

set_option Elab.async false
set_option linter.all false
set_option maxRecDepth 100000
set_option maxHeartbeats 4000000
/-! what every law wants: steps, loops, draws, names -/
namespace Y
open PySem PySem.Spec PyProof.Rows L2 PySem.W
theorem sz0 : (0 ≤ sizeLine) = True := eq_true (by decide)
theorem sz1 : (1 ≤ sizeLine) = True := eq_true (by decide)
theorem sz2 : (2 ≤ sizeLine) = True := eq_true (by decide)
theorem sz3 : (3 ≤ sizeLine) = True := eq_true (by decide)
theorem sz4 : (4 ≤ sizeLine) = True := eq_true (by decide)
theorem sz5 : (5 ≤ sizeLine) = True := eq_true (by decide)
def BagOk (b : D) : Prop := ∃ c s : Int, b = .nd .lst [.int c, .int s] ∧ 0 ≤ c ∧ 0 ≤ s ∧ s < 2147483647
theorem take_ok {b : D} (h : BagOk b) {n : Int} (h1 : 0 < n) (h2 : n < 1073741824) : ∃ r b', fs__law_take [b, .int n] = .val false (.int r) (some b') ∧ BagOk b' ∧ 0 ≤ r ∧ r < n := by
  obtain ⟨c, s, rfl, hc, hs, hs2⟩ := h
  by_cases c0 : 0 < c
  · refine ⟨c % n, .nd .lst [.int (c / n), .int s], ?_, ⟨_, _, rfl, ?_, hs, hs2⟩, Int.emod_nonneg _ (by omega), Int.emod_lt_of_pos _ h1⟩
    · simp [fs__law_take, m__law_take, runF, argS, finF, outs, sSeq, sq, bnd, lift, sVar, sBor, sFrz, sMov, sC, sBin, sCmp, sChain, sTru, tru, sAndT, sOrT, sNotT, sAndV, sOrV, sNotV, sIf, sNil, sCons, sMk, s1, sN, sNx, sDrop, sRet, sRetO, sIfS, sSet, sSetO, sAsg, sPut, ownD, chg, ownL, isLst, sMeth, sIxV, bor, sCall, sCallO, sCallI, sCallIO, gSetL, ixN, dIx, atI, dGt, cmpI, dMod, dDiv, dMul, dPlus, dAdd, dSub, dNeg, dLt, dLen', dLen, sSlc, sSlcV, sPt, sNoPt, sIt, itD, sRg, rg1, hName, hTup, hCons, hNil, sFor, List.replicate, sPar2, pO, pF, pNil, noB, sIsiV, isTy, tyN, isA, sCmpV, sz0, sz1, sz2, sz3, sz4, sz5, c0, h1, h2]
    · exact Int.ediv_nonneg hc (by omega)
  · have q0 := Int.emod_nonneg (s * 48271) (b := 2147483647) (by decide)
    have q1 := Int.emod_lt_of_pos (s * 48271) (b := 2147483647) (by decide)
    have p0 := Int.emod_nonneg (s * 48271 % 2147483647) (b := 32749) (by decide)
    have p1 := Int.emod_lt_of_pos (s * 48271 % 2147483647) (b := 32749) (by decide)
    refine ⟨(s * 48271 % 2147483647) / 13 * (s * 48271 % 2147483647 % 32749 + 17) % 2147483629 / 32 % n, .nd .lst [.int c, .int (s * 48271 % 2147483647)], ?_, ⟨_, _, rfl, hc, q0, q1⟩, Int.emod_nonneg _ (by omega), Int.emod_lt_of_pos _ h1⟩
    have e2 : (-18446744073709551616 < s * 48271 % 2147483647 / 13 ∧ s * 48271 % 2147483647 / 13 < 18446744073709551616) := by constructor <;> omega
    simp [fs__law_take, m__law_take, runF, argS, finF, outs, sSeq, sq, bnd, lift, sVar, sBor, sFrz, sMov, sC, sBin, sCmp, sChain, sTru, tru, sAndT, sOrT, sNotT, sAndV, sOrV, sNotV, sIf, sNil, sCons, sMk, s1, sN, sNx, sDrop, sRet, sRetO, sIfS, sSet, sSetO, sAsg, sPut, ownD, chg, ownL, isLst, sMeth, sIxV, bor, sCall, sCallO, sCallI, sCallIO, gSetL, ixN, dIx, atI, dGt, cmpI, dMod, dDiv, dMul, dPlus, dAdd, dSub, dNeg, dLt, dLen', dLen, sSlc, sSlcV, sPt, sNoPt, sIt, itD, sRg, rg1, hName, hTup, hCons, hNil, sFor, List.replicate, sPar2, pO, pF, pNil, noB, sIsiV, isTy, tyN, isA, sCmpV, sz0, sz1, sz2, sz3, sz4, sz5, c0, h1, h2, e2]
def big : Int := 10 ^ 60
theorem pow60 : dPow (.int 10) (.int 60) = some (.int big) := by
  unfold dPow big
  exact if_pos (by decide)
theorem pow18 : dPow (.int 10) (.int 18) = some (.int 1000000000000000000) := by
  unfold dPow
  exact if_pos (by decide)
theorem big_pos : 0 < big := by
  unfold big
  exact Int.pow_pos (by decide)
theorem seq_ok {a b : En → R Fl} {ρ ρ1 : En} (h : a ρ = .ok .nx ρ1) : sSeq a b ρ = b ρ1 := by
  unfold sSeq
  rw [h]
  rfl
def seedOf (c k : Int) : Int := 1 + (c % 2147483629 * 16807 + 40009 * k * k + 7919 * k + 1009) % 2147483645
theorem seed_ok (c k : Int) : 0 ≤ seedOf c k ∧ seedOf c k < 2147483647 := by
  unfold seedOf
  constructor <;> omega
theorem bag_s3 (x : Option S) (y : D) (k c : Int) (e1 : -18446744073709551616 < k ∧ k < 18446744073709551616) : (sSet 3 (sBin dPlus (sC (.int 1)) (sBin dMod (sBin dPlus (sBin dPlus (sBin dPlus (sBin dMul (sBin dMod (sVar 2) (sC (.int 2147483629))) (sC (.int 16807))) (sBin dMul (sBin dMul (sC (.int 40009)) (sBor 1)) (sBor 1))) (sBin dMul (sC (.int 7919)) (sBor 1))) (sC (.int 1009))) (sC (.int 2147483645))))) [x, some (.f (.int k)), some (.f (.int c)), none] = .ok .nx [x, some (.f (.int k)), some (.f (.int c)), some (.f (.int (seedOf c k)))] := by
  simp [seedOf, runF, argS, finF, outs, sSeq, sq, bnd, lift, sVar, sBor, sFrz, sMov, sC, sBin, sCmp, sChain, sTru, tru, sAndT, sOrT, sNotT, sAndV, sOrV, sNotV, sIf, sNil, sCons, sMk, s1, sN, sNx, sDrop, sRet, sRetO, sIfS, sSet, sSetO, sAsg, sPut, ownD, chg, ownL, isLst, sMeth, sIxV, bor, sCall, sCallO, sCallI, sCallIO, gSetL, ixN, dIx, atI, dGt, cmpI, dMod, dDiv, dMul, dPlus, dAdd, dSub, dNeg, dLt, dLen', dLen, sSlc, sSlcV, sPt, sNoPt, sIt, itD, sRg, rg1, hName, hTup, hCons, hNil, sFor, List.replicate, sPar2, pO, pF, pNil, noB, sIsiV, isTy, tyN, isA, sCmpV, sz0, sz1, sz2, sz3, sz4, sz5, e1]
theorem bag_s4 (x y : Option S) (c s : Int) : (sSeq (sIfS (sBin dLt (sVar 2) (sBin dPow (sC (.int 10)) (sC (.int 18))))
  (sRetO (sMk .lst (sCons (sC (.int 0)) (sCons (sVar 3) sNil))))
  sNx)
  (sRetO (sMk .lst (sCons (sVar 2) (sCons (sVar 3) sNil))))) [x, y, some (.f (.int c)), some (.f (.int s))] = .ok (.ro (.nd .lst [.int (if c < 1000000000000000000 then 0 else c), .int s])) [x, y, some (.f (.int c)), some (.f (.int s))] := by
  by_cases h : c < 1000000000000000000
  · simp [runF, argS, finF, outs, sSeq, sq, bnd, lift, sVar, sBor, sFrz, sMov, sC, sBin, sCmp, sChain, sTru, tru, sAndT, sOrT, sNotT, sAndV, sOrV, sNotV, sIf, sNil, sCons, sMk, s1, sN, sNx, sDrop, sRet, sRetO, sIfS, sSet, sSetO, sAsg, sPut, ownD, chg, ownL, isLst, sMeth, sIxV, bor, sCall, sCallO, sCallI, sCallIO, gSetL, ixN, dIx, atI, dGt, cmpI, dMod, dDiv, dMul, dPlus, dAdd, dSub, dNeg, dLt, dLen', dLen, sSlc, sSlcV, sPt, sNoPt, sIt, itD, sRg, rg1, hName, hTup, hCons, hNil, sFor, List.replicate, sPar2, pO, pF, pNil, noB, sIsiV, isTy, tyN, isA, sCmpV, sz0, sz1, sz2, sz3, sz4, sz5, pow18, h]
  · simp [runF, argS, finF, outs, sSeq, sq, bnd, lift, sVar, sBor, sFrz, sMov, sC, sBin, sCmp, sChain, sTru, tru, sAndT, sOrT, sNotT, sAndV, sOrV, sNotV, sIf, sNil, sCons, sMk, s1, sN, sNx, sDrop, sRet, sRetO, sIfS, sSet, sSetO, sAsg, sPut, ownD, chg, ownL, isLst, sMeth, sIxV, bor, sCall, sCallO, sCallI, sCallIO, gSetL, ixN, dIx, atI, dGt, cmpI, dMod, dDiv, dMul, dPlus, dAdd, dSub, dNeg, dLt, dLen', dLen, sSlc, sSlcV, sPt, sNoPt, sIt, itD, sRg, rg1, hName, hTup, hCons, hNil, sFor, List.replicate, sPar2, pO, pF, pNil, noB, sIsiV, isTy, tyN, isA, sCmpV, sz0, sz1, sz2, sz3, sz4, sz5, pow18, h]
theorem bag_ok (ns : List Int) (k : Nat) (hk : k ≤ 1000) : ∃ b, fs__law_bag [.nd .scr (ns.map D.int), .int k] = .val true b none ∧ BagOk b := by
  have e1 : (-18446744073709551616 < (k : Int) ∧ (k : Int) < 18446744073709551616) := by constructor <;> omega
  have bp := big_pos
  have fin : ∀ c : Int, 0 ≤ c → (sIfS (sBin dLt (sVar 1) (s1 dLen' (sBor 0)))
  (sSet 2 (sBin dMod (sBin dIx (sVar 0) (sVar 1)) (sBin dPow (sC (.int 10)) (sC (.int 60)))))
  sNx) [some (.f (.nd .scr (ns.map D.int))), some (.f (.int k)), some (.f (.int 0)), none] = .ok .nx [some (.f (.nd .scr (ns.map D.int))), some (.f (.int k)), some (.f (.int c)), none] → ∃ b, fs__law_bag [.nd .scr (ns.map D.int), .int k] = .val true b none ∧ BagOk b := by
    intro c hc h
    refine ⟨.nd .lst [.int (if c < 1000000000000000000 then 0 else c), .int (seedOf c k)], ?_, _, _, rfl, ?_, seed_ok c k⟩
    · have e : m__law_bag [some (.f (.nd .scr (ns.map D.int))), some (.f (.int k)), none, none] = .ok (.ro (.nd .lst [.int (if c < 1000000000000000000 then 0 else c), .int (seedOf c k)])) [some (.f (.nd .scr (ns.map D.int))), some (.f (.int k)), some (.f (.int c)), some (.f (.int (seedOf c k)))] := by
        unfold m__law_bag
        refine (seq_ok (ρ1 := [some (.f (.nd .scr (ns.map D.int))), some (.f (.int k)), some (.f (.int 0)), none]) rfl).trans ?_
        refine (seq_ok h).trans ?_
        refine (seq_ok (bag_s3 _ .non _ _ e1)).trans ?_
        exact bag_s4 _ _ _ _
      show finF false (m__law_bag _) = _
      rw [show (argS false [.nd .scr (ns.map D.int), .int k] ++ List.replicate (4 - 2) none : En) = [some (.f (.nd .scr (ns.map D.int))), some (.f (.int k)), none, none] from rfl, e]
      rfl
    · split <;> omega
  by_cases h : k < ns.length
  · exact fin (ns[k] % big) (Int.emod_nonneg _ (by omega)) (by simp [runF, argS, finF, outs, sSeq, sq, bnd, lift, sVar, sBor, sFrz, sMov, sC, sBin, sCmp, sChain, sTru, tru, sAndT, sOrT, sNotT, sAndV, sOrV, sNotV, sIf, sNil, sCons, sMk, s1, sN, sNx, sDrop, sRet, sRetO, sIfS, sSet, sSetO, sAsg, sPut, ownD, chg, ownL, isLst, sMeth, sIxV, bor, sCall, sCallO, sCallI, sCallIO, gSetL, ixN, dIx, atI, dGt, cmpI, dMod, dDiv, dMul, dPlus, dAdd, dSub, dNeg, dLt, dLen', dLen, sSlc, sSlcV, sPt, sNoPt, sIt, itD, sRg, rg1, hName, hTup, hCons, hNil, sFor, List.replicate, sPar2, pO, pF, pNil, noB, sIsiV, isTy, tyN, isA, sCmpV, sz0, sz1, sz2, sz3, sz4, sz5, pow60, bp, h])
  · exact fin 0 (Int.le_refl _) (by simp [runF, argS, finF, outs, sSeq, sq, bnd, lift, sVar, sBor, sFrz, sMov, sC, sBin, sCmp, sChain, sTru, tru, sAndT, sOrT, sNotT, sAndV, sOrV, sNotV, sIf, sNil, sCons, sMk, s1, sN, sNx, sDrop, sRet, sRetO, sIfS, sSet, sSetO, sAsg, sPut, ownD, chg, ownL, isLst, sMeth, sIxV, bor, sCall, sCallO, sCallI, sCallIO, gSetL, ixN, dIx, atI, dGt, cmpI, dMod, dDiv, dMul, dPlus, dAdd, dSub, dNeg, dLt, dLen', dLen, sSlc, sSlcV, sPt, sNoPt, sIt, itD, sRg, rg1, hName, hTup, hCons, hNil, sFor, List.replicate, sPar2, pO, pF, pNil, noB, sIsiV, isTy, tyN, isA, sCmpV, sz0, sz1, sz2, sz3, sz4, sz5, h])
theorem forL_inv {g : D → En → Option En} {b : En → R Fl} (I : Nat → En → Prop) : ∀ (ds : List D) (j : Nat) (ρ : En), I j ρ → (∀ i d ρ, ds[i]? = some d → I (j + i) ρ → ∃ ρ1 ρ2, g d ρ = some ρ1 ∧ b ρ1 = .ok .nx ρ2 ∧ I (j + i + 1) ρ2) → ∃ ρ', forL g b ds ρ = .ok .nx ρ' ∧ I (j + ds.length) ρ'
  | [], j, ρ, h, _ => ⟨ρ, rfl, h⟩
  | d :: ds, j, ρ, h, st => by
    obtain ⟨ρ1, ρ2, e1, e2, h2⟩ := st 0 d ρ rfl h
    obtain ⟨ρ', e3, h3⟩ := forL_inv I ds (j + 1) ρ2 h2 fun i d ρ e q => by
      have := st (i + 1) d ρ (by simpa using e) (by rw [show j + (i + 1) = j + 1 + i by omega]; exact q)
      rw [show j + (i + 1) + 1 = j + 1 + i + 1 by omega] at this
      exact this
    refine ⟨ρ', ?_, by rw [List.length_cons, show j + (ds.length + 1) = j + 1 + ds.length by omega]; exact h3⟩
    unfold forL
    rw [e1]
    dsimp only
    rw [e2]
    exact e3
theorem lcL_inv {g : D → En → Option En} {t : En → R Bool} {e : En → R D} {vs : List Nat} (I : Nat → En → List D → Prop) : ∀ (ds : List D) (j : Nat) (ρ : En) (acc : List D), I j ρ acc → acc.length + ds.length ≤ sizeLine →
    (∀ i d ρ acc, ds[i]? = some d → I (j + i) ρ acc → ∃ ρ1 b ρ2, g d ρ = some ρ1 ∧ t ρ1 = .ok b ρ2 ∧ if b = true then ∃ x ρ3, e ρ2 = .ok x ρ3 ∧ I (j + i + 1) (wipeE vs ρ3) (acc ++ [x]) else I (j + i + 1) (wipeE vs ρ2) acc) →
    ∃ acc' ρ', lcL g t e vs ds ρ acc = .ok (.nd .lst acc') ρ' ∧ I (j + ds.length) ρ' acc'
  | [], j, ρ, acc, h, _, _ => ⟨acc, ρ, rfl, h⟩
  | d :: ds, j, ρ, acc, h, hl, st => by
    have st' : ∀ i d ρ acc, ds[i]? = some d → I (j + 1 + i) ρ acc → ∃ ρ1 b ρ2, g d ρ = some ρ1 ∧ t ρ1 = .ok b ρ2 ∧ if b = true then ∃ x ρ3, e ρ2 = .ok x ρ3 ∧ I (j + 1 + i + 1) (wipeE vs ρ3) (acc ++ [x]) else I (j + 1 + i + 1) (wipeE vs ρ2) acc := fun i d ρ acc e q => by
      have := st (i + 1) d ρ acc (by simpa using e) (by rw [show j + (i + 1) = j + 1 + i by omega]; exact q)
      rw [show j + (i + 1) + 1 = j + 1 + i + 1 by omega] at this
      exact this
    rw [List.length_cons] at hl
    obtain ⟨ρ1, b, ρ2, e1, e2, h2⟩ := st 0 d ρ acc rfl h
    unfold lcL
    simp only [e1, e2, noX, bnd]
    cases b with
    | true =>
      obtain ⟨x, ρ3, e3, h3⟩ := h2
      obtain ⟨acc', ρ', e4, h4⟩ := lcL_inv I ds (j + 1) _ _ h3 (by rw [List.length_append, List.length_singleton]; omega) st'
      simp only [e3, noX, bnd, if_true, if_pos (show acc.length < sizeLine by omega)]
      exact ⟨acc', ρ', e4, by rw [List.length_cons, show j + (ds.length + 1) = j + 1 + ds.length by omega]; exact h4⟩
    | false =>
      obtain ⟨acc', ρ', e4, h4⟩ := lcL_inv I ds (j + 1) _ _ h2 (by omega) st'
      exact ⟨acc', ρ', e4, by rw [List.length_cons, show j + (ds.length + 1) = j + 1 + ds.length by omega]; exact h4⟩
abbrev nD (l : List Str) : List D := l.map D.str
abbrev tD (l : List Str) : D := .nd .tup (nD l)
abbrev lD (l : List Str) : D := .nd .lst (nD l)
def NmsOk (l : List Str) : Prop := ∀ s ∈ l, strG s = true
theorem dok_str {s : Str} (h : strG s = true) : dok (.str s) = true := by simp [dok, okD, h, py, PyData.depth]
theorem likeD_names {l : List Str} (h : NmsOk l) : likeD (nD l) = true := by
  unfold likeD
  simp only [Bool.and_eq_true, Bool.or_eq_true, List.all_eq_true, List.mem_map]
  refine ⟨?_, ?_, .inr ?_⟩
  · rintro a ⟨s, _, rfl⟩ b ⟨s', _, rfl⟩
    simp [py, alike]
  · rintro a ⟨s, hs, rfl⟩
    exact dok_str (h s hs)
  · rintro a ⟨s, _, rfl⟩
    rfl
def srt (l : List Str) : List Str := l.mergeSort fun a b => leD (.str a) (.str b)
theorem srt_map (l : List Str) : (nD l).mergeSort leD = nD (srt l) := (sort_maps (r := fun a b => leD (.str a) (.str b)) (s := leD) D.str fun _ _ _ _ => rfl).symm
theorem srt_perm (l : List Str) : (srt l).Perm l := List.mergeSort_perm _ _
theorem sortD_names {l : List Str} (h : NmsOk l) (hl : l.length ≤ sizeLine) : sortD (nD l) = some (lD (srt l)) := by
  unfold sortD
  rw [if_pos ⟨likeD_names h, by rw [List.length_map]; exact hl⟩, srt_map]
theorem inj_str {a b : Str} (h : D.str a = D.str b) : a = b := by cases h; rfl
theorem map_inj_str : ∀ {l m : List Str}, nD l = nD m → l = m
  | [], [], _ => rfl
  | a :: l, b :: m, h => by
    have h1 : D.str a = D.str b := (List.cons.inj h).1
    have h2 : nD l = nD m := (List.cons.inj h).2
    rw [inj_str h1, map_inj_str h2]
  | [], _ :: _, h => by cases h
  | _ :: _, [], h => by cases h
theorem srt_same {l m : List Str} (p : l.Perm m) : srt l = srt m := by
  apply map_inj_str
  rw [← srt_map, ← srt_map]
  refine sort_same (p.map _) ?_
  intro a ha b hb h1 h2
  obtain ⟨s, _, rfl⟩ := List.mem_map.mp ha
  obtain ⟨s', _, rfl⟩ := List.mem_map.mp hb
  simp only [leD_str, decide_eq_true_eq] at h1 h2
  rw [str_ext (List.le_antisymm h1 h2)]
theorem keysD_names : ∀ l : List Str, keysD (nD l) = some (l.map Sum.inr)
  | [] => rfl
  | s :: l => by
    show (match keyD (D.str s), keysD (nD l) with | some k, some ks => some (k :: ks) | _, _ => none) = _
    rw [keysD_names l]
    rfl
def ddS : List Str → List Str
  | [] => []
  | s :: l => if (l.any fun x => decide (x = s)) = true then ddS l else s :: ddS l
theorem ddS_map : ∀ l : List Str, dedupK (l.map Sum.inr) = (ddS l).map Sum.inr
  | [] => rfl
  | s :: l => by
    have e : inKs (l.map (Sum.inr : Str → Key)) (Sum.inr s) = l.any fun x => decide (x = s) := by
      unfold inKs
      rw [List.any_map]
      congr 1
      funext x
      exact key_rr x s
    show (if inKs (l.map Sum.inr) (Sum.inr s) = true then dedupK (l.map Sum.inr) else Sum.inr s :: dedupK (l.map Sum.inr)) = _
    have e3 : ddS (s :: l) = if (l.any fun x => decide (x = s)) = true then ddS l else s :: ddS l := rfl
    rw [e, ddS_map l, e3]
    split <;> rfl
theorem mem_ddS {l : List Str} {s : Str} : s ∈ ddS l ↔ s ∈ l := by
  induction l with
  | nil => exact Iff.rfl
  | cons a l ih =>
    unfold ddS
    split
    · rename_i h
      rw [ih, List.mem_cons]
      refine ⟨.inr, fun z => z.elim (fun e => ?_) id⟩
      obtain ⟨x, h1, h2⟩ := List.any_eq_true.mp h
      rw [e, ← of_decide_eq_true h2]; exact h1
    · rw [List.mem_cons, List.mem_cons, ih]
theorem nodup_ddS : ∀ l : List Str, (ddS l).Nodup
  | [] => List.nodup_nil
  | a :: l => by
    unfold ddS
    split
    · exact nodup_ddS l
    · rename_i h
      refine List.nodup_cons.mpr ⟨fun z => h ?_, nodup_ddS l⟩
      exact List.any_eq_true.mpr ⟨a, mem_ddS.mp z, decide_eq_true rfl⟩
theorem sortSet_names {k : Kd} {l : List Str} (hk : k = .lst ∨ k = .tup) (h : NmsOk l) (hl : l.length + 1 < scanBound) : dSortSet (.nd k (nD l)) = some (lD (srt (ddS l))) := by
  have e1 : (l.map (Sum.inr : Str → Key)).map kD = nD l := by rw [List.map_map]; rfl
  have e2 : ((ddS l).map (Sum.inr : Str → Key)).map kD = nD (ddS l) := by rw [List.map_map]; rfl
  have e : (match keysD (nD l) with
    | some ks => if likeD (ks.map kD) = true ∧ ks.length + 1 < scanBound then some (sortKs ks) else none
    | none => none) = some (lD (srt (ddS l))) := by
    rw [keysD_names]
    dsimp only
    rw [if_pos ⟨by rw [e1]; exact likeD_names h, by rw [List.length_map]; exact hl⟩]
    unfold sortKs
    rw [ddS_map, e2, srt_map]
  rcases hk with rfl | rfl
  · exact e
  · exact e
theorem dok_names {l : List Str} (h : NmsOk l) : okDs (nD l) = true ∧ PyData.depthAll (pys (nD l)) = 0 := by
  induction l with
  | nil => exact ⟨rfl, rfl⟩
  | cons a l ih =>
    obtain ⟨h1, h2⟩ := ih fun s m => h s (List.mem_cons_of_mem _ m)
    have ha : okD (.str a) = true := h a List.mem_cons_self
    constructor
    · show (okD (.str a) && okDs (nD l)) = true
      rw [ha, h1]; rfl
    · show max (PyData.depth (py (.str a))) (PyData.depthAll (pys (nD l))) = 0
      rw [h2]
      simp [py, PyData.depth]
theorem dok_lst {l : List Str} (h : NmsOk l) : dok (lD l) = true := by
  obtain ⟨h1, h2⟩ := dok_names h
  have e : okD (lD l) = okDs (nD l) := by simp [okD]
  have e2 : (py (lD l)).depth = 1 := by
    have : py (lD l) = .list (pys (nD l)) := by simp [py]
    rw [this]
    simp only [PyData.depth]
    rw [h2]
  unfold dok
  rw [e, h1, e2]
  rfl
theorem dEq_self {d : D} (h : dok d = true) : dEq d d = some true := by
  unfold dEq
  rw [if_pos ⟨h, h⟩, SeqAt.eqv_refl _ (canLay_ok d (okD_dok h).1)]
theorem dNe_self {d : D} (h : dok d = true) : dNe d d = some false := by
  unfold dNe
  rw [if_pos ⟨h, h⟩, SeqAt.eqv_refl _ (canLay_ok d (okD_dok h).1)]
  rfl
theorem eqv_str {a b : Str} : PyData.eqv (py (.str a)) (py (.str b)) = decide (a = b) := by
  simp only [py, PyData.eqv]
  by_cases h : a = b
  · subst h; simp
  · simp [h]
theorem any_names (l : List Str) (s : Str) : ((nD l).any fun z => PyData.eqv (py z) (py (.str s))) = decide (s ∈ l) := by
  rw [List.any_map]
  have : ∀ x, ((fun z => PyData.eqv (py z) (py (.str s))) ∘ D.str) x = decide (x = s) := fun x => eqv_str
  rw [Bool.eq_iff_iff, List.any_eq_true, decide_eq_true_eq]
  constructor
  · rintro ⟨x, hx, e⟩
    rw [this] at e
    rw [← of_decide_eq_true e]; exact hx
  · intro h
    exact ⟨s, h, by rw [this]; simp⟩
theorem dIn_lst {l : List Str} {s : Str} (h : NmsOk l) (hs : strG s = true) : dIn (.str s) (lD l) = some (decide (s ∈ l)) := by
  have e : dIn (.str s) (lD l) = if dok (.str s) = true ∧ dok (lD l) = true then some ((nD l).any fun z => PyData.eqv (py z) (py (.str s))) else none := rfl
  rw [e, if_pos ⟨dok_str hs, dok_lst h⟩, any_names]
theorem small {n : Nat} (h : n ≤ 100000) : n ≤ sizeLine := Nat.le_trans h (by decide)
theorem rg_nat (n : Nat) : rgD 0 (n : Int) = (List.range' 0 n).map fun i : Nat => D.int (i : Int) := by
  unfold rgD
  rw [List.range_eq_range']
  have : ((n : Int) - 0).toNat = n := by omega
  rw [this]
  congr 1
  funext i
  simp
theorem rg1_nat {n : Nat} (h : n ≤ 1000000) : rg1 [.int (n : Int)] = some (rgD 0 (n : Int)) := by
  unfold rg1
  dsimp only
  rw [if_pos (by constructor <;> omega)]
theorem rg_ok {g : List D → Option (List D)} {f : En → R (List D)} {ρ ρ1 : En} {ds es : List D} (e : f ρ = .ok ds ρ1) (e2 : g ds = some es) : sRg g f ρ = .ok es ρ1 := by
  unfold sRg
  rw [e]
  show lift (g ds) ρ1 = _
  rw [e2]
  rfl
theorem s1_ok {g : D → Option D} {f : En → R D} {ρ ρ1 : En} {d d' : D} (e : f ρ = .ok d ρ1) (e2 : g d = some d') : s1 g f ρ = .ok d' ρ1 := by
  unfold s1
  rw [e]
  show lift (g d) ρ1 = _
  rw [e2]
  rfl
theorem one_ok {f : En → R D} {ρ ρ1 : En} {d : D} (e : f ρ = .ok d ρ1) : sCons f sNil ρ = .ok [d] ρ1 := by
  unfold sCons
  rw [e]
  rfl
theorem bin_ok {α : Type} {g : D → D → Option α} {a b : En → R D} {ρ ρ1 ρ2 : En} {x y : D} {d : α} (e1 : a ρ = .ok x ρ1) (e2 : b ρ1 = .ok y ρ2) (e3 : g x y = some d) : sBin g a b ρ = .ok d ρ2 := by
  unfold sBin
  rw [e1]
  show bnd (b ρ1) (fun y ρ2 => lift (g x y) ρ2) = _
  rw [e2]
  show lift (g x y) ρ2 = _
  rw [e3]
  rfl
theorem set_none {ρ : En} {i : Nat} (h : ρ[i]? = some none) : ρ.set i none = ρ := by
  obtain ⟨h1, h2⟩ := List.getElem?_eq_some_iff.mp h
  rw [← h2]
  exact List.set_getElem_self h1
theorem wipe_back {ρ : En} {i : Nat} {x : Option S} (h : ρ[i]? = some none) : wipeE [i] (ρ.set i x) = ρ := by
  show (ρ.set i x).set i none = ρ
  rw [List.set_set, set_none h]
theorem var_set {ρ : En} {i : Nat} {d : D} (h : ρ[i]? = some none) : sVar i (ρ.set i (some (.f d))) = .ok d (ρ.set i (some (.f d))) := by
  have hi := (List.getElem?_eq_some_iff.mp h).1
  unfold sVar
  rw [List.getElem?_set_self hi]
theorem lc_map {i : Nat} {e : En → R D} {p : D → D} {ρ : En} (h : ρ[i]? = some none) : ∀ (ds acc : List D), (∀ d ∈ ds, e (ρ.set i (some (.f d))) = .ok (p d) (ρ.set i (some (.f d)))) → acc.length + ds.length ≤ 100000 → lcL (hName i) sYes e [i] ds ρ acc = .ok (.nd .lst (acc ++ ds.map p)) ρ
  | [], acc, _, _ => by rw [List.map_nil, List.append_nil]; rfl
  | d :: ds, acc, he, hl => by
    rw [List.length_cons] at hl
    have ih := lc_map h ds (acc ++ [p d]) (fun x hx => he x (List.mem_cons_of_mem _ hx)) (by rw [List.length_append, List.length_singleton]; omega)
    conv => lhs; unfold lcL
    rw [show hName i d ρ = some (ρ.set i (some (.f d))) from rfl]
    simp only [sYes, noX, bnd, if_true, he d List.mem_cons_self]
    rw [if_pos (Nat.lt_of_le_of_lt (show acc.length ≤ 100000 by omega) (by decide)), wipe_back h, ih]
    simp
theorem lc_filt {i : Nat} {t : En → R Bool} {q : D → Bool} {ρ : En} (h : ρ[i]? = some none) : ∀ (ds acc : List D), (∀ d ∈ ds, t (ρ.set i (some (.f d))) = .ok (q d) (ρ.set i (some (.f d)))) → acc.length + ds.length ≤ 100000 → lcL (hName i) t (sVar i) [i] ds ρ acc = .ok (.nd .lst (acc ++ ds.filter q)) ρ
  | [], acc, _, _ => by rw [List.filter_nil, List.append_nil]; rfl
  | d :: ds, acc, he, hl => by
    rw [List.length_cons] at hl
    have hr := fun x hx => he x (List.mem_cons_of_mem d hx)
    conv => lhs; unfold lcL
    rw [show hName i d ρ = some (ρ.set i (some (.f d))) from rfl]
    simp only [noX, bnd, he d List.mem_cons_self]
    cases hq : q d with
    | true =>
      have ih := lc_filt h ds (acc ++ [d]) hr (by rw [List.length_append, List.length_singleton]; omega)
      simp only [if_true, var_set h, noX, bnd]
      rw [if_pos (Nat.lt_of_le_of_lt (show acc.length ≤ 100000 by omega) (by decide)), wipe_back h, ih, List.filter_cons, if_pos hq]
      simp
    | false =>
      have ih := lc_filt h ds acc hr (by omega)
      simp only [Bool.false_eq_true, if_false]
      rw [wipe_back h, ih, List.filter_cons, if_neg (by rw [hq]; exact Bool.false_ne_true)]
theorem sLc_ok {src : En → R (List D)} {g : D → En → Option En} {t : En → R Bool} {e : En → R D} {vs : List Nat} {ρ ρ1 ρ2 : En} {ds : List D} {d : D} (h1 : src ρ = .ok ds ρ1) (hw : wipeE vs ρ1 = ρ1) (h2 : lcL g t e vs ds ρ1 [] = .ok d ρ2) : sLc src g t e vs ρ = .ok d ρ2 := by
  unfold sLc
  rw [h1]
  show lcL g t e vs ds (wipeE vs ρ1) [] = _
  rw [hw]
  exact h2
theorem bls_map (p : D → Bool) : ∀ ds : List D, blsD (ds.map fun d => D.bl (p d)) = some (ds.map p)
  | [] => rfl
  | d :: ds => by
    rw [List.map_cons, List.map_cons]
    unfold blsD
    rw [bls_map p ds]
    rfl
theorem all_map (p : D → Bool) (ds : List D) : dAll (.nd .lst (ds.map fun d => D.bl (p d))) = some (.bl (ds.all p)) := by
  show (blsD (ds.map fun d => D.bl (p d))).map (fun bs => D.bl (bs.all id)) = _
  rw [bls_map]
  simp
theorem dEq_nil {xs : List D} (h : dok (.nd .lst xs) = true) : dEq (.nd .lst xs) (.nd .lst []) = some xs.isEmpty := by
  unfold dEq
  rw [if_pos ⟨h, rfl⟩]
  cases xs <;> simp [py, pys, PyData.eqv, PyData.eqvAll]
theorem dNe_nil {xs : List D} (h : dok (.nd .lst xs) = true) : dNe (.nd .lst xs) (.nd .lst []) = some (!xs.isEmpty) := by
  unfold dNe
  rw [if_pos ⟨h, rfl⟩]
  cases xs <;> simp [py, pys, PyData.eqv, PyData.eqvAll]
theorem filter_none (q : D → Bool) (ds : List D) : (ds.filter q).isEmpty = ds.all fun d => !q d := by
  induction ds with
  | nil => rfl
  | cons d ds ih =>
    rw [List.filter_cons]
    cases h : q d <;> simp [h, ih]
theorem ret_ok {f : En → R D} {ρ ρ1 : En} {d : D} (e : f ρ = .ok d ρ1) : sRet f ρ = .ok (.rt d) ρ1 := by
  unfold sRet
  rw [e]
  rfl
theorem if_yes {t : En → R Bool} {a b : En → R Fl} {ρ ρ1 : En} (e : t ρ = .ok true ρ1) : sIfS t a b ρ = a ρ1 := by
  unfold sIfS
  rw [e]
  rfl
theorem if_no {t : En → R Bool} {a b : En → R Fl} {ρ ρ1 : En} (e : t ρ = .ok false ρ1) : sIfS t a b ρ = b ρ1 := by
  unfold sIfS
  rw [e]
  rfl
theorem or_no {t u : En → R Bool} {ρ ρ1 ρ2 : En} {b : Bool} (e : t ρ = .ok false ρ1) (e2 : u ρ1 = .ok b ρ2) : sOrT t u ρ = .ok b ρ2 := by
  unfold sOrT
  rw [e]
  exact e2
theorem or_yes {t u : En → R Bool} {ρ ρ1 : En} (e : t ρ = .ok true ρ1) : sOrT t u ρ = .ok true ρ1 := by
  unfold sOrT
  rw [e]
  rfl
theorem not_ok {t : En → R Bool} {ρ ρ1 : En} {b : Bool} (e : t ρ = .ok b ρ1) : sNotT t ρ = .ok (!b) ρ1 := by
  unfold sNotT
  rw [e]
  rfl
theorem tru_ok {f : En → R D} {ρ ρ1 : En} {b : Bool} (e : f ρ = .ok (.bl b) ρ1) : sTru f ρ = .ok b ρ1 := by
  unfold sTru
  rw [e]
  rfl
theorem n_ok {g : List D → Option D} {f : En → R (List D)} {ρ ρ1 : En} {ds : List D} {d : D} (e : f ρ = .ok ds ρ1) (e2 : g ds = some d) : sN g f ρ = .ok d ρ1 := by
  unfold sN
  rw [e]
  show lift (g ds) ρ1 = _
  rw [e2]
  rfl
theorem fin_ok {m : En → R Fl} {np n : Nat} {ds : List D} {ρ : En} {d : D} (hl : ds.length = np) (e : m (argS false ds ++ List.replicate (n - np) none) = .ok (.rt d) ρ) : runF false np n m ds = .val false d none := by
  unfold runF
  rw [if_pos hl, e]
  rfl
theorem okDs_of {xs : List D} {n : Nat} (h : ∀ x ∈ xs, okD x = true ∧ (py x).depth ≤ n) : okDs xs = true ∧ PyData.depthAll (pys xs) ≤ n := by
  induction xs with
  | nil => exact ⟨rfl, Nat.zero_le _⟩
  | cons a xs ih =>
    obtain ⟨h1, h2⟩ := ih fun x m => h x (List.mem_cons_of_mem _ m)
    obtain ⟨a1, a2⟩ := h a List.mem_cons_self
    constructor
    · show (okD a && okDs xs) = true
      rw [a1, h1]; rfl
    · show max (PyData.depth (py a)) (PyData.depthAll (pys xs)) ≤ n
      exact Nat.max_le.mpr ⟨a2, h2⟩
theorem lc_mapG {g : D → En → Option En} {e : En → R D} {vs : List Nat} {p : D → D} {ρ : En} : ∀ (ds acc : List D), (∀ d ∈ ds, ∃ ρ1 ρ2, g d ρ = some ρ1 ∧ e ρ1 = .ok (p d) ρ2 ∧ wipeE vs ρ2 = ρ) → acc.length + ds.length ≤ 100000 → lcL g sYes e vs ds ρ acc = .ok (.nd .lst (acc ++ ds.map p)) ρ
  | [], acc, _, _ => by rw [List.map_nil, List.append_nil]; rfl
  | d :: ds, acc, he, hl => by
    rw [List.length_cons] at hl
    have ih := lc_mapG ds (acc ++ [p d]) (fun x hx => he x (List.mem_cons_of_mem _ hx)) (by rw [List.length_append, List.length_singleton]; omega)
    obtain ⟨ρ1, ρ2, h1, h2, h3⟩ := he d List.mem_cons_self
    conv => lhs; unfold lcL
    rw [h1]
    simp only [sYes, noX, bnd, if_true, h2]
    rw [if_pos (Nat.lt_of_le_of_lt (show acc.length ≤ 100000 by omega) (by decide)), h3, ih]
    simp
theorem cut1 (xs : List D) : cutD xs (some 1) none = xs.drop 1 := by
  unfold cutD
  have h1 : HT.sIx xs.length 0 (some 1) = min 1 xs.length := HT.sIx_nat _ _ 1
  have h2 : HT.sIx xs.length xs.length none = xs.length := rfl
  rw [h1, h2]
  cases xs with
  | nil => rfl
  | cons a xs =>
    have : min 1 (a :: xs).length = 1 := by rw [List.length_cons]; omega
    rw [this]
    simp
theorem dEq_ints (a b : Nat) : dEq (.int (a : Int)) (.int (b : Int)) = some (decide (a = b)) := by
  unfold dEq
  rw [if_pos ⟨rfl, rfl⟩]
  simp only [py, PyData.eqv]
  by_cases h : a = b
  · subst h; simp
  · have : ((a : Int) == (b : Int)) = false := by rw [beq_eq_false_iff_ne]; omega
    rw [this, decide_eq_false h]
theorem dNe_ints (a b : Nat) : dNe (.int (a : Int)) (.int (b : Int)) = some (!decide (a = b)) := by
  have h := dEq_ints a b
  unfold dEq at h
  unfold dNe
  rw [if_pos ⟨rfl, rfl⟩] at h ⊢
  rw [Option.some.inj h]
theorem len_nd {k : Kd} (hk : k = .lst ∨ k = .tup) (xs : List D) : dLen' (.nd k xs) = some (.int (xs.length : Int)) := by rcases hk with rfl | rfl <;> rfl
theorem and_no {a b : En → R D} {ρ ρ1 : En} (e : a ρ = .ok (.bl false) ρ1) : sAndV a b ρ = .ok (.bl false) ρ1 := by
  unfold sAndV
  rw [e]
  rfl
theorem and_yes {a b : En → R D} {ρ ρ1 ρ2 : En} {d : D} (e : a ρ = .ok (.bl true) ρ1) (e2 : b ρ1 = .ok d ρ2) : sAndV a b ρ = .ok d ρ2 := by
  unfold sAndV
  rw [e]
  exact e2
theorem out_no {t : En → R Bool} {b : En → R Fl} {ρ ρ1 : En} (e : t ρ = .ok true ρ1) : sSeq (sIfS t (sRet (sC (.bl false))) sNx) b ρ = .ok (.rt (.bl false)) ρ1 := by
  unfold sSeq
  rw [if_yes e]
  rfl
theorem out_go {t : En → R Bool} {b : En → R Fl} {ρ ρ1 : En} (e : t ρ = .ok false ρ1) : sSeq (sIfS t (sRet (sC (.bl false))) sNx) b ρ = b ρ1 := seq_ok ((if_no e).trans rfl)
theorem call_ok {fs : List D → FO} {f : En → R (List D)} {ρ ρ1 : En} {ds : List D} {o : Bool} {d : D} {x : Option D} (e : f ρ = .ok ds ρ1) (e2 : fs ds = .val o d x) : sCall fs f ρ = .ok d ρ1 := by
  unfold sCall
  rw [e]
  show (match fs ds with | .val _ d _ => R.ok d ρ1 | _ => .bad) = _
  rw [e2]
theorem cons_ok {f : En → R D} {g : En → R (List D)} {ρ ρ1 ρ2 : En} {d : D} {ds : List D} (e : f ρ = .ok d ρ1) (e2 : g ρ1 = .ok ds ρ2) : sCons f g ρ = .ok (d :: ds) ρ2 := by
  unfold sCons
  rw [e]
  show bnd (g ρ1) (fun ds ρ2 => R.ok (d :: ds) ρ2) = _
  rw [e2]
  rfl
theorem set_call {i : Nat} {f : En → R D} {ρ ρ1 : En} {d : D} (e : f ρ = .ok d ρ1) : sSet i f ρ = .ok .nx (ρ1.set i (some (.f d))) := by
  unfold sSet
  rw [e]
  rfl
theorem fin_ex {m : En → Y.R Fl} {np n : Nat} {ds : List D} {d : D} (hl : ds.length = np) (e : ∃ ρ, m (argS false ds ++ List.replicate (n - np) none) = .ok (.rt d) ρ) : runF false np n m ds = .val false d none := by
  obtain ⟨ρ, e⟩ := e
  exact fin_ok hl e
theorem sLc_ok2 {src : En → Y.R (List D)} {g : D → En → Option En} {t : En → Y.R Bool} {e : En → Y.R D} {vs : List Nat} {ρ ρ1 ρ2 ρ3 : En} {ds : List D} {d : D} (h1 : src ρ = .ok ds ρ1) (hw : wipeE vs ρ1 = ρ2) (h2 : lcL g t e vs ds ρ2 [] = .ok d ρ3) : sLc src g t e vs ρ = .ok d ρ3 := by
  unfold sLc
  rw [h1]
  show lcL g t e vs ds (wipeE vs ρ1) [] = _
  rw [hw]
  exact h2
theorem sq_rt {a b : En → Y.R Fl} {ρ ρ1 : En} {d : D} (h : a ρ = .ok (.rt d) ρ1) : sSeq a b ρ = .ok (.rt d) ρ1 := by
  unfold sSeq
  rw [h]
  rfl
theorem mk_ok {k : Kd} {f : En → Y.R (List D)} {ρ ρ1 : En} {ds : List D} (e : f ρ = .ok ds ρ1) (h : ds.length ≤ sizeLine) : sMk k f ρ = .ok (.nd k ds) ρ1 := by
  unfold sMk
  rw [e]
  show lift (if ds.length ≤ sizeLine then some (D.nd k ds) else none) ρ1 = _
  rw [if_pos h]
  rfl
theorem callI_ok {i : Nat} {fs : List D → FO} {f : En → Y.R (List D)} {ρ ρ1 : En} {ds : List D} {d0 d d' : D} {o : Bool} (h0 : ∃ z, ownD i ρ = some z) (e : f ρ = .ok ds ρ1) (h1 : ownD i ρ1 = some d0) (e2 : fs (d0 :: ds) = .val o d (some d')) : sCallI i fs f ρ = .ok d (chg i d' ρ1) := by
  obtain ⟨z, hz⟩ := h0
  unfold sCallI
  rw [hz]
  show bnd (f ρ) _ = _
  rw [e]
  show (match ownD i ρ1 with | some d0 => (match fs (d0 :: ds) with | .val _ d (some d') => Y.R.ok d (chg i d' ρ1) | _ => .bad) | none => .bad) = _
  rw [h1]
  dsimp only
  rw [e2]
theorem cat_ok {a b : List D} (h : a.length + b.length ≤ sizeLine) : dCat (.nd .lst a) (.nd .lst b) = some (.nd .lst (a ++ b)) := by
  unfold dCat
  exact if_pos h
theorem mem_cut {xs : List D} {lo hi : Option Int} {x : D} (h : x ∈ cutD xs lo hi) : x ∈ xs := (List.drop_sublist _ _).subset ((List.take_sublist _ _).subset h)
theorem len_cut (xs : List D) (lo hi : Option Int) : (cutD xs lo hi).length ≤ xs.length := ((List.take_sublist _ _).trans (List.drop_sublist _ _)).length_le
theorem pt_ok {f : En → Y.R D} {ρ ρ1 : En} {i : Int} (e : f ρ = .ok (.int i) ρ1) : sPt f ρ = .ok (some i) ρ1 := by
  unfold sPt
  rw [e]
  rfl
theorem dEq_int0 (r c : Int) : ∃ t, dEq (.int r) (.int c) = some t ∧ (t = true ↔ r = c) := by
  refine ⟨_, if_pos ⟨rfl, rfl⟩, ?_⟩
  simp [py, PyData.eqv]
theorem setO_ok {i : Nat} {f : En → Y.R D} {ρ ρ1 : En} {d : D} (e : f ρ = .ok d ρ1) : sSetO i f ρ = .ok .nx (ρ1.set i (some (.o d))) := by
  unfold sSetO
  rw [e]
  rfl
theorem put_ok {i : Nat} {g : D → D → D → Option D} {fk fe : En → Y.R D} {ρ ρ1 : En} {e k d0 d' : D} (h1 : fe ρ = .ok e ρ1) (h2 : ownD i ρ1 = some d0) (h3 : fk ρ1 = .ok k ρ1) (h4 : g d0 k e = some d') : sPut i g fk fe ρ = .ok .nx (chg i d' ρ1) := by
  unfold sPut
  rw [h1]
  simp only [bnd, h2, lift, h3, h4]
theorem at_nat {xs : List D} {jj : Nat} (h : jj < xs.length) : dIx (.nd .lst xs) (.int (jj : Int)) = some xs[jj] := by
  simp [runF, argS, finF, outs, sSeq, sq, bnd, lift, sVar, sBor, sFrz, sMov, sC, sBin, sCmp, sChain, sTru, tru, sAndT, sOrT, sNotT, sAndV, sOrV, sNotV, sIf, sNil, sCons, sMk, s1, sN, sNx, sDrop, sRet, sRetO, sIfS, sSet, sSetO, sAsg, sPut, ownD, chg, ownL, isLst, sMeth, sIxV, bor, sCall, sCallO, sCallI, sCallIO, gSetL, ixN, dIx, atI, dGt, cmpI, dMod, dDiv, dMul, dPlus, dAdd, dSub, dNeg, dLt, dLen', dLen, sSlc, sSlcV, sPt, sNoPt, sIt, itD, sRg, rg1, hName, hTup, hCons, hNil, sFor, List.replicate, sPar2, pO, pF, pNil, noB, sIsiV, isTy, tyN, isA, sCmpV, sz0, sz1, sz2, sz3, sz4, sz5, h]
theorem set_nat {xs : List D} {jj : Nat} (h : jj < xs.length) (x : D) : gSetL (.nd .lst xs) (.int (jj : Int)) x = some (.nd .lst (xs.set jj x)) := by
  simp [runF, argS, finF, outs, sSeq, sq, bnd, lift, sVar, sBor, sFrz, sMov, sC, sBin, sCmp, sChain, sTru, tru, sAndT, sOrT, sNotT, sAndV, sOrV, sNotV, sIf, sNil, sCons, sMk, s1, sN, sNx, sDrop, sRet, sRetO, sIfS, sSet, sSetO, sAsg, sPut, ownD, chg, ownL, isLst, sMeth, sIxV, bor, sCall, sCallO, sCallI, sCallIO, gSetL, ixN, dIx, atI, dGt, cmpI, dMod, dDiv, dMul, dPlus, dAdd, dSub, dNeg, dLt, dLen', dLen, sSlc, sSlcV, sPt, sNoPt, sIt, itD, sRg, rg1, hName, hTup, hCons, hNil, sFor, List.replicate, sPar2, pO, pF, pNil, noB, sIsiV, isTy, tyN, isA, sCmpV, sz0, sz1, sz2, sz3, sz4, sz5, h]
theorem at_tup {xs : List D} {jj : Nat} (h : jj < xs.length) : dIx (.nd .tup xs) (.int (jj : Int)) = some xs[jj] := by
  simp [runF, argS, finF, outs, sSeq, sq, bnd, lift, sVar, sBor, sFrz, sMov, sC, sBin, sCmp, sChain, sTru, tru, sAndT, sOrT, sNotT, sAndV, sOrV, sNotV, sIf, sNil, sCons, sMk, s1, sN, sNx, sDrop, sRet, sRetO, sIfS, sSet, sSetO, sAsg, sPut, ownD, chg, ownL, isLst, sMeth, sIxV, bor, sCall, sCallO, sCallI, sCallIO, gSetL, ixN, dIx, atI, dGt, cmpI, dMod, dDiv, dMul, dPlus, dAdd, dSub, dNeg, dLt, dLen', dLen, sSlc, sSlcV, sPt, sNoPt, sIt, itD, sRg, rg1, hName, hTup, hCons, hNil, sFor, List.replicate, sPar2, pO, pF, pNil, noB, sIsiV, isTy, tyN, isA, sCmpV, sz0, sz1, sz2, sz3, sz4, sz5, h]
theorem slc_ok {fa : En → Y.R D} {lo hi : En → Y.R (Option Int)} {ρ : En} {a c : Option Int} {d r : D} (e : fa ρ = .ok d ρ) (h1 : lo ρ = .ok a ρ) (h2 : hi ρ = .ok c ρ) (h3 : dSlc d a c = some r) : sSlc fa lo hi ρ = .ok r ρ := by
  unfold sSlc
  rw [e]
  simp only [bnd, h1, h2, h3]
  rfl
theorem tcat_ok {a b : List D} (h : a.length + b.length ≤ sizeLine) : dPlus (.nd .tup a) (.nd .tup b) = some (.nd .tup (a ++ b)) := by
  show (if a.length + b.length ≤ sizeLine then some (D.nd .tup (a ++ b)) else none) = _
  rw [if_pos h]
theorem ne_tup {xs : List D} (h : dok (.nd .tup xs) = true) : dNe (.nd .tup xs) (.nd .tup []) = some (!xs.isEmpty) := by
  unfold dNe
  rw [if_pos ⟨h, rfl⟩]
  cases xs <;> simp [py, pys, PyData.eqv, PyData.eqvAll]
end Y

set_option Elab.async false
set_option linter.all false
set_option maxRecDepth 100000
set_option maxHeartbeats 4000000
/-! fractions -/
namespace Y
open PySem PySem.Spec PyProof.Rows L2 PySem.W
abbrev iN (n : Nat) : D := .int (n : Int)
def frN (t b : Nat) : Nat × Nat := (t / Nat.gcd t b, b / Nat.gcd t b)
abbrev fD (p : Nat × Nat) : D := .nd .tup [iN p.1, iN p.2]
def gE (x y : D) (a b : Nat) : En := [some (.f x), some (.f y), some (.f (iN a)), some (.f (iN b))]
abbrev gStep : En → Y.R Fl := sPar2 2 3 (pF (sVar 3) (pF (sBin dMod (sVar 2) (sBor 3)) pNil))
theorem mod_nat {a b : Nat} (h : 0 < b) : dMod (iN a) (iN b) = some (iN (a % b)) := by
  show (if (0 : Int) < (b : Int) then some (D.int ((a : Int) % (b : Int))) else none) = _
  rw [if_pos (by omega)]
  rfl
theorem div_nat {a b : Nat} (h : 0 < b) (h2 : b < 1073741824) : dDiv (iN a) (iN b) = some (iN (a / b)) := by
  show (if (0 : Int) < (b : Int) ∧ (b : Int) < 1073741824 then some (D.int ((a : Int) / (b : Int))) else none) = _
  rw [if_pos (by omega)]
  rfl
theorem dMul_int {a b : Int} (h : (-(2 ^ 64) < a ∧ a < 2 ^ 64) ∨ (-(2 ^ 64) < b ∧ b < 2 ^ 64)) : dMul (.int a) (.int b) = some (.int (a * b)) := if_pos h
theorem mul_nat {a b : Nat} (h : a < 2 ^ 63 ∨ b < 2 ^ 63) : dMul (iN a) (iN b) = some (iN (a * b)) := by
  rw [iN, iN, dMul_int (by omega), iN, Int.natCast_mul]
theorem add_nat (a b : Nat) : dPlus (iN a) (iN b) = some (iN (a + b)) := rfl
theorem g_step (x y : D) {a b : Nat} (h : 0 < b) : gStep (gE x y a b) = .ok .nx (gE x y b (a % b)) := by
  have e : sBin dMod (sVar 2) (sBor 3) (gE x y a b) = .ok (iN (a % b)) (gE x y a b) := bin_ok (x := iN a) (y := iN b) rfl rfl (mod_nat h)
  unfold gStep sPar2 pF
  rw [show sVar 3 (gE x y a b) = .ok (iN b) (gE x y a b) from rfl]
  simp only [bnd, e, pNil]
  rfl
section
variable {T : En → Y.R Bool} {x y : D} (hT : ∀ a b, T (gE x y a b) = .ok (decide (b ≠ 0)) (gE x y a b))
include hT
theorem g_done (f a : Nat) : whL T gStep (f + 1) (gE x y a 0) = .ok .nx (gE x y a 0) := by
  unfold whL
  rw [hT]
  simp [bnd]
theorem g_go (f a : Nat) {b : Nat} (h : 0 < b) : whL T gStep (f + 1) (gE x y a b) = whL T gStep f (gE x y b (a % b)) := by
  conv => lhs; unfold whL
  rw [hT, decide_eq_true (show b ≠ 0 by omega)]
  simp only [bnd, if_true, g_step x y h]
theorem g_loop : ∀ (n f a b : Nat), b < 2 ^ n → 2 * n + 1 ≤ f → whL T gStep f (gE x y a b) = .ok .nx (gE x y (Nat.gcd a b) 0)
  | 0, f, a, b, hb, hf => by
    have e : b = 0 := by simp at hb; exact hb
    obtain ⟨g, rfl⟩ : ∃ g, f = g + 1 := ⟨f - 1, by omega⟩
    rw [e, g_done hT, Nat.gcd_zero_right]
  | n + 1, f, a, b, hb, hf => by
    obtain ⟨g, rfl⟩ : ∃ g, f = g + 2 := ⟨f - 2, by omega⟩
    by_cases e : b = 0
    · rw [e, g_done hT, Nat.gcd_zero_right]
    · have rec1 : Nat.gcd a b = Nat.gcd b (a % b) := by rw [Nat.gcd_comm a b, Nat.gcd_rec, Nat.gcd_comm]
      rw [g_go hT (g + 1) a (show 0 < b by omega), rec1]
      have hr : a % b < b := Nat.mod_lt _ (by omega)
      generalize a % b = r at hr
      by_cases er : r = 0
      · rw [er, g_done hT, Nat.gcd_zero_right]
      · have rec2 : Nat.gcd b r = Nat.gcd r (b % r) := by rw [Nat.gcd_comm b r, Nat.gcd_rec, Nat.gcd_comm]
        rw [g_go hT g b (show 0 < r by omega), rec2]
        have h1 : b % r < r := Nat.mod_lt _ (by omega)
        have h2 := Nat.mod_add_div b r
        have h3 : 1 ≤ b / r := (Nat.le_div_iff_mul_le (by omega)).mpr (by omega)
        have h4 : r * 1 ≤ r * (b / r) := Nat.mul_le_mul_left _ h3
        refine g_loop n g r (b % r) ?_ (by omega)
        rw [Nat.pow_succ] at hb
        omega
end
theorem frac_gen {T : En → Y.R Bool} (hT : ∀ x y a b, T (gE x y a b) = .ok (decide (b ≠ 0)) (gE x y a b)) {t b : Nat} (h : 0 < b) (h2 : b < 2 ^ 64) (h3 : Nat.gcd t b < 1073741824) :
    (sSeq (sPar2 2 3 (pF (s1 dAbs (sBor 0)) (pF (sVar 1) pNil))) (sSeq (whL T gStep 1000) (sRet (sMk .tup (sCons (sBin dDiv (sVar 0) (sBor 2)) (sCons (sBin dDiv (sVar 1) (sBor 2)) sNil)))))) [some (.f (iN t)), some (.f (iN b)), none, none] = .ok (.rt (fD (frN t b))) (gE (iN t) (iN b) (Nat.gcd t b) 0) := by
  have e1 : sPar2 2 3 (pF (s1 dAbs (sBor 0)) (pF (sVar 1) pNil)) [some (.f (iN t)), some (.f (iN b)), none, none] = .ok .nx (gE (iN t) (iN b) t b) := by
    have a1 : s1 dAbs (sBor 0) [some (.f (iN t)), some (.f (iN b)), none, none] = .ok (iN t) [some (.f (iN t)), some (.f (iN b)), none, none] := s1_ok (d := iN t) rfl (by
      show some (D.int (if (t : Int) < 0 then -(t : Int) else t)) = _
      rw [if_neg (by omega)])
    unfold sPar2 pF
    rw [a1]
    rfl
  have e2 := g_loop (hT (iN t) (iN b)) 64 1000 t b h2 (by decide)
  have gp : 0 < Nat.gcd t b := Nat.gcd_pos_of_pos_right _ h
  refine (seq_ok e1).trans ((seq_ok e2).trans (ret_ok (mk_ok (cons_ok (bin_ok (x := iN t) (y := iN (Nat.gcd t b)) rfl rfl (div_nat gp h3)) (one_ok (bin_ok (x := iN b) (y := iN (Nat.gcd t b)) rfl rfl (div_nat gp h3)))) (small (show 2 ≤ 100000 by decide)))))
theorem tru_nat (b : Nat) : tru (iN b) = some (decide (b ≠ 0)) := by
  show some ((b : Int) != 0) = _
  congr 1
  by_cases h : b = 0
  · rw [h]; rfl
  · rw [decide_eq_true h]
    simp
    exact h
theorem dNe_nat (a b : Nat) : dNe (iN a) (iN b) = some (decide (a ≠ b)) := by
  rw [dNe_ints]
  by_cases h : a = b <;> simp [h]
theorem lowest_okG {t b : Nat} (h : 0 < b) (h2 : b < 2 ^ 64) (h3 : Nat.gcd t b < 1073741824) : fs_lowest [iN t, iN b] = .val false (fD (frN t b)) none :=
  fin_ok (ρ := gE (iN t) (iN b) (Nat.gcd t b) 0) rfl (frac_gen (T := sTru (sBor 3)) (fun x y a b => by
    unfold sTru
    rw [show sBor 3 (gE x y a b) = .ok (iN b) (gE x y a b) from rfl]
    show lift (tru (iN b)) _ = _
    rw [tru_nat]
    rfl) h h2 h3)
theorem lfrac_okG {t b : Nat} (h : 0 < b) (h2 : b < 2 ^ 64) (h3 : Nat.gcd t b < 1073741824) : fs__law_frac [iN t, iN b] = .val false (fD (frN t b)) none :=
  fin_ok (ρ := gE (iN t) (iN b) (Nat.gcd t b) 0) rfl (frac_gen (T := sBin dNe (sVar 3) (sC (.int 0))) (fun x y a b => bin_ok (x := iN b) (y := iN 0) rfl rfl (dNe_nat b 0)) h h2 h3)
theorem lowest_ok {t b : Nat} (h : 0 < b) (h2 : b < 1073741824) : fs_lowest [iN t, iN b] = .val false (fD (frN t b)) none := lowest_okG h (Nat.lt_trans h2 (by decide)) (Nat.lt_of_le_of_lt (Nat.gcd_le_right _ h) h2)
theorem lfrac_ok {t b : Nat} (h : 0 < b) (h2 : b < 1073741824) : fs__law_frac [iN t, iN b] = .val false (fD (frN t b)) none := lfrac_okG h (Nat.lt_trans h2 (by decide)) (Nat.lt_of_le_of_lt (Nat.gcd_le_right _ h) h2)
theorem frN_pos {t b : Nat} (h : 0 < b) : 0 < (frN t b).2 ∧ (frN t b).2 ≤ b := by
  have gp : 0 < Nat.gcd t b := Nat.gcd_pos_of_pos_right _ h
  have gl : Nat.gcd t b ≤ b := Nat.gcd_le_right _ h
  exact ⟨Nat.div_pos gl gp, Nat.div_le_self _ _⟩
def plN (p q : Nat × Nat) : Nat × Nat := frN (p.1 * q.2 + q.1 * p.2) (p.2 * q.2)
theorem plus_gen {ff : List D → FO} (hf : ∀ {t b : Nat}, 0 < b → b < 2 ^ 64 → Nat.gcd t b < 1073741824 → ff [iN t, iN b] = .val false (fD (frN t b)) none) {p q : Nat × Nat} (hp : 0 < p.2) (hq : 0 < q.2) (h : p.2 * q.2 < 2 ^ 62) (h3 : Nat.gcd (p.1 * q.2 + q.1 * p.2) (p.2 * q.2) < 1073741824) :
    sRet (sCall ff (sCons (sBin dPlus (sBin dMul (sBin dIx (sVar 0) (sC (.int 0))) (sBin dIx (sVar 1) (sC (.int 1)))) (sBin dMul (sBin dIx (sVar 1) (sC (.int 0))) (sBin dIx (sVar 0) (sC (.int 1))))) (sCons (sBin dMul (sBin dIx (sVar 0) (sC (.int 1))) (sBin dIx (sVar 1) (sC (.int 1)))) sNil))) [some (.f (fD p)), some (.f (fD q))] = .ok (.rt (fD (plN p q))) [some (.f (fD p)), some (.f (fD q))] := by
  have hp2 : p.2 < 2 ^ 63 := Nat.lt_of_le_of_lt (Nat.le_mul_of_pos_right _ hq) (by omega)
  have hq2 : q.2 < 2 ^ 63 := Nat.lt_of_le_of_lt (Nat.le_mul_of_pos_left _ hp) (by omega)
  generalize hρ : ([some (.f (fD p)), some (.f (fD q))] : En) = ρ
  have a0 : sBin dIx (sVar 0) (sC (.int 0)) ρ = .ok (iN p.1) ρ := by subst hρ; exact bin_ok (x := fD p) rfl rfl rfl
  have a1 : sBin dIx (sVar 0) (sC (.int 1)) ρ = .ok (iN p.2) ρ := by subst hρ; exact bin_ok (x := fD p) rfl rfl rfl
  have b0 : sBin dIx (sVar 1) (sC (.int 0)) ρ = .ok (iN q.1) ρ := by subst hρ; exact bin_ok (x := fD q) rfl rfl rfl
  have b1 : sBin dIx (sVar 1) (sC (.int 1)) ρ = .ok (iN q.2) ρ := by subst hρ; exact bin_ok (x := fD q) rfl rfl rfl
  exact ret_ok (call_ok (cons_ok (bin_ok (bin_ok a0 b1 (mul_nat (.inr hq2))) (bin_ok b0 a1 (mul_nat (.inr hp2))) (add_nat _ _)) (one_ok (bin_ok a1 b1 (mul_nat (.inl hp2))))) (hf (Nat.mul_pos hp hq) (Nat.lt_trans h (by decide)) h3))
theorem added_okG {p q : Nat × Nat} (hp : 0 < p.2) (hq : 0 < q.2) (h : p.2 * q.2 < 2 ^ 62) (h3 : Nat.gcd (p.1 * q.2 + q.1 * p.2) (p.2 * q.2) < 1073741824) : fs_added [fD p, fD q] = .val false (fD (plN p q)) none :=
  fin_ok (ρ := [some (.f (fD p)), some (.f (fD q))]) rfl (plus_gen lowest_okG hp hq h h3)
theorem added_ok {p q : Nat × Nat} (hp : 0 < p.2) (hq : 0 < q.2) (h : p.2 * q.2 < 1073741824) : fs_added [fD p, fD q] = .val false (fD (plN p q)) none := added_okG hp hq (Nat.lt_trans h (by decide)) (Nat.lt_of_le_of_lt (Nat.gcd_le_right _ (Nat.mul_pos hp hq)) h)
/-! ### the greatest common divisors stay small -/
theorem gcd_plus {a b c d : Nat} (h : Nat.gcd a b = 1) (hd : 0 < d) : Nat.gcd (a * d + c * b) (b * d) ≤ d * d := by
  have g1 : Nat.gcd (a * d + c * b) (b * d) ∣ a * d + c * b := Nat.gcd_dvd_left _ _
  have g2 : Nat.gcd (a * d + c * b) (b * d) ∣ b * d := Nat.gcd_dvd_right _ _
  generalize Nat.gcd (a * d + c * b) (b * d) = g at g1 g2
  have e1 : (a * d + c * b) * d = a * (d * d) + c * (b * d) := by rw [Nat.add_mul, Nat.mul_assoc, Nat.mul_assoc]
  have g3 : g ∣ a * (d * d) + c * (b * d) := e1 ▸ Nat.dvd_trans g1 (Nat.dvd_mul_right _ _)
  have g4 : g ∣ c * (b * d) := Nat.dvd_trans g2 (Nat.dvd_mul_left _ _)
  have g5 : g ∣ a * (d * d) := (Nat.dvd_add_left g4).mp g3
  have g6 : g ∣ b * (d * d) := by rw [← Nat.mul_assoc]; exact Nat.dvd_trans g2 (Nat.dvd_mul_right _ _)
  have g7 := Nat.dvd_gcd g5 g6
  rw [Nat.gcd_mul_right, h, Nat.one_mul] at g7
  exact Nat.le_of_dvd (Nat.mul_pos hd hd) g7
theorem gcd_times {a b w : Nat} (h : Nat.gcd a b = 1) (hw : 0 < w) : Nat.gcd a (b * w) ≤ w := by
  have g1 : Nat.gcd a (b * w) ∣ a := Nat.gcd_dvd_left _ _
  have g2 : Nat.gcd a (b * w) ∣ b * w := Nat.gcd_dvd_right _ _
  generalize Nat.gcd a (b * w) = g at g1 g2
  have g7 := Nat.dvd_gcd (Nat.dvd_trans g1 (Nat.dvd_mul_right a w)) g2
  rw [Nat.gcd_mul_right, h, Nat.one_mul] at g7
  exact Nat.le_of_dvd hw g7
theorem frN_red {t b : Nat} (h : 0 < b) : Nat.gcd (frN t b).1 (frN t b).2 = 1 := by
  have gp : 0 < Nat.gcd t b := Nat.gcd_pos_of_pos_right _ h
  show Nat.gcd (t / Nat.gcd t b) (b / Nat.gcd t b) = 1
  rw [Nat.gcd_div (Nat.gcd_dvd_left _ _) (Nat.gcd_dvd_right _ _), Nat.div_self gp]
end Y

set_option Elab.async false
set_option linter.all false
set_option maxRecDepth 100000
set_option maxHeartbeats 4000000
/-! means, hours, results -/
namespace Y
open PySem PySem.Spec PyProof.Rows L2 PySem.W
/-! ### data that may be compared -/
def dk (n : Nat) (d : D) : Prop := okD d = true ∧ (py d).depth ≤ n
theorem dk_nd {n : Nat} {k : Kd} (hk : k = .lst ∨ k = .tup) {xs : List D} (h : ∀ x ∈ xs, dk n x) : dk (n + 1) (.nd k xs) := by
  obtain ⟨h1, h2⟩ := okDs_of h
  rcases hk with rfl | rfl
  · exact ⟨by simpa [okD] using h1, by simp only [py, PyData.depth]; omega⟩
  · exact ⟨by simpa [okD] using h1, by simp only [py, PyData.depth]; omega⟩
theorem dk_int (n : Nat) (i : Int) : dk n (.int i) := ⟨by simp [okD], by simp [py, PyData.depth]⟩
theorem dk_bl (n : Nat) (b : Bool) : dk n (.bl b) := ⟨by simp [okD], by simp [py, PyData.depth]⟩
theorem dk_non (n : Nat) : dk n .non := ⟨by simp [okD], by simp [py, PyData.depth]⟩
theorem dk_str (n : Nat) {s : Str} (h : strG s = true) : dk n (.str s) := ⟨by simpa [okD] using h, by simp [py, PyData.depth]⟩
theorem dk_dok {n : Nat} (hn : n ≤ 64) {d : D} (h : dk n d) : dok d = true := by
  unfold dok
  rw [h.1, Bool.true_and, decide_eq_true_eq]
  exact Nat.le_trans h.2 hn
theorem eq_tup {xs : List D} (h : dok (.nd .tup xs) = true) : dEq (.nd .tup xs) (.nd .tup []) = some xs.isEmpty := by
  unfold dEq
  rw [if_pos ⟨h, rfl⟩]
  cases xs <;> simp [py, pys, PyData.eqv, PyData.eqvAll]
theorem dEq_str {a b : Str} (ha : strG a = true) (hb : strG b = true) : dEq (.str a) (.str b) = some (decide (a = b)) := by
  unfold dEq
  rw [if_pos ⟨dok_str ha, dok_str hb⟩, eqv_str]
theorem dEq_bl (a b : Bool) : dEq (.bl a) (.bl b) = some (decide (a = b)) := by cases a <;> cases b <;> rfl
theorem gt_nat (a b : Nat) : dGt (iN a) (iN b) = some (decide (b < a)) := by
  show some (decide ((b : Int) < (a : Int))) = _
  congr 1
  exact decide_eq_decide.mpr (by omega)
theorem lt_nat (a b : Nat) : dLt (iN a) (iN b) = some (decide (a < b)) := by
  show some (decide ((a : Int) < (b : Int))) = _
  congr 1
  exact decide_eq_decide.mpr (by omega)
theorem le_nat (a b : Nat) : dLe (iN a) (iN b) = some (decide (a ≤ b)) := by
  show some (decide ((a : Int) ≤ (b : Int))) = _
  congr 1
  exact decide_eq_decide.mpr (by omega)
theorem ge_nat (a b : Nat) : dGe (iN a) (iN b) = some (decide (b ≤ a)) := by
  show some (decide ((b : Int) ≤ (a : Int))) = _
  congr 1
  exact decide_eq_decide.mpr (by omega)
theorem it_ok {f : En → Y.R D} {ρ ρ1 : En} {d : D} {ds : List D} (e : f ρ = .ok d ρ1) (e2 : itD d = some ds) : sIt f ρ = .ok ds ρ1 := by
  unfold sIt
  rw [e]
  show lift (itD d) ρ1 = _
  rw [e2]
  rfl
theorem lc_ty {α : Type} {g : D → En → Option En} {t : En → Y.R Bool} {e : En → Y.R D} {vs : List Nat} {ρ : En} (f : α → D) (q : α → Bool) (p : α → D) : ∀ (xs : List α) (acc : List D), (∀ x ∈ xs, ∃ ρ1, g (f x) ρ = some ρ1 ∧ t ρ1 = .ok (q x) ρ1 ∧ (q x = true → e ρ1 = .ok (p x) ρ1) ∧ wipeE vs ρ1 = ρ) → acc.length + xs.length ≤ 100000 →
    lcL g t e vs (xs.map f) ρ acc = .ok (.nd .lst (acc ++ (xs.filter q).map p)) ρ
  | [], acc, _, _ => by rw [List.map_nil, List.filter_nil, List.map_nil, List.append_nil]; rfl
  | x :: xs, acc, h, hl => by
    rw [List.length_cons] at hl
    obtain ⟨ρ1, h1, h2, h3, h4⟩ := h x List.mem_cons_self
    have hr := fun y hy => h y (List.mem_cons_of_mem x hy)
    rw [List.map_cons]
    conv => lhs; unfold lcL
    rw [h1]
    simp only [noX, bnd, h2]
    cases hq : q x with
    | true =>
      have ih := lc_ty f q p xs (acc ++ [p x]) hr (by rw [List.length_append, List.length_singleton]; omega)
      simp only [if_true, h3 hq, noX, bnd]
      rw [if_pos (Nat.lt_of_le_of_lt (show acc.length ≤ 100000 by omega) (by decide)), h4, ih, List.filter_cons, if_pos hq]
      simp
    | false =>
      have ih := lc_ty f q p xs acc hr (by omega)
      simp only [Bool.false_eq_true, if_false]
      rw [h4, ih, List.filter_cons, if_neg (by rw [hq]; exact Bool.false_ne_true)]
/-- a comprehension over typed things -/
theorem slc_ty {α : Type} {src : En → Y.R (List D)} {g : D → En → Option En} {t : En → Y.R Bool} {e : En → Y.R D} {vs : List Nat} {ρ : En} {R : List D} (f : α → D) (q : α → Bool) (p : α → D) (xs : List α) (hs : src ρ = .ok (xs.map f) ρ) (hw : wipeE vs ρ = ρ)
    (h : ∀ x ∈ xs, ∃ ρ1, g (f x) ρ = some ρ1 ∧ t ρ1 = .ok (q x) ρ1 ∧ (q x = true → e ρ1 = .ok (p x) ρ1) ∧ wipeE vs ρ1 = ρ) (hl : xs.length ≤ 100000) (hr : (xs.filter q).map p = R) : sLc src g t e vs ρ = .ok (.nd .lst R) ρ :=
  sLc_ok hs hw ((lc_ty f q p xs [] h (by simpa using hl)).trans (by rw [List.nil_append, hr]))
theorem ints_nat : ∀ l : List Nat, intsD (l.map iN) = some (l.map fun n : Nat => (n : Int))
  | [] => rfl
  | n :: l => by
    rw [List.map_cons]
    unfold intsD
    rw [ints_nat l]
    rfl
theorem sum_cast : ∀ l : List Nat, (l.map fun n : Nat => (n : Int)).sum = ((l.sum : Nat) : Int)
  | [] => rfl
  | n :: l => by rw [List.map_cons, List.sum_cons, List.sum_cons, sum_cast l, Int.natCast_add]
theorem sum_nat (l : List Nat) : dSum (.nd .lst (l.map iN)) = some (iN l.sum) := by
  show (intsD (l.map iN)).map (fun bs => D.int bs.sum) = _
  rw [ints_nat, Option.map_some, sum_cast]
/-! ### rules, takes -/
structure Rl where
  ks : List (Str × Nat)
  gs : List (Nat × Str)
  good : Nat
  lim : Nat
  lift : Nat
structure Tk where
  nm : Str
  wt : Nat
  ms : List (Nat × Str × Nat)
  ps : List (Nat × Nat × Bool)
def kindD (k : Str × Nat) : D := .nd .tup [.str k.1, iN k.2]
def gradeD (g : Nat × Str) : D := .nd .tup [iN g.1, .str g.2]
def rulesD (R : Rl) : D := .nd .tup [.nd .tup (R.ks.map kindD), .nd .tup (R.gs.map gradeD), iN R.good, iN R.lim, iN R.lift]
def markD (m : Nat × Str × Nat) : D := .nd .tup [iN m.1, .str m.2.1, iN m.2.2]
def gapD (g : Nat × Nat × Bool) : D := .nd .tup [iN g.1, iN g.2.1, .bl g.2.2]
def takeD (t : Tk) : D := .nd .tup [.str t.nm, iN t.wt, .nd .tup (t.ms.map markD), .nd .tup (t.ps.map gapD)]
structure RlOk (R : Rl) : Prop where
  kn : R.ks.length ≤ 4
  k1 : ∀ k ∈ R.ks, strG k.1 = true ∧ 1 ≤ k.2 ∧ k.2 ≤ 9
  gn : R.gs.length ≤ 6
  g0 : ∃ s gs, R.gs = (0, s) :: gs
  g1 : ∀ g ∈ R.gs, strG g.2 = true ∧ g.1 ≤ 100
  g2 : R.gs.Pairwise fun a b => a.1 ≤ b.1
structure TkOk (R : Rl) (t : Tk) : Prop where
  nm : strG t.nm = true
  mn : t.ms.length ≤ 12
  m1 : ∀ m ∈ t.ms, strG m.2.1 = true ∧ m.2.1 ∈ R.ks.map (·.1)
  pn : t.ps.length ≤ 12
/-! ### means -/
def valsN (ms : List (Nat × Str × Nat)) (k : Str) : List Nat := (ms.filter fun m => decide (m.2.1 = k)).map (·.2.2)
def mStep (ms : List (Nat × Str × Nat)) (a : (Nat × Nat) × Nat) (k : Str × Nat) : (Nat × Nat) × Nat := if (valsN ms k.1).isEmpty then a else (plN a.1 (frN (k.2 * (valsN ms k.1).sum) (valsN ms k.1).length), a.2 + k.2)
def mAcc (ks : List (Str × Nat)) (ms : List (Nat × Str × Nat)) : (Nat × Nat) × Nat := ks.foldl (mStep ms) ((0, 1), 0)
def meanN (ks : List (Str × Nat)) (ms : List (Nat × Str × Nat)) : Option (Nat × Nat) := if (mAcc ks ms).2 = 0 then none else some (frN (mAcc ks ms).1.1 ((mAcc ks ms).1.2 * (mAcc ks ms).2))
def meanD : Option (Nat × Nat) → D
  | none => .non
  | some p => fD p
abbrev valsL : En → Y.R D := sLc (sIt (sBin dIx (sVar 1) (sC (.int 2)))) (hTup 3 (hCons (hName 7) (hCons (hName 8) (hCons (hName 9) hNil)))) (sBin dEq (sVar 8) (sBor 4)) (sVar 9) [7, 8, 9]
def mE (R T : D) (p : Nat × Nat) (n : Nat) (x4 x5 x6 : Option S) : En := [some (.f R), some (.f T), some (.f (fD p)), some (.f (iN n)), x4, x5, x6, none, none, none]
theorem vals_ok {t : Tk} (hn : t.ms.length ≤ 1000) (hg : ∀ m ∈ t.ms, strG m.2.1 = true) {k : Str} (hk : strG k = true) (R : D) (p : Nat × Nat) (n : Nat) (x5 x6 : Option S) :
    valsL (mE R (takeD t) p n (some (.f (.str k))) x5 x6) = .ok (.nd .lst ((valsN t.ms k).map iN)) (mE R (takeD t) p n (some (.f (.str k))) x5 x6) := by
  exact slc_ty markD (fun m => decide (m.2.1 = k)) (fun m => iN m.2.2) t.ms (it_ok (bin_ok (x := takeD t) rfl rfl rfl) rfl) rfl (fun m hm => ⟨[some (.f R), some (.f (takeD t)), some (.f (fD p)), some (.f (iN n)), some (.f (.str k)), x5, x6, some (.f (iN m.1)), some (.f (.str m.2.1)), some (.f (iN m.2.2))], rfl, bin_ok (x := .str m.2.1) (y := .str k) rfl rfl (dEq_str (hg m hm) hk), fun _ => rfl, rfl⟩) (by omega) (by rw [valsN, List.map_map]; rfl)
abbrev meanB (fa ff : List D → FO) (T : En → Y.R Bool) (u : En → Y.R Fl) : En → Y.R Fl := sSeq (sSet 6 valsL) (sIfS T (sSeq (sSet 2 (sCall fa (sCons (sVar 2) (sCons (sCall ff (sCons (sBin dMul (sVar 5) (s1 dSum (sBor 6))) (sCons (s1 dLen' (sBor 6)) sNil))) sNil)))) u) sNx)
theorem mean_loop {fa ff : List D → FO} {T : En → Y.R Bool} {u : En → Y.R Fl} {R : D} {t : Tk}
    (hf : ∀ {t b : Nat}, 0 < b → b < 1073741824 → ff [iN t, iN b] = .val false (fD (frN t b)) none) (ha : ∀ {p q : Nat × Nat}, 0 < p.2 → 0 < q.2 → p.2 * q.2 < 1073741824 → fa [fD p, fD q] = .val false (fD (plN p q)) none)
    (hT : ∀ p n x4 x5 (vs : List Nat), T (mE R (takeD t) p n x4 x5 (some (.f (.nd .lst (vs.map iN))))) = .ok (!vs.isEmpty) (mE R (takeD t) p n x4 x5 (some (.f (.nd .lst (vs.map iN))))))
    (hu : ∀ p n x4 (s : Nat) x6, u (mE R (takeD t) p n x4 (some (.f (iN s))) x6) = .ok .nx (mE R (takeD t) p (n + s) x4 (some (.f (iN s))) x6))
    (hn : t.ms.length ≤ 12) (hg : ∀ m ∈ t.ms, strG m.2.1 = true) : ∀ (ks : List (Str × Nat)) (p : Nat × Nat) (n : Nat) (x4 x5 x6 : Option S), (∀ k ∈ ks, strG k.1 = true ∧ 1 ≤ k.2 ∧ k.2 ≤ 9) → 0 < p.2 → p.2 * 12 ^ ks.length ≤ 20736 →
    (∃ y4 y5 y6, forL (hTup 2 (hCons (hName 4) (hCons (hName 5) hNil))) (meanB fa ff T u) (ks.map kindD) (mE R (takeD t) p n x4 x5 x6) = .ok .nx (mE R (takeD t) (ks.foldl (mStep t.ms) (p, n)).1 (ks.foldl (mStep t.ms) (p, n)).2 y4 y5 y6)) ∧ 0 < (ks.foldl (mStep t.ms) (p, n)).1.2 ∧ (ks.foldl (mStep t.ms) (p, n)).1.2 ≤ 20736 ∧ (ks.foldl (mStep t.ms) (p, n)).2 ≤ n + 9 * ks.length
  | [], p, n, x4, x5, x6, _, h0, h1 => ⟨⟨x4, x5, x6, rfl⟩, h0, by simpa using h1, by simp⟩
  | k :: ks, p, n, x4, x5, x6, hk, h0, h1 => by
    rw [List.length_cons, Nat.pow_succ] at h1
    obtain ⟨k1, k2, k3⟩ := hk k List.mem_cons_self
    have hr := fun y hy => hk y (List.mem_cons_of_mem k hy)
    have hp : 1 ≤ 12 ^ ks.length := Nat.one_le_pow _ _ (by decide)
    have e1 := vals_ok (t := t) (by omega) hg k1 R p n (some (.f (iN k.2))) x6
    have s1' : sSet 6 valsL (mE R (takeD t) p n (some (.f (.str k.1))) (some (.f (iN k.2))) x6) = .ok .nx (mE R (takeD t) p n (some (.f (.str k.1))) (some (.f (iN k.2))) (some (.f (.nd .lst ((valsN t.ms k.1).map iN))))) := set_call (i := 6) e1
    have hv : (valsN t.ms k.1).length ≤ 12 := by
      rw [valsN, List.length_map]
      exact Nat.le_trans (List.length_filter_le _ _) hn
    have t1 := hT p n (some (.f (.str k.1))) (some (.f (iN k.2))) (valsN t.ms k.1)
    have hd : hTup 2 (hCons (hName 4) (hCons (hName 5) hNil)) (kindD k) (mE R (takeD t) p n x4 x5 x6) = some (mE R (takeD t) p n (some (.f (.str k.1))) (some (.f (iN k.2))) x6) := rfl
    rw [List.foldl_cons]
    by_cases hv0 : (valsN t.ms k.1).isEmpty
    · have st : mStep t.ms (p, n) k = (p, n) := if_pos hv0
      rw [hv0] at t1
      have h1' : p.2 * 12 ^ ks.length ≤ 20736 := Nat.le_trans (Nat.mul_le_mul_left _ (by omega)) h1
      obtain ⟨⟨y4, y5, y6, e⟩, g1, g2, g3⟩ := mean_loop hf ha hT hu hn hg ks p n (some (.f (.str k.1))) (some (.f (iN k.2))) (some (.f (.nd .lst ((valsN t.ms k.1).map iN)))) hr h0 h1'
      rw [st]
      refine ⟨⟨y4, y5, y6, ?_⟩, g1, g2, by rw [List.length_cons]; omega⟩
      rw [List.map_cons]
      conv => lhs; unfold forL
      rw [hd]
      dsimp only
      rw [show meanB fa ff T u (mE R (takeD t) p n (some (.f (.str k.1))) (some (.f (iN k.2))) x6) = .ok .nx (mE R (takeD t) p n (some (.f (.str k.1))) (some (.f (iN k.2))) (some (.f (.nd .lst ((valsN t.ms k.1).map iN))))) from (seq_ok s1').trans (if_no t1)]
      exact e
    · have hv1 : (valsN t.ms k.1).isEmpty = false := by simpa using hv0
      have st : mStep t.ms (p, n) k = (plN p (frN (k.2 * (valsN t.ms k.1).sum) (valsN t.ms k.1).length), n + k.2) := if_neg hv0
      rw [hv1] at t1
      have hl : 0 < (valsN t.ms k.1).length := List.length_pos_iff.mpr (by intro z; rw [z] at hv1; cases hv1)
      obtain ⟨q0, q1⟩ := frN_pos (t := k.2 * (valsN t.ms k.1).sum) hl
      generalize hq : frN (k.2 * (valsN t.ms k.1).sum) (valsN t.ms k.1).length = q at q0 q1 st
      have hpq : p.2 * q.2 ≤ p.2 * 12 := Nat.mul_le_mul_left _ (by omega)
      have h12 : p.2 * 12 * 12 ^ ks.length ≤ 20736 := by
        rw [Nat.mul_assoc, Nat.mul_comm 12]; exact h1
      have hpl : p.2 * 12 ≤ 20736 := Nat.le_trans (Nat.le_mul_of_pos_right _ (by omega)) h12
      obtain ⟨r0, r1⟩ := frN_pos (t := p.1 * q.2 + q.1 * p.2) (Nat.mul_pos h0 q0)
      have h1' : (plN p q).2 * 12 ^ ks.length ≤ 20736 := Nat.le_trans (Nat.mul_le_mul_right _ (Nat.le_trans r1 hpq)) h12
      obtain ⟨⟨y4, y5, y6, e⟩, g1, g2, g3⟩ := mean_loop hf ha hT hu hn hg ks (plN p q) (n + k.2) (some (.f (.str k.1))) (some (.f (iN k.2))) (some (.f (.nd .lst ((valsN t.ms k.1).map iN)))) hr r0 h1'
      rw [st]
      refine ⟨⟨y4, y5, y6, ?_⟩, g1, g2, by rw [List.length_cons]; omega⟩
      rw [List.map_cons]
      conv => lhs; unfold forL
      rw [hd]
      dsimp only
      have hρ : ∀ ρ, ρ = mE R (takeD t) p n (some (.f (.str k.1))) (some (.f (iN k.2))) (some (.f (.nd .lst ((valsN t.ms k.1).map iN)))) → sSet 2 (sCall fa (sCons (sVar 2) (sCons (sCall ff (sCons (sBin dMul (sVar 5) (s1 dSum (sBor 6))) (sCons (s1 dLen' (sBor 6)) sNil))) sNil))) ρ = .ok .nx (ρ.set 2 (some (.f (fD (plN p q))))) := fun ρ hρ => by
        have v2 : sVar 2 ρ = .ok (fD p) ρ := by subst hρ; rfl
        have v5 : sVar 5 ρ = .ok (iN k.2) ρ := by subst hρ; rfl
        have v6 : sBor 6 ρ = .ok (.nd .lst ((valsN t.ms k.1).map iN)) ρ := by subst hρ; rfl
        have c1 : sCall ff (sCons (sBin dMul (sVar 5) (s1 dSum (sBor 6))) (sCons (s1 dLen' (sBor 6)) sNil)) ρ = .ok (fD q) ρ := by
          have hh : ff [iN (k.2 * (valsN t.ms k.1).sum), iN ((valsN t.ms k.1).map iN).length] = .val false (fD q) none := by
            rw [List.length_map, ← hq]
            exact hf hl (by omega)
          exact call_ok (cons_ok (bin_ok v5 (s1_ok v6 (sum_nat _)) (mul_nat (.inl (by omega)))) (one_ok (s1_ok v6 (len_nd (.inl rfl) _)))) hh
        exact set_call (call_ok (cons_ok v2 (one_ok c1)) (ha h0 q0 (by omega)))
      rw [show meanB fa ff T u (mE R (takeD t) p n (some (.f (.str k.1))) (some (.f (iN k.2))) x6) = .ok .nx (mE R (takeD t) (plN p q) (n + k.2) (some (.f (.str k.1))) (some (.f (iN k.2))) (some (.f (.nd .lst ((valsN t.ms k.1).map iN))))) from (seq_ok s1').trans ((if_yes t1).trans ((seq_ok (hρ _ rfl)).trans (hu (plN p q) n _ k.2 _)))]
      exact e
end Y

set_option Elab.async false
set_option linter.all false
set_option maxRecDepth 100000
set_option maxHeartbeats 4000000
/-! means, hours, results: the defs -/
namespace Y
open PySem PySem.Spec PyProof.Rows L2 PySem.W
theorem asg_ok {g : D → En → Option En} {f : En → Y.R D} {ρ ρ1 ρ2 : En} {d : D} (e : f ρ = .ok d ρ1) (e2 : g d ρ1 = some ρ2) : sAsg g f ρ = .ok .nx ρ2 := by
  unfold sAsg
  rw [e]
  simp only [bnd, e2]
theorem for_ok {src : En → Y.R (List D)} {g : D → En → Option En} {b : En → Y.R Fl} {ρ ρ1 : En} {ds : List D} {r : Y.R Fl} (e : src ρ = .ok ds ρ1) (e2 : forL g b ds ρ1 = r) : sFor src g b ρ = r := by
  unfold sFor
  rw [e]
  exact e2
theorem out_skip {t : En → Y.R Bool} {a b : En → Y.R Fl} {ρ ρ1 : En} (e : t ρ = .ok false ρ1) : sSeq (sIfS t a sNx) b ρ = b ρ1 := seq_ok ((if_no e).trans rfl)
theorem iff_ok {α : Type} {t : En → Y.R Bool} {a b : En → Y.R α} {ρ ρ1 : En} {c : Bool} (e : t ρ = .ok c ρ1) : sIf t a b ρ = if c = true then a ρ1 else b ρ1 := by
  unfold sIf
  rw [e]
  rfl
theorem vals_nil {ms : List (Nat × Str × Nat)} {k : Str} (h : valsN ms k ≠ []) : ∃ m ∈ ms, m.2.1 = k := by
  obtain ⟨x, hx⟩ := List.exists_mem_of_ne_nil _ h
  obtain ⟨m, hm, _⟩ := List.mem_map.mp hx
  obtain ⟨h1, h2⟩ := List.mem_filter.mp hm
  exact ⟨m, h1, of_decide_eq_true h2⟩
theorem acc_mono (ms : List (Nat × Str × Nat)) : ∀ (ks : List (Str × Nat)) (a : (Nat × Nat) × Nat), a.2 ≤ (ks.foldl (mStep ms) a).2
  | [], a => Nat.le_refl _
  | k :: ks, a => by
    rw [List.foldl_cons]
    refine Nat.le_trans ?_ (acc_mono ms ks _)
    unfold mStep
    split
    · exact Nat.le_refl _
    · exact Nat.le_add_right _ _
theorem acc_pos {ms : List (Nat × Str × Nat)} : ∀ (ks : List (Str × Nat)) (a : (Nat × Nat) × Nat), (∀ k ∈ ks, 1 ≤ k.2) → (∃ k ∈ ks, valsN ms k.1 ≠ []) → 0 < (ks.foldl (mStep ms) a).2
  | [], a, _, ⟨k, h, _⟩ => by cases h
  | k :: ks, a, h1, ⟨j, hj, hv⟩ => by
    rw [List.foldl_cons]
    rcases List.mem_cons.mp hj with rfl | hj
    · refine Nat.lt_of_lt_of_le ?_ (acc_mono ms ks _)
      unfold mStep
      rw [if_neg (by simpa using hv)]
      have := h1 j List.mem_cons_self
      show 0 < a.2 + j.2
      omega
    · exact acc_pos ks _ (fun x hx => h1 x (List.mem_cons_of_mem _ hx)) ⟨j, hj, hv⟩
theorem acc_none : ∀ (ks : List (Str × Nat)) (a : (Nat × Nat) × Nat), ks.foldl (mStep []) a = a
  | [], a => rfl
  | k :: ks, a => by
    rw [List.foldl_cons, acc_none ks]
    exact if_pos rfl
section
variable {R : Rl} {t : Tk} (hR : RlOk R) (hT : TkOk R t)
include hR hT
theorem mean_none : meanN R.ks t.ms = none ↔ t.ms = [] := by
  unfold meanN
  constructor
  · intro h
    cases e : t.ms with
    | nil => rfl
    | cons m ms =>
      have h2 := (hT.m1 m (by rw [e]; simp)).2
      obtain ⟨k, hk, ek⟩ := List.mem_map.mp h2
      have : 0 < (mAcc R.ks t.ms).2 := acc_pos R.ks _ (fun k hk => (hR.k1 k hk).2.1) ⟨k, hk, by
        unfold valsN
        rw [e, List.filter_cons, if_pos (by simpa using ek.symm)]
        simp⟩
      rw [if_neg (by omega)] at h
      cases h
  · intro h
    rw [h]
    exact if_pos (by unfold mAcc; rw [acc_none])
theorem dok_marks : dok (.nd .tup (t.ms.map markD)) = true := dk_dok (n := 2) (by decide) (dk_nd (.inr rfl) fun x hx => by
  obtain ⟨m, hm, rfl⟩ := List.mem_map.mp hx
  refine dk_nd (.inr rfl) fun y hy => ?_
  simp only [List.mem_cons, List.not_mem_nil, or_false] at hy
  rcases hy with rfl | rfl | rfl
  · exact dk_int _ _
  · exact dk_str _ (hT.m1 m hm).1
  · exact dk_int _ _)
theorem mean_ok : fs_mean [rulesD R, takeD t] = .val false (meanD (meanN R.ks t.ms)) none := by
  have hg := fun m hm => (hT.m1 m hm).1
  refine fin_ex rfl ?_
  show ∃ ρ, m_mean [some (.f (rulesD R)), some (.f (takeD t)), none, none, none, none, none, none, none, none] = _
  unfold m_mean
  generalize h0 : ([some (.f (rulesD R)), some (.f (takeD t)), none, none, none, none, none, none, none, none] : En) = ρ0
  have c0 : sBin dEq (sBin dIx (sVar 1) (sC (.int 2))) (sMk .tup sNil) ρ0 = .ok (t.ms.map markD).isEmpty ρ0 := by
    subst h0
    exact bin_ok (bin_ok (x := takeD t) rfl rfl rfl) (mk_ok (ds := []) rfl (small (by decide))) (eq_tup (dok_marks hR hT))
  by_cases e : t.ms = []
  · rw [(mean_none hR hT).mpr e]
    have c1 : (t.ms.map markD).isEmpty = true := by rw [e]; rfl
    rw [c1] at c0
    exact ⟨ρ0, sq_rt ((if_yes c0).trans rfl)⟩
  · have c1 : (t.ms.map markD).isEmpty = false := by cases h : t.ms with
      | nil => exact absurd h e
      | cons _ _ => rfl
    rw [c1] at c0
    have a1 : sAsg (hTup 2 (hCons (hName 2) (hCons (hName 3) hNil))) (sMk .tup (sCons (sMk .tup (sCons (sC (.int 0)) (sCons (sC (.int 1)) sNil))) (sCons (sC (.int 0)) sNil))) ρ0 = .ok .nx (mE (rulesD R) (takeD t) (0, 1) 0 none none none) := by
      subst h0
      exact asg_ok (mk_ok (cons_ok (mk_ok (ds := [.int 0, .int 1]) rfl (small (show 2 ≤ 100000 by decide))) (one_ok rfl)) (small (show 2 ≤ 100000 by decide))) rfl
    obtain ⟨⟨y4, y5, y6, l⟩, p1, p2, p3⟩ := mean_loop (R := rulesD R) (t := t) (fa := fs_added) (ff := fs_lowest) (T := sTru (sBor 6)) (u := sSet 3 (sBin dPlusI (sVar 3) (sVar 5))) lowest_ok added_ok
      (fun p n x4 x5 vs => by
        unfold sTru
        rw [show sBor 6 (mE (rulesD R) (takeD t) p n x4 x5 (some (.f (.nd .lst (vs.map iN))))) = .ok (.nd .lst (vs.map iN)) (mE (rulesD R) (takeD t) p n x4 x5 (some (.f (.nd .lst (vs.map iN))))) from rfl]
        cases vs <;> rfl)
      (fun p n x4 s x6 => rfl) hT.mn hg R.ks (0, 1) 0 none none none hR.k1 (by decide) (by
        have : 12 ^ R.ks.length ≤ 12 ^ 4 := Nat.pow_le_pow_right (by decide) hR.kn
        have e12 : (12 : Nat) ^ 4 = 20736 := by decide
        show 1 * 12 ^ R.ks.length ≤ 20736
        omega)
    have ps : 0 < (mAcc R.ks t.ms).2 := by
      have := mt (mean_none hR hT).mp e
      unfold meanN at this
      by_cases z : (mAcc R.ks t.ms).2 = 0
      · exact absurd (if_pos z) this
      · omega
    have em : meanN R.ks t.ms = some (frN (mAcc R.ks t.ms).1.1 ((mAcc R.ks t.ms).1.2 * (mAcc R.ks t.ms).2)) := if_neg (by omega)
    rw [em]
    have hkn := hR.kn
    have lt : (mAcc R.ks t.ms).1.2 * (mAcc R.ks t.ms).2 ≤ 20736 * 36 := Nat.mul_le_mul p2 (Nat.le_trans p3 (by omega))
    refine ⟨_, (out_skip c0).trans ((seq_ok a1).trans ((seq_ok (for_ok (it_ok (bin_ok (x := rulesD R) rfl rfl rfl) rfl) l)).trans (ret_ok (call_ok (cons_ok (bin_ok (x := fD (mAcc R.ks t.ms).1) rfl rfl rfl) (one_ok (bin_ok (bin_ok (x := fD (mAcc R.ks t.ms).1) rfl rfl rfl) (y := iN (mAcc R.ks t.ms).2) rfl (mul_nat (.inl (Nat.lt_of_le_of_lt p2 (by decide))))))) (lowest_ok (Nat.mul_pos p1 ps) (Nat.lt_of_le_of_lt lt (by decide)))))))⟩
end
end Y

set_option Elab.async false
set_option linter.all false
set_option maxRecDepth 100000
set_option maxHeartbeats 4000000
/-! hours, grades, results -/
namespace Y
open PySem PySem.Spec PyProof.Rows L2 PySem.W
theorem at_m1 {xs : List D} (h : 0 < xs.length) : dIx (.nd .lst xs) (.int (-1)) = some (xs[xs.length - 1]'(by omega)) := by
  have e : ((-1 : Int) + (xs.length : Int)).toNat = xs.length - 1 := by omega
  have c : (1 : Int) ≤ (xs.length : Int) := by omega
  simp [runF, argS, finF, outs, sSeq, sq, bnd, lift, sVar, sBor, sFrz, sMov, sC, sBin, sCmp, sChain, sTru, tru, sAndT, sOrT, sNotT, sAndV, sOrV, sNotV, sIf, sNil, sCons, sMk, s1, sN, sNx, sDrop, sRet, sRetO, sIfS, sSet, sSetO, sAsg, sPut, ownD, chg, ownL, isLst, sMeth, sIxV, bor, sCall, sCallO, sCallI, sCallIO, gSetL, ixN, dIx, atI, dGt, cmpI, dMod, dDiv, dMul, dPlus, dAdd, dSub, dNeg, dLt, dLen', dLen, sSlc, sSlcV, sPt, sNoPt, sIt, itD, sRg, rg1, hName, hTup, hCons, hNil, sFor, List.replicate, sPar2, pO, pF, pNil, noB, sIsiV, isTy, tyN, isA, sCmpV, sz0, sz1, sz2, sz3, sz4, sz5, e, c, h]
def hrN (ps : List (Nat × Nat × Bool)) (ex : Bool) : Nat := ((ps.filter fun g => decide (g.2.2 = ex)).map (·.2.1)).sum
def okG (p : Nat × Nat) (g : Nat × Str) : Bool := decide (g.1 * p.2 ≤ p.1)
def cntN (gs : List (Nat × Str)) (p : Nat × Nat) : Nat := (gs.filter (okG p)).length
def gpN (gs : List (Nat × Str)) (p : Nat × Nat) : Nat := cntN gs p - 1
def nmG (gs : List (Nat × Str)) (i : Nat) : Str := ((gs[i]?).map (·.2)).getD ""
def resN (R : Rl) (t : Tk) : Str := if R.lim < hrN t.ps false then "out" else match meanN R.ks t.ms with
  | none => "open"
  | some p => nmG R.gs (gpN R.gs p)
def goodN (R : Rl) (t : Tk) : Bool := !decide (R.lim < hrN t.ps false) && (match meanN R.ks t.ms with
  | none => false
  | some p => decide (R.good ≤ gpN R.gs p))
theorem hours_ok {t : Tk} (hn : t.ps.length ≤ 1000) (ex : Bool) : fs_hours [takeD t, .bl ex] = .val false (iN (hrN t.ps ex)) none := by
  refine fin_ok (ρ := [some (.f (takeD t)), some (.f (.bl ex)), none, none, none]) rfl ?_
  refine ret_ok (s1_ok (d := .nd .lst (((t.ps.filter fun g => decide (g.2.2 = ex)).map (·.2.1)).map iN)) ?_ (sum_nat _))
  exact slc_ty gapD (fun g => decide (g.2.2 = ex)) (fun g => iN g.2.1) t.ps (it_ok (bin_ok (x := takeD t) rfl rfl rfl) rfl) rfl (fun g hg => ⟨[some (.f (takeD t)), some (.f (.bl ex)), some (.f (iN g.1)), some (.f (iN g.2.1)), some (.f (.bl g.2.2))], rfl, bin_ok (x := .bl g.2.2) (y := .bl ex) rfl rfl (dEq_bl _ _), fun _ => rfl, rfl⟩) (by omega) (by rw [List.map_map]; rfl)
theorem cnt_pos {gs : List (Nat × Str)} (h : ∃ s l, gs = (0, s) :: l) (p : Nat × Nat) : 0 < cntN gs p ∧ gpN gs p < gs.length := by
  obtain ⟨s, l, rfl⟩ := h
  have h1 : 0 < cntN ((0, s) :: l) p := by
    unfold cntN
    rw [List.filter_cons, if_pos (by simp [okG])]
    simp
  have h2 : cntN ((0, s) :: l) p ≤ ((0, s) :: l).length := List.length_filter_le _ _
  unfold gpN
  exact ⟨h1, by omega⟩
theorem sub1_nat {n : Nat} (h : 0 < n) : dSub (iN n) (.int 1) = some (iN (n - 1)) := by
  show some (D.int ((n : Int) - 1)) = _
  congr 2
  omega
section
variable {R : Rl} (hR : RlOk R)
include hR
theorem gp_ok (p : Nat × Nat) : fs_grade_place [rulesD R, fD p] = .val false (iN (gpN R.gs p)) none := by
  have hn := hR.gn
  refine fin_ok (ρ := [some (.f (rulesD R)), some (.f (fD p)), none, none]) rfl ?_
  have l : dLen' (.nd .lst ((R.gs.filter (okG p)).map fun _ => D.int 1)) = some (iN (cntN R.gs p)) := by
    rw [len_nd (.inl rfl), List.length_map]
    rfl
  refine ret_ok (bin_ok (s1_ok (d := .nd .lst ((R.gs.filter (okG p)).map fun _ => D.int 1)) ?_ l) rfl (sub1_nat (cnt_pos hR.g0 p).1))
  exact slc_ty gradeD (okG p) (fun _ => D.int 1) R.gs (it_ok (bin_ok (x := rulesD R) rfl rfl rfl) rfl) rfl (fun g hg => ⟨[some (.f (rulesD R)), some (.f (fD p)), some (.f (iN g.1)), some (.f (.str g.2))], rfl, bin_ok (bin_ok (x := iN g.1) rfl (bin_ok (x := fD p) rfl rfl rfl) (mul_nat (.inl (Nat.lt_of_le_of_lt (hR.g1 g hg).2 (by decide))))) (bin_ok (x := fD p) rfl rfl rfl) (le_nat _ _), fun _ => rfl, rfl⟩) (by omega) rfl
theorem name_at (j : Nat) (hj : j < R.gs.length) : dIx (.nd .tup (R.gs.map gradeD)) (iN j) = some (gradeD R.gs[j]) := by
  rw [at_tup (by rw [List.length_map]; exact hj), List.getElem_map]
theorem nmG_at (j : Nat) (hj : j < R.gs.length) : nmG R.gs j = R.gs[j].2 := by
  unfold nmG
  rw [List.getElem?_eq_getElem hj]
  rfl
omit hR in
theorem pref : ∀ (gs : List (Nat × Str)) (p : Nat × Nat) (s : Nat), (gs.Pairwise fun a b => a.1 ≤ b.1) → ((List.range' s gs.length).filter fun i => (gs[i - s]?).any (okG p)) = List.range' s (cntN gs p)
  | [], p, s, _ => rfl
  | g :: gs, p, s, h => by
    obtain ⟨h1, h2⟩ := List.pairwise_cons.mp h
    have ih := pref gs p (s + 1) h2
    have e : ((List.range' (s + 1) gs.length).filter fun i => ((g :: gs)[i - s]?).any (okG p)) = (List.range' (s + 1) gs.length).filter fun i => (gs[i - (s + 1)]?).any (okG p) := by
      refine List.filter_congr fun i hi => ?_
      rw [List.mem_range'_1] at hi
      rw [show i - s = (i - (s + 1)) + 1 by omega, List.getElem?_cons_succ]
    rw [List.length_cons, List.range'_succ, List.filter_cons, e, ih, Nat.sub_self, List.getElem?_cons_zero]
    show (if okG p g = true then _ else _) = _
    by_cases hg : okG p g = true
    · rw [if_pos hg]
      have : cntN (g :: gs) p = cntN gs p + 1 := by
        unfold cntN
        rw [List.filter_cons, if_pos hg, List.length_cons]
      rw [this, List.range'_succ]
    · rw [if_neg hg]
      have z : gs.filter (okG p) = [] := by
        rw [List.filter_eq_nil_iff]
        intro b hb hk
        refine hg (decide_eq_true ?_)
        have k1 : b.1 * p.2 ≤ p.1 := of_decide_eq_true hk
        exact Nat.le_trans (Nat.mul_le_mul_right _ (h1 b hb)) k1
      have z1 : cntN (g :: gs) p = 0 := by
        unfold cntN
        rw [List.filter_cons, if_neg hg, z]
        rfl
      have z2 : cntN gs p = 0 := by
        unfold cntN
        rw [z]
        rfl
      rw [z1, z2]
      rfl
theorem place_at {x3 : Option S} (T : D) (p : Nat × Nat) : sBin dIx (sLc (sRg rg1 (sCons (s1 dLen' (sBin dIx (sVar 0) (sC (.int 1)))) sNil)) (hName 4) (sBin dLe (sBin dMul (sBin dIx (sBin dIx (sBin dIx (sVar 0) (sC (.int 1))) (sVar 4)) (sC (.int 0))) (sBin dIx (sVar 2) (sC (.int 1)))) (sBin dIx (sVar 2) (sC (.int 0)))) (sVar 4) [4]) (s1 dNeg (sC (.int 1))) [some (.f (rulesD R)), some (.f T), some (.f (fD p)), x3, none] = .ok (iN (gpN R.gs p)) [some (.f (rulesD R)), some (.f T), some (.f (fD p)), x3, none] := by
  have hn := hR.gn
  generalize hρ : ([some (.f (rulesD R)), some (.f T), some (.f (fD p)), x3, none] : En) = ρ
  have hc := (cnt_pos hR.g0 p).1
  have lst : sLc (sRg rg1 (sCons (s1 dLen' (sBin dIx (sVar 0) (sC (.int 1)))) sNil)) (hName 4) (sBin dLe (sBin dMul (sBin dIx (sBin dIx (sBin dIx (sVar 0) (sC (.int 1))) (sVar 4)) (sC (.int 0))) (sBin dIx (sVar 2) (sC (.int 1)))) (sBin dIx (sVar 2) (sC (.int 0)))) (sVar 4) [4] ρ = .ok (.nd .lst ((List.range' 0 (cntN R.gs p)).map iN)) ρ := by
    refine slc_ty (fun i : Nat => iN i) (fun i => (R.gs[i]?).any (okG p)) iN (List.range' 0 R.gs.length) ?_ (by subst hρ; rfl) (fun i hi => ?_) (by rw [List.length_range']; omega) (by rw [← pref R.gs p 0 hR.g2]; rfl)
    · have ln : dLen' (.nd .tup (R.gs.map gradeD)) = some (iN R.gs.length) := by rw [len_nd (.inr rfl), List.length_map]
      refine rg_ok (ρ1 := ρ) (ds := [iN R.gs.length]) (by subst hρ; exact one_ok (s1_ok (bin_ok (x := rulesD R) rfl rfl rfl) ln)) ?_
      rw [rg1_nat (by omega), rg_nat]
    · rw [List.mem_range'_1] at hi
      have hi' : i < R.gs.length := by omega
      refine ⟨[some (.f (rulesD R)), some (.f T), some (.f (fD p)), x3, some (.f (iN i))], by subst hρ; rfl, ?_, fun _ => rfl, by subst hρ; rfl⟩
      rw [List.getElem?_eq_getElem hi']
      exact bin_ok (bin_ok (bin_ok (bin_ok (bin_ok (x := rulesD R) rfl rfl rfl) rfl (name_at hR i hi')) rfl rfl) (bin_ok (x := fD p) rfl rfl rfl) (mul_nat (.inl (Nat.lt_of_le_of_lt (hR.g1 _ (List.getElem_mem hi')).2 (by decide))))) (bin_ok (x := fD p) rfl rfl rfl) (le_nat _ _)
  refine bin_ok lst (s1_ok (d := .int 1) rfl rfl) ?_
  rw [at_m1 (by rw [List.length_map, List.length_range']; exact hc), List.getElem_map, List.getElem_range']
  simp [gpN]
variable {t : Tk} (hT : TkOk R t)
include hT
theorem meanD_non : dIs (meanD (meanN R.ks t.ms)) .non = some (decide (meanN R.ks t.ms = none)) := by
  cases meanN R.ks t.ms <;> rfl
theorem result_ok : fs_result [rulesD R, takeD t] = .val false (.str (resN R t)) none := by
  have hp := hT.pn
  refine fin_ex rfl ?_
  show ∃ ρ, m_result [some (.f (rulesD R)), some (.f (takeD t)), none] = _
  unfold m_result
  have c0 : sBin dGt (sCall fs_hours (sCons (sVar 1) (sCons (sC (.bl false)) sNil))) (sBin dIx (sVar 0) (sC (.int 3))) [some (.f (rulesD R)), some (.f (takeD t)), none] = .ok (decide (R.lim < hrN t.ps false)) [some (.f (rulesD R)), some (.f (takeD t)), none] :=
    bin_ok (call_ok (cons_ok (d := takeD t) rfl (one_ok rfl)) (hours_ok (by omega) false)) (bin_ok (x := rulesD R) rfl rfl rfl) (gt_nat _ _)
  unfold resN
  by_cases h : R.lim < hrN t.ps false
  · rw [decide_eq_true h] at c0
    rw [if_pos h]
    exact ⟨_, sq_rt ((if_yes c0).trans rfl)⟩
  · rw [decide_eq_false h] at c0
    rw [if_neg h]
    have c1 := set_call (i := 2) (call_ok (ρ := [some (.f (rulesD R)), some (.f (takeD t)), none]) (cons_ok (d := rulesD R) (f := sVar 0) rfl (one_ok (f := sVar 1) (d := takeD t) rfl)) (mean_ok hR hT))
    cases e : meanN R.ks t.ms with
    | none =>
      rw [e] at c1
      exact ⟨_, (out_skip c0).trans ((seq_ok c1).trans (ret_ok rfl))⟩
    | some p =>
      rw [e] at c1
      have hj := (cnt_pos hR.g0 p).2
      dsimp only
      rw [nmG_at hR _ hj]
      refine ⟨_, (out_skip c0).trans ((seq_ok c1).trans (ret_ok (ρ1 := [some (.f (rulesD R)), some (.f (takeD t)), some (.f (fD p))]) ((iff_ok (ρ1 := [some (.f (rulesD R)), some (.f (takeD t)), some (.f (fD p))]) (c := false) rfl).trans ?_)))⟩
      exact bin_ok (bin_ok (bin_ok (x := rulesD R) rfl rfl rfl) (call_ok (cons_ok (d := rulesD R) rfl (one_ok (d := fD p) rfl)) (gp_ok hR p)) (name_at hR _ hj)) rfl rfl
theorem ne_marks : dNe (.nd .tup (t.ms.map markD)) (.nd .tup []) = some (!t.ms.isEmpty) := by
  rw [ne_tup (dok_marks hR hT)]
  cases t.ms <;> rfl
theorem hasg_ok : fs_has_grade [rulesD R, takeD t] = .val false (.bl (!decide (R.lim < hrN t.ps false) && !t.ms.isEmpty)) none := by
  have hp := hT.pn
  refine fin_ok (ρ := [some (.f (rulesD R)), some (.f (takeD t))]) rfl ?_
  have c0 : sCmp dLe (sCall fs_hours (sCons (sVar 1) (sCons (sC (.bl false)) sNil))) (sBin dIx (sVar 0) (sC (.int 3))) [some (.f (rulesD R)), some (.f (takeD t))] = .ok (.bl (decide (hrN t.ps false ≤ R.lim))) [some (.f (rulesD R)), some (.f (takeD t))] :=
    bin_ok (call_ok (cons_ok (d := takeD t) rfl (one_ok rfl)) (hours_ok (by omega) false)) (bin_ok (x := rulesD R) rfl rfl rfl) (by rw [le_nat]; rfl)
  by_cases h : R.lim < hrN t.ps false
  · rw [decide_eq_false (show ¬ hrN t.ps false ≤ R.lim by omega)] at c0
    rw [decide_eq_true h]
    exact ret_ok (and_no c0)
  · rw [decide_eq_true (show hrN t.ps false ≤ R.lim by omega)] at c0
    rw [decide_eq_false h]
    exact ret_ok (and_yes c0 (bin_ok (bin_ok (x := takeD t) rfl rfl rfl) (mk_ok (ds := []) rfl (small (by decide))) (by rw [ne_marks hR hT]; rfl)))
theorem good_ok : fs_is_good [rulesD R, takeD t] = .val false (.bl (goodN R t)) none := by
  refine fin_ok (ρ := [some (.f (rulesD R)), some (.f (takeD t))]) rfl ?_
  have c0 : sCall fs_has_grade (sCons (sVar 0) (sCons (sVar 1) sNil)) [some (.f (rulesD R)), some (.f (takeD t))] = .ok (.bl (!decide (R.lim < hrN t.ps false) && !t.ms.isEmpty)) [some (.f (rulesD R)), some (.f (takeD t))] :=
    call_ok (cons_ok (d := rulesD R) rfl (one_ok (d := takeD t) rfl)) (hasg_ok hR hT)
  unfold goodN
  by_cases h : R.lim < hrN t.ps false
  · rw [decide_eq_true h] at c0 ⊢
    exact ret_ok (and_no c0)
  · rw [decide_eq_false h] at c0 ⊢
    cases e : meanN R.ks t.ms with
    | none =>
      have := (mean_none hR hT).mp e
      rw [this] at c0
      exact ret_ok (and_no c0)
    | some p =>
      have hne : t.ms.isEmpty = false := by
        cases q : t.ms with
        | nil => rw [(mean_none hR hT).mpr q] at e; cases e
        | cons _ _ => rfl
      rw [hne] at c0
      have c1 := mean_ok hR hT
      rw [e] at c1
      exact ret_ok (and_yes c0 (bin_ok (call_ok (cons_ok (d := rulesD R) rfl (one_ok (call_ok (cons_ok (d := rulesD R) rfl (one_ok (d := takeD t) rfl)) c1))) (gp_ok hR p)) (bin_ok (x := rulesD R) rfl rfl rfl) (by rw [ge_nat]; rfl)))
end
end Y

set_option Elab.async false
set_option linter.all false
set_option maxRecDepth 100000
set_option maxHeartbeats 4000000
/-! rules by draws -/
namespace Y
open PySem PySem.Spec PyProof.Rows L2 PySem.W
theorem take_nat {b : D} (h : BagOk b) {n : Nat} (h1 : 0 < n) (h2 : n < 1073741824) : ∃ (r : Nat) (b' : D), fs__law_take [b, iN n] = .val false (iN r) (some b') ∧ BagOk b' ∧ r < n := by
  obtain ⟨r, b', e, hb, r0, r1⟩ := take_ok h (n := (n : Int)) (by omega) (by omega)
  obtain ⟨j, rfl⟩ : ∃ j : Nat, r = (j : Int) := ⟨r.toNat, by omega⟩
  exact ⟨j, b', e, hb, by omega⟩
theorem takeC {b : D} (h : BagOk b) {t : En} {f : En → Y.R (List D)} {n : Nat} (e : f (some (.b b) :: t) = .ok [iN n] (some (.b b) :: t)) (h1 : 0 < n) (h2 : n < 1073741824) : ∃ (r : Nat) (b' : D), sCallI 0 fs__law_take f (some (.b b) :: t) = .ok (iN r) (some (.b b') :: t) ∧ BagOk b' ∧ r < n := by
  obtain ⟨r, b', e1, hb, hr⟩ := take_nat h h1 h2
  exact ⟨r, b', callI_ok (i := 0) ⟨b, rfl⟩ e rfl e1, hb, hr⟩
theorem ixv_ok {i : Nat} {f : En → Y.R D} {ρ : En} {d k r : D} (e : sBor i ρ = .ok d ρ) (e2 : f ρ = .ok k ρ) (e3 : dIx d k = some r) : sIxV i f ρ = .ok r ρ := by
  unfold sIxV
  rw [e]
  simp only [bnd, e2, e, e3, lift]
theorem app_ok {i : Nat} {f : En → Y.R (List D)} {ρ ρ1 : En} {ds0 ds : List D} {d : D} (h0 : ownD i ρ = some (.nd .lst ds0)) (e : f ρ = .ok [d] ρ1) (h1 : ownD i ρ1 = some (.nd .lst ds)) (hl : ds.length < sizeLine) : sDrop (sMeth i gAppend f) ρ = .ok .nx (chg i (.nd .lst (ds ++ [d])) ρ1) := by
  unfold sDrop sMeth ownL
  rw [h0]
  simp only [lift, bnd, e, h1, gAppend, if_pos hl]
  rfl
theorem and_go {t u : En → Y.R Bool} {ρ ρ1 : En} {r : Y.R Bool} (e : t ρ = .ok true ρ1) (e2 : u ρ1 = r) : sAndT t u ρ = r := by
  unfold sAndT
  rw [e]
  exact e2
theorem and_off {t u : En → Y.R Bool} {ρ ρ1 : En} (e : t ρ = .ok false ρ1) : sAndT t u ρ = .ok false ρ1 := by
  unfold sAndT
  rw [e]
  rfl
theorem at_m1t {xs : List D} (h : 0 < xs.length) : dIx (.nd .tup xs) (.int (-1)) = some (xs[xs.length - 1]'(by omega)) := at_m1 h
theorem slc_ty2 {α : Type} {src : En → Y.R (List D)} {g : D → En → Option En} {t : En → Y.R Bool} {e : En → Y.R D} {vs : List Nat} {ρ ρ1 ρ2 : En} {R : List D} (f : α → D) (q : α → Bool) (p : α → D) (xs : List α) (hs : src ρ = .ok (xs.map f) ρ1) (hw : wipeE vs ρ1 = ρ2)
    (h : ∀ x ∈ xs, ∃ ρ3, g (f x) ρ2 = some ρ3 ∧ t ρ3 = .ok (q x) ρ3 ∧ (q x = true → e ρ3 = .ok (p x) ρ3) ∧ wipeE vs ρ3 = ρ2) (hl : xs.length ≤ 100000) (hr : (xs.filter q).map p = R) : sLc src g t e vs ρ = .ok (.nd .lst R) ρ2 :=
  sLc_ok2 hs hw ((lc_ty f q p xs [] h (by simpa using hl)).trans (by rw [List.nil_append, hr]))
def rE (b : D) (x1 x2 x3 x4 x5 x6 : Option S) : En := [some (.b b), x1, x2, x3, x4, x5, x6]
def KsOk (ks : List (Str × Nat)) : Prop := ∀ k ∈ ks, strG k.1 = true ∧ 1 ≤ k.2 ∧ k.2 ≤ 9
def knds : List D := [.str "home", .str "oral", .str "test"]
theorem knds_ok : ∀ d ∈ knds, ∃ s, d = .str s ∧ strG s = true := by
  intro d hd
  simp only [knds, List.mem_cons, List.not_mem_nil, or_false] at hd
  rcases hd with rfl | rfl | rfl
  · exact ⟨_, rfl, by decide +kernel⟩
  · exact ⟨_, rfl, by decide +kernel⟩
  · exact ⟨_, rfl, by decide +kernel⟩
theorem kinds_ok {b : D} (hb : BagOk b) : ∃ b' ks, (sSet 1 (sLc (sIt (sMk .lst (sCons (sC (.str "home")) (sCons (sC (.str "oral")) (sCons (sC (.str "test")) sNil))))) (hName 3) (sBin dGt (sCallI 0 fs__law_take (sCons (sC (.int 3)) sNil)) (sC (.int 0))) (sMk .tup (sCons (sVar 3) (sCons (sBin dPlus (sC (.int 1)) (sCallI 0 fs__law_take (sCons (sC (.int 9)) sNil))) sNil))) [3])) (rE b none none none none none none) = .ok .nx (rE b' (some (.f (.nd .lst (ks.map kindD)))) none none none none none) ∧ BagOk b' ∧ KsOk ks ∧ ks.length ≤ 3 := by
  have src : sIt (sMk .lst (sCons (sC (.str "home")) (sCons (sC (.str "oral")) (sCons (sC (.str "test")) sNil)))) (rE b none none none none none none) = .ok knds (rE b none none none none none none) := it_ok (mk_ok (ds := knds) rfl (small (show 3 ≤ 100000 by decide))) rfl
  obtain ⟨acc, ρ', e, b', ks, h1, h2, h3, h4, h5⟩ := lcL_inv (g := hName 3) (t := sBin dGt (sCallI 0 fs__law_take (sCons (sC (.int 3)) sNil)) (sC (.int 0))) (e := sMk .tup (sCons (sVar 3) (sCons (sBin dPlus (sC (.int 1)) (sCallI 0 fs__law_take (sCons (sC (.int 9)) sNil))) sNil))) (vs := [3])
    (fun j ρ acc => ∃ b ks, BagOk b ∧ ρ = rE b none none none none none none ∧ acc = ks.map kindD ∧ KsOk ks ∧ ks.length ≤ j) knds 0 (rE b none none none none none none) [] ⟨b, [], hb, rfl, rfl, fun k h => (by cases h), Nat.le_refl _⟩ (small (show 0 + 3 ≤ 100000 by decide)) (fun i d ρ acc hd ⟨b, ks, hb, e1, e2, ok, hl⟩ => by
      obtain ⟨s, rfl, hs⟩ := knds_ok d (List.mem_of_getElem? hd)
      subst e1 e2
      obtain ⟨r, b1, e3, hb1, hr⟩ := takeC hb (t := [none, none, some (.f (.str s)), none, none, none]) (f := sCons (sC (.int 3)) sNil) (n := 3) rfl (by decide) (by decide)
      refine ⟨rE b none none (some (.f (.str s))) none none none, decide (0 < r), rE b1 none none (some (.f (.str s))) none none none, rfl, bin_ok (y := iN 0) e3 rfl (gt_nat _ _), ?_⟩
      by_cases c : 0 < r
      · rw [if_pos (decide_eq_true c)]
        obtain ⟨r2, b2, e4, hb2, hr2⟩ := takeC hb1 (t := [none, none, some (.f (.str s)), none, none, none]) (f := sCons (sC (.int 9)) sNil) (n := 9) rfl (by decide) (by decide)
        refine ⟨kindD (s, 1 + r2), rE b2 none none (some (.f (.str s))) none none none, mk_ok (cons_ok (d := .str s) (ρ1 := rE b1 none none (some (.f (.str s))) none none none) rfl (one_ok (bin_ok (x := iN 1) rfl e4 (add_nat _ _)))) (small (show 2 ≤ 100000 by decide)), b2, ks ++ [(s, 1 + r2)], hb2, rfl, by simp, fun k hk => ?_, by simp; omega⟩
        rcases List.mem_append.mp hk with hk | hk
        · exact ok k hk
        · rw [List.mem_singleton.mp hk]
          exact ⟨hs, by show 1 ≤ 1 + r2; omega, by show 1 + r2 ≤ 9; omega⟩
      · rw [if_neg (by simpa using c)]
        exact ⟨b1, ks, hb1, rfl, rfl, ok, by omega⟩)
  subst h2 h3
  exact ⟨b', ks, set_call (i := 1) (sLc_ok src rfl e), h1, h4, by simpa [knds] using h5⟩
/-- a grade's name -/
def okN (s : Str) : Bool := strG s && (decide (s ≠ "out") && decide (s ≠ "open"))
theorem okN_G {s : Str} (h : okN s = true) : strG s = true := ((Bool.and_eq_true _ _).mp h).1
theorem okN_ne {s : Str} (h : okN s = true) : s ≠ "out" ∧ s ≠ "open" := by
  have := (Bool.and_eq_true _ _).mp ((Bool.and_eq_true _ _).mp h).2
  exact ⟨of_decide_eq_true this.1, of_decide_eq_true this.2⟩
structure GsOk (gs : List (Nat × Str)) (top : Nat) : Prop where
  g0 : ∃ s l, gs = (0, s) :: l
  g1 : ∀ g ∈ gs, okN g.2 = true ∧ g.1 ≤ top
  g2 : gs.Pairwise fun a b => a.1 ≤ b.1
theorem GsOk.pos {gs : List (Nat × Str)} {top : Nat} (h : GsOk gs top) : 0 < gs.length := by
  obtain ⟨s, l, rfl⟩ := h.g0
  simp
/-- nothing is greater than the last -/
theorem pw_last {gs : List (Nat × Str)} (h : gs.Pairwise fun a b => a.1 ≤ b.1) (hp : 0 < gs.length) : ∀ g ∈ gs, g.1 ≤ (gs[gs.length - 1]'(by omega)).1 := by
  intro g hg
  obtain ⟨i, hi, rfl⟩ := List.getElem_of_mem hg
  by_cases e : i = gs.length - 1
  · subst e; exact Nat.le_refl _
  · exact List.pairwise_iff_getElem.mp h i (gs.length - 1) hi (by omega) (by omega)
theorem GsOk.snoc {gs : List (Nat × Str)} (h : GsOk gs 119) {n : Nat} {s : Str} (hs : okN s = true) (h1 : (gs[gs.length - 1]'(by have := h.pos; omega)).1 ≤ n) (h2 : n ≤ 119) : GsOk (gs ++ [(n, s)]) 119 := by
  obtain ⟨s0, l, e⟩ := h.g0
  refine ⟨⟨s0, l ++ [(n, s)], by rw [e]; rfl⟩, fun g hg => ?_, List.pairwise_append.mpr ⟨h.g2, List.pairwise_singleton _ _, fun a ha b hb => ?_⟩⟩
  · rcases List.mem_append.mp hg with hg | hg
    · exact h.g1 g hg
    · rw [List.mem_singleton.mp hg]; exact ⟨hs, h2⟩
  · rw [List.mem_singleton.mp hb]
    exact Nat.le_trans (pw_last h.g2 h.pos a ha) h1
abbrev gradB : En → Y.R Fl := sIfS (sAndT (sBin dLt (sBin dIx (sIxV 2 (s1 dNeg (sC (.int 1)))) (sC (.int 0))) (sC (.int 90))) (sBin dGt (sCallI 0 fs__law_take (sCons (sC (.int 4)) sNil)) (sC (.int 0))))
  (sDrop (sMeth 2 gAppend (sCons (sMk .tup (sCons (sBin dPlus (sBin dPlus (sBin dIx (sIxV 2 (s1 dNeg (sC (.int 1)))) (sC (.int 0))) (sC (.int 1))) (sCallI 0 fs__law_take (sCons (sC (.int 30)) sNil))) (sCons (sVar 3) sNil))) sNil)))
  sNx
theorem grad_step {b : D} (hb : BagOk b) (k : D) {gs : List (Nat × Str)} (ok : GsOk gs 119) (hl : gs.length ≤ 1000) {s : Str} (hs : okN s = true) : ∃ b' gs', gradB (rE b (some (.f k)) (some (.o (.nd .lst (gs.map gradeD)))) (some (.f (.str s))) none none none) = .ok .nx (rE b' (some (.f k)) (some (.o (.nd .lst (gs'.map gradeD)))) (some (.f (.str s))) none none none) ∧ BagOk b' ∧ GsOk gs' 119 ∧ gs'.length ≤ gs.length + 1 := by
  have hp := ok.pos
  have last : ∀ b, sBin dIx (sIxV 2 (s1 dNeg (sC (.int 1)))) (sC (.int 0)) (rE b (some (.f k)) (some (.o (.nd .lst (gs.map gradeD)))) (some (.f (.str s))) none none none) = .ok (iN (gs[gs.length - 1]'(by omega)).1) (rE b (some (.f k)) (some (.o (.nd .lst (gs.map gradeD)))) (some (.f (.str s))) none none none) := fun b => by
    refine bin_ok (x := gradeD (gs[gs.length - 1]'(by omega))) (ixv_ok (d := .nd .lst (gs.map gradeD)) (k := .int (-1)) rfl rfl ?_) rfl rfl
    rw [at_m1 (by rw [List.length_map]; exact hp)]
    simp
  have c1 : sBin dLt (sBin dIx (sIxV 2 (s1 dNeg (sC (.int 1)))) (sC (.int 0))) (sC (.int 90)) (rE b (some (.f k)) (some (.o (.nd .lst (gs.map gradeD)))) (some (.f (.str s))) none none none) = .ok (decide ((gs[gs.length - 1]'(by omega)).1 < 90)) (rE b (some (.f k)) (some (.o (.nd .lst (gs.map gradeD)))) (some (.f (.str s))) none none none) := bin_ok (y := iN 90) (last b) rfl (lt_nat _ _)
  by_cases h9 : (gs[gs.length - 1]'(by omega)).1 < 90
  · rw [decide_eq_true h9] at c1
    obtain ⟨r, b1, e1, hb1, hr⟩ := takeC hb (t := [some (.f k), some (.o (.nd .lst (gs.map gradeD))), some (.f (.str s)), none, none, none]) (f := sCons (sC (.int 4)) sNil) (n := 4) rfl (by decide) (by decide)
    have c2 : sBin dGt (sCallI 0 fs__law_take (sCons (sC (.int 4)) sNil)) (sC (.int 0)) (rE b (some (.f k)) (some (.o (.nd .lst (gs.map gradeD)))) (some (.f (.str s))) none none none) = .ok (decide (0 < r)) (rE b1 (some (.f k)) (some (.o (.nd .lst (gs.map gradeD)))) (some (.f (.str s))) none none none) := bin_ok (y := iN 0) e1 rfl (gt_nat _ _)
    by_cases c : 0 < r
    · rw [decide_eq_true c] at c2
      obtain ⟨r2, b2, e2, hb2, hr2⟩ := takeC hb1 (t := [some (.f k), some (.o (.nd .lst (gs.map gradeD))), some (.f (.str s)), none, none, none]) (f := sCons (sC (.int 30)) sNil) (n := 30) rfl (by decide) (by decide)
      refine ⟨b2, gs ++ [((gs[gs.length - 1]'(by omega)).1 + 1 + r2, s)], (if_yes (and_go c1 c2)).trans ?_, hb2, ok.snoc hs (by omega) (by omega), by simp⟩
      refine Eq.trans (b := Y.R.ok Fl.nx (chg 2 (.nd .lst (gs.map gradeD ++ [gradeD ((gs[gs.length - 1]'(by omega)).1 + 1 + r2, s)])) (rE b2 (some (.f k)) (some (.o (.nd .lst (gs.map gradeD)))) (some (.f (.str s))) none none none))) ?_ ?_
      · exact app_ok (i := 2) rfl (one_ok (mk_ok (cons_ok (bin_ok (bin_ok (last b1) (y := iN 1) rfl (add_nat _ _)) e2 (add_nat _ _)) (one_ok (d := .str s) rfl)) (small (show 2 ≤ 100000 by decide)))) rfl (by rw [List.length_map]; exact Nat.lt_of_le_of_lt hl (by decide))
      rw [List.map_append]
      rfl
    · rw [decide_eq_false c] at c2
      exact ⟨b1, gs, (if_no (and_go c1 c2)).trans rfl, hb1, ok, by omega⟩
  · rw [decide_eq_false h9] at c1
    exact ⟨b, gs, (if_no (and_off c1)).trans rfl, hb, ok, by omega⟩
def grds : List D := [.str "d", .str "c", .str "b", .str "a"]
theorem grds_ok : ∀ d ∈ grds, ∃ s, d = .str s ∧ okN s = true := by
  intro d hd
  simp only [grds, List.mem_cons, List.not_mem_nil, or_false] at hd
  rcases hd with rfl | rfl | rfl | rfl
  · exact ⟨_, rfl, by decide +kernel⟩
  · exact ⟨_, rfl, by decide +kernel⟩
  · exact ⟨_, rfl, by decide +kernel⟩
  · exact ⟨_, rfl, by decide +kernel⟩
theorem grads_ok {b : D} (hb : BagOk b) (k : D) {gs : List (Nat × Str)} (ok : GsOk gs 119) (hl : gs.length = 1) : ∃ b' gs' x3, sFor (sIt (sMk .lst (sCons (sC (.str "d")) (sCons (sC (.str "c")) (sCons (sC (.str "b")) (sCons (sC (.str "a")) sNil)))))) (hName 3) gradB (rE b (some (.f k)) (some (.o (.nd .lst (gs.map gradeD)))) none none none none) = .ok .nx (rE b' (some (.f k)) (some (.o (.nd .lst (gs'.map gradeD)))) x3 none none none) ∧ BagOk b' ∧ GsOk gs' 119 ∧ gs'.length ≤ 5 := by
  have src : sIt (sMk .lst (sCons (sC (.str "d")) (sCons (sC (.str "c")) (sCons (sC (.str "b")) (sCons (sC (.str "a")) sNil))))) (rE b (some (.f k)) (some (.o (.nd .lst (gs.map gradeD)))) none none none none) = .ok grds (rE b (some (.f k)) (some (.o (.nd .lst (gs.map gradeD)))) none none none none) := it_ok (mk_ok (ds := grds) rfl (small (show 4 ≤ 100000 by decide))) rfl
  obtain ⟨ρ', e, b', gs', x3, h1, h2, h3, h4⟩ := forL_inv (g := hName 3) (b := gradB) (fun j ρ => ∃ b gs x3, BagOk b ∧ ρ = rE b (some (.f k)) (some (.o (.nd .lst (gs.map gradeD)))) x3 none none none ∧ GsOk gs 119 ∧ gs.length ≤ j + 1 ∧ j ≤ 4) grds 0 _ ⟨b, gs, none, hb, rfl, ok, by omega, by omega⟩ (fun i d ρ hd ⟨b, gs, x3, hb, e1, ok, hl, hj⟩ => by
    obtain ⟨s, rfl, hs⟩ := grds_ok d (List.mem_of_getElem? hd)
    have hi : i < 4 := (List.getElem?_eq_some_iff.mp hd).1
    subst e1
    obtain ⟨b1, gs1, e2, hb1, ok1, hl1⟩ := grad_step hb k ok (by omega) hs
    exact ⟨_, _, rfl, e2, b1, gs1, _, hb1, rfl, ok1, by omega, by omega⟩)
  subst h2
  exact ⟨b', gs', x3, for_ok src e, h1, h3, by simpa [grds] using h4.1⟩
theorem min_nat (a b : Nat) : dMin2 [iN a, iN b] = some (iN (min a b)) := by
  show some (D.int (if (b : Int) < (a : Int) then (b : Int) else (a : Int))) = _
  by_cases h : (b : Int) < (a : Int)
  · rw [if_pos h, show min a b = b by omega]
  · rw [if_neg h, show min a b = a by omega]
theorem max_nat (a b : Nat) : dMax2 [iN a, iN b] = some (iN (max a b)) := by
  show some (D.int (if (b : Int) > (a : Int) then (b : Int) else (a : Int))) = _
  by_cases h : (b : Int) > (a : Int)
  · rw [if_pos h, show max a b = b by omega]
  · rw [if_neg h, show max a b = a by omega]
def cap (g : Nat × Str) : Nat × Str := (min 100 g.1, g.2)
theorem GsOk.cap {gs : List (Nat × Str)} (h : GsOk gs 119) : GsOk (gs.map cap) 100 := by
  obtain ⟨s, l, e⟩ := h.g0
  refine ⟨⟨s, l.map Y.cap, by rw [e]; rfl⟩, fun g hg => ?_, List.pairwise_map.mpr (h.g2.imp fun {a b} k => ?_)⟩
  · obtain ⟨x, hx, rfl⟩ := List.mem_map.mp hg
    exact ⟨(h.g1 x hx).1, Nat.min_le_left _ _⟩
  · show min 100 a.1 ≤ min 100 b.1
    omega
theorem caps_ok (b k : D) (x3 : Option S) {gs : List (Nat × Str)} (hl : gs.length ≤ 5) : sSet 2 (s1 dTuple (sLc (sIt (sFrz 2)) (hTup 2 (hCons (hName 6) (hCons (hName 3) hNil))) sYes (sMk .tup (sCons (sN dMin2 (sCons (sC (.int 100)) (sCons (sVar 6) sNil))) (sCons (sVar 3) sNil))) [6, 3])) (rE b (some (.f k)) (some (.o (.nd .lst (gs.map gradeD)))) x3 none none none) = .ok .nx (rE b (some (.f k)) (some (.f (.nd .tup ((gs.map cap).map gradeD)))) none none none none) := by
  refine set_call (i := 2) (s1_ok (g := dTuple) (d := .nd .lst ((gs.map cap).map gradeD)) (slc_ty2 (ρ1 := rE b (some (.f k)) (some (.f (.nd .lst (gs.map gradeD)))) x3 none none none) (ρ2 := rE b (some (.f k)) (some (.f (.nd .lst (gs.map gradeD)))) none none none none) gradeD (fun _ => true) (fun g => gradeD (cap g)) gs rfl rfl (fun g hg => ⟨rE b (some (.f k)) (some (.f (.nd .lst (gs.map gradeD)))) (some (.f (.str g.2))) none none (some (.f (iN g.1))), rfl, rfl, fun _ => mk_ok (cons_ok (n_ok (ds := [iN 100, iN g.1]) rfl (min_nat _ _)) (one_ok (d := .str g.2) rfl)) (small (show 2 ≤ 100000 by decide)), rfl⟩) (by omega) (by rw [List.map_map, List.filter_eq_self.mpr (fun _ _ => rfl)]; rfl)) rfl)
theorem four_nat {a b c d : Nat} {x : D} (h : x ∈ [iN a, iN b, iN c, iN d]) : ∃ n, x = iN n ∧ (n = a ∨ n = b ∨ n = c ∨ n = d) := by
  simp only [List.mem_cons, List.not_mem_nil, or_false] at h
  rcases h with h | h | h | h
  · exact ⟨a, h, .inl rfl⟩
  · exact ⟨b, h, .inr (.inl rfl)⟩
  · exact ⟨c, h, .inr (.inr (.inl rfl))⟩
  · exact ⟨d, h, .inr (.inr (.inr rfl))⟩
theorem kinds_end {ks : List (Str × Nat)} (ok : KsOk ks) (hl : ks.length ≤ 3) {ρ : En} (v : sVar 1 ρ = .ok (.nd .lst (ks.map kindD)) ρ) : ∃ ks', s1 dTuple (sBin dPlus (sVar 1) (sBin dRep (sMk .lst (sCons (sMk .tup (sCons (sC (.str "work")) (sCons (sC (.int 2)) sNil))) sNil)) (s1 dInt (sCmp dEq (sVar 1) (sMk .lst sNil))))) ρ = .ok (.nd .tup (ks'.map kindD)) ρ ∧ KsOk ks' ∧ ks'.length ≤ 3 ∧ ks' ≠ [] := by
  have dv : dok (.nd .lst (ks.map kindD)) = true := dk_dok (n := 2) (by decide) (dk_nd (.inl rfl) fun x hx => by
    obtain ⟨k, hk, rfl⟩ := List.mem_map.mp hx
    refine dk_nd (.inr rfl) fun y hy => ?_
    simp only [List.mem_cons, List.not_mem_nil, or_false] at hy
    rcases hy with rfl | rfl
    · exact dk_str _ (ok k hk).1
    · exact dk_int _ _)
  have c : sCmp dEq (sVar 1) (sMk .lst sNil) ρ = .ok (.bl (ks.map kindD).isEmpty) ρ := bin_ok v (mk_ok (ds := []) rfl (small (by decide))) (by rw [dEq_nil dv]; rfl)
  have w : sMk .lst (sCons (sMk .tup (sCons (sC (.str "work")) (sCons (sC (.int 2)) sNil))) sNil) ρ = .ok (.nd .lst [kindD ("work", 2)]) ρ := mk_ok (one_ok (mk_ok (ds := [.str "work", .int 2]) rfl (small (show 2 ≤ 100000 by decide)))) (small (show 1 ≤ 100000 by decide))
  cases ks with
  | nil =>
    refine ⟨[("work", 2)], s1_ok (bin_ok v (bin_ok w (s1_ok c (d' := .int 1) rfl) (d := .nd .lst [kindD ("work", 2)]) rfl) rfl) rfl, fun k hk => ?_, by decide, by simp⟩
    rw [List.mem_singleton.mp hk]
    exact ⟨by decide +kernel, by decide, by decide⟩
  | cons k ks =>
    refine ⟨k :: ks, s1_ok (bin_ok v (bin_ok w (s1_ok c (d' := .int 0) rfl) (d := .nd .lst []) rfl) (d := .nd .lst ((k :: ks).map kindD)) ?_) rfl, ok, hl, by simp⟩
    show dCat (.nd .lst ((k :: ks).map kindD)) (.nd .lst []) = _
    rw [cat_ok (small (by rw [List.length_map, List.length_nil]; omega)), List.append_nil]
end Y

set_option Elab.async false
set_option linter.all false
set_option maxRecDepth 100000
set_option maxHeartbeats 4000000
/-! takes by draws -/
namespace Y
open PySem PySem.Spec PyProof.Rows L2 PySem.W
theorem put_ok2 {i : Nat} {g : D → D → D → Option D} {fk fe : En → Y.R D} {ρ ρ1 ρ2 : En} {e k d00 d0 d' : D} (h1 : fe ρ = .ok e ρ1) (h2 : ownD i ρ1 = some d00) (h3 : fk ρ1 = .ok k ρ2) (h5 : ownD i ρ2 = some d0) (h4 : g d0 k e = some d') : sPut i g fk fe ρ = .ok .nx (chg i d' ρ2) := by
  unfold sPut
  rw [h1]
  simp only [bnd, h2, lift, h3, h5, h4]
section
variable {κ : Type} [DecidableEq κ]
theorem getK_mem : ∀ {ks : List κ} {ds : List D} {k : κ}, ks.length = ds.length → k ∈ ks → ∃ d, getK ks ds k = some d ∧ d ∈ ds
  | [], _, k, _, h => by cases h
  | k' :: ks, [], k, e, _ => by simp at e
  | k' :: ks, d :: ds, k, e, h => by
    by_cases q : k' = k
    · exact ⟨d, by simp [getK, List.find?_cons, q], List.mem_cons_self⟩
    · have hm : k ∈ ks := by
        rcases List.mem_cons.mp h with h | h
        · exact absurd h.symm q
        · exact h
      obtain ⟨d', h1, h2⟩ := getK_mem (ds := ds) (by simpa using e) hm
      refine ⟨d', ?_, List.mem_cons_of_mem _ h2⟩
      rw [← h1]
      simp [getK, List.find?_cons, q]
theorem mem_putKs {ks : List κ} {q k : κ} (h : k ∈ putKs ks q) : k ∈ ks ∨ k = q := by
  unfold putKs at h
  split at h
  · exact .inl h
  · simpa using h
theorem mem_zipW {q : κ} {v : D} : ∀ {ks : List κ} {ds : List D} {d : D}, d ∈ List.zipWith (fun k' d' => if k' = q then v else d') ks ds → d ∈ ds ∨ d = v
  | [], _, d, h => by simp at h
  | _ :: _, [], d, h => by simp at h
  | k :: ks, x :: ds, d, h => by
    rw [List.zipWith_cons_cons] at h
    rcases List.mem_cons.mp h with h | h
    · split at h
      · exact .inr h
      · exact .inl (h ▸ List.mem_cons_self)
    · exact (mem_zipW h).imp (List.mem_cons_of_mem _) id
theorem mem_putDs {ks : List κ} {ds : List D} {q : κ} {v d : D} (h : d ∈ putDs ks ds q v) : d ∈ ds ∨ d = v := by
  unfold putDs at h
  split at h
  · exact mem_zipW h
  · simpa using h
theorem put_len {ks : List κ} {ds : List D} {q : κ} {v : D} (h : ks.length = ds.length) : (putKs ks q).length = (putDs ks ds q v).length := by
  unfold putKs putDs
  split
  · simp [h]
  · simp [h]
theorem putKs_1 (ks : List κ) (q : κ) : (putKs ks q).length ≤ ks.length + 1 := by
  unfold putKs
  split
  · omega
  · simp
end
/-- things of a kind -/
theorem ex_map {α β : Type} {P : α → Prop} {f : α → D} {p : β → D} : ∀ {l : List β}, (∀ x ∈ l, ∃ a, P a ∧ p x = f a) → ∃ as : List α, l.map p = as.map f ∧ (∀ a ∈ as, P a) ∧ as.length = l.length
  | [], _ => ⟨[], rfl, fun a h => (by cases h), rfl⟩
  | x :: l, h => by
    obtain ⟨a, h1, h2⟩ := h x List.mem_cons_self
    obtain ⟨as, e, h3, h4⟩ := ex_map fun y hy => h y (List.mem_cons_of_mem _ hy)
    refine ⟨a :: as, by rw [List.map_cons, List.map_cons, h2, e], fun b hb => ?_, by simp [h4]⟩
    rcases List.mem_cons.mp hb with rfl | hb
    · exact h1
    · exact h3 b hb
def tE (b R c : D) (x3 x4 : Option S) (m g : D) (x7 x8 x9 : Option S) : En := [some (.b b), some (.f R), some (.f c), x3, x4, some (.o m), some (.o g), x7, x8, x9]
structure MkOk (R : Rl) (ks : List (List Key)) (ds : List D) : Prop where
  len : ks.length = ds.length
  keys : ∀ k ∈ ks, ∃ (d : Nat) (s : Str), k = [.inl (d : Int), .inr s] ∧ strG s = true ∧ s ∈ R.ks.map (·.1)
  vals : ∀ d ∈ ds, ∃ v : Nat, d = iN v ∧ v ≤ 100
theorem last_ok {R : Rl} (hR : RlOk R) {ρ : En} (v : sVar 1 ρ = .ok (rulesD R) ρ) : ∃ L : Nat, sBin dIx (sBin dIx (sBin dIx (sVar 1) (sC (.int 1))) (s1 dNeg (sC (.int 1)))) (sC (.int 0)) ρ = .ok (iN L) ρ ∧ L ≤ 100 := by
  have hp : 0 < R.gs.length := by
    obtain ⟨s, l, e⟩ := hR.g0
    rw [e]; simp
  refine ⟨(R.gs[R.gs.length - 1]'(by omega)).1, bin_ok (x := gradeD (R.gs[R.gs.length - 1]'(by omega))) (bin_ok (x := .nd .tup (R.gs.map gradeD)) (y := .int (-1)) (bin_ok v rfl rfl) rfl ?_) rfl rfl, (hR.g1 _ (List.getElem_mem _)).2⟩
  rw [at_m1t (by rw [List.length_map]; exact hp)]
  simp
theorem max0 (L : Nat) : dMax2 [.int 0, .int ((L : Int) - 1)] = some (iN (L - 1)) := by
  show some (D.int (if (L : Int) - 1 > (0 : Int) then (L : Int) - 1 else 0)) = _
  by_cases h : (L : Int) - 1 > (0 : Int)
  · rw [if_pos h]; congr 2; omega
  · rw [if_neg h]; congr 2; omega
theorem draws {b : D} (hb : BagOk b) {t : En} (n : Nat) (h1 : 0 < n) (h2 : n ≤ 1000) (f : En → Y.R (List D)) (e : f (some (.b b) :: t) = .ok [iN n] (some (.b b) :: t)) : ∃ (r : Nat) (b' : D), sRg rg1 (sCons (sCallI 0 fs__law_take f) sNil) (some (.b b) :: t) = .ok ((List.range' 0 r).map fun i : Nat => D.int (i : Int)) (some (.b b') :: t) ∧ BagOk b' ∧ r < n := by
  obtain ⟨r, b1, e1, hb1, hr⟩ := takeC hb e h1 (by omega)
  exact ⟨r, b1, rg_ok (one_ok e1) (by rw [rg1_nat (by omega), rg_nat]), hb1, hr⟩
structure GpOk (ks : List Key) (ds : List D) : Prop where
  len : ks.length = ds.length
  keys : ∀ k ∈ ks, ∃ d : Nat, k = .inl (d : Int)
  vals : ∀ d ∈ ds, ∃ (n : Nat) (x : Bool), d = .nd .tup [iN n, .bl x] ∧ 1 ≤ n ∧ n ≤ 9
abbrev gapB : En → Y.R Fl := sPut 6 gSetD (sCallI 0 fs__law_take (sCons (sC (.int 401)) sNil)) (sMk .tup (sCons (sBin dPlus (sC (.int 1)) (sCallI 0 fs__law_take (sCons (sC (.int 9)) sNil))) (sCons (sCmp dEq (sCallI 0 fs__law_take (sCons (sC (.int 2)) sNil)) (sC (.int 0))) sNil)))
theorem gap_step {b R c m : D} {x3 x7 : Option S} (hb : BagOk b) {ks : List Key} {ds : List D} (ok : GpOk ks ds) (hl : ks.length ≤ 1000) :
    ∃ b' ks' ds', gapB (tE b R c x3 none m (.nd (.dK ks) ds) x7 none none) = .ok .nx (tE b' R c x3 none m (.nd (.dK ks') ds') x7 none none) ∧ BagOk b' ∧ GpOk ks' ds' ∧ ks'.length ≤ ks.length + 1 := by
  obtain ⟨r1, b1, e1, hb1, hr1⟩ := takeC hb (t := [some (.f R), some (.f c), x3, none, some (.o m), some (.o (.nd (.dK ks) ds)), x7, none, none]) (f := sCons (sC (.int 9)) sNil) (n := 9) rfl (by decide) (by decide)
  obtain ⟨r2, b2, e2, hb2, hr2⟩ := takeC hb1 (t := [some (.f R), some (.f c), x3, none, some (.o m), some (.o (.nd (.dK ks) ds)), x7, none, none]) (f := sCons (sC (.int 2)) sNil) (n := 2) rfl (by decide) (by decide)
  obtain ⟨r3, b3, e3, hb3, hr3⟩ := takeC hb2 (t := [some (.f R), some (.f c), x3, none, some (.o m), some (.o (.nd (.dK ks) ds)), x7, none, none]) (f := sCons (sC (.int 401)) sNil) (n := 401) rfl (by decide) (by decide)
  have val : sMk .tup (sCons (sBin dPlus (sC (.int 1)) (sCallI 0 fs__law_take (sCons (sC (.int 9)) sNil))) (sCons (sCmp dEq (sCallI 0 fs__law_take (sCons (sC (.int 2)) sNil)) (sC (.int 0))) sNil)) (tE b R c x3 none m (.nd (.dK ks) ds) x7 none none) = .ok (.nd .tup [iN (1 + r1), .bl (decide (r2 = 0))]) (tE b2 R c x3 none m (.nd (.dK ks) ds) x7 none none) := by
    refine mk_ok (cons_ok (bin_ok (x := iN 1) rfl e1 (add_nat _ _)) (one_ok ?_)) (small (show 2 ≤ 100000 by decide))
    exact bin_ok (y := iN 0) e2 rfl (by rw [dEq_ints]; rfl)
  have ge : gSetD (.nd (.dK ks) ds) (iN r3) (.nd .tup [iN (1 + r1), .bl (decide (r2 = 0))]) = some (.nd (.dK (putKs ks (.inl (r3 : Int)))) (putDs ks ds (.inl (r3 : Int)) (.nd .tup [iN (1 + r1), .bl (decide (r2 = 0))]))) := by
    show (if ks.length < sizeLine then _ else none) = _
    rw [if_pos (Nat.lt_of_le_of_lt hl (by decide))]
  have p := put_ok2 (i := 6) val rfl e3 rfl ge
  refine ⟨b3, _, _, p, hb3, ⟨put_len ok.len, fun q hq => ?_, fun z hz => ?_⟩, putKs_1 _ _⟩
  · rcases mem_putKs hq with hq | rfl
    · exact ok.keys q hq
    · exact ⟨r3, rfl⟩
  · rcases mem_putDs hz with hz | rfl
    · exact ok.vals z hz
    · exact ⟨_, _, rfl, by omega, by omega⟩
theorem gaps_ok {b R c m : D} {x3 x7 : Option S} (hb : BagOk b) : ∃ b' ks ds y3, sFor (sRg rg1 (sCons (sCallI 0 fs__law_take (sCons (sC (.int 4)) sNil)) sNil)) (hName 3) gapB (tE b R c x3 none m (.nd (.dK []) []) x7 none none) = .ok .nx (tE b' R c y3 none m (.nd (.dK ks) ds) x7 none none) ∧ BagOk b' ∧ GpOk ks ds ∧ ks.length ≤ 3 := by
  obtain ⟨r, b1, e1, hb1, hr⟩ := draws hb (t := [some (.f R), some (.f c), x3, none, some (.o m), some (.o (.nd (.dK []) [])), x7, none, none]) 4 (by decide) (by decide) (sCons (sC (.int 4)) sNil) rfl
  obtain ⟨ρ', e, b', ks, ds, y3, h1, h2, h3, h4⟩ := forL_inv (g := hName 3) (b := gapB) (fun j ρ => ∃ b ks ds x3, BagOk b ∧ ρ = tE b R c x3 none m (.nd (.dK ks) ds) x7 none none ∧ GpOk ks ds ∧ ks.length ≤ j ∧ j ≤ r) ((List.range' 0 r).map fun i : Nat => D.int (i : Int)) 0 _ ⟨b1, [], [], x3, hb1, rfl, ⟨rfl, fun k h => (by cases h), fun d h => (by cases h)⟩, Nat.le_refl _, Nat.zero_le _⟩ (fun i d ρ hd ⟨b, ks, ds, x3, hb, e1, ok, hl, hj⟩ => by
    have hi : i < r := by have := (List.getElem?_eq_some_iff.mp hd).1; simpa using this
    subst e1
    obtain ⟨b2, ks2, ds2, e2, hb2, ok2, hl2⟩ := gap_step (R := R) (c := c) (m := m) (x3 := some (.f d)) (x7 := x7) hb ok (by omega)
    exact ⟨_, _, rfl, e2, b2, ks2, ds2, _, hb2, rfl, ok2, by omega, by omega⟩)
  subst h2
  rw [List.length_map, List.length_range'] at h4
  exact ⟨b', ks, ds, y3, for_ok e1 e, h1, h3, by omega⟩
theorem sortT_ok {R : Rl} {ks : List (List Key)} {ds : List D} (ok : MkOk R ks ds) (hl : ks.length ≤ 1000) : ∃ ks' : List (List Key), dSortedT (.nd (.dT ks) ds) = some (.nd .lst (ks'.map kT)) ∧ ks'.Perm ks := by
  have lk : likeD (ks.map kT) = true := by
    unfold likeD
    simp only [Bool.and_eq_true, Bool.or_eq_true, List.all_eq_true, List.mem_map]
    refine ⟨?_, ?_, .inl ?_⟩
    · rintro a ⟨k, hk, rfl⟩ b ⟨k', hk', rfl⟩
      obtain ⟨d, s, rfl, _⟩ := ok.keys k hk
      obtain ⟨d', s', rfl, _⟩ := ok.keys k' hk'
      simp [kT, kD, py, pys, alike, alikeAll]
    · rintro a ⟨k, hk, rfl⟩
      obtain ⟨d, s, rfl, hs, _⟩ := ok.keys k hk
      refine dk_dok (n := 1) (by decide) (dk_nd (.inr rfl) fun y hy => ?_)
      simp only [List.map_cons, List.map_nil, List.mem_cons, List.not_mem_nil, or_false, kD] at hy
      rcases hy with rfl | rfl
      · exact dk_int _ _
      · exact dk_str _ hs
    · rintro a ⟨k, hk, rfl⟩
      obtain ⟨d, s, rfl, _⟩ := ok.keys k hk
      rfl
  obtain ⟨ks', p, e⟩ := perm_map_inv kT (List.mergeSort_perm (ks.map kT) leD)
  refine ⟨ks', ?_, p⟩
  show sortD (ks.map kT) = _
  unfold sortD
  rw [if_pos ⟨lk, by rw [List.length_map]; exact small (by omega)⟩, e]
theorem sortI_ok {ks : List Key} {ds : List D} (ok : GpOk ks ds) (hl : ks.length ≤ 1000) : ∃ ks' : List Key, dSorted (.nd (.dK ks) ds) = some (.nd .lst (ks'.map kD)) ∧ ks'.Perm ks := by
  have lk : likeD (ks.map kD) = true := by
    unfold likeD
    simp only [Bool.and_eq_true, Bool.or_eq_true, List.all_eq_true, List.mem_map]
    refine ⟨?_, ?_, .inr ?_⟩
    · rintro a ⟨k, hk, rfl⟩ b ⟨k', hk', rfl⟩
      obtain ⟨d, rfl⟩ := ok.keys k hk
      obtain ⟨d', rfl⟩ := ok.keys k' hk'
      simp [kD, py, alike]
    · rintro a ⟨k, hk, rfl⟩
      obtain ⟨d, rfl⟩ := ok.keys k hk
      exact dk_dok (n := 0) (by decide) (dk_int _ _)
    · rintro a ⟨k, hk, rfl⟩
      obtain ⟨d, rfl⟩ := ok.keys k hk
      rfl
  obtain ⟨ks', p, e⟩ := perm_map_inv kD (List.mergeSort_perm (ks.map kD) leD)
  refine ⟨ks', ?_, p⟩
  show sortD (ks.map kD) = _
  unfold sortD
  rw [if_pos ⟨lk, by rw [List.length_map]; exact small (by omega)⟩, e]
def rowP (ks : List (List Key)) (ds : List D) : List Key → D
  | [a, b] => .nd .tup [kD a, kD b, (getK ks ds [a, b]).getD .non]
  | _ => .non
theorem rows_of_marks {R : Rl} {b c g : D} {x3 x7 : Option S} {ks : List (List Key)} {ds : List D} (ok : MkOk R ks ds) (hl : ks.length ≤ 1000) : ∃ ms : List (Nat × Str × Nat), sSet 4 (s1 dTuple (sLc (sIt (s1 dSortedT (sBor 5))) (hTup 2 (hCons (hName 8) (hCons (hName 9) hNil))) sYes (sMk .tup (sCons (sVar 8) (sCons (sVar 9) (sCons (sIxV 5 (sMk .tup (sCons (sVar 8) (sCons (sVar 9) sNil)))) sNil)))) [8, 9])) (tE b (rulesD R) c x3 none (.nd (.dT ks) ds) g x7 none none) = .ok .nx (tE b (rulesD R) c x3 (some (.f (.nd .tup (ms.map markD)))) (.nd (.dT ks) ds) g x7 none none) ∧ (∀ m ∈ ms, strG m.2.1 = true ∧ m.2.1 ∈ R.ks.map (·.1)) ∧ ms.length = ks.length := by
  obtain ⟨ks', e1, p⟩ := sortT_ok ok hl
  have one : ∀ k ∈ ks', ∃ m : Nat × Str × Nat, (strG m.2.1 = true ∧ m.2.1 ∈ R.ks.map (·.1)) ∧ rowP ks ds k = markD m := fun k hk => by
    obtain ⟨d, s, rfl, h1, h2⟩ := ok.keys k (p.mem_iff.mp hk)
    obtain ⟨x, hx, hm⟩ := getK_mem ok.len (p.mem_iff.mp hk)
    obtain ⟨v, rfl, _⟩ := ok.vals x hm
    exact ⟨(d, s, v), ⟨h1, h2⟩, by simp [rowP, hx, kD, markD]⟩
  obtain ⟨ms, em, hm, lm⟩ := ex_map one
  refine ⟨ms, ?_, hm, by rw [lm, p.length_eq]⟩
  refine set_call (i := 4) (s1_ok (g := dTuple) (d := .nd .lst (ms.map markD)) (slc_ty kT (fun _ => true) (rowP ks ds) ks' (it_ok (s1_ok (d := .nd (.dT ks) ds) rfl e1) rfl) rfl (fun k hk => ?_) (by rw [p.length_eq]; omega) (by rw [List.filter_eq_self.mpr (fun _ _ => rfl), em])) rfl)
  obtain ⟨d, s, rfl, h1, h2⟩ := ok.keys k (p.mem_iff.mp hk)
  obtain ⟨x, hx, hm⟩ := getK_mem ok.len (p.mem_iff.mp hk)
  refine ⟨tE b (rulesD R) c x3 none (.nd (.dT ks) ds) g x7 (some (.f (iN d))) (some (.f (.str s))), rfl, rfl, fun _ => ?_, rfl⟩
  have r : rowP ks ds [.inl (d : Int), .inr s] = .nd .tup [iN d, .str s, x] := by simp [rowP, hx, kD]
  rw [r]
  refine mk_ok (cons_ok (d := iN d) rfl (cons_ok (d := .str s) rfl (one_ok (ixv_ok (d := .nd (.dT ks) ds) (k := .nd .tup [iN d, .str s]) rfl (mk_ok (ds := [iN d, .str s]) rfl (small (show 2 ≤ 100000 by decide))) ?_)))) (small (show 3 ≤ 100000 by decide))
  show (some (getK ks ds [.inl (d : Int), .inr s])).bind id = _
  rw [hx]
  rfl
def gapP (ks : List Key) (ds : List D) (k : Key) : D := match getK ks ds k with
  | some (.nd .tup ys) => .nd .tup (kD k :: ys)
  | _ => .non
theorem rows_of_gaps {R c m : D} {x4 x3 x7 : Option S} {b : D} {ks : List Key} {ds : List D} (ok : GpOk ks ds) (hl : ks.length ≤ 1000) : ∃ ps : List (Nat × Nat × Bool), s1 dTuple (sLc (sIt (s1 dSorted (sBor 6))) (hName 8) sYes (sBin dPlus (sMk .tup (sCons (sVar 8) sNil)) (sIxV 6 (sVar 8))) [8]) (tE b R c x3 x4 m (.nd (.dK ks) ds) x7 none none) = .ok (.nd .tup (ps.map gapD)) (tE b R c x3 x4 m (.nd (.dK ks) ds) x7 none none) ∧ ps.length = ks.length ∧ ∀ g ∈ ps, 1 ≤ g.2.1 ∧ g.2.1 ≤ 9 := by
  obtain ⟨ks', e1, p⟩ := sortI_ok ok hl
  have one : ∀ k ∈ ks', ∃ g : Nat × Nat × Bool, (1 ≤ g.2.1 ∧ g.2.1 ≤ 9) ∧ gapP ks ds k = gapD g := fun k hk => by
    obtain ⟨d, rfl⟩ := ok.keys k (p.mem_iff.mp hk)
    obtain ⟨x, hx, hm⟩ := getK_mem ok.len (p.mem_iff.mp hk)
    obtain ⟨n, y, rfl, hn⟩ := ok.vals x hm
    exact ⟨(d, n, y), hn, by simp [gapP, hx, kD, gapD]⟩
  obtain ⟨ps, em, hp, lm⟩ := ex_map one
  refine ⟨ps, ?_, by rw [lm, p.length_eq], hp⟩
  refine s1_ok (g := dTuple) (d := .nd .lst (ps.map gapD)) (slc_ty kD (fun _ => true) (gapP ks ds) ks' (it_ok (s1_ok (d := .nd (.dK ks) ds) rfl e1) rfl) rfl (fun k hk => ?_) (by rw [p.length_eq]; omega) (by rw [List.filter_eq_self.mpr (fun _ _ => rfl), em])) rfl
  obtain ⟨d, rfl⟩ := ok.keys k (p.mem_iff.mp hk)
  obtain ⟨x, hx, hm⟩ := getK_mem ok.len (p.mem_iff.mp hk)
  obtain ⟨n, y, rfl, hn⟩ := ok.vals x hm
  refine ⟨tE b R c x3 x4 m (.nd (.dK ks) ds) x7 (some (.f (iN d))) none, rfl, rfl, fun _ => ?_, rfl⟩
  have r : gapP ks ds (.inl (d : Int)) = .nd .tup [iN d, iN n, .bl y] := by simp [gapP, hx, kD]
  rw [r]
  refine bin_ok (mk_ok (ds := [iN d]) (one_ok rfl) (small (show 1 ≤ 100000 by decide))) (ixv_ok (d := .nd (.dK ks) ds) (k := iN d) (r := .nd .tup [iN n, .bl y]) rfl rfl ?_) (tcat_ok (small (show 1 + 2 ≤ 100000 by decide)))
  show (some (getK ks ds (.inl (d : Int)))).bind id = _
  rw [hx]
  rfl
end Y

set_option Elab.async false
set_option linter.all false
set_option maxRecDepth 100000
set_option maxHeartbeats 4000000
/-! entries, standing -/
namespace Y
open PySem PySem.Spec PyProof.Rows L2 PySem.W
structure Et where
  yr : Nat
  R : Rl
  grp : Str
  ts : List Tk
def entryD (e : Et) : D := .nd .tup [iN e.yr, rulesD e.R, .str e.grp, .nd .tup (e.ts.map takeD)]
structure EtOk (e : Et) : Prop where
  R : RlOk e.R
  k3 : e.R.ks.length ≤ 3
  gn : ∀ g ∈ e.R.gs, g.2 ≠ "out" ∧ g.2 ≠ "open"
  ts : ∀ t ∈ e.ts, TkOk e.R t ∧ 1 ≤ t.wt ∧ t.wt ≤ 9 ∧ t.ms.length ≤ 6
  tn : e.ts.length ≤ 4
theorem iff_go {α : Type} {t : En → Y.R Bool} {a b : En → Y.R α} {ρ ρ1 : En} {r : Y.R α} {c : Bool} (e : t ρ = .ok c ρ1) (h : (if c = true then a ρ1 else b ρ1) = r) : sIf t a b ρ = r := (iff_ok e).trans h
theorem any_map {α : Type} (p : α → Bool) (l : List α) : dAny (.nd .lst (l.map fun a => D.bl (p a))) = some (.bl (l.any p)) := by
  have e : (l.map fun a => D.bl (p a)) = (l.map fun a => D.bl (p a)).map id := by rw [List.map_id]
  have b : ∀ l : List α, blsD (l.map fun a => D.bl (p a)) = some (l.map p) := fun l => by
    induction l with
    | nil => rfl
    | cons a l ih =>
      rw [List.map_cons, List.map_cons]
      unfold blsD
      rw [ih]
      rfl
  show (blsD (l.map fun a => D.bl (p a))).map (fun bs => D.bl (bs.any id)) = _
  rw [b, Option.map_some]
  congr 2
  rw [List.any_map]
  rfl
theorem up_ok {t : En → Y.R Bool} {P : Prop} [Decidable P] {ρ ρ1 : En} (e : t ρ = .ok (decide P) ρ1) : sIf t (sC (.str "up")) (sC (.str "stays")) ρ = .ok (.str (if P then "up" else "stays")) ρ1 := by
  refine iff_go e ?_
  by_cases h : P
  · rw [decide_eq_true h, if_pos rfl, if_pos h]; rfl
  · rw [decide_eq_false h, if_neg Bool.false_ne_true, if_neg h]; rfl
/-- nothing told, not out -/
def opn (R : Rl) (t : Tk) : Bool := !decide (R.lim < hrN t.ps false) && t.ms.isEmpty
def badS (e : Et) : Nat := ((e.ts.filter fun t => !goodN e.R t).map (·.wt)).sum
def stN (e : Et) : Str := if e.ts.any (opn e.R) = true then "open" else if badS e ≤ e.R.lift then "up" else "stays"
theorem filt_ix {α : Type} (q : α → Bool) (f : α → Nat) : ∀ (l : List α) (s : Nat), (((List.range' s l.length).filter fun i => (l[i - s]?).any q).map fun i => ((l[i - s]?).map f).getD 0) = (l.filter q).map f
  | [], s => rfl
  | a :: l, s => by
    have ih := filt_ix q f l (s + 1)
    have e1 : ((List.range' (s + 1) l.length).filter fun i => ((a :: l)[i - s]?).any q) = (List.range' (s + 1) l.length).filter fun i => (l[i - (s + 1)]?).any q := by
      refine List.filter_congr fun i hi => ?_
      rw [List.mem_range'_1] at hi
      rw [show i - s = (i - (s + 1)) + 1 by omega, List.getElem?_cons_succ]
    have e2 : ∀ i ∈ (List.range' (s + 1) l.length).filter (fun i => (l[i - (s + 1)]?).any q), (((a :: l)[i - s]?).map f).getD 0 = ((l[i - (s + 1)]?).map f).getD 0 := fun i hi => by
      have hi := (List.mem_filter.mp hi).1
      rw [List.mem_range'_1] at hi
      rw [show i - s = (i - (s + 1)) + 1 by omega, List.getElem?_cons_succ]
    rw [List.length_cons, List.range'_succ, List.filter_cons, e1, Nat.sub_self, List.getElem?_cons_zero, List.filter_cons]
    show List.map _ (if q a = true then _ else _) = _
    by_cases h : q a = true
    · rw [if_pos h, if_pos h, List.map_cons, List.map_congr_left e2, ih, List.map_cons, Nat.sub_self]
      rfl
    · rw [if_neg h, if_neg h, List.map_congr_left e2, ih]
theorem strO (e : Et) : strG (stN e) = true := by
  unfold stN
  split
  · decide +kernel
  · split <;> decide +kernel
section
variable {e : Et} (ok : EtOk e)
include ok
theorem good_call {ρ : En} {fr ft : En → Y.R D} {t : Tk} (ht : t ∈ e.ts) (v1 : fr ρ = .ok (rulesD e.R) ρ) (v3 : ft ρ = .ok (takeD t) ρ) : sCall fs_is_good (sCons fr (sCons ft sNil)) ρ = .ok (.bl (goodN e.R t)) ρ :=
  call_ok (cons_ok v1 (one_ok v3)) (good_ok ok.R (ok.ts t ht).1)
theorem standing_ok : fs_standing [entryD e] = .val false (.str (stN e)) none := by
  have hn := ok.tn
  refine fin_ex rfl ?_
  show ∃ ρ, m_standing [some (.f (entryD e)), none, none, none] = _
  unfold m_standing
  have e1 : sSet 1 (sBin dIx (sVar 0) (sC (.int 1))) [some (.f (entryD e)), none, none, none] = .ok .nx [some (.f (entryD e)), some (.f (rulesD e.R)), none, none] := rfl
  generalize hρ : ([some (.f (entryD e)), some (.f (rulesD e.R)), none, none] : En) = ρ at e1
  have src : sIt (sBin dIx (sVar 0) (sC (.int 3))) ρ = .ok (e.ts.map takeD) ρ := by subst hρ; exact it_ok (bin_ok (x := entryD e) rfl rfl rfl) rfl
  have c : sTru (s1 dAny (sLc (sIt (sBin dIx (sVar 0) (sC (.int 3)))) (hName 3) sYes (sAndV (sCmp dLe (sCall fs_hours (sCons (sVar 3) (sCons (sC (.bl false)) sNil))) (sBin dIx (sVar 1) (sC (.int 3)))) (sCmp dEq (sBin dIx (sVar 3) (sC (.int 2))) (sMk .tup sNil))) [3])) ρ = .ok (e.ts.any (opn e.R)) ρ := by
    refine tru_ok (s1_ok (slc_ty takeD (fun _ => true) (fun t => D.bl (opn e.R t)) e.ts src (by subst hρ; rfl) (fun t ht => ?_) (by omega) (by rw [List.filter_eq_self.mpr (fun _ _ => rfl)])) (any_map _ _))
    have hp := (ok.ts t ht).1.pn
    refine ⟨[some (.f (entryD e)), some (.f (rulesD e.R)), none, some (.f (takeD t))], by subst hρ; rfl, rfl, fun _ => ?_, by subst hρ; rfl⟩
    have c0 : sCmp dLe (sCall fs_hours (sCons (sVar 3) (sCons (sC (.bl false)) sNil))) (sBin dIx (sVar 1) (sC (.int 3))) [some (.f (entryD e)), some (.f (rulesD e.R)), none, some (.f (takeD t))] = .ok (.bl (decide (hrN t.ps false ≤ e.R.lim))) [some (.f (entryD e)), some (.f (rulesD e.R)), none, some (.f (takeD t))] :=
      bin_ok (call_ok (cons_ok (d := takeD t) rfl (one_ok rfl)) (hours_ok (by omega) false)) (bin_ok (x := rulesD e.R) rfl rfl rfl) (by rw [le_nat]; rfl)
    unfold opn
    by_cases h : e.R.lim < hrN t.ps false
    · rw [decide_eq_false (show ¬ hrN t.ps false ≤ e.R.lim by omega)] at c0
      rw [decide_eq_true h]
      exact and_no c0
    · rw [decide_eq_true (show hrN t.ps false ≤ e.R.lim by omega)] at c0
      rw [decide_eq_false h]
      refine and_yes c0 (bin_ok (bin_ok (x := takeD t) rfl rfl rfl) (mk_ok (ds := []) rfl (small (by decide))) ?_)
      rw [eq_tup (dok_marks ok.R (ok.ts t ht).1)]
      cases t.ms <;> rfl
  unfold stN
  by_cases h : e.ts.any (opn e.R) = true
  · rw [h] at c ⊢
    rw [if_pos rfl]
    exact ⟨ρ, (seq_ok e1).trans (sq_rt ((if_yes c).trans rfl))⟩
  · rw [if_neg h]
    rw [show e.ts.any (opn e.R) = false by simpa using h] at c
    have sm : s1 dSum (sLc (sIt (sBin dIx (sVar 0) (sC (.int 3)))) (hName 3) (sNotT (sTru (sCall fs_is_good (sCons (sVar 1) (sCons (sVar 3) sNil))))) (sBin dIx (sVar 3) (sC (.int 1))) [3]) ρ = .ok (iN (badS e)) ρ := by
      refine s1_ok (slc_ty takeD (fun t => !goodN e.R t) (fun t => iN t.wt) e.ts src (by subst hρ; rfl) (fun t ht => ?_) (by omega) (R := ((e.ts.filter fun t => !goodN e.R t).map (·.wt)).map iN) (by rw [List.map_map]; rfl)) (sum_nat _)
      refine ⟨[some (.f (entryD e)), some (.f (rulesD e.R)), none, some (.f (takeD t))], by subst hρ; rfl, not_ok (tru_ok (good_call ok ht rfl rfl)), fun _ => bin_ok (x := takeD t) rfl rfl rfl, by subst hρ; rfl⟩
    have e2 := set_call (i := 2) sm
    subst hρ
    have c2 : sBin dLe (sVar 2) (sBin dIx (sVar 1) (sC (.int 4))) [some (.f (entryD e)), some (.f (rulesD e.R)), some (.f (iN (badS e))), none] = .ok (decide (badS e ≤ e.R.lift)) [some (.f (entryD e)), some (.f (rulesD e.R)), some (.f (iN (badS e))), none] := bin_ok (x := iN (badS e)) rfl (bin_ok (x := rulesD e.R) rfl rfl rfl) (le_nat _ _)
    exact ⟨_, (seq_ok e1).trans ((out_skip c).trans ((seq_ok e2).trans (ret_ok (up_ok c2))))⟩
abbrev resD (R : Rl) (t : Tk) : D := .nd .tup [.str (resN R t), .bl (goodN R t)]
end
end Y

set_option Elab.async false
set_option linter.all false
set_option maxRecDepth 100000
set_option maxHeartbeats 4000000
/-! what is passed -/
namespace Y
open PySem PySem.Spec PyProof.Rows L2 PySem.W
def putN (l : List Str) (s : Str) : List Str := if s ∈ l then l else l ++ [s]
theorem putN_keys (l : List Str) (s : Str) : putKs (l.map Sum.inr : List Key) (.inr s) = (putN l s).map Sum.inr := by
  unfold putKs putN
  have : ((.inr s : Key) ∈ l.map Sum.inr) ↔ s ∈ l := by simp
  by_cases h : s ∈ l
  · rw [if_pos h, if_pos (this.mpr h)]
  · rw [if_neg h, if_neg (fun z => h (this.mp z)), List.map_append]; rfl
theorem putN_le (l : List Str) (s : Str) : (putN l s).length ≤ l.length + 1 := by
  unfold putN
  split
  · omega
  · simp
theorem putN_nd {l : List Str} {s : Str} (h : l.Nodup) : (putN l s).Nodup := by
  unfold putN
  split
  · exact h
  · rename_i hs
    refine List.nodup_append.mpr ⟨h, by simp, fun a ha b hb e => ?_⟩
    rw [List.mem_singleton.mp hb] at e
    exact hs (e ▸ ha)
theorem mem_putN {l : List Str} {s x : Str} : x ∈ putN l s ↔ x ∈ l ∨ x = s := by
  unfold putN
  split
  · rename_i h
    constructor
    · exact .inl
    · rintro (q | rfl)
      · exact q
      · exact h
  · simp
theorem fold_nd : ∀ (m l : List Str), l.Nodup → (m.foldl putN l).Nodup ∧ ∀ x, x ∈ m.foldl putN l ↔ x ∈ l ∨ x ∈ m
  | [], l, h => ⟨h, fun x => by simp⟩
  | s :: m, l, h => by
    obtain ⟨h1, h2⟩ := fold_nd m (putN l s) (putN_nd h)
    refine ⟨h1, fun x => ?_⟩
    rw [List.foldl_cons, h2, mem_putN, List.mem_cons, or_assoc]
theorem fold_le : ∀ (m l : List Str), (m.foldl putN l).length ≤ l.length + m.length
  | [], l => by simp
  | s :: m, l => by
    have h1 := fold_le m (putN l s)
    have h2 := putN_le l s
    rw [List.foldl_cons, List.length_cons]
    omega
theorem dc2I_ty {α : Type} {g1 : D → En → Option En} {t1 : En → Y.R Bool} {ek ev : En → Y.R D} {vs1 : List Nat} {k : En → List Key → List D → Y.R D} {ρ : En} (f : α → D) (q : α → Bool) (nm : α → Str) (v : D) : ∀ (xs : List α) (l : List Str) (es : List D),
    (∀ x ∈ xs, ∃ ρ1, g1 (f x) ρ = some ρ1 ∧ t1 ρ1 = .ok (q x) ρ1 ∧ (q x = true → ek ρ1 = .ok (.str (nm x)) ρ1 ∧ ev ρ1 = .ok v ρ1) ∧ wipeE vs1 ρ1 = ρ) → l.length + xs.length ≤ 100000 →
    ∃ es', dc2I g1 t1 ek ev vs1 k (xs.map f) ρ (l.map Sum.inr) es = k ρ ((((xs.filter q).map nm).foldl putN l).map Sum.inr) es'
  | [], l, es, _, _ => ⟨es, rfl⟩
  | x :: xs, l, es, h, hl => by
    rw [List.length_cons] at hl
    obtain ⟨ρ1, h1, h2, h3, h4⟩ := h x List.mem_cons_self
    have hr := fun y hy => h y (List.mem_cons_of_mem x hy)
    cases hq : q x with
    | true =>
      obtain ⟨k1, k2⟩ := h3 hq
      have pl := putN_le l (nm x)
      obtain ⟨es', ih⟩ := dc2I_ty (k := k) f q nm v xs (putN l (nm x)) (putDs (l.map Sum.inr : List Key) es (.inr (nm x)) v) hr (by omega)
      refine ⟨es', ?_⟩
      rw [List.map_cons]
      conv => lhs; unfold dc2I
      rw [h1]
      simp only [noX, bnd, h2, hq, if_true, k1, k2]
      rw [show keyD (.str (nm x)) = some (.inr (nm x)) from rfl]
      dsimp only
      rw [if_pos (by rw [List.length_map]; exact Nat.lt_of_le_of_lt (show l.length ≤ 100000 by omega) (by decide)), h4, putN_keys, ih, List.filter_cons, if_pos hq, List.map_cons, List.foldl_cons]
    | false =>
      obtain ⟨es', ih⟩ := dc2I_ty (k := k) f q nm v xs l es hr (by omega)
      refine ⟨es', ?_⟩
      rw [List.map_cons]
      conv => lhs; unfold dc2I
      rw [h1]
      simp only [noX, bnd, h2, hq, Bool.false_eq_true, if_false]
      rw [h4, ih, List.filter_cons, if_neg (by rw [hq]; exact Bool.false_ne_true)]
def onP (y : Nat) (e : Et) : List Str := if e.yr < y then (e.ts.filter fun t => goodN e.R t).map (·.nm) else []
def nmsP (es : List Et) (y : Nat) : List Str := es.flatMap (onP y)
def bookD (es : List Et) : D := .nd .tup (es.map entryD)
def pE (B y : D) (x2 x3 x4 : Option S) : En := [some (.f B), some (.f y), x2, x3, x4]
theorem onP_le {e : Et} (ok : EtOk e) (y : Nat) : (onP y e).length ≤ 4 := by
  unfold onP
  have := ok.tn
  split
  · rw [List.length_map]; exact Nat.le_trans (List.length_filter_le _ _) this
  · exact Nat.zero_le _
theorem nmsP_le : ∀ {es : List Et}, (∀ e ∈ es, EtOk e) → ∀ y, (nmsP es y).length ≤ 4 * es.length
  | [], _, y => Nat.le_refl _
  | e :: es, h, y => by
    have h1 := onP_le (h e List.mem_cons_self) y
    have h2 := nmsP_le (fun x hx => h x (List.mem_cons_of_mem e hx)) y
    unfold nmsP at h2 ⊢
    rw [List.flatMap_cons, List.length_append, List.length_cons]
    omega
theorem nmsP_ok {es : List Et} (h : ∀ e ∈ es, EtOk e) (y : Nat) : NmsOk (nmsP es y) := fun s hs => by
  obtain ⟨e, he, hm⟩ := List.mem_flatMap.mp hs
  unfold onP at hm
  split at hm
  · obtain ⟨t, ht, rfl⟩ := List.mem_map.mp hm
    exact ((h e he).ts t (List.mem_filter.mp ht).1).1.nm
  · cases hm
abbrev passS : En → Y.R D := sDc2 (sIt (sVar 0)) (hName 3) (sBin dLt (sBin dIx (sVar 3) (sC (.int 0))) (sBor 1)) (sIt (sBin dIx (sVar 3) (sC (.int 3)))) (hName 4) (sTru (sCall fs_is_good (sCons (sBin dIx (sVar 3) (sC (.int 1))) (sCons (sVar 4) sNil)))) (sBin dIx (sVar 4) (sC (.int 0))) (sC (.bl true)) [3, 4] [4]
theorem pass_run (B : D) (y : Nat) : ∀ (es : List Et) (l : List Str) (ds : List D), (∀ e ∈ es, EtOk e) → l.length + 4 * es.length ≤ 10000 → ∃ ds', dc2L (hName 3) (sBin dLt (sBin dIx (sVar 3) (sC (.int 0))) (sBor 1)) (sIt (sBin dIx (sVar 3) (sC (.int 3)))) (hName 4) (sTru (sCall fs_is_good (sCons (sBin dIx (sVar 3) (sC (.int 1))) (sCons (sVar 4) sNil)))) (sBin dIx (sVar 4) (sC (.int 0))) (sC (.bl true)) [3, 4] [4] (es.map entryD) (pE B (iN y) none none none) (l.map Sum.inr) ds = .ok (.nd (.dK (((nmsP es y).foldl putN l).map Sum.inr)) ds') (pE B (iN y) none none none)
  | [], l, ds, _, _ => ⟨ds, rfl⟩
  | e :: es, l, ds, h, hl => by
    rw [List.length_cons] at hl
    have ok := h e List.mem_cons_self
    have hr := fun x hx => h x (List.mem_cons_of_mem e hx)
    have tn := ok.tn
    have c : sBin dLt (sBin dIx (sVar 3) (sC (.int 0))) (sBor 1) (pE B (iN y) none (some (.f (entryD e))) none) = .ok (decide (e.yr < y)) (pE B (iN y) none (some (.f (entryD e))) none) := bin_ok (bin_ok (x := entryD e) (d := iN e.yr) rfl rfl rfl) (y := iN y) rfl (lt_nat _ _)
    by_cases hy : e.yr < y
    · rw [decide_eq_true hy] at c
      have src : sIt (sBin dIx (sVar 3) (sC (.int 3))) (pE B (iN y) none (some (.f (entryD e))) none) = .ok (e.ts.map takeD) (pE B (iN y) none (some (.f (entryD e))) none) := it_ok (bin_ok (x := entryD e) rfl rfl rfl) rfl
      have fl := fold_le ((e.ts.filter fun t => goodN e.R t).map (·.nm)) l
      have ll : ((e.ts.filter fun t => goodN e.R t).map (·.nm)).length ≤ 4 := by rw [List.length_map]; exact Nat.le_trans (List.length_filter_le _ _) tn
      obtain ⟨ds1, e1⟩ := dc2I_ty (g1 := hName 4) (t1 := sTru (sCall fs_is_good (sCons (sBin dIx (sVar 3) (sC (.int 1))) (sCons (sVar 4) sNil)))) (ek := sBin dIx (sVar 4) (sC (.int 0))) (ev := sC (.bl true)) (vs1 := [4]) (k := fun ρ ks es' => dc2L (hName 3) (sBin dLt (sBin dIx (sVar 3) (sC (.int 0))) (sBor 1)) (sIt (sBin dIx (sVar 3) (sC (.int 3)))) (hName 4) (sTru (sCall fs_is_good (sCons (sBin dIx (sVar 3) (sC (.int 1))) (sCons (sVar 4) sNil)))) (sBin dIx (sVar 4) (sC (.int 0))) (sC (.bl true)) [3, 4] [4] (es.map entryD) (wipeE [3, 4] ρ) ks es') (ρ := pE B (iN y) none (some (.f (entryD e))) none) takeD (fun t => goodN e.R t) (·.nm) (.bl true) e.ts l ds (fun t ht => ⟨pE B (iN y) none (some (.f (entryD e))) (some (.f (takeD t))), rfl, tru_ok (good_call ok ht (bin_ok (x := entryD e) rfl rfl rfl) rfl), fun _ => ⟨bin_ok (x := takeD t) rfl rfl rfl, rfl⟩, rfl⟩) (by omega)
      obtain ⟨ds2, e2⟩ := pass_run B y es (((e.ts.filter fun t => goodN e.R t).map (·.nm)).foldl putN l) ds1 hr (by omega)
      refine ⟨ds2, ?_⟩
      rw [List.map_cons]
      conv => lhs; unfold dc2L
      rw [show hName 3 (entryD e) (pE B (iN y) none none none) = some (pE B (iN y) none (some (.f (entryD e))) none) from rfl]
      simp only [noX, bnd, c, if_true, src]
      refine (show dc2I _ _ _ _ _ _ _ (pE B (iN y) none (some (.f (entryD e))) none) _ _ = _ from e1).trans ?_
      refine e2.trans ?_
      have : nmsP (e :: es) y = (e.ts.filter fun t => goodN e.R t).map (·.nm) ++ nmsP es y := by
        unfold nmsP
        rw [List.flatMap_cons]
        unfold onP
        rw [if_pos hy]
      rw [this, List.foldl_append]
    · rw [decide_eq_false hy] at c
      obtain ⟨ds2, e2⟩ := pass_run B y es l ds hr (by omega)
      refine ⟨ds2, ?_⟩
      rw [List.map_cons]
      conv => lhs; unfold dc2L
      rw [show hName 3 (entryD e) (pE B (iN y) none none none) = some (pE B (iN y) none (some (.f (entryD e))) none) from rfl]
      simp only [noX, bnd, c, Bool.false_eq_true, if_false]
      refine (show dc2L _ _ _ _ _ _ _ _ _ _ (pE B (iN y) none none none) _ _ = _ from e2).trans ?_
      have : nmsP (e :: es) y = nmsP es y := by
        unfold nmsP
        rw [List.flatMap_cons]
        unfold onP
        rw [if_neg hy]
        rfl
      rw [this]
def passN (es : List Et) (y : Nat) : List Str := srt (ddS (nmsP es y))
theorem passed_ok {es : List Et} (h : ∀ e ∈ es, EtOk e) (hl : es.length ≤ 100) (y : Nat) : fs_passed [bookD es, iN y] = .val true (lD (passN es y)) none := by
  obtain ⟨ds, e1⟩ := pass_run (bookD es) y es [] [] h (by simp; omega)
  obtain ⟨nd, mem⟩ := fold_nd (nmsP es y) [] List.nodup_nil
  have fl := fold_le (nmsP es y) []
  have nl := nmsP_le h y
  have nk := nmsP_ok h y
  have e2 : sSet 2 passS (pE (bookD es) (iN y) none none none) = .ok .nx (pE (bookD es) (iN y) (some (.f (.nd (.dK (((nmsP es y).foldl putN []).map Sum.inr)) ds))) none none) := by
    refine set_call (i := 2) (ρ1 := pE (bookD es) (iN y) none none none) ?_
    show bnd (sIt (sVar 0) (pE (bookD es) (iN y) none none none)) _ = _
    rw [show sIt (sVar 0) (pE (bookD es) (iN y) none none none) = .ok (es.map entryD) (pE (bookD es) (iN y) none none none) from rfl]
    exact e1
  have lk : (((nmsP es y).foldl putN []).map Sum.inr : List Key).map kD = nD ((nmsP es y).foldl putN []) := by rw [List.map_map]; rfl
  have ok2 : NmsOk ((nmsP es y).foldl putN []) := fun s hs => nk s (((mem s).mp hs).elim (fun z => by cases z) id)
  have same : srt ((nmsP es y).foldl putN []) = passN es y := srt_same ((List.perm_ext_iff_of_nodup nd (nodup_ddS _)).mpr fun s => by
    rw [mem, mem_ddS]; simp)
  have e3 : s1 dSorted (s1 dList (sBor 2)) (pE (bookD es) (iN y) (some (.f (.nd (.dK (((nmsP es y).foldl putN []).map Sum.inr)) ds))) none none) = .ok (lD (passN es y)) (pE (bookD es) (iN y) (some (.f (.nd (.dK (((nmsP es y).foldl putN []).map Sum.inr)) ds))) none none) := by
    refine s1_ok (d := lD ((nmsP es y).foldl putN [])) (s1_ok (d := .nd (.dK (((nmsP es y).foldl putN []).map Sum.inr)) ds) rfl ?_) ?_
    · show some (D.nd .lst ((((nmsP es y).foldl putN []).map Sum.inr : List Key).map kD)) = _
      rw [lk]
    · show sortD (nD ((nmsP es y).foldl putN [])) = _
      rw [sortD_names ok2 (small (by simp at fl; omega)), same]
  show finF false (m_passed (pE (bookD es) (iN y) none none none)) = _
  unfold m_passed
  rw [show sSeq (sSet 2 passS) (sRetO (s1 dSorted (s1 dList (sBor 2)))) (pE (bookD es) (iN y) none none none) = sRetO (s1 dSorted (s1 dList (sBor 2))) _ from seq_ok e2]
  unfold sRetO
  rw [e3]
  rfl
end Y

set_option Elab.async false
set_option linter.all false
set_option maxRecDepth 100000
set_option maxHeartbeats 4000000
/-! reports -/
namespace Y
open PySem PySem.Spec PyProof.Rows L2 PySem.W
/-! ### bounds of a mean -/
theorem acc_bound {ms : List (Nat × Str × Nat)} (hm : ms.length ≤ 6) : ∀ (ks : List (Str × Nat)) (a : (Nat × Nat) × Nat), 0 < a.1.2 → (∀ k ∈ ks, k.2 ≤ 9) → 0 < (ks.foldl (mStep ms) a).1.2 ∧ (ks.foldl (mStep ms) a).1.2 ≤ a.1.2 * 6 ^ ks.length ∧ (ks.foldl (mStep ms) a).2 ≤ a.2 + 9 * ks.length
  | [], a, h, _ => ⟨h, by simp, by simp⟩
  | k :: ks, a, h, hk => by
    have h9 := hk k List.mem_cons_self
    have hr := fun x hx => hk x (List.mem_cons_of_mem k hx)
    have hp : 1 ≤ 6 ^ ks.length := Nat.one_le_pow _ _ (by decide)
    rw [List.foldl_cons, List.length_cons, Nat.pow_succ]
    by_cases hv : (valsN ms k.1).isEmpty
    · rw [show mStep ms a k = a from if_pos hv]
      obtain ⟨i1, i2, i3⟩ := acc_bound hm ks a h hr
      refine ⟨i1, Nat.le_trans i2 (Nat.mul_le_mul_left _ (by omega)), by omega⟩
    · rw [show mStep ms a k = (plN a.1 (frN (k.2 * (valsN ms k.1).sum) (valsN ms k.1).length), a.2 + k.2) from if_neg hv]
      have hl : 0 < (valsN ms k.1).length := List.length_pos_iff.mpr (by intro z; rw [z] at hv; exact hv rfl)
      have hv6 : (valsN ms k.1).length ≤ 6 := by
        rw [valsN, List.length_map]
        exact Nat.le_trans (List.length_filter_le _ _) hm
      obtain ⟨q0, q1⟩ := frN_pos (t := k.2 * (valsN ms k.1).sum) hl
      generalize frN (k.2 * (valsN ms k.1).sum) (valsN ms k.1).length = q at q0 q1
      obtain ⟨r0, r1⟩ := frN_pos (t := a.1.1 * q.2 + q.1 * a.1.2) (Nat.mul_pos h q0)
      obtain ⟨i1, i2, i3⟩ := acc_bound hm ks (plN a.1 q, a.2 + k.2) r0 hr
      refine ⟨i1, Nat.le_trans i2 ?_, by show _ ≤ _; simp only at i3; omega⟩
      have h6 : a.1.2 * q.2 ≤ a.1.2 * 6 := Nat.mul_le_mul_left _ (by omega)
      have : (plN a.1 q).2 * 6 ^ ks.length ≤ a.1.2 * 6 * 6 ^ ks.length := Nat.mul_le_mul_right _ (Nat.le_trans r1 h6)
      rw [Nat.mul_assoc, Nat.mul_comm 6] at this
      exact this
theorem mean_bound {R : Rl} {t : Tk} (hR : RlOk R) (hT : TkOk R t) (k3 : R.ks.length ≤ 3) (m6 : t.ms.length ≤ 6) {p : Nat × Nat} (h : meanN R.ks t.ms = some p) : 0 < p.2 ∧ p.2 ≤ 5832 := by
  unfold meanN at h
  split at h
  · cases h
  · rename_i hz
    have e := (Option.some.inj h).symm
    obtain ⟨i1, i2, i3⟩ := acc_bound m6 R.ks ((0, 1), 0) (by decide) (fun k hk => (hR.k1 k hk).2.2)
    have hp : 6 ^ R.ks.length ≤ 6 ^ 3 := Nat.pow_le_pow_right (by decide) k3
    have e6 : (6 : Nat) ^ 3 = 216 := by decide
    have b1 : (mAcc R.ks t.ms).1.2 ≤ 216 := by
      refine Nat.le_trans i2 ?_
      show 1 * 6 ^ R.ks.length ≤ 216
      omega
    have b2 : (mAcc R.ks t.ms).2 ≤ 27 := Nat.le_trans i3 (by show 0 + 9 * R.ks.length ≤ 27; omega)
    have b0 : 0 < (mAcc R.ks t.ms).1.2 := i1
    obtain ⟨c1, c2⟩ := frN_pos (t := (mAcc R.ks t.ms).1.1) (Nat.mul_pos b0 (show 0 < (mAcc R.ks t.ms).2 by omega))
    rw [e]
    exact ⟨c1, Nat.le_trans c2 (Nat.mul_le_mul b1 b2)⟩
/-! ### rows -/
def hasG (R : Rl) (t : Tk) : Bool := !decide (R.lim < hrN t.ps false) && !t.ms.isEmpty
def rowR (R : Rl) (t : Tk) : D := .nd .tup [.str t.nm, .str (resN R t), meanD (meanN R.ks t.ms), .bl (goodN R t), iN (hrN t.ps false), iN (hrN t.ps true)]
def theM (R : Rl) (t : Tk) : Nat × Nat := (meanN R.ks t.ms).getD (0, 1)
def rStep (R : Rl) (a : (Nat × Nat) × Nat) (t : Tk) : (Nat × Nat) × Nat := if hasG R t = true then (plN a.1 (frN (t.wt * (theM R t).1) (theM R t).2), a.2 + t.wt) else a
def rAcc (e : Et) : (Nat × Nat) × Nat := e.ts.foldl (rStep e.R) ((0, 1), 0)
def wholeD (a : (Nat × Nat) × Nat) : D := if 0 < a.2 then fD (frN a.1.1 (a.1.2 * a.2)) else .non
def repD (e : Et) : D := .nd .tup [.nd .tup (e.ts.map (rowR e.R)), wholeD (rAcc e), iN (e.ts.map fun t => hrN t.ps false).sum, .str (stN e)]
/-- the sum so far: in lowest terms, not too great -/
structure TotOk (a : (Nat × Nat) × Nat) (n : Nat) : Prop where
  pos : 0 < a.1.2
  red : Nat.gcd a.1.1 a.1.2 = 1
  top : a.1.2 * 5832 ^ n ≤ 1156831381426176
  w : a.2 + 9 * n ≤ 36
theorem tot0 {n : Nat} (h : n ≤ 4) : TotOk ((0, 1), 0) n := ⟨by decide, by decide, by
  have : 5832 ^ n ≤ 5832 ^ 4 := Nat.pow_le_pow_right (by decide) h
  have e : (5832 : Nat) ^ 4 = 1156831381426176 := by decide
  show 1 * 5832 ^ n ≤ _
  omega, by show 0 + 9 * n ≤ 36; omega⟩
/-- one step's numbers -/
theorem tot_step {a : (Nat × Nat) × Nat} {n w : Nat} (h : TotOk a (n + 1)) {q : Nat × Nat} (q0 : 0 < q.2) (q1 : q.2 ≤ 5832) (hw : w ≤ 9) : TotOk (plN a.1 q, a.2 + w) n ∧ a.1.2 * q.2 < 2 ^ 62 ∧ Nat.gcd (a.1.1 * q.2 + q.1 * a.1.2) (a.1.2 * q.2) < 1073741824 := by
  have hp : 1 ≤ 5832 ^ n := Nat.one_le_pow _ _ (by decide)
  have ht := h.top
  rw [Nat.pow_succ] at ht
  have m1 : a.1.2 * q.2 ≤ a.1.2 * 5832 := Nat.mul_le_mul_left _ q1
  have m2 : a.1.2 * 5832 * 5832 ^ n ≤ 1156831381426176 := by rw [Nat.mul_assoc, Nat.mul_comm 5832]; exact ht
  have m3 : a.1.2 * 5832 ≤ 1156831381426176 := Nat.le_trans (Nat.le_mul_of_pos_right _ (by omega)) m2
  obtain ⟨r0, r1⟩ := frN_pos (t := a.1.1 * q.2 + q.1 * a.1.2) (Nat.mul_pos h.pos q0)
  have hw2 := h.w
  refine ⟨⟨r0, frN_red (Nat.mul_pos h.pos q0), Nat.le_trans (Nat.mul_le_mul_right _ (Nat.le_trans r1 m1)) m2, by show a.2 + w + 9 * n ≤ 36; omega⟩, ?_, ?_⟩
  · exact Nat.lt_of_le_of_lt (Nat.le_trans m1 m3) (by decide)
  · have g := gcd_plus (c := q.1) h.red q0
    have : q.2 * q.2 ≤ 5832 * 5832 := Nat.mul_le_mul q1 q1
    exact Nat.lt_of_le_of_lt (Nat.le_trans g this) (by decide)
theorem tot_same {a : (Nat × Nat) × Nat} {n : Nat} (h : TotOk a (n + 1)) : TotOk a n := ⟨h.pos, h.red, Nat.le_trans (Nat.mul_le_mul_left _ (Nat.pow_le_pow_right (by decide) (Nat.le_succ n))) h.top, by have := h.w; omega⟩
section
variable {R : Rl} {t : Tk} (hR : RlOk R) (hT : TkOk R t) (k3 : R.ks.length ≤ 3) (m6 : t.ms.length ≤ 6)
include hR hT k3 m6
theorem hasG_mean (h : hasG R t = true) : meanN R.ks t.ms = some (theM R t) ∧ 0 < (theM R t).2 ∧ (theM R t).2 ≤ 5832 := by
  have hne : t.ms ≠ [] := fun z => by
    unfold hasG at h
    rw [z] at h
    simp at h
  cases e : meanN R.ks t.ms with
  | none => exact absurd ((mean_none hR hT).mp e) hne
  | some p =>
    have : theM R t = p := by unfold theM; rw [e]; rfl
    rw [this]
    exact ⟨rfl, mean_bound hR hT k3 m6 e⟩
end
theorem resN_ok {R : Rl} {t : Tk} (hR : RlOk R) : strG (resN R t) = true := by
  unfold resN
  split
  · decide +kernel
  · split
    · decide +kernel
    · rename_i p _
      rw [nmG_at hR _ (cnt_pos hR.g0 p).2]
      exact (hR.g1 _ (List.getElem_mem _)).1
theorem dk_fD (p : Nat × Nat) : dk 1 (fD p) := dk_nd (.inr rfl) fun y hy => by
  simp only [List.mem_cons, List.not_mem_nil, or_false] at hy
  rcases hy with rfl | rfl <;> exact dk_int _ _
theorem dk_up {n m : Nat} {d : D} (h : dk n d) (hm : n ≤ m) : dk m d := ⟨h.1, Nat.le_trans h.2 hm⟩
theorem dk_mean (o : Option (Nat × Nat)) : dk 1 (meanD o) := by
  cases o with
  | none => exact dk_non _
  | some p => exact dk_fD p
theorem rep_dok {e : Et} (ok : EtOk e) : dok (repD e) = true := by
  refine dk_dok (n := 4) (by decide) (dk_nd (.inr rfl) fun y hy => ?_)
  simp only [List.mem_cons, List.not_mem_nil, or_false] at hy
  rcases hy with rfl | rfl | rfl | rfl
  · refine dk_nd (.inr rfl) fun y hy => ?_
    obtain ⟨t, ht, rfl⟩ := List.mem_map.mp hy
    refine dk_nd (n := 1) (.inr rfl) fun y hy => ?_
    simp only [List.mem_cons, List.not_mem_nil, or_false] at hy
    rcases hy with rfl | rfl | rfl | rfl | rfl | rfl
    · exact dk_str _ (ok.ts t ht).1.nm
    · exact dk_str _ (resN_ok ok.R)
    · exact dk_mean _
    · exact dk_bl _ _
    · exact dk_int _ _
    · exact dk_int _ _
  · unfold wholeD
    split
    · exact dk_up (dk_fD _) (by decide)
    · exact dk_non _
  · exact dk_int _ _
  · exact dk_str _ (strO e)
/-! ### the program's report -/
def qE (E R : D) (rows : List D) (x3 x4 : Option S) (tot : Nat × Nat) (w : Nat) (x7 x8 : Option S) : En := [some (.f E), some (.f R), some (.o (.nd .lst rows)), x3, x4, some (.f (fD tot)), some (.f (iN w)), x7, x8]
abbrev repB : En → Y.R Fl := sSeq (sSet 7 (sCall fs_mean (sCons (sVar 1) (sCons (sVar 3) sNil))))
  (sSeq (sSet 8 (sMk .tup (sCons (sBin dIx (sVar 3) (sC (.int 0))) (sCons (sCall fs_result (sCons (sVar 1) (sCons (sVar 3) sNil))) (sCons (sVar 7) (sCons (sCall fs_is_good (sCons (sVar 1) (sCons (sVar 3) sNil))) (sCons (sCall fs_hours (sCons (sVar 3) (sCons (sC (.bl false)) sNil))) (sCons (sCall fs_hours (sCons (sVar 3) (sCons (sC (.bl true)) sNil))) sNil))))))))
  (sSeq (sDrop (sMeth 2 gAppend (sCons (sVar 8) sNil)))
  (sIfS (sTru (sCall fs_has_grade (sCons (sVar 1) (sCons (sVar 3) sNil))))
  (sSeq (sSet 5 (sCall fs_added (sCons (sVar 5) (sCons (sCall fs_lowest (sCons (sBin dMul (sBin dIx (sVar 3) (sC (.int 1))) (sBin dIx (sVar 7) (sC (.int 0)))) (sCons (sBin dIx (sVar 7) (sC (.int 1))) sNil))) sNil))))
  (sSet 6 (sBin dPlusI (sVar 6) (sBin dIx (sVar 3) (sC (.int 1))))))
  sNx)))
theorem rep_step {e : Et} (ok : EtOk e) {t : Tk} (ht : t ∈ e.ts) (E : D) {rows : List D} (hl : rows.length ≤ 1000) {a : (Nat × Nat) × Nat} {n : Nat} (ta : TotOk a (n + 1)) (x4 x7 x8 : Option S) : ∃ y7 y8, repB (qE E (rulesD e.R) rows (some (.f (takeD t))) x4 a.1 a.2 x7 x8) = .ok .nx (qE E (rulesD e.R) (rows ++ [rowR e.R t]) (some (.f (takeD t))) x4 (rStep e.R a t).1 (rStep e.R a t).2 y7 y8) ∧ TotOk (rStep e.R a t) n := by
  obtain ⟨hT, w1, w9, m6⟩ := ok.ts t ht
  have hR := ok.R
  have hp := hT.pn
  refine ⟨some (.f (meanD (meanN e.R.ks t.ms))), some (.f (rowR e.R t)), ?_⟩
  have f1 : sSet 7 (sCall fs_mean (sCons (sVar 1) (sCons (sVar 3) sNil))) (qE E (rulesD e.R) rows (some (.f (takeD t))) x4 a.1 a.2 x7 x8) = .ok .nx (qE E (rulesD e.R) rows (some (.f (takeD t))) x4 a.1 a.2 (some (.f (meanD (meanN e.R.ks t.ms)))) x8) :=
    set_call (i := 7) (call_ok (ρ := qE E (rulesD e.R) rows (some (.f (takeD t))) x4 a.1 a.2 x7 x8) (cons_ok (f := sVar 1) (d := rulesD e.R) rfl (one_ok (f := sVar 3) (d := takeD t) rfl)) (mean_ok hR hT))
  generalize hm : meanN e.R.ks t.ms = om at f1
  have f2 : sSet 8 (sMk .tup (sCons (sBin dIx (sVar 3) (sC (.int 0))) (sCons (sCall fs_result (sCons (sVar 1) (sCons (sVar 3) sNil))) (sCons (sVar 7) (sCons (sCall fs_is_good (sCons (sVar 1) (sCons (sVar 3) sNil))) (sCons (sCall fs_hours (sCons (sVar 3) (sCons (sC (.bl false)) sNil))) (sCons (sCall fs_hours (sCons (sVar 3) (sCons (sC (.bl true)) sNil))) sNil)))))))  (qE E (rulesD e.R) rows (some (.f (takeD t))) x4 a.1 a.2 (some (.f (meanD om))) x8) = .ok .nx (qE E (rulesD e.R) rows (some (.f (takeD t))) x4 a.1 a.2 (some (.f (meanD om))) (some (.f (rowR e.R t)))) := by
    have g : sMk .tup (sCons (sBin dIx (sVar 3) (sC (.int 0))) (sCons (sCall fs_result (sCons (sVar 1) (sCons (sVar 3) sNil))) (sCons (sVar 7) (sCons (sCall fs_is_good (sCons (sVar 1) (sCons (sVar 3) sNil))) (sCons (sCall fs_hours (sCons (sVar 3) (sCons (sC (.bl false)) sNil))) (sCons (sCall fs_hours (sCons (sVar 3) (sCons (sC (.bl true)) sNil))) sNil)))))) (qE E (rulesD e.R) rows (some (.f (takeD t))) x4 a.1 a.2 (some (.f (meanD om))) x8) = .ok (rowR e.R t) (qE E (rulesD e.R) rows (some (.f (takeD t))) x4 a.1 a.2 (some (.f (meanD om))) x8) := by
      unfold rowR
      rw [hm]
      have args : sCons (sVar 1) (sCons (sVar 3) sNil) (qE E (rulesD e.R) rows (some (.f (takeD t))) x4 a.1 a.2 (some (.f (meanD om))) x8) = .ok [rulesD e.R, takeD t] (qE E (rulesD e.R) rows (some (.f (takeD t))) x4 a.1 a.2 (some (.f (meanD om))) x8) := rfl
      exact mk_ok (cons_ok (bin_ok (x := takeD t) rfl rfl rfl) (cons_ok (call_ok args (result_ok hR hT)) (cons_ok rfl (cons_ok (call_ok args (good_ok hR hT)) (cons_ok (call_ok (ds := [takeD t, .bl false]) rfl (hours_ok (by omega) false)) (one_ok (call_ok (ds := [takeD t, .bl true]) rfl (hours_ok (by omega) true)))))))) (small (show 6 ≤ 100000 by decide))
    exact set_call (i := 8) g
  have f3 : sDrop (sMeth 2 gAppend (sCons (sVar 8) sNil)) (qE E (rulesD e.R) rows (some (.f (takeD t))) x4 a.1 a.2 (some (.f (meanD om))) (some (.f (rowR e.R t)))) = .ok .nx (qE E (rulesD e.R) (rows ++ [rowR e.R t]) (some (.f (takeD t))) x4 a.1 a.2 (some (.f (meanD om))) (some (.f (rowR e.R t)))) :=
    app_ok (i := 2) (ρ1 := qE E (rulesD e.R) rows (some (.f (takeD t))) x4 a.1 a.2 (some (.f (meanD om))) (some (.f (rowR e.R t)))) (d := rowR e.R t) (ds := rows) rfl rfl rfl (Nat.lt_of_le_of_lt hl (by decide))
  generalize hrow : rowR e.R t = rw at f2 f3
  have c : sTru (sCall fs_has_grade (sCons (sVar 1) (sCons (sVar 3) sNil))) (qE E (rulesD e.R) (rows ++ [rw]) (some (.f (takeD t))) x4 a.1 a.2 (some (.f (meanD om))) (some (.f rw))) = .ok (hasG e.R t) (qE E (rulesD e.R) (rows ++ [rw]) (some (.f (takeD t))) x4 a.1 a.2 (some (.f (meanD om))) (some (.f rw))) :=
    tru_ok (call_ok (ds := [rulesD e.R, takeD t]) rfl (hasg_ok hR hT))
  by_cases h : hasG e.R t = true
  · rw [h] at c
    obtain ⟨em, p0, p1⟩ := hasG_mean hR hT ok.k3 m6 h
    rw [em] at hm
    subst hm
    obtain ⟨q0, q1⟩ := frN_pos (t := t.wt * (theM e.R t).1) p0
    obtain ⟨tb, b1, b2⟩ := tot_step ta q0 (Nat.le_trans q1 p1) w9
    have st : rStep e.R a t = (plN a.1 (frN (t.wt * (theM e.R t).1) (theM e.R t).2), a.2 + t.wt) := if_pos h
    rw [st]
    refine ⟨?_, tb⟩
    generalize hρ : qE E (rulesD e.R) (rows ++ [rw]) (some (.f (takeD t))) x4 a.1 a.2 (some (.f (meanD (some (theM e.R t))))) (some (.f rw)) = ρ at c f3
    have v3 : sVar 3 ρ = .ok (takeD t) ρ := by subst hρ; rfl
    have v5 : sVar 5 ρ = .ok (fD a.1) ρ := by subst hρ; rfl
    have v7 : sVar 7 ρ = .ok (fD (theM e.R t)) ρ := by subst hρ; rfl
    have cl : sCall fs_lowest (sCons (sBin dMul (sBin dIx (sVar 3) (sC (.int 1))) (sBin dIx (sVar 7) (sC (.int 0)))) (sCons (sBin dIx (sVar 7) (sC (.int 1))) sNil)) ρ = .ok (fD (frN (t.wt * (theM e.R t).1) (theM e.R t).2)) ρ :=
      call_ok (cons_ok (bin_ok (bin_ok (d := iN t.wt) v3 rfl rfl) (bin_ok (d := iN (theM e.R t).1) v7 rfl rfl) (mul_nat (.inl (Nat.lt_of_le_of_lt w9 (by decide))))) (one_ok (bin_ok (d := iN (theM e.R t).2) v7 rfl rfl))) (lowest_ok p0 (Nat.lt_of_le_of_lt p1 (by decide)))
    have f4 := set_call (i := 5) (call_ok (cons_ok v5 (one_ok cl)) (added_okG ta.pos q0 b1 b2))
    refine (seq_ok f1).trans ((seq_ok f2).trans ((seq_ok f3).trans ((if_yes c).trans ((seq_ok f4).trans ?_))))
    subst hρ
    rfl
  · have h' : hasG e.R t = false := by simpa using h
    rw [h'] at c
    have st : rStep e.R a t = a := if_neg h
    rw [st]
    exact ⟨(seq_ok f1).trans ((seq_ok f2).trans ((seq_ok f3).trans ((if_no c).trans rfl))), tot_same ta⟩
theorem rep_run {e : Et} (ok : EtOk e) (E : D) (x4 : Option S) : ∀ (ts : List Tk) (rows : List D) (a : (Nat × Nat) × Nat) (x3 x7 x8 : Option S), (∀ t ∈ ts, t ∈ e.ts) → rows.length + ts.length ≤ 1000 → TotOk a ts.length →
    ∃ y3 y7 y8, forL (hName 3) repB (ts.map takeD) (qE E (rulesD e.R) rows x3 x4 a.1 a.2 x7 x8) = .ok .nx (qE E (rulesD e.R) (rows ++ ts.map (rowR e.R)) y3 x4 (ts.foldl (rStep e.R) a).1 (ts.foldl (rStep e.R) a).2 y7 y8) ∧ TotOk (ts.foldl (rStep e.R) a) 0
  | [], rows, a, x3, x7, x8, _, _, ta => ⟨x3, x7, x8, by rw [show rows ++ List.map (rowR e.R) [] = rows from List.append_nil _]; rfl, ta⟩
  | t :: ts, rows, a, x3, x7, x8, h, hl, ta => by
    rw [List.length_cons] at hl ta
    obtain ⟨y7, y8, e1, tb⟩ := rep_step ok (h t List.mem_cons_self) E (rows := rows) (by omega) ta x4 x7 x8
    obtain ⟨z3, z7, z8, e2, tc⟩ := rep_run ok E x4 ts (rows ++ [rowR e.R t]) (rStep e.R a t) (some (.f (takeD t))) y7 y8 (fun x hx => h x (List.mem_cons_of_mem t hx)) (by rw [List.length_append, List.length_singleton]; omega) tb
    refine ⟨z3, z7, z8, ?_, tc⟩
    rw [List.map_cons]
    conv => lhs; unfold forL
    rw [show hName 3 (takeD t) (qE E (rulesD e.R) rows x3 x4 a.1 a.2 x7 x8) = some (qE E (rulesD e.R) rows (some (.f (takeD t))) x4 a.1 a.2 x7 x8) from rfl]
    dsimp only
    rw [e1]
    dsimp only
    rw [e2, List.map_cons, List.append_assoc]
    rfl
/-- the whole mean -/
theorem whole_gen {ff : List D → FO} (hf : ∀ {t b : Nat}, 0 < b → b < 2 ^ 64 → Nat.gcd t b < 1073741824 → ff [iN t, iN b] = .val false (fD (frN t b)) none) {a : (Nat × Nat) × Nat} (ta : TotOk a 0) {i j : Nat} {ρ : En} (vi : sVar i ρ = .ok (fD a.1) ρ) (vj : sVar j ρ = .ok (iN a.2) ρ) (bj : sBor j ρ = .ok (iN a.2) ρ) :
    sIf (sBin dGt (sVar j) (sC (.int 0))) (sCall ff (sCons (sBin dIx (sVar i) (sC (.int 0))) (sCons (sBin dMul (sBin dIx (sVar i) (sC (.int 1))) (sBor j)) sNil))) (sC .non) ρ = .ok (wholeD a) ρ := by
  have c : sBin dGt (sVar j) (sC (.int 0)) ρ = .ok (decide (0 < a.2)) ρ := bin_ok (y := iN 0) vj rfl (gt_nat _ _)
  refine iff_go c ?_
  unfold wholeD
  by_cases h : 0 < a.2
  · rw [decide_eq_true h, if_pos rfl, if_pos h]
    have tp := ta.top
    have hw := ta.w
    rw [Nat.pow_zero, Nat.mul_one] at tp
    have b1 : a.1.2 * a.2 ≤ 1156831381426176 * 36 := Nat.mul_le_mul tp (by omega)
    have g := gcd_times ta.red h
    exact call_ok (cons_ok (bin_ok (d := iN a.1.1) vi rfl rfl) (one_ok (bin_ok (bin_ok (d := iN a.1.2) vi rfl rfl) bj (mul_nat (.inl (Nat.lt_of_le_of_lt tp (by decide))))))) (hf (Nat.mul_pos ta.pos h) (Nat.lt_of_le_of_lt b1 (by decide)) (Nat.lt_of_le_of_lt (Nat.le_trans g (show a.2 ≤ 36 by omega)) (by decide)))
  · rw [decide_eq_false h, if_neg Bool.false_ne_true, if_neg h]
    rfl
theorem report_ok {e : Et} (ok : EtOk e) : fs_report [entryD e] = .val false (repD e) none := by
  have hn := ok.tn
  refine fin_ex rfl ?_
  show ∃ ρ, m_report [some (.f (entryD e)), none, none, none, none, none, none, none, none] = _
  unfold m_report
  have f1 : sSet 1 (sBin dIx (sVar 0) (sC (.int 1))) [some (.f (entryD e)), none, none, none, none, none, none, none, none] = .ok .nx [some (.f (entryD e)), some (.f (rulesD e.R)), none, none, none, none, none, none, none] := rfl
  have f2 : sSetO 2 (sMk .lst sNil) [some (.f (entryD e)), some (.f (rulesD e.R)), none, none, none, none, none, none, none] = .ok .nx [some (.f (entryD e)), some (.f (rulesD e.R)), some (.o (.nd .lst [])), none, none, none, none, none, none] := setO_ok (i := 2) (mk_ok (ds := []) rfl (small (by decide)))
  have f3 : sAsg (hTup 2 (hCons (hName 5) (hCons (hName 6) hNil))) (sMk .tup (sCons (sMk .tup (sCons (sC (.int 0)) (sCons (sC (.int 1)) sNil))) (sCons (sC (.int 0)) sNil))) [some (.f (entryD e)), some (.f (rulesD e.R)), some (.o (.nd .lst [])), none, none, none, none, none, none] = .ok .nx (qE (entryD e) (rulesD e.R) [] none none (0, 1) 0 none none) := asg_ok (mk_ok (cons_ok (mk_ok (ds := [.int 0, .int 1]) rfl (small (show 2 ≤ 100000 by decide))) (one_ok rfl)) (small (show 2 ≤ 100000 by decide))) rfl
  obtain ⟨y3, y7, y8, l, ta⟩ := rep_run ok (entryD e) none e.ts [] ((0, 1), 0) none none none (fun t h => h) (by simp; omega) (tot0 hn)
  have f4 := for_ok (src := sIt (sBin dIx (sVar 0) (sC (.int 3)))) (it_ok (f := sBin dIx (sVar 0) (sC (.int 3))) (ρ := qE (entryD e) (rulesD e.R) [] none none (0, 1) 0 none none) (bin_ok (x := entryD e) rfl rfl rfl) rfl) l
  rw [List.nil_append] at f4
  generalize hrows : e.ts.map (rowR e.R) = rows at f4
  have fa : e.ts.foldl (rStep e.R) ((0, 1), 0) = rAcc e := rfl
  rw [fa] at f4 ta
  have f5 : sSet 4 (sIf (sBin dGt (sVar 6) (sC (.int 0))) (sCall fs_lowest (sCons (sBin dIx (sVar 5) (sC (.int 0))) (sCons (sBin dMul (sBin dIx (sVar 5) (sC (.int 1))) (sBor 6)) sNil))) (sC .non)) (qE (entryD e) (rulesD e.R) rows y3 none (rAcc e).1 (rAcc e).2 y7 y8) = .ok .nx (qE (entryD e) (rulesD e.R) rows y3 (some (.f (wholeD (rAcc e)))) (rAcc e).1 (rAcc e).2 y7 y8) :=
    set_call (i := 4) (whole_gen (i := 5) (j := 6) lowest_okG ta rfl rfl rfl)
  have sm : s1 dSum (sLc (sIt (sFrz 2)) (hName 8) sYes (sBin dIx (sVar 8) (sC (.int 4))) [8]) (qE (entryD e) (rulesD e.R) rows y3 (some (.f (wholeD (rAcc e)))) (rAcc e).1 (rAcc e).2 y7 y8) = .ok (iN (e.ts.map fun t => hrN t.ps false).sum) [some (.f (entryD e)), some (.f (rulesD e.R)), some (.f (.nd .lst rows)), y3, some (.f (wholeD (rAcc e))), some (.f (fD (rAcc e).1)), some (.f (iN (rAcc e).2)), y7, none] := by
    subst hrows
    refine s1_ok (slc_ty2 (ρ1 := [some (.f (entryD e)), some (.f (rulesD e.R)), some (.f (.nd .lst (e.ts.map (rowR e.R)))), y3, some (.f (wholeD (rAcc e))), some (.f (fD (rAcc e).1)), some (.f (iN (rAcc e).2)), y7, y8]) (ρ2 := [some (.f (entryD e)), some (.f (rulesD e.R)), some (.f (.nd .lst (e.ts.map (rowR e.R)))), y3, some (.f (wholeD (rAcc e))), some (.f (fD (rAcc e).1)), some (.f (iN (rAcc e).2)), y7, none]) (rowR e.R) (fun _ => true) (fun t => iN (hrN t.ps false)) e.ts rfl rfl (fun t ht => ⟨[some (.f (entryD e)), some (.f (rulesD e.R)), some (.f (.nd .lst (e.ts.map (rowR e.R)))), y3, some (.f (wholeD (rAcc e))), some (.f (fD (rAcc e).1)), some (.f (iN (rAcc e).2)), y7, some (.f (rowR e.R t))], rfl, rfl, fun _ => bin_ok (x := rowR e.R t) rfl rfl rfl, rfl⟩) (by omega) (R := (e.ts.map fun t => hrN t.ps false).map iN) (by rw [List.map_map, List.filter_eq_self.mpr (fun _ _ => rfl)]; rfl)) (sum_nat _)
  have last : sRet (sMk .tup (sCons (s1 dTuple (sBor 2)) (sCons (sVar 4) (sCons (s1 dSum (sLc (sIt (sFrz 2)) (hName 8) sYes (sBin dIx (sVar 8) (sC (.int 4))) [8])) (sCons (sCall fs_standing (sCons (sVar 0) sNil)) sNil))))) (qE (entryD e) (rulesD e.R) rows y3 (some (.f (wholeD (rAcc e)))) (rAcc e).1 (rAcc e).2 y7 y8) = .ok (.rt (.nd .tup [.nd .tup rows, wholeD (rAcc e), iN (e.ts.map fun t => hrN t.ps false).sum, .str (stN e)])) [some (.f (entryD e)), some (.f (rulesD e.R)), some (.f (.nd .lst rows)), y3, some (.f (wholeD (rAcc e))), some (.f (fD (rAcc e).1)), some (.f (iN (rAcc e).2)), y7, none] :=
    ret_ok (mk_ok (cons_ok (s1_ok (d := .nd .lst rows) rfl rfl) (cons_ok (d := wholeD (rAcc e)) rfl (cons_ok sm (one_ok (call_ok (one_ok (d := entryD e) rfl) (standing_ok ok)))))) (small (show 4 ≤ 100000 by decide)))
  have er : repD e = .nd .tup [.nd .tup rows, wholeD (rAcc e), iN (e.ts.map fun t => hrN t.ps false).sum, .str (stN e)] := by rw [← hrows]; rfl
  rw [er]
  exact ⟨_, (seq_ok f1).trans ((seq_ok f2).trans ((seq_ok f3).trans ((seq_ok f4).trans ((seq_ok f5).trans last))))⟩
end Y

set_option Elab.async false
set_option linter.all false
set_option maxRecDepth 100000
set_option maxHeartbeats 4000000
/-! names, bounds, rising lists: the program's own tests -/
namespace Y
open PySem PySem.Spec PyProof.Rows L2 PySem.W
def az : Str := "abcdefghijklmnopqrstuvwxyz"
def sgs (s : Str) : List Nat := s.cps.toList
def nmS (s : Str) : Bool := decide (1 ≤ s.length ∧ s.length ≤ 8) && (sgs s).all fun c => decide (c ∈ sgs az)
def isStr : D → Bool
  | .str _ => true
  | _ => false
def isIB : D → Bool
  | .int _ => true
  | .bl _ => true
  | _ => false
def isBl : D → Bool
  | .bl _ => true
  | _ => false
def isTup : D → Bool
  | .nd .tup _ => true
  | .nd .ktp _ => true
  | _ => false
def azB : D → Bool
  | .str x => match x.cps.toList with
    | [c] => decide (c ∈ sgs az)
    | _ => false
  | _ => false
def nmB : D → Bool
  | .str s => nmS s
  | _ => false
def isInt (lo hi : Int) : D → Bool
  | .int i => decide (lo ≤ i ∧ i ≤ hi)
  | _ => false
theorem isi_str (d : D) (h : (tyN d).isSome = true) : dIsi [d, .ty "str"] = some (.bl (isStr d)) := by
  cases d with
  | nd k xs => cases k <;> simp [tyN] at h <;> simp [dIsi, isTy, tyN, isA, isStr, isIB, isBl, isTup]
  | ty n => simp [tyN] at h
  | _ => simp [dIsi, isTy, tyN, isA, isStr, isIB, isBl, isTup]
theorem isi_int (d : D) (h : (tyN d).isSome = true) : dIsi [d, .ty "int"] = some (.bl (isIB d)) := by
  cases d with
  | nd k xs => cases k <;> simp [tyN] at h <;> simp [dIsi, isTy, tyN, isA, isStr, isIB, isBl, isTup]
  | ty n => simp [tyN] at h
  | _ => simp [dIsi, isTy, tyN, isA, isStr, isIB, isBl, isTup]
theorem isi_bool (d : D) (h : (tyN d).isSome = true) : dIsi [d, .ty "bool"] = some (.bl (isBl d)) := by
  cases d with
  | nd k xs => cases k <;> simp [tyN] at h <;> simp [dIsi, isTy, tyN, isA, isStr, isIB, isBl, isTup]
  | ty n => simp [tyN] at h
  | _ => simp [dIsi, isTy, tyN, isA, isStr, isIB, isBl, isTup]
theorem isi_tup (d : D) (h : (tyN d).isSome = true) : dIsi [d, .ty "tuple"] = some (.bl (isTup d)) := by
  cases d with
  | nd k xs => cases k <;> simp [tyN] at h <;> simp [dIsi, isTy, tyN, isA, isStr, isIB, isBl, isTup]
  | ty n => simp [tyN] at h
  | _ => simp [dIsi, isTy, tyN, isA, isStr, isIB, isBl, isTup]
theorem from_ok {d : D} (h : (tyN d).isSome = true) (lo hi : Int) : fs_is_from [d, .int lo, .int hi] = .val false (.bl (isInt lo hi d)) none := by
  have h1 := isi_int d h
  have h2 := isi_bool d h
  cases d with
  | int i =>
    by_cases c : lo ≤ i <;> by_cases c2 : i ≤ hi <;> simp [fs_is_from, m_is_from, runF, argS, finF, outs, sSeq, sq, bnd, lift, sVar, sBor, sFrz, sMov, sC, sBin, sCmp, sChain, sTru, tru, sAndT, sOrT, sNotT, sAndV, sOrV, sNotV, sIf, sNil, sCons, sMk, s1, sN, sNx, sDrop, sRet, sRetO, sIfS, sSet, sSetO, sAsg, sPut, ownD, chg, ownL, isLst, sMeth, sIxV, bor, sCall, sCallO, sCallI, sCallIO, gSetL, ixN, dIx, atI, dGt, cmpI, dMod, dDiv, dMul, dPlus, dAdd, dSub, dNeg, dLt, dLen', dLen, sSlc, sSlcV, sPt, sNoPt, sIt, itD, sRg, rg1, hName, hTup, hCons, hNil, sFor, List.replicate, sPar2, pO, pF, pNil, noB, sIsiV, isTy, tyN, isA, sCmpV, sz0, sz1, sz2, sz3, sz4, sz5, h1, h2, isInt, isIB, isBl, c, c2]
  | _ => simp [fs_is_from, m_is_from, runF, argS, finF, outs, sSeq, sq, bnd, lift, sVar, sBor, sFrz, sMov, sC, sBin, sCmp, sChain, sTru, tru, sAndT, sOrT, sNotT, sAndV, sOrV, sNotV, sIf, sNil, sCons, sMk, s1, sN, sNx, sDrop, sRet, sRetO, sIfS, sSet, sSetO, sAsg, sPut, ownD, chg, ownL, isLst, sMeth, sIxV, bor, sCall, sCallO, sCallI, sCallIO, gSetL, ixN, dIx, atI, dGt, cmpI, dMod, dDiv, dMul, dPlus, dAdd, dSub, dNeg, dLt, dLen', dLen, sSlc, sSlcV, sPt, sNoPt, sIt, itD, sRg, rg1, hName, hTup, hCons, hNil, sFor, List.replicate, sPar2, pO, pF, pNil, noB, sIsiV, isTy, tyN, isA, sCmpV, sz0, sz1, sz2, sz3, sz4, sz5, h1, h2, isInt, isIB, isBl]
theorem in_az (c : Nat) : dIn (sgD c) (.str az) = some (decide (c ∈ sgs az)) := rfl
theorem len_ok (s : Str) : sChain dLe dLe id (sC (.int 1)) (s1 dLen' (sBor 0)) (sC (.int 8)) [some (.f (.str s)), none] = .ok (decide (1 ≤ s.length ∧ s.length ≤ 8)) [some (.f (.str s)), none] := by
  by_cases c : (1 : Int) ≤ (s.length : Int)
  · by_cases c2 : (s.length : Int) ≤ 8
    · have d : 1 ≤ s.length ∧ s.length ≤ 8 := by omega
      simp [runF, argS, finF, outs, sSeq, sq, bnd, lift, sVar, sBor, sFrz, sMov, sC, sBin, sCmp, sChain, sTru, tru, sAndT, sOrT, sNotT, sAndV, sOrV, sNotV, sIf, sNil, sCons, sMk, s1, sN, sNx, sDrop, sRet, sRetO, sIfS, sSet, sSetO, sAsg, sPut, ownD, chg, ownL, isLst, sMeth, sIxV, bor, sCall, sCallO, sCallI, sCallIO, gSetL, ixN, dIx, atI, dGt, cmpI, dMod, dDiv, dMul, dPlus, dAdd, dSub, dNeg, dLt, dLen', dLen, sSlc, sSlcV, sPt, sNoPt, sIt, itD, sRg, rg1, hName, hTup, hCons, hNil, sFor, List.replicate, sPar2, pO, pF, pNil, noB, sIsiV, isTy, tyN, isA, sCmpV, sz0, sz1, sz2, sz3, sz4, sz5, c, c2, d]
    · have d : ¬ (1 ≤ s.length ∧ s.length ≤ 8) := by omega
      simp [runF, argS, finF, outs, sSeq, sq, bnd, lift, sVar, sBor, sFrz, sMov, sC, sBin, sCmp, sChain, sTru, tru, sAndT, sOrT, sNotT, sAndV, sOrV, sNotV, sIf, sNil, sCons, sMk, s1, sN, sNx, sDrop, sRet, sRetO, sIfS, sSet, sSetO, sAsg, sPut, ownD, chg, ownL, isLst, sMeth, sIxV, bor, sCall, sCallO, sCallI, sCallIO, gSetL, ixN, dIx, atI, dGt, cmpI, dMod, dDiv, dMul, dPlus, dAdd, dSub, dNeg, dLt, dLen', dLen, sSlc, sSlcV, sPt, sNoPt, sIt, itD, sRg, rg1, hName, hTup, hCons, hNil, sFor, List.replicate, sPar2, pO, pF, pNil, noB, sIsiV, isTy, tyN, isA, sCmpV, sz0, sz1, sz2, sz3, sz4, sz5, c, c2, d]
  · have d : ¬ (1 ≤ s.length ∧ s.length ≤ 8) := by omega
    simp [runF, argS, finF, outs, sSeq, sq, bnd, lift, sVar, sBor, sFrz, sMov, sC, sBin, sCmp, sChain, sTru, tru, sAndT, sOrT, sNotT, sAndV, sOrV, sNotV, sIf, sNil, sCons, sMk, s1, sN, sNx, sDrop, sRet, sRetO, sIfS, sSet, sSetO, sAsg, sPut, ownD, chg, ownL, isLst, sMeth, sIxV, bor, sCall, sCallO, sCallI, sCallIO, gSetL, ixN, dIx, atI, dGt, cmpI, dMod, dDiv, dMul, dPlus, dAdd, dSub, dNeg, dLt, dLen', dLen, sSlc, sSlcV, sPt, sNoPt, sIt, itD, sRg, rg1, hName, hTup, hCons, hNil, sFor, List.replicate, sPar2, pO, pF, pNil, noB, sIsiV, isTy, tyN, isA, sCmpV, sz0, sz1, sz2, sz3, sz4, sz5, c, d]
theorem sgs_all (s : Str) : ((sgs s).map sgD).all azB = (sgs s).all fun c => decide (c ∈ sgs az) := by
  rw [List.all_map]
  rfl
theorem sgs_len (s : Str) : (sgs s).length = s.length := by simp [sgs, Str.length]
theorem name_head (s : Str) (x : Option S) : sOrT (sNotT (sTru (sN dIsi (sCons (sVar 0) (sCons (sC (.ty "str")) sNil))))) (sNotT (sChain dLe dLe id (sC (.int 1)) (s1 dLen' (sBor 0)) (sC (.int 8)))) [some (.f (.str s)), none] = .ok (!decide (1 ≤ s.length ∧ s.length ≤ 8)) [some (.f (.str s)), none] :=
  or_no (not_ok (tru_ok (n_ok (ds := [.str s, .ty "str"]) rfl (isi_str (.str s) rfl)))) (not_ok (len_ok s))
theorem name_ok {d : D} (h : (tyN d).isSome = true) (hl : ∀ s, d = .str s → s.length ≤ 1000) : fs_is_name [d] = .val false (.bl (nmB d)) none := by
  have h1 := isi_str d h
  cases d with
  | str s =>
    have hs := hl s rfl
    refine fin_ok (ρ := [some (.f (.str s)), none]) rfl ?_
    show m_is_name [some (.f (.str s)), none] = _
    unfold m_is_name
    by_cases c : 1 ≤ s.length ∧ s.length ≤ 8
    · have e1 := name_head s none
      rw [decide_eq_true c] at e1
      refine (seq_ok ((if_no e1).trans rfl)).trans ?_
      have blk : sLc (sIt (sVar 0)) (hName 1) sYes (sCmp dIn (sVar 1) (sC (.str az))) [1] [some (.f (.str s)), none] = .ok (.nd .lst (((sgs s).map sgD).map fun d => D.bl (azB d))) [some (.f (.str s)), none] := by
        refine sLc_ok (ds := (sgs s).map sgD) (ρ1 := [some (.f (.str s)), none]) rfl rfl ?_
        refine (lc_map (i := 1) (e := sCmp dIn (sVar 1) (sC (.str az))) (p := fun d => D.bl (azB d)) (ρ := [some (.f (.str s)), none]) rfl ((sgs s).map sgD) [] (fun d hd => ?_) ?_).trans rfl
        · obtain ⟨c, _, rfl⟩ := List.mem_map.mp hd
          unfold sCmp
          exact bin_ok (x := sgD c) (y := .str az) rfl rfl (by rw [in_az]; rfl)
        · have := sgs_len s
          simp [this]; omega
      refine ret_ok (s1_ok blk ?_)
      rw [all_map, sgs_all]
      simp [nmB, nmS, c]
    · have e1 := name_head s none
      rw [decide_eq_false c] at e1
      refine (show sSeq _ _ _ = _ from ?_)
      unfold sSeq
      rw [(if_yes e1).trans rfl]
      simp [sRet, sC, bnd, sq, nmB, nmS, c]
  | _ => simp [fs_is_name, m_is_name, runF, argS, finF, outs, sSeq, sq, bnd, lift, sVar, sBor, sFrz, sMov, sC, sBin, sCmp, sChain, sTru, tru, sAndT, sOrT, sNotT, sAndV, sOrV, sNotV, sIf, sNil, sCons, sMk, s1, sN, sNx, sDrop, sRet, sRetO, sIfS, sSet, sSetO, sAsg, sPut, ownD, chg, ownL, isLst, sMeth, sIxV, bor, sCall, sCallO, sCallI, sCallIO, gSetL, ixN, dIx, atI, dGt, cmpI, dMod, dDiv, dMul, dPlus, dAdd, dSub, dNeg, dLt, dLen', dLen, sSlc, sSlcV, sPt, sNoPt, sIt, itD, sRg, rg1, hName, hTup, hCons, hNil, sFor, List.replicate, sPar2, pO, pF, pNil, noB, sIsiV, isTy, tyN, isA, sCmpV, sz0, sz1, sz2, sz3, sz4, sz5, h1, nmB, isStr]
def risB (l : List Str) : Bool := (l.zip (l.drop 1)).all fun p => decide (sgs p.1 < sgs p.2)
theorem risB_iff : ∀ l : List Str, risB l = true ↔ l.Pairwise fun a b => sgs a < sgs b
  | [] => by simp [risB]
  | [a] => by simp [risB]
  | a :: b :: l => by
    have ih := risB_iff (b :: l)
    have e : risB (a :: b :: l) = (decide (sgs a < sgs b) && risB (b :: l)) := by simp [risB]
    rw [e, Bool.and_eq_true, decide_eq_true_eq, ih, List.pairwise_cons (a := a)]
    constructor
    · rintro ⟨h1, h2⟩
      refine ⟨fun c hc => ?_, h2⟩
      rcases List.mem_cons.mp hc with rfl | hc
      · exact h1
      · exact List.lt_trans h1 ((List.pairwise_cons.mp h2).1 c hc)
    · rintro ⟨h1, h2⟩
      exact ⟨h1 b List.mem_cons_self, h2⟩
theorem srt_sorted {l : List Str} (h : l.Pairwise fun a b => sgs a ≤ sgs b) : srt l = l := by
  apply map_inj_str
  rw [← srt_map]
  have hp : (nD l).Pairwise fun a b => leD a b = true := by
    rw [List.pairwise_map]
    exact h.imp fun {a b} q => by rw [leD_str]; exact decide_eq_true q
  refine List.Perm.eq_of_pairwise (le := fun a b => leD a b = true) (fun a b ha hb h1 h2 => ?_) (sort_pairwise leD_total _) hp (List.mergeSort_perm _ _)
  obtain ⟨s, _, rfl⟩ := List.mem_map.mp ((List.mergeSort_perm _ _).mem_iff.mp ha)
  obtain ⟨s', _, rfl⟩ := List.mem_map.mp hb
  simp only [leD_str, decide_eq_true_eq] at h1 h2
  rw [str_ext (List.le_antisymm h1 h2)]
def ltP : D → Bool
  | .nd .tup [.str a, .str b] => decide (sgs a < sgs b)
  | _ => false
theorem rises_ok {k : Kd} (hk : k = .lst ∨ k = .tup) {l : List Str} (hl : l.length ≤ 1000) : fs_rises [.nd k (nD l)] = .val false (.bl (risB l)) none := by
  have e1 : dSlc (.nd k (nD l)) (some 1) none = some (.nd k (nD (l.drop 1))) := by
    have : cutD (nD l) (some 1) none = nD (l.drop 1) := by rw [cut1]; simp
    rcases hk with rfl | rfl <;> (show some (D.nd _ (cutD (nD l) (some 1) none)) = _; rw [this])
  have e2 : zp2 [.nd k (nD l), .nd k (nD (l.drop 1))] = some (zpD (nD l) (nD (l.drop 1))) := by rcases hk with rfl | rfl <;> rfl
  have e3 : zpD (nD l) (nD (l.drop 1)) = (l.zip (l.drop 1)).map fun p => .nd .tup [.str p.1, .str p.2] := by
    unfold zpD
    rw [List.zip_map, List.map_map]
    rfl
  refine fin_ok (ρ := [some (.f (.nd k (nD l))), none, none]) rfl ?_
  show m_rises [some (.f (.nd k (nD l))), none, none] = _
  unfold m_rises
  have src : sRg zp2 (sCons (sVar 0) (sCons (sSlc (sVar 0) (sPt (sC (.int 1))) sNoPt) sNil)) [some (.f (.nd k (nD l))), none, none] = .ok (zpD (nD l) (nD (l.drop 1))) [some (.f (.nd k (nD l))), none, none] := by
    have a : sSlc (sVar 0) (sPt (sC (.int 1))) sNoPt [some (.f (.nd k (nD l))), none, none] = .ok (.nd k (nD (l.drop 1))) [some (.f (.nd k (nD l))), none, none] := by
      show lift (dSlc (.nd k (nD l)) (some 1) none) _ = _
      rw [e1]; rfl
    have b : sCons (sSlc (sVar 0) (sPt (sC (.int 1))) sNoPt) sNil [some (.f (.nd k (nD l))), none, none] = .ok [.nd k (nD (l.drop 1))] [some (.f (.nd k (nD l))), none, none] := one_ok a
    have c : sCons (sVar 0) (sCons (sSlc (sVar 0) (sPt (sC (.int 1))) sNoPt) sNil) [some (.f (.nd k (nD l))), none, none] = .ok [.nd k (nD l), .nd k (nD (l.drop 1))] [some (.f (.nd k (nD l))), none, none] := by
      unfold sCons at b ⊢
      show bnd (bnd _ _) _ = _
      rw [b]; rfl
    exact rg_ok c e2
  have blk : sLc (sRg zp2 (sCons (sVar 0) (sCons (sSlc (sVar 0) (sPt (sC (.int 1))) sNoPt) sNil))) (hTup 2 (hCons (hName 1) (hCons (hName 2) hNil))) sYes (sCmp dLt (sVar 1) (sBor 2)) [1, 2] [some (.f (.nd k (nD l))), none, none] = .ok (.nd .lst ((zpD (nD l) (nD (l.drop 1))).map fun d => D.bl (ltP d))) [some (.f (.nd k (nD l))), none, none] := by
    refine sLc_ok src rfl ((lc_mapG (p := fun d => D.bl (ltP d)) _ [] (fun d hd => ?_) ?_).trans rfl)
    · rw [e3] at hd
      obtain ⟨p, _, rfl⟩ := List.mem_map.mp hd
      exact ⟨[some (.f (.nd k (nD l))), some (.f (.str p.1)), some (.f (.str p.2))], [some (.f (.nd k (nD l))), some (.f (.str p.1)), some (.f (.str p.2))], rfl, rfl, rfl⟩
    · rw [e3, List.length_map, List.length_zip]; simp; omega
  refine ret_ok (s1_ok blk ?_)
  rw [all_map, e3, List.all_map]
  rfl
/-! ### where all is well -/
theorem from_yes {n lo hi : Nat} (h1 : lo ≤ n) (h2 : n ≤ hi) : fs_is_from [iN n, iN lo, iN hi] = .val false (.bl true) none := by
  rw [from_ok rfl]
  have : isInt (lo : Int) (hi : Int) (iN n) = true := decide_eq_true (by constructor <;> omega)
  rw [this]
theorem name_yes {s : Str} (h : nmS s = true) : fs_is_name [.str s] = .val false (.bl true) none := by
  have hl : s.length ≤ 8 := by
    unfold nmS at h
    exact (of_decide_eq_true ((Bool.and_eq_true _ _).mp h).1).2
  rw [name_ok rfl (fun t e => by cases e; omega)]
  exact congrArg (fun b => FO.val false (.bl b) none) h
theorem all_true {α : Type} : ∀ xs : List α, dAll (.nd .lst (xs.map fun _ => D.bl true)) = some (.bl true) := fun xs => by
  have b : ∀ l : List α, blsD (l.map fun _ => D.bl true) = some (l.map fun _ => true) := fun l => by
    induction l with
    | nil => rfl
    | cons a l ih =>
      rw [List.map_cons, List.map_cons]
      unfold blsD
      rw [ih]
      rfl
  show (blsD (xs.map fun _ => D.bl true)).map (fun bs => D.bl (bs.all id)) = _
  rw [b, Option.map_some]
  congr 2
  rw [List.all_map]
  exact List.all_eq_true.mpr fun _ _ => rfl
/-- a test of all is true -/
theorem all_yes {α : Type} {src : En → Y.R (List D)} {g : D → En → Option En} {e : En → Y.R D} {vs : List Nat} {ρ : En} (f : α → D) (xs : List α) (hs : src ρ = .ok (xs.map f) ρ) (hw : wipeE vs ρ = ρ) (h : ∀ x ∈ xs, ∃ ρ1, g (f x) ρ = some ρ1 ∧ e ρ1 = .ok (.bl true) ρ1 ∧ wipeE vs ρ1 = ρ) (hl : xs.length ≤ 100000) :
    s1 dAll (sLc src g sYes e vs) ρ = .ok (.bl true) ρ :=
  s1_ok (slc_ty f (fun _ => true) (fun _ => .bl true) xs hs hw (fun x hx => let ⟨ρ1, a, b, c⟩ := h x hx; ⟨ρ1, a, rfl, fun _ => b, c⟩) hl (by rw [List.filter_eq_self.mpr (fun _ _ => rfl)])) (all_true xs)
theorem rows_yes {xs : List D} {most many : Nat} (hl : xs.length ≤ most) (hm : most ≤ 1000) (h : ∀ x ∈ xs, ∃ ys, x = .nd .tup ys ∧ ys.length = many) : fs_are_rows [.nd .tup xs, iN most, iN many] = .val false (.bl true) none := by
  refine fin_ok (ρ := [some (.f (.nd .tup xs)), some (.f (iN most)), some (.f (iN many)), none]) rfl ?_
  show m_are_rows [some (.f (.nd .tup xs)), some (.f (iN most)), some (.f (iN many)), none] = _
  unfold m_are_rows
  generalize hρ : ([some (.f (.nd .tup xs)), some (.f (iN most)), some (.f (iN many)), none] : En) = ρ
  have c : sOrT (sNotT (sTru (sN dIsi (sCons (sVar 0) (sCons (sC (.ty "tuple")) sNil))))) (sBin dGt (s1 dLen' (sBor 0)) (sBor 1)) ρ = .ok false ρ := by
    subst hρ
    refine or_no (not_ok (b := true) (tru_ok (n_ok (ds := [.nd .tup xs, .ty "tuple"]) rfl (isi_tup _ rfl)))) (bin_ok (s1_ok (d := .nd .tup xs) rfl (len_nd (.inr rfl) xs)) (y := iN most) rfl ?_)
    rw [gt_nat]
    exact congrArg some (decide_eq_false (by omega))
  refine (out_go c).trans (ret_ok (all_yes id xs (by subst hρ; rw [List.map_id]; rfl) (by subst hρ; rfl) (fun x hx => ?_) (by omega)))
  obtain ⟨ys, rfl, hy⟩ := h x hx
  refine ⟨[some (.f (.nd .tup xs)), some (.f (iN most)), some (.f (iN many)), some (.f (.nd .tup ys))], by subst hρ; rfl, ?_, by subst hρ; rfl⟩
  refine and_yes (n_ok (ds := [.nd .tup ys, .ty "tuple"]) rfl (isi_tup _ rfl)) (bin_ok (s1_ok (d := .nd .tup ys) rfl (len_nd (.inr rfl) ys)) (y := iN many) rfl ?_)
  rw [dEq_ints]
  exact congrArg (fun b => some (D.bl b)) (decide_eq_true hy)
theorem rises_yes {k : Kd} (hk : k = .lst ∨ k = .tup) {ds : List D} (hl : ds.length ≤ 1000) (h : ∀ p ∈ ds.zip (ds.drop 1), dLt p.1 p.2 = some true) : fs_rises [.nd k ds] = .val false (.bl true) none := by
  have e1 : dSlc (.nd k ds) (some 1) none = some (.nd k (ds.drop 1)) := by
    rcases hk with rfl | rfl <;> (show some (D.nd _ (cutD ds (some 1) none)) = _; rw [cut1])
  have e2 : zp2 [.nd k ds, .nd k (ds.drop 1)] = some (zpD ds (ds.drop 1)) := by rcases hk with rfl | rfl <;> rfl
  refine fin_ok (ρ := [some (.f (.nd k ds)), none, none]) rfl ?_
  show m_rises [some (.f (.nd k ds)), none, none] = _
  unfold m_rises
  generalize hρ : ([some (.f (.nd k ds)), none, none] : En) = ρ
  have v0 : sVar 0 ρ = .ok (.nd k ds) ρ := by subst hρ; rfl
  have src : sRg zp2 (sCons (sVar 0) (sCons (sSlc (sVar 0) (sPt (sC (.int 1))) sNoPt) sNil)) ρ = .ok ((ds.zip (ds.drop 1)).map fun p => D.nd .tup [p.1, p.2]) ρ := rg_ok (cons_ok v0 (one_ok (slc_ok (a := some 1) (c := none) v0 rfl rfl e1))) e2
  refine ret_ok (all_yes (fun p : D × D => D.nd .tup [p.1, p.2]) (ds.zip (ds.drop 1)) src (by subst hρ; rfl) (fun p hp => ⟨[some (.f (.nd k ds)), some (.f p.1), some (.f p.2)], by subst hρ; rfl, bin_ok (x := p.1) (y := p.2) rfl rfl (by rw [h p hp]; rfl), by subst hρ; rfl⟩) (by rw [List.length_zip]; omega))
end Y

set_option Elab.async false
set_option linter.all false
set_option maxRecDepth 100000
set_option maxHeartbeats 4000000
/-! a record that is one -/
namespace Y
open PySem PySem.Spec PyProof.Rows L2 PySem.W
theorem nmS_G {s : Str} (h : nmS s = true) : True := trivial
theorem rises_none {k : Kd} (hk : k = .lst ∨ k = .tup) : fs_rises [.nd k []] = .val false (.bl true) none := rises_yes hk (by decide) fun p hp => by cases hp
theorem rises_one {k : Kd} (hk : k = .lst ∨ k = .tup) (d : D) : fs_rises [.nd k [d]] = .val false (.bl true) none := rises_yes hk (by simp) fun p hp => by simp at hp
theorem dok_pairs {α : Type} (f : α → D) (l : List α) (h : ∀ a ∈ l, dk 3 (f a)) : dok (.nd .tup (l.map f)) = true := dk_dok (n := 4) (by decide) (dk_nd (.inr rfl) fun x hx => by
  obtain ⟨a, ha, rfl⟩ := List.mem_map.mp hx
  exact h a ha)
structure KdOk (ks : List (Str × Nat)) : Prop where
  n4 : ks.length ≤ 4
  ne : ks ≠ []
  nm : ∀ k ∈ ks, nmS k.1 = true ∧ strG k.1 = true
  sh : ∀ k ∈ ks, 1 ≤ k.2 ∧ k.2 ≤ 9
  ri : risB (ks.map (·.1)) = true
theorem kinds_yes {ks : List (Str × Nat)} (h : KdOk ks) : fs_are_kinds [.nd .tup (ks.map kindD)] = .val false (.bl true) none := by
  have h4 := h.n4
  refine fin_ok (ρ := [some (.f (.nd .tup (ks.map kindD))), none, none, none]) rfl ?_
  show m_are_kinds [some (.f (.nd .tup (ks.map kindD))), none, none, none] = _
  unfold m_are_kinds
  generalize hρ : ([some (.f (.nd .tup (ks.map kindD))), none, none, none] : En) = ρ
  have v0 : sVar 0 ρ = .ok (.nd .tup (ks.map kindD)) ρ := by subst hρ; rfl
  have dv : dok (.nd .tup (ks.map kindD)) = true := dok_pairs kindD ks fun k hk => dk_up (n := 1) (dk_nd (.inr rfl) fun y hy => by
    simp only [List.mem_cons, List.not_mem_nil, or_false] at hy
    rcases hy with rfl | rfl
    · exact dk_str _ (h.nm k hk).2
    · exact dk_int _ _) (by decide)
  have c1 : sOrT (sNotT (sTru (sCall fs_are_rows (sCons (sVar 0) (sCons (sC (.int 4)) (sCons (sC (.int 2)) sNil)))))) (sBin dEq (sVar 0) (sMk .tup sNil)) ρ = .ok false ρ := by
    refine or_no (not_ok (b := true) (tru_ok (call_ok (cons_ok v0 (ds := [iN 4, iN 2]) rfl) (rows_yes (by rw [List.length_map]; exact h4) (by decide) fun x hx => ?_)))) (bin_ok v0 (mk_ok (ds := []) rfl (small (by decide))) ?_)
    · obtain ⟨k, _, rfl⟩ := List.mem_map.mp hx
      exact ⟨_, rfl, rfl⟩
    · rw [eq_tup dv, List.isEmpty_map]
      cases e : ks with
      | nil => exact absurd e h.ne
      | cons _ _ => rfl
  have c2 : sNotT (sTru (s1 dAll (sLc (sIt (sVar 0)) (hTup 2 (hCons (hName 2) (hCons (hName 3) hNil))) sYes (sAndV (sCall fs_is_name (sCons (sVar 2) sNil)) (sCall fs_is_from (sCons (sVar 3) (sCons (sC (.int 1)) (sCons (sC (.int 9)) sNil))))) [2, 3]))) ρ = .ok false ρ :=
    not_ok (b := true) (tru_ok (all_yes kindD ks (it_ok v0 rfl) (by subst hρ; rfl) (fun k hk => ⟨[some (.f (.nd .tup (ks.map kindD))), none, some (.f (.str k.1)), some (.f (iN k.2))], by subst hρ; rfl, and_yes (call_ok (ds := [.str k.1]) rfl (name_yes (h.nm k hk).1)) (call_ok (ds := [iN k.2, iN 1, iN 9]) rfl (from_yes (h.sh k hk).1 (h.sh k hk).2)), by subst hρ; rfl⟩) (by omega)))
  have c3 : sLc (sIt (sVar 0)) (hName 1) sYes (sBin dIx (sVar 1) (sC (.int 0))) [1] ρ = .ok (lD (ks.map (·.1))) ρ := slc_ty kindD (fun _ => true) (fun k => .str k.1) ks (it_ok v0 rfl) (by subst hρ; rfl) (fun k hk => ⟨[some (.f (.nd .tup (ks.map kindD))), some (.f (kindD k)), none, none], by subst hρ; rfl, rfl, fun _ => bin_ok (x := kindD k) rfl rfl rfl, by subst hρ; rfl⟩) (by omega) (by rw [List.filter_eq_self.mpr (fun _ _ => rfl), nD, List.map_map]; rfl)
  have r := rises_ok (k := .lst) (.inl rfl) (l := ks.map (·.1)) (by rw [List.length_map]; omega)
  rw [h.ri] at r
  exact (out_go c1).trans ((out_go c2).trans (ret_ok (call_ok (one_ok c3) r)))
structure GdOk (gs : List (Nat × Str)) : Prop where
  n6 : gs.length ≤ 6
  g0 : ∃ s l, gs = (0, s) :: l
  nm : ∀ g ∈ gs, nmS g.2 = true ∧ strG g.2 = true
  top : ∀ g ∈ gs, g.1 ≤ 100
  ri : ∀ p ∈ (gs.map (·.1)).zip ((gs.map (·.1)).drop 1), p.1 < p.2
  rn : risB (srt (gs.map (·.2))) = true
theorem grades_yes {gs : List (Nat × Str)} (h : GdOk gs) : fs_are_grades [.nd .tup (gs.map gradeD)] = .val false (.bl true) none := by
  have h6 := h.n6
  refine fin_ok (ρ := [some (.f (.nd .tup (gs.map gradeD))), none, none, none]) rfl ?_
  show m_are_grades [some (.f (.nd .tup (gs.map gradeD))), none, none, none] = _
  unfold m_are_grades
  generalize hρ : ([some (.f (.nd .tup (gs.map gradeD))), none, none, none] : En) = ρ
  have v0 : sVar 0 ρ = .ok (.nd .tup (gs.map gradeD)) ρ := by subst hρ; rfl
  have dv : dok (.nd .tup (gs.map gradeD)) = true := dok_pairs gradeD gs fun g hg => dk_up (n := 1) (dk_nd (.inr rfl) fun y hy => by
    simp only [List.mem_cons, List.not_mem_nil, or_false] at hy
    rcases hy with rfl | rfl
    · exact dk_int _ _
    · exact dk_str _ (h.nm g hg).2) (by decide)
  have c1 : sOrT (sNotT (sTru (sCall fs_are_rows (sCons (sVar 0) (sCons (sC (.int 6)) (sCons (sC (.int 2)) sNil)))))) (sBin dEq (sVar 0) (sMk .tup sNil)) ρ = .ok false ρ := by
    refine or_no (not_ok (b := true) (tru_ok (call_ok (cons_ok v0 (ds := [iN 6, iN 2]) rfl) (rows_yes (by rw [List.length_map]; exact h6) (by decide) fun x hx => ?_)))) (bin_ok v0 (mk_ok (ds := []) rfl (small (by decide))) ?_)
    · obtain ⟨k, _, rfl⟩ := List.mem_map.mp hx
      exact ⟨_, rfl, rfl⟩
    · rw [eq_tup dv, List.isEmpty_map]
      obtain ⟨s, l, e⟩ := h.g0
      rw [e]
      rfl
  have c2 : sNotT (sTru (s1 dAll (sLc (sIt (sVar 0)) (hTup 2 (hCons (hName 1) (hCons (hName 2) hNil))) sYes (sAndV (sCall fs_is_from (sCons (sVar 1) (sCons (sC (.int 0)) (sCons (sC (.int 100)) sNil)))) (sCall fs_is_name (sCons (sVar 2) sNil))) [1, 2]))) ρ = .ok false ρ :=
    not_ok (b := true) (tru_ok (all_yes gradeD gs (it_ok v0 rfl) (by subst hρ; rfl) (fun g hg => ⟨[some (.f (.nd .tup (gs.map gradeD))), some (.f (iN g.1)), some (.f (.str g.2)), none], by subst hρ; rfl, and_yes (call_ok (ds := [iN g.1, iN 0, iN 100]) rfl (from_yes (Nat.zero_le _) (h.top g hg))) (call_ok (ds := [.str g.2]) rfl (name_yes (h.nm g hg).1)), by subst hρ; rfl⟩) (by omega)))
  have c3 : sLc (sIt (sVar 0)) (hName 3) sYes (sBin dIx (sVar 3) (sC (.int 0))) [3] ρ = .ok (.nd .lst ((gs.map (·.1)).map iN)) ρ := slc_ty gradeD (fun _ => true) (fun g => iN g.1) gs (it_ok v0 rfl) (by subst hρ; rfl) (fun g hg => ⟨[some (.f (.nd .tup (gs.map gradeD))), none, none, some (.f (gradeD g))], by subst hρ; rfl, rfl, fun _ => bin_ok (x := gradeD g) rfl rfl rfl, by subst hρ; rfl⟩) (by omega) (by rw [List.filter_eq_self.mpr (fun _ _ => rfl), List.map_map]; rfl)
  have c4 : sLc (sIt (sVar 0)) (hName 3) sYes (sBin dIx (sVar 3) (sC (.int 1))) [3] ρ = .ok (lD (gs.map (·.2))) ρ := slc_ty gradeD (fun _ => true) (fun g => .str g.2) gs (it_ok v0 rfl) (by subst hρ; rfl) (fun g hg => ⟨[some (.f (.nd .tup (gs.map gradeD))), none, none, some (.f (gradeD g))], by subst hρ; rfl, rfl, fun _ => bin_ok (x := gradeD g) rfl rfl rfl, by subst hρ; rfl⟩) (by omega) (by rw [List.filter_eq_self.mpr (fun _ _ => rfl), nD, List.map_map]; rfl)
  have z : sCmp dEq (sBin dIx (sBin dIx (sVar 0) (sC (.int 0))) (sC (.int 0))) (sC (.int 0)) ρ = .ok (.bl true) ρ := by
    obtain ⟨s, l, e⟩ := h.g0
    refine bin_ok (bin_ok (bin_ok v0 (d := gradeD (0, s)) rfl ?_) (d := iN 0) rfl rfl) (y := iN 0) rfl ?_
    · rw [e]
      exact at_tup (xs := ((0, s) :: l).map gradeD) (jj := 0) (by simp)
    · rw [dEq_ints]; rfl
  have r1 := rises_yes (k := .lst) (.inl rfl) (ds := (gs.map (·.1)).map iN) (by rw [List.length_map, List.length_map]; omega) (fun p hp => by
    rw [← List.map_drop, List.zip_map] at hp
    obtain ⟨q, hq, rfl⟩ := List.mem_map.mp hp
    show dLt (iN q.1) (iN q.2) = _
    rw [lt_nat]
    exact congrArg some (decide_eq_true (h.ri q hq)))
  have so : dSorted (lD (gs.map (·.2))) = some (lD (srt (gs.map (·.2)))) := by
    show sortD (nD (gs.map (·.2))) = _
    refine sortD_names (fun s hs => ?_) (small (by rw [List.length_map]; omega))
    obtain ⟨g, hg, rfl⟩ := List.mem_map.mp hs
    exact (h.nm g hg).2
  have r2 := rises_ok (k := .lst) (.inl rfl) (l := srt (gs.map (·.2))) (by rw [(srt_perm _).length_eq, List.length_map]; omega)
  rw [h.rn] at r2
  exact (out_go c1).trans ((out_go c2).trans (ret_ok (and_yes z (and_yes (call_ok (one_ok c3) r1) (call_ok (one_ok (s1_ok c4 so)) r2)))))
structure RuOk (R : Rl) : Prop where
  kd : KdOk R.ks
  gd : GdOk R.gs
  gl : R.good ≤ R.gs.length - 1
  l99 : R.lim ≤ 99
  l40 : R.lift ≤ 40
theorem rules_yes {R : Rl} (h : RuOk R) : fs_are_rules [rulesD R] = .val false (.bl true) none := by
  refine fin_ok (ρ := [some (.f (rulesD R))]) rfl ?_
  show m_are_rules [some (.f (rulesD R))] = _
  unfold m_are_rules
  have gp : 0 < R.gs.length := by
    obtain ⟨s, l, e⟩ := h.gd.g0
    rw [e]; simp
  have c : sOrT (sNotT (sTru (sN dIsi (sCons (sVar 0) (sCons (sC (.ty "tuple")) sNil))))) (sOrT (sBin dNe (s1 dLen' (sBor 0)) (sC (.int 5))) (sOrT (sNotT (sTru (sCall fs_are_kinds (sCons (sBin dIx (sVar 0) (sC (.int 0))) sNil)))) (sNotT (sTru (sCall fs_are_grades (sCons (sBin dIx (sVar 0) (sC (.int 1))) sNil)))))) [some (.f (rulesD R))] = .ok false [some (.f (rulesD R))] :=
    or_no (not_ok (b := true) (tru_ok (n_ok (ds := [rulesD R, .ty "tuple"]) rfl (isi_tup _ rfl)))) (or_no (bin_ok (x := iN 5) (y := iN 5) rfl rfl (by rw [dNe_nat]; rfl)) (or_no (not_ok (b := true) (tru_ok (call_ok (one_ok (bin_ok (x := rulesD R) rfl rfl rfl)) (kinds_yes h.kd)))) (not_ok (b := true) (tru_ok (call_ok (one_ok (bin_ok (x := rulesD R) rfl rfl rfl)) (grades_yes h.gd))))))
  have ln : sBin dSub (s1 dLen' (sBin dIx (sVar 0) (sC (.int 1)))) (sC (.int 1)) [some (.f (rulesD R))] = .ok (iN (R.gs.length - 1)) [some (.f (rulesD R))] := bin_ok (x := iN R.gs.length) (s1_ok (bin_ok (x := rulesD R) (d := .nd .tup (R.gs.map gradeD)) rfl rfl rfl) (by rw [len_nd (.inr rfl), List.length_map])) rfl (sub1_nat gp)
  exact (out_go c).trans (ret_ok (and_yes (call_ok (cons_ok (bin_ok (x := rulesD R) (d := iN R.good) rfl rfl rfl) (cons_ok (d := iN 0) rfl (one_ok ln))) (from_yes (Nat.zero_le _) h.gl)) (and_yes (call_ok (cons_ok (bin_ok (x := rulesD R) (d := iN R.lim) rfl rfl rfl) (ds := [iN 0, iN 99]) rfl) (from_yes (Nat.zero_le _) h.l99)) (call_ok (cons_ok (bin_ok (x := rulesD R) (d := iN R.lift) rfl rfl rfl) (ds := [iN 0, iN 40]) rfl) (from_yes (Nat.zero_le _) h.l40)))))
theorem day_yes {n : Nat} (h : n ≤ 400) : fs_is_day [iN n] = .val false (.bl true) none :=
  fin_ok (ρ := [some (.f (iN n))]) rfl (ret_ok (call_ok (ds := [iN n, iN 0, iN 400]) rfl (from_yes (Nat.zero_le _) h)))
def hd2 (m : Nat × Str × Nat) : D := .nd .tup [iN m.1, .str m.2.1]
abbrev mrkC : En → Y.R Bool := (sOrT (sNotT (sTru (sCall fs_is_day (sCons (sVar 3) sNil)))) (sOrT (sNotT (sTru (sN dIsi (sCons (sVar 4) (sCons (sC (.ty "str")) sNil))))) (sOrT (sBin dNotIn (sVar 4) (sBor 2)) (sNotT (sTru (sCall fs_is_from (sCons (sVar 5) (sCons (sC (.int 0)) (sCons (sC (.int 100)) sNil)))))))))
structure MsOk (R : Rl) (ms : List (Nat × Str × Nat)) : Prop where
  n12 : ms.length ≤ 12
  ok : ∀ m ∈ ms, m.1 ≤ 400 ∧ strG m.2.1 = true ∧ m.2.1 ∈ R.ks.map (·.1) ∧ m.2.2 ≤ 100
  ri : ∀ p ∈ (ms.map hd2).zip ((ms.map hd2).drop 1), dLt p.1 p.2 = some true
theorem marks_yes {R : Rl} (hk : KdOk R.ks) {ms : List (Nat × Str × Nat)} (h : MsOk R ms) : fs_are_marks [rulesD R, .nd .tup (ms.map markD)] = .val false (.bl true) none := by
  have h12 := h.n12
  have h4 := hk.n4
  refine fin_ex rfl ?_
  show ∃ ρ, m_are_marks [some (.f (rulesD R)), some (.f (.nd .tup (ms.map markD))), none, none, none, none, none] = _
  unfold m_are_marks
  have kn : NmsOk (R.ks.map (·.1)) := fun s hs => by
    obtain ⟨k, hk', rfl⟩ := List.mem_map.mp hs
    exact (hk.nm k hk').2
  have f1 : sSet 2 (sLc (sIt (sBin dIx (sVar 0) (sC (.int 0)))) (hName 6) sYes (sBin dIx (sVar 6) (sC (.int 0))) [6]) [some (.f (rulesD R)), some (.f (.nd .tup (ms.map markD))), none, none, none, none, none] = .ok .nx [some (.f (rulesD R)), some (.f (.nd .tup (ms.map markD))), some (.f (lD (R.ks.map (·.1)))), none, none, none, none] :=
    set_call (i := 2) (slc_ty kindD (fun _ => true) (fun k => .str k.1) R.ks (it_ok (bin_ok (x := rulesD R) rfl rfl rfl) rfl) rfl (fun k hk => ⟨[some (.f (rulesD R)), some (.f (.nd .tup (ms.map markD))), none, none, none, none, some (.f (kindD k))], rfl, rfl, fun _ => bin_ok (x := kindD k) rfl rfl rfl, rfl⟩) (by omega) (R := nD (R.ks.map (·.1))) (by rw [List.filter_eq_self.mpr (fun _ _ => rfl), nD, List.map_map]; rfl))
  have c1 : sNotT (sTru (sCall fs_are_rows (sCons (sVar 1) (sCons (sC (.int 12)) (sCons (sC (.int 3)) sNil))))) [some (.f (rulesD R)), some (.f (.nd .tup (ms.map markD))), some (.f (lD (R.ks.map (·.1)))), none, none, none, none] = .ok false [some (.f (rulesD R)), some (.f (.nd .tup (ms.map markD))), some (.f (lD (R.ks.map (·.1)))), none, none, none, none] :=
    not_ok (b := true) (tru_ok (call_ok (ds := [.nd .tup (ms.map markD), iN 12, iN 3]) rfl (rows_yes (by rw [List.length_map]; exact h12) (by decide) fun x hx => by
      obtain ⟨k, _, rfl⟩ := List.mem_map.mp hx
      exact ⟨_, rfl, rfl⟩)))
  obtain ⟨ρ', l, y3, y4, y5, h1⟩ := forL_inv (g := hTup 3 (hCons (hName 3) (hCons (hName 4) (hCons (hName 5) hNil)))) (b := sIfS mrkC (sRet (sC (.bl false))) sNx)
    (fun j ρ => ∃ x3 x4 x5, ρ = [some (.f (rulesD R)), some (.f (.nd .tup (ms.map markD))), some (.f (lD (R.ks.map (·.1)))), x3, x4, x5, none]) (ms.map markD) 0 _ ⟨none, none, none, rfl⟩ (fun i d ρ hd ⟨x3, x4, x5, e1⟩ => by
      obtain ⟨m, hm, rfl⟩ := List.mem_map.mp (List.mem_of_getElem? hd)
      obtain ⟨m1, m2, m3, m4⟩ := h.ok m hm
      subst e1
      have ni : dNotIn (.str m.2.1) (lD (R.ks.map (·.1))) = some false := by
        show (dIn (.str m.2.1) (lD (R.ks.map (·.1)))).map not = _
        rw [dIn_lst kn m2, decide_eq_true m3]
        rfl
      have cc : mrkC [some (.f (rulesD R)), some (.f (.nd .tup (ms.map markD))), some (.f (lD (R.ks.map (·.1)))), some (.f (iN m.1)), some (.f (.str m.2.1)), some (.f (iN m.2.2)), none] = .ok false [some (.f (rulesD R)), some (.f (.nd .tup (ms.map markD))), some (.f (lD (R.ks.map (·.1)))), some (.f (iN m.1)), some (.f (.str m.2.1)), some (.f (iN m.2.2)), none] :=
        or_no (not_ok (b := true) (tru_ok (call_ok (ds := [iN m.1]) rfl (day_yes m1)))) (or_no (not_ok (b := true) (tru_ok (n_ok (ds := [.str m.2.1, .ty "str"]) rfl (isi_str _ rfl)))) (or_no (bin_ok (x := .str m.2.1) (y := lD (R.ks.map (·.1))) rfl rfl ni) (not_ok (b := true) (tru_ok (call_ok (ds := [iN m.2.2, iN 0, iN 100]) rfl (from_yes (Nat.zero_le _) m4))))))
      exact ⟨_, _, rfl, (if_no cc).trans rfl, _, _, _, rfl⟩)
  subst h1
  have c3 : sLc (sIt (sVar 1)) (hName 6) sYes (sSlc (sVar 6) sNoPt (sPt (sC (.int 2)))) [6] [some (.f (rulesD R)), some (.f (.nd .tup (ms.map markD))), some (.f (lD (R.ks.map (·.1)))), y3, y4, y5, none] = .ok (.nd .lst (ms.map hd2)) [some (.f (rulesD R)), some (.f (.nd .tup (ms.map markD))), some (.f (lD (R.ks.map (·.1)))), y3, y4, y5, none] :=
    slc_ty markD (fun _ => true) hd2 ms rfl rfl (fun m hm => ⟨[some (.f (rulesD R)), some (.f (.nd .tup (ms.map markD))), some (.f (lD (R.ks.map (·.1)))), y3, y4, y5, some (.f (markD m))], rfl, rfl, fun _ => slc_ok (a := none) (c := some 2) (d := markD m) rfl rfl rfl rfl, rfl⟩) (by omega) (by rw [List.filter_eq_self.mpr (fun _ _ => rfl)])
  exact ⟨_, (seq_ok f1).trans ((out_go c1).trans ((seq_ok (for_ok (src := sIt (sVar 1)) (ρ := [some (.f (rulesD R)), some (.f (.nd .tup (ms.map markD))), some (.f (lD (R.ks.map (·.1)))), none, none, none, none]) rfl l)).trans (ret_ok (call_ok (one_ok c3) (rises_yes (.inl rfl) (by rw [List.length_map]; omega) h.ri)))))⟩
theorem gaps_yes0 : fs_are_gaps [.nd .tup []] = .val false (.bl true) none := by
  refine fin_ok (ρ := [some (.f (.nd .tup [])), none]) rfl ?_
  show m_are_gaps [some (.f (.nd .tup [])), none] = _
  unfold m_are_gaps
  have c1 : sNotT (sTru (sCall fs_are_rows (sCons (sVar 0) (sCons (sC (.int 12)) (sCons (sC (.int 3)) sNil))))) [some (.f (.nd .tup [])), none] = .ok false [some (.f (.nd .tup [])), none] := not_ok (b := true) (tru_ok (call_ok (ds := [.nd .tup [], iN 12, iN 3]) rfl (rows_yes (by decide) (by decide) fun x hx => by cases hx)))
  have c2 : sNotT (sTru (s1 dAll (sLc (sIt (sVar 0)) (hName 1) sYes (sAndV (sCall fs_is_day (sCons (sBin dIx (sVar 1) (sC (.int 0))) sNil)) (sAndV (sCall fs_is_from (sCons (sBin dIx (sVar 1) (sC (.int 1))) (sCons (sC (.int 1)) (sCons (sC (.int 9)) sNil)))) (sN dIsi (sCons (sBin dIx (sVar 1) (sC (.int 2))) (sCons (sC (.ty "bool")) sNil))))) [1]))) [some (.f (.nd .tup [])), none] = .ok false [some (.f (.nd .tup [])), none] := not_ok (b := true) (tru_ok (all_yes id [] rfl rfl (fun x hx => by cases hx) (by decide)))
  have c3 : sLc (sIt (sVar 0)) (hName 1) sYes (sBin dIx (sVar 1) (sC (.int 0))) [1] [some (.f (.nd .tup [])), none] = .ok (.nd .lst []) [some (.f (.nd .tup [])), none] := slc_ty id (fun _ => true) id [] rfl rfl (fun x hx => by cases hx) (by decide) rfl
  exact (out_go c1).trans ((out_go c2).trans (ret_ok (call_ok (one_ok c3) (rises_none (.inl rfl)))))
/-- one entry of one take, without gaps -/
theorem record_yes {R : Rl} (h : RuOk R) {c g : Str} {w : Nat} {ms : List (Nat × Str × Nat)} (hc : nmS c = true) (hg : nmS g = true) (w1 : 1 ≤ w) (w9 : w ≤ 9) (hm : MsOk R ms) : fs_is_record [.nd .tup [entryD ⟨2000, R, g, [⟨c, w, ms, []⟩]⟩]] = .val false (.bl true) none := by
  generalize ht : (⟨c, w, ms, []⟩ : Tk) = t
  have tk : fs_is_take [rulesD R, takeD t] = .val false (.bl true) none := by
    subst ht
    refine fin_ok (ρ := [some (.f (rulesD R)), some (.f (takeD ⟨c, w, ms, []⟩))]) rfl ?_
    show m_is_take [some (.f (rulesD R)), some (.f (takeD ⟨c, w, ms, []⟩))] = _
    unfold m_is_take
    have c1 : sOrT (sNotT (sTru (sCall fs_is_name (sCons (sBin dIx (sVar 1) (sC (.int 0))) sNil)))) (sNotT (sTru (sCall fs_is_from (sCons (sBin dIx (sVar 1) (sC (.int 1))) (sCons (sC (.int 1)) (sCons (sC (.int 9)) sNil)))))) [some (.f (rulesD R)), some (.f (takeD ⟨c, w, ms, []⟩))] = .ok false [some (.f (rulesD R)), some (.f (takeD ⟨c, w, ms, []⟩))] :=
      or_no (not_ok (b := true) (tru_ok (call_ok (one_ok (bin_ok (x := takeD ⟨c, w, ms, []⟩) (d := .str c) rfl rfl rfl)) (name_yes hc)))) (not_ok (b := true) (tru_ok (call_ok (cons_ok (bin_ok (x := takeD ⟨c, w, ms, []⟩) (d := iN w) rfl rfl rfl) (ds := [iN 1, iN 9]) rfl) (from_yes w1 w9))))
    exact (out_go c1).trans (ret_ok (and_yes (call_ok (cons_ok (d := rulesD R) rfl (one_ok (bin_ok (x := takeD ⟨c, w, ms, []⟩) (d := .nd .tup (ms.map markD)) rfl rfl rfl))) (marks_yes h.kd hm)) (call_ok (one_ok (bin_ok (x := takeD ⟨c, w, ms, []⟩) (d := .nd .tup []) rfl rfl rfl)) gaps_yes0)))
  have tn : dIx (takeD t) (.int 0) = some (.str c) := by subst ht; rfl
  have ts : ∃ a b c' d, takeD t = .nd .tup [a, b, c', d] := by subst ht; exact ⟨_, _, _, _, rfl⟩
  generalize hE : entryD ⟨2000, R, g, [t]⟩ = E
  have i0 : dIx E (.int 0) = some (iN 2000) := by subst hE; rfl
  have i1 : dIx E (.int 1) = some (rulesD R) := by subst hE; rfl
  have i2 : dIx E (.int 2) = some (.str g) := by subst hE; rfl
  have i3 : dIx E (.int 3) = some (.nd .tup [takeD t]) := by subst hE; rfl
  have es : ∃ ys, E = .nd .tup ys ∧ ys.length = 4 := by subst hE; exact ⟨_, rfl, rfl⟩
  have en : fs_is_entry [E] = .val false (.bl true) none := by
    refine fin_ok (ρ := [some (.f E), none]) rfl ?_
    show m_is_entry [some (.f E), none] = _
    unfold m_is_entry
    generalize hρ : ([some (.f E), none] : En) = ρ
    have v0 : sVar 0 ρ = .ok E ρ := by subst hρ; rfl
    have yr : fs_is_year [iN 2000] = .val false (.bl true) none := fin_ok (ρ := [some (.f (iN 2000))]) rfl (ret_ok (call_ok (ds := [iN 2000, iN 1900, iN 2100]) rfl (from_yes (by decide) (by decide))))
    have c1 : sOrT (sNotT (sTru (sCall fs_is_year (sCons (sBin dIx (sVar 0) (sC (.int 0))) sNil)))) (sOrT (sNotT (sTru (sCall fs_are_rules (sCons (sBin dIx (sVar 0) (sC (.int 1))) sNil)))) (sNotT (sTru (sCall fs_is_name (sCons (sBin dIx (sVar 0) (sC (.int 2))) sNil))))) ρ = .ok false ρ :=
      or_no (not_ok (b := true) (tru_ok (call_ok (one_ok (bin_ok v0 rfl i0)) yr))) (or_no (not_ok (b := true) (tru_ok (call_ok (one_ok (bin_ok v0 rfl i1)) (rules_yes h)))) (not_ok (b := true) (tru_ok (call_ok (one_ok (bin_ok v0 rfl i2)) (name_yes hg)))))
    have c2 : sNotT (sTru (sCall fs_are_rows (sCons (sBin dIx (sVar 0) (sC (.int 3))) (sCons (sC (.int 8)) (sCons (sC (.int 4)) sNil))))) ρ = .ok false ρ :=
      not_ok (b := true) (tru_ok (call_ok (cons_ok (bin_ok v0 rfl i3) (ds := [iN 8, iN 4]) rfl) (rows_yes (show 1 ≤ 8 by decide) (by decide) fun x hx => by
        obtain ⟨a, b, c', d, e⟩ := ts
        rw [List.mem_singleton.mp hx, e]
        exact ⟨_, rfl, rfl⟩)))
    have src : sIt (sBin dIx (sVar 0) (sC (.int 3))) ρ = .ok ([t].map takeD) ρ := it_ok (bin_ok v0 rfl i3) rfl
    have c3 : s1 dAll (sLc (sIt (sBin dIx (sVar 0) (sC (.int 3)))) (hName 1) sYes (sCall fs_is_take (sCons (sBin dIx (sVar 0) (sC (.int 1))) (sCons (sVar 1) sNil))) [1]) ρ = .ok (.bl true) ρ :=
      all_yes takeD [t] src (by subst hρ; rfl) (fun x hx => by
        rw [List.mem_singleton.mp hx]
        exact ⟨[some (.f E), some (.f (takeD t))], by subst hρ; rfl, call_ok (cons_ok (bin_ok (x := E) rfl rfl i1) (one_ok (d := takeD t) rfl)) tk, by subst hρ; rfl⟩) (show 1 ≤ 100000 by decide)
    have c4 : sLc (sIt (sBin dIx (sVar 0) (sC (.int 3)))) (hName 1) sYes (sBin dIx (sVar 1) (sC (.int 0))) [1] ρ = .ok (.nd .lst [.str c]) ρ :=
      slc_ty takeD (fun _ => true) (fun _ => .str c) [t] src (by subst hρ; rfl) (fun x hx => by
        rw [List.mem_singleton.mp hx]
        exact ⟨[some (.f E), some (.f (takeD t))], by subst hρ; rfl, rfl, fun _ => bin_ok (x := takeD t) rfl rfl tn, by subst hρ; rfl⟩) (show 1 ≤ 100000 by decide) rfl
    exact (out_go c1).trans ((out_go c2).trans (ret_ok (and_yes c3 (call_ok (one_ok c4) (rises_one (.inl rfl) _)))))
  refine fin_ok (ρ := [some (.f (.nd .tup [E])), none]) rfl ?_
  show m_is_record [some (.f (.nd .tup [E])), none] = _
  unfold m_is_record
  have c1 : sOrT (sNotT (sTru (sCall fs_are_rows (sCons (sVar 0) (sCons (sC (.int 6)) (sCons (sC (.int 4)) sNil)))))) (sNotT (sTru (s1 dAll (sLc (sIt (sVar 0)) (hName 1) sYes (sCall fs_is_entry (sCons (sVar 1) sNil)) [1])))) [some (.f (.nd .tup [E])), none] = .ok false [some (.f (.nd .tup [E])), none] :=
    or_no (not_ok (b := true) (tru_ok (call_ok (ds := [.nd .tup [E], iN 6, iN 4]) rfl (rows_yes (show 1 ≤ 6 by decide) (by decide) fun x hx => by rw [List.mem_singleton.mp hx]; exact es)))) (not_ok (b := true) (tru_ok (all_yes id [E] rfl rfl (fun x hx => by
      rw [List.mem_singleton.mp hx]
      exact ⟨[some (.f (.nd .tup [E])), some (.f E)], rfl, call_ok (ds := [E]) rfl en, rfl⟩) (show 1 ≤ 100000 by decide))))
  have c4 : sLc (sIt (sVar 0)) (hName 1) sYes (sBin dIx (sVar 1) (sC (.int 0))) [1] [some (.f (.nd .tup [E])), none] = .ok (.nd .lst [iN 2000]) [some (.f (.nd .tup [E])), none] :=
    slc_ty id (fun _ => true) (fun _ => iN 2000) [E] rfl rfl (fun x hx => by
      rw [List.mem_singleton.mp hx]
      exact ⟨[some (.f (.nd .tup [E])), some (.f E)], rfl, rfl, fun _ => bin_ok (x := E) rfl rfl i0, rfl⟩) (show 1 ≤ 100000 by decide) rfl
  exact (out_go c1).trans (ret_ok (call_ok (one_ok c4) (rises_one (.inl rfl) _)))
end Y

set_option Elab.async false
set_option linter.all false
set_option maxRecDepth 100000
set_option maxHeartbeats 4000000
/-! k30: takes by hand: the numbers -/
namespace Y
open PySem PySem.Spec PyProof.Rows L2 PySem.W
theorem frN_mul {k : Nat} (hk : 0 < k) (x y : Nat) : frN (k * x) (k * y) = frN x y := by
  unfold frN
  rw [Nat.gcd_mul_left, Nat.mul_div_mul_left _ _ hk, Nat.mul_div_mul_left _ _ hk]
theorem fr1 (a : Nat) : frN a 1 = (a, 1) := by
  unfold frN
  rw [Nat.gcd_one_right, Nat.div_one, Nat.div_one]
theorem frm {n : Nat} (hn : 0 < n) (k : Nat) : frN (n * k) n = (k, 1) := by
  have := frN_mul hn k 1
  rw [Nat.mul_one] at this
  rw [this, fr1]
theorem fr_self {a b : Nat} (h : Nat.gcd a b = 1) : frN a b = (a, b) := by
  unfold frN
  rw [h, Nat.div_one, Nat.div_one]
theorem fr_fr {a b w : Nat} (hb : 0 < b) : frN (frN a b).1 ((frN a b).2 * w) = frN a (b * w) := by
  have gp : 0 < Nat.gcd a b := Nat.gcd_pos_of_pos_right _ hb
  have e1 : Nat.gcd a b * (a / Nat.gcd a b) = a := Nat.mul_div_cancel' (Nat.gcd_dvd_left _ _)
  have e2 : Nat.gcd a b * (b / Nat.gcd a b) = b := Nat.mul_div_cancel' (Nat.gcd_dvd_right _ _)
  have := frN_mul gp (a / Nat.gcd a b) (b / Nat.gcd a b * w)
  rw [e1, ← Nat.mul_assoc, e2] at this
  exact this.symm
theorem pl0 {q : Nat × Nat} (h : Nat.gcd q.1 q.2 = 1) : plN (0, 1) q = q := by
  unfold plN
  simp only [Nat.zero_mul, Nat.zero_add, Nat.mul_one, Nat.one_mul]
  exact fr_self h
def ks3 (a b c : Nat) : List (Str × Nat) := [("oral", a), ("test", b), ("work", c)]
def msA (b : Nat) : List (Nat × Str × Nat) := [(1, "test", b), (2, "test", b), (2, "work", b)]
def msB (b : Nat) : List (Nat × Str × Nat) := [(1, "test", b), (2, "test", b), (3, "test", b - 1)]
def gs2 (b : Nat) : List (Nat × Str) := [(0, "open"), (b, "out")]
theorem n1 : ¬ ("test" : Str) = "oral" := by decide +kernel
theorem n2 : ¬ ("work" : Str) = "oral" := by decide +kernel
theorem n3 : ¬ ("work" : Str) = "test" := by decide +kernel
theorem n4 : ¬ ("test" : Str) = "work" := by decide +kernel
theorem meanA {a s c : Nat} (hs : 1 ≤ s) (b : Nat) : meanN (ks3 a s c) (msA b) = some (b, 1) := by
  have v1 : valsN (msA b) "oral" = [] := by simp [valsN, msA, n1, n2]
  have v2 : valsN (msA b) "test" = [b, b] := by simp [valsN, msA, n3]
  have v3 : valsN (msA b) "work" = [b] := by simp [valsN, msA, n4]
  have s1 : mStep (msA b) ((0, 1), 0) ("oral", a) = ((0, 1), 0) := by unfold mStep; rw [v1]; rfl
  have s2 : mStep (msA b) ((0, 1), 0) ("test", s) = ((s * b, 1), s) := by
    unfold mStep
    rw [v2]
    have e : s * [b, b].sum = 2 * (s * b) := by
      simp only [List.sum_cons, List.sum_nil, Nat.add_zero]
      rw [← Nat.two_mul, ← Nat.mul_assoc, Nat.mul_comm s 2, Nat.mul_assoc]
    show (plN (0, 1) (frN (s * [b, b].sum) 2), 0 + s) = _
    rw [e, frm (by decide), pl0 (Nat.gcd_one_right _), Nat.zero_add]
  have s3 : mStep (msA b) ((s * b, 1), s) ("work", c) = (((s + c) * b, 1), s + c) := by
    unfold mStep
    rw [v3]
    show (plN (s * b, 1) (frN (c * [b].sum) 1), s + c) = _
    rw [fr1]
    unfold plN
    simp only [List.sum_cons, List.sum_nil, Nat.add_zero, Nat.mul_one]
    rw [fr1, Nat.add_mul]
  have acc : mAcc (ks3 a s c) (msA b) = (((s + c) * b, 1), s + c) := by
    unfold mAcc ks3
    rw [List.foldl_cons, s1, List.foldl_cons, s2, List.foldl_cons, s3, List.foldl_nil]
  unfold meanN
  rw [acc, if_neg (by show ¬ s + c = 0; omega)]
  show some (frN ((s + c) * b) (1 * (s + c))) = _
  rw [Nat.one_mul, frm (by omega)]
theorem meanBB {a s c : Nat} (hs : 1 ≤ s) {b : Nat} (hb : 1 ≤ b) : meanN (ks3 a s c) (msB b) = some (3 * b - 1, 3) := by
  have v1 : valsN (msB b) "oral" = [] := by simp [valsN, msB, n1]
  have v2 : valsN (msB b) "test" = [b, b, b - 1] := by simp [valsN, msB]
  have v3 : valsN (msB b) "work" = [] := by simp [valsN, msB, n4]
  have s1 : mStep (msB b) ((0, 1), 0) ("oral", a) = ((0, 1), 0) := by unfold mStep; rw [v1]; rfl
  have s2 : mStep (msB b) ((0, 1), 0) ("test", s) = (frN (s * (3 * b - 1)) 3, s) := by
    unfold mStep
    rw [v2]
    have e : [b, b, b - 1].sum = 3 * b - 1 := by
      simp only [List.sum_cons, List.sum_nil, Nat.add_zero]
      omega
    show (plN (0, 1) (frN (s * [b, b, b - 1].sum) 3), 0 + s) = _
    rw [e, pl0 (frN_red (by decide)), Nat.zero_add]
  have s3 : mStep (msB b) (frN (s * (3 * b - 1)) 3, s) ("work", c) = (frN (s * (3 * b - 1)) 3, s) := by unfold mStep; rw [v3]; rfl
  have acc : mAcc (ks3 a s c) (msB b) = (frN (s * (3 * b - 1)) 3, s) := by
    unfold mAcc ks3
    rw [List.foldl_cons, s1, List.foldl_cons, s2, List.foldl_cons, s3, List.foldl_nil]
  unfold meanN
  rw [acc, if_neg (by show ¬ s = 0; omega)]
  show some (frN (frN (s * (3 * b - 1)) 3).1 ((frN (s * (3 * b - 1)) 3).2 * s)) = _
  have g : Nat.gcd (3 * b - 1) 3 = 1 := by
    have m : (3 * b - 1) % 3 = 2 := by omega
    rw [Nat.gcd_comm, Nat.gcd_rec, m]
    rfl
  rw [fr_fr (by decide), Nat.mul_comm 3 s, frN_mul (by omega), fr_self g]
def RR (a s c b lim : Nat) : Rl := ⟨ks3 a s c, gs2 b, 1, lim, 5⟩
def tA (b : Nat) (ps : List (Nat × Nat × Bool)) : Tk := ⟨"art", 3, msA b, ps⟩
def tB (b : Nat) : Tk := ⟨"art", 3, msB b, []⟩
theorem str_art : strG "art" = true := by decide +kernel
theorem str_test : strG "test" = true := by decide +kernel
theorem str_work : strG "work" = true := by decide +kernel
theorem str_oral : strG "oral" = true := by decide +kernel
theorem str_open : strG "open" = true := by decide +kernel
theorem str_out : strG "out" = true := by decide +kernel
section
variable {a s c b : Nat} (ha : 1 ≤ a ∧ a ≤ 9) (hs : 1 ≤ s ∧ s ≤ 9) (hc : 1 ≤ c ∧ c ≤ 9) (hb : 1 ≤ b ∧ b ≤ 100)
include ha hs hc hb
theorem RR_ok (lim : Nat) : RlOk (RR a s c b lim) := ⟨(show 3 ≤ 4 by decide), fun k hk => by
  simp only [RR, ks3, List.mem_cons, List.not_mem_nil, or_false] at hk
  rcases hk with rfl | rfl | rfl
  · exact ⟨str_oral, ha.1, ha.2⟩
  · exact ⟨str_test, hs.1, hs.2⟩
  · exact ⟨str_work, hc.1, hc.2⟩, (show 2 ≤ 6 by decide), ⟨_, _, rfl⟩, fun g hg => by
  simp only [RR, gs2, List.mem_cons, List.not_mem_nil, or_false] at hg
  rcases hg with rfl | rfl
  · exact ⟨str_open, by decide⟩
  · exact ⟨str_out, hb.2⟩, by
  show (gs2 b).Pairwise _
  simp [gs2]⟩
theorem tA_ok (lim : Nat) {ps : List (Nat × Nat × Bool)} (hp : ps.length ≤ 12) : TkOk (RR a s c b lim) (tA b ps) := ⟨str_art, (show 3 ≤ 12 by decide), fun m hm => by
  simp only [tA, msA, List.mem_cons, List.not_mem_nil, or_false] at hm
  rcases hm with rfl | rfl | rfl
  · exact ⟨str_test, by simp [RR, ks3]⟩
  · exact ⟨str_test, by simp [RR, ks3]⟩
  · exact ⟨str_work, by simp [RR, ks3]⟩, hp⟩
theorem tB_ok (lim : Nat) : TkOk (RR a s c b lim) (tB b) := ⟨str_art, (show 3 ≤ 12 by decide), fun m hm => by
  simp only [tB, msB, List.mem_cons, List.not_mem_nil, or_false] at hm
  rcases hm with rfl | rfl | rfl
  · exact ⟨str_test, by simp [RR, ks3]⟩
  · exact ⟨str_test, by simp [RR, ks3]⟩
  · exact ⟨str_test, by simp [RR, ks3]⟩, (show 0 ≤ 12 by decide)⟩
theorem cntA : gpN (gs2 b) (b, 1) = 1 := by
  have e1 : okG (b, 1) (0, "open") = true := by simp [okG]
  have e2 : okG (b, 1) (b, "out") = true := by simp [okG]
  unfold gpN cntN gs2
  rw [List.filter_cons, if_pos e1, List.filter_cons, if_pos e2]
  rfl
theorem cntB3 : gpN (gs2 b) (3 * b - 1, 3) = 0 := by
  have h1 := hb.1
  have e1 : okG (3 * b - 1, 3) (0, "open") = true := by simp [okG]
  have e2 : ¬ okG (3 * b - 1, 3) (b, "out") = true := by
    intro z
    have z' : b * 3 ≤ 3 * b - 1 := of_decide_eq_true z
    omega
  unfold gpN cntN gs2
  rw [List.filter_cons, if_pos e1, List.filter_cons, if_neg e2]
  rfl
theorem resA {lim : Nat} {ps : List (Nat × Nat × Bool)} (h : hrN ps false ≤ lim) : resN (RR a s c b lim) (tA b ps) = "out" ∧ goodN (RR a s c b lim) (tA b ps) = true := by
  have m : meanN (RR a s c b lim).ks (tA b ps).ms = some (b, 1) := meanA hs.1 b
  have g := cntA ha hs hc hb
  have nl : ¬ (RR a s c b lim).lim < hrN (tA b ps).ps false := by show ¬ lim < hrN ps false; omega
  unfold resN goodN
  rw [if_neg nl, m, decide_eq_false nl]
  constructor
  · show nmG (gs2 b) (gpN (gs2 b) (b, 1)) = "out"
    rw [g]
    rfl
  · show (!false && decide (1 ≤ gpN (gs2 b) (b, 1))) = true
    rw [g]
    rfl
theorem resA' {lim : Nat} {ps : List (Nat × Nat × Bool)} (h : lim < hrN ps false) : resN (RR a s c b lim) (tA b ps) = "out" ∧ goodN (RR a s c b lim) (tA b ps) = false := by
  have nl : (RR a s c b lim).lim < hrN (tA b ps).ps false := h
  unfold resN goodN
  rw [if_pos nl, decide_eq_true nl]
  exact ⟨rfl, rfl⟩
theorem resB {lim : Nat} : resN (RR a s c b lim) (tB b) = "open" ∧ goodN (RR a s c b lim) (tB b) = false := by
  have m : meanN (RR a s c b lim).ks (tB b).ms = some (3 * b - 1, 3) := meanBB hs.1 hb.1
  have g := cntB3 ha hs hc hb
  have nl : ¬ (RR a s c b lim).lim < hrN (tB b).ps false := Nat.not_lt_zero _
  unfold resN goodN
  rw [if_neg nl, m, decide_eq_false nl]
  constructor
  · show nmG (gs2 b) (gpN (gs2 b) (3 * b - 1, 3)) = "open"
    rw [g]
    rfl
  · show (!false && decide (1 ≤ gpN (gs2 b) (3 * b - 1, 3))) = false
    rw [g]
    rfl
theorem RR_ru {lim : Nat} (hl : lim ≤ 99) : RuOk (RR a s c b lim) := ⟨⟨(show 3 ≤ 4 by decide), by simp [RR, ks3], fun k hk => by
    simp only [RR, ks3, List.mem_cons, List.not_mem_nil, or_false] at hk
    rcases hk with rfl | rfl | rfl
    · exact ⟨(show nmS "oral" = true by decide +kernel), str_oral⟩
    · exact ⟨(show nmS "test" = true by decide +kernel), str_test⟩
    · exact ⟨(show nmS "work" = true by decide +kernel), str_work⟩, fun k hk => ((RR_ok ha hs hc hb lim).k1 k hk).2, by
    show risB ["oral", "test", "work"] = true
    decide +kernel⟩,
  ⟨(show 2 ≤ 6 by decide), ⟨_, _, rfl⟩, fun g hg => by
    simp only [RR, gs2, List.mem_cons, List.not_mem_nil, or_false] at hg
    rcases hg with rfl | rfl
    · exact ⟨(show nmS "open" = true by decide +kernel), str_open⟩
    · exact ⟨(show nmS "out" = true by decide +kernel), str_out⟩, fun g hg => ((RR_ok ha hs hc hb lim).g1 g hg).2, fun p hp => by
    have hp' : p ∈ [((0 : Nat), b)] := hp
    rw [List.mem_singleton.mp hp']
    exact hb.1, by
    show risB (srt ["open", "out"]) = true
    have r : risB ["open", "out"] = true := by decide +kernel
    rw [srt_sorted (((risB_iff _).mp r).imp fun h => List.le_of_lt h)]
    exact r⟩, (show 1 ≤ 1 by decide), hl, (show 5 ≤ 40 by decide)⟩
theorem msA_ok (lim : Nat) : MsOk (RR a s c b lim) (msA b) := ⟨(show 3 ≤ 12 by decide), fun m hm => by
    have h2 := hb.2
    simp only [msA, List.mem_cons, List.not_mem_nil, or_false] at hm
    rcases hm with rfl | rfl | rfl
    · exact ⟨(show 1 ≤ 400 by decide), str_test, by simp [RR, ks3], h2⟩
    · exact ⟨(show 2 ≤ 400 by decide), str_test, by simp [RR, ks3], h2⟩
    · exact ⟨(show 2 ≤ 400 by decide), str_work, by simp [RR, ks3], h2⟩, fun p hp => by
    have hp' : p ∈ [(D.nd .tup [.int 1, .str "test"], D.nd .tup [.int 2, .str "test"]), (D.nd .tup [.int 2, .str "test"], D.nd .tup [.int 2, .str "work"])] := hp
    simp only [List.mem_cons, List.not_mem_nil, or_false] at hp'
    rcases hp' with rfl | rfl
    · decide +kernel
    · decide +kernel⟩
end
end Y

set_option Elab.async false
set_option linter.all false
set_option maxRecDepth 100000
set_option maxHeartbeats 4000000
/-! k30: takes by hand -/
namespace Y
open PySem PySem.Spec PyProof.Rows L2 PySem.W
theorem fin_io {m : En → Y.R Fl} {np n : Nat} {ds : List D} {b b' d : D} {t : En} (hl : (b :: ds).length = np) (e : m (argS true (b :: ds) ++ List.replicate (n - np) none) = .ok (.rt d) (some (.b b') :: t)) : runF true np n m (b :: ds) = .val false d (some b') := by
  unfold runF
  rw [if_pos hl, e]
  rfl
theorem kind_step {b : D} (hb : BagOk b) (s : Str) (t : En) : ∃ (r : Nat) (b' : D), sMk .tup (sCons (sC (.str s)) (sCons (sBin dPlus (sC (.int 1)) (sCallI 0 fs__law_take (sCons (sC (.int 9)) sNil))) sNil)) (some (.b b) :: t) = .ok (kindD (s, r)) (some (.b b') :: t) ∧ BagOk b' ∧ 1 ≤ r ∧ r ≤ 9 := by
  obtain ⟨r, b', e, hb', hr⟩ := takeC hb (t := t) (f := sCons (sC (.int 9)) sNil) (n := 9) rfl (by decide) (by decide)
  exact ⟨1 + r, b', mk_ok (ds := [.str s, iN (1 + r)]) (cons_ok rfl (one_ok (bin_ok (x := iN 1) rfl e (add_nat 1 r)))) (small (show 2 ≤ 100000 by decide)), hb', by omega, by omega⟩
def gapsL (lim : Nat) : List (Nat × Nat × Bool) := ((List.range' 0 (lim / 9)).map fun d => (d, 9, false)) ++ (if 0 < lim % 9 then [(50, lim % 9, false)] else [])
def gapsA (lim : Nat) : List (Nat × Nat × Bool) := gapsL lim ++ [(60, 9, true)]
theorem gapsL_len {lim : Nat} (h : lim < 99) : (gapsL lim).length ≤ 11 := by
  unfold gapsL
  rw [List.length_append, List.length_map, List.length_range']
  split
  · simp; omega
  · simp; omega
theorem gapsA_len {lim : Nat} (h : lim < 99) : (gapsA lim).length ≤ 12 := by
  have := gapsL_len h
  unfold gapsA
  rw [List.length_append]
  simp; omega
theorem cut_all {xs : List D} {n : Nat} (h : xs.length ≤ n) : cutD xs none (some (n : Int)) = xs := by
  unfold cutD
  have h1 : HT.sIx xs.length xs.length (some (n : Int)) = min n xs.length := HT.sIx_nat _ _ n
  have h2 : HT.sIx xs.length 0 none = 0 := rfl
  rw [h1, h2, Nat.min_eq_right h, Nat.sub_zero, List.drop_zero, List.take_length]
theorem dtcat {a b : List D} (h : a.length + b.length ≤ sizeLine) : dPlus (.nd .lst a) (.nd .lst b) = some (.nd .lst (a ++ b)) := cat_ok h
def uE (b x1 x2 x3 x4 x5 x6 x7 x8 x9 x10 x11 x12 x13 x14 : Option S) : En := [b, x1, x2, x3, x4, x5, x6, x7, x8, x9, x10, x11, x12, x13, x14]
theorem rep1 (d : D) (c : Bool) : dRep (.nd .lst [d]) (.int (if c then 1 else 0)) = some (.nd .lst (if c = true then [d] else [])) := by
  cases c <;> rfl
theorem gaps1_ok {lim : Nat} (hl : lim < 99) (b x1 x2 x3 x4 x5 x6 x8 x9 x10 x11 x12 x14 : Option S) : sSet 8 (sBin dPlus (sLc (sRg rg1 (sCons (sBin dIx (sVar 7) (sC (.int 0))) sNil)) (hName 13) sYes (sMk .tup (sCons (sVar 13) (sCons (sC (.int 9)) (sCons (sC (.bl false)) sNil)))) [13]) (sBin dRep (sMk .lst (sCons (sMk .tup (sCons (sC (.int 50)) (sCons (sBin dIx (sVar 7) (sC (.int 1))) (sCons (sC (.bl false)) sNil)))) sNil)) (s1 dInt (sCmp dGt (sBin dIx (sVar 7) (sC (.int 1))) (sC (.int 0)))))) (uE b x1 x2 x3 x4 x5 x6 (some (.f (.nd .lst [iN (lim / 9), iN (lim % 9)]))) x8 x9 x10 x11 x12 none x14) = .ok .nx (uE b x1 x2 x3 x4 x5 x6 (some (.f (.nd .lst [iN (lim / 9), iN (lim % 9)]))) (some (.f (.nd .lst ((gapsL lim).map gapD)))) x9 x10 x11 x12 none x14) := by
  generalize hρ : uE b x1 x2 x3 x4 x5 x6 (some (.f (.nd .lst [iN (lim / 9), iN (lim % 9)]))) x8 x9 x10 x11 x12 none x14 = ρ
  have v7 : sVar 7 ρ = .ok (.nd .lst [iN (lim / 9), iN (lim % 9)]) ρ := by subst hρ; rfl
  have w : wipeE [13] ρ = ρ := by subst hρ; rfl
  have src : sRg rg1 (sCons (sBin dIx (sVar 7) (sC (.int 0))) sNil) ρ = .ok ((List.range' 0 (lim / 9)).map fun i : Nat => D.int (i : Int)) ρ := by
    rw [← rg_nat]
    exact rg_ok (one_ok (bin_ok (d := iN (lim / 9)) v7 rfl rfl)) (rg1_nat (by omega))
  have a1 : sLc (sRg rg1 (sCons (sBin dIx (sVar 7) (sC (.int 0))) sNil)) (hName 13) sYes (sMk .tup (sCons (sVar 13) (sCons (sC (.int 9)) (sCons (sC (.bl false)) sNil)))) [13] ρ = .ok (.nd .lst (((List.range' 0 (lim / 9)).map fun d => (d, 9, false)).map gapD)) ρ :=
    slc_ty (fun i : Nat => D.int (i : Int)) (fun _ => true) (fun d => gapD (d, 9, false)) (List.range' 0 (lim / 9)) src w (fun i _ => ⟨ρ.set 13 (some (.f (iN i))), rfl, rfl, fun _ => by
      subst hρ
      exact mk_ok (ds := [iN i, iN 9, .bl false]) rfl (small (show 3 ≤ 100000 by decide)), by subst hρ; rfl⟩) (by rw [List.length_range']; omega) (by rw [List.map_map, List.filter_eq_self.mpr (fun _ _ => rfl)]; rfl)
  have i1 : sBin dIx (sVar 7) (sC (.int 1)) ρ = .ok (iN (lim % 9)) ρ := bin_ok v7 rfl rfl
  have a2 : sBin dRep (sMk .lst (sCons (sMk .tup (sCons (sC (.int 50)) (sCons (sBin dIx (sVar 7) (sC (.int 1))) (sCons (sC (.bl false)) sNil)))) sNil)) (s1 dInt (sCmp dGt (sBin dIx (sVar 7) (sC (.int 1))) (sC (.int 0)))) ρ = .ok (.nd .lst (if decide (0 < lim % 9) = true then [gapD (50, lim % 9, false)] else [])) ρ :=
    bin_ok (mk_ok (one_ok (mk_ok (ds := [iN 50, iN (lim % 9), .bl false]) (cons_ok (d := iN 50) rfl (cons_ok i1 rfl)) (small (show 3 ≤ 100000 by decide)))) (small (show 1 ≤ 100000 by decide))) (s1_ok (bin_ok (y := iN 0) (d := .bl (decide (0 < lim % 9))) i1 rfl (by
      show (dGt (iN (lim % 9)) (iN 0)).map D.bl = _
      rw [gt_nat]; rfl)) rfl) (rep1 _ _)
  have e : (((List.range' 0 (lim / 9)).map fun d => (d, 9, false)).map gapD) ++ (if decide (0 < lim % 9) = true then [gapD (50, lim % 9, false)] else []) = (gapsL lim).map gapD := by
    unfold gapsL
    rw [List.map_append]
    by_cases c : 0 < lim % 9
    · rw [if_pos (decide_eq_true c), if_pos c]; rfl
    · rw [if_neg (by simpa using c), if_neg c]; rfl
  have l := gapsL_len hl
  have f := set_call (i := 8) (bin_ok a1 a2 (dtcat (small (by rw [← List.length_append, e, List.length_map]; omega))))
  rw [e] at f
  refine f.trans ?_
  subst hρ
  rfl
abbrev tkE (b : D) (x2 x3 : Option S) (n : Nat) (x4 x5 x6 x7 x8 x9 x10 x11 x12 : Option S) : En := uE (some (.b b)) (some (.f (iN n))) x2 x3 x4 x5 x6 x7 x8 x9 x10 x11 x12 none none
theorem fD_dk (p : Nat × Nat) : dk 1 (fD p) := dk_nd (.inr rfl) fun y hy => by
  simp only [List.mem_cons, List.not_mem_nil, or_false] at hy
  rcases hy with rfl | rfl <;> exact dk_int _ _
theorem trio_dok (p : Nat × Nat) {s : Str} (hs : strG s = true) (g : Bool) : dok (.nd .lst [fD p, .str s, .bl g]) = true := dk_dok (n := 2) (by decide) (dk_nd (.inl rfl) fun y hy => by
  simp only [List.mem_cons, List.not_mem_nil, or_false] at hy
  rcases hy with rfl | rfl | rfl
  · exact fD_dk p
  · exact dk_str _ hs
  · exact dk_bl _ _)
theorem take3 (R : Rl) {fr : En → Y.R D} {l : Nat} {ρ : En} {n : Nat} (h4 : sVar 4 ρ = .ok (rulesD R) ρ) (hf : fr ρ = .ok (iN n) ρ) : sBin dPlus (sBin dPlus (sSlc (sVar 4) sNoPt (sPt (sC (.int 3)))) (sMk .tup (sCons fr sNil))) (sSlc (sVar 4) (sPt (sC (.int 4))) sNoPt) ρ = .ok (rulesD ⟨R.ks, R.gs, R.good, n, R.lift⟩) ρ := by
  have a1 : sSlc (sVar 4) sNoPt (sPt (sC (.int 3))) ρ = .ok (.nd .tup [.nd .tup (R.ks.map kindD), .nd .tup (R.gs.map gradeD), iN R.good]) ρ := slc_ok (a := none) (c := some 3) h4 rfl rfl rfl
  have a2 : sSlc (sVar 4) (sPt (sC (.int 4))) sNoPt ρ = .ok (.nd .tup [iN R.lift]) ρ := slc_ok (a := some 4) (c := none) h4 rfl rfl rfl
  have a3 : sMk .tup (sCons fr sNil) ρ = .ok (.nd .tup [iN n]) ρ := mk_ok (one_ok hf) (small (show 1 ≤ 100000 by decide))
  exact bin_ok (bin_ok a1 a3 (tcat_ok (small (show 3 + 1 ≤ 100000 by decide)))) a2 (tcat_ok (small (show 4 + 1 ≤ 100000 by decide)))
section
variable {a s c b : Nat} (ha : 1 ≤ a ∧ a ≤ 9) (hs : 1 ≤ s ∧ s ≤ 9) (hc : 1 ≤ c ∧ c ≤ 9) (hb : 1 ≤ b ∧ b ≤ 100)
include ha hs hc hb
theorem meanA_ok (lim : Nat) {ps : List (Nat × Nat × Bool)} (hp : ps.length ≤ 12) : fs_mean [rulesD (RR a s c b lim), takeD (tA b ps)] = .val false (fD (b, 1)) none := by
  have := mean_ok (RR_ok ha hs hc hb lim) (tA_ok ha hs hc hb lim hp)
  rw [show meanN (RR a s c b lim).ks (tA b ps).ms = some (b, 1) from meanA hs.1 b] at this
  exact this
theorem meanB_ok (lim : Nat) : fs_mean [rulesD (RR a s c b lim), takeD (tB b)] = .val false (fD (3 * b - 1, 3)) none := by
  have := mean_ok (RR_ok ha hs hc hb lim) (tB_ok ha hs hc hb lim)
  rw [show meanN (RR a s c b lim).ks (tB b).ms = some (3 * b - 1, 3) from meanBB hs.1 hb.1] at this
  exact this
theorem result1 {lim : Nat} {ps : List (Nat × Nat × Bool)} (hp : ps.length ≤ 12) : fs_result [rulesD (RR a s c b lim), takeD (tA b ps)] = .val false (.str "out") none := by
  have := result_ok (RR_ok ha hs hc hb lim) (tA_ok ha hs hc hb lim hp)
  by_cases h : lim < hrN ps false
  · rw [(resA' ha hs hc hb h).1] at this; exact this
  · rw [(resA ha hs hc hb (by omega)).1] at this; exact this
theorem good1 {lim : Nat} {ps : List (Nat × Nat × Bool)} (hp : ps.length ≤ 12) : fs_is_good [rulesD (RR a s c b lim), takeD (tA b ps)] = .val false (.bl (!decide (lim < hrN ps false))) none := by
  have := good_ok (RR_ok ha hs hc hb lim) (tA_ok ha hs hc hb lim hp)
  by_cases h : lim < hrN ps false
  · rw [(resA' ha hs hc hb h).2] at this; rw [decide_eq_true h]; exact this
  · rw [(resA ha hs hc hb (by omega)).2] at this; rw [decide_eq_false h]; exact this
theorem result2 {lim : Nat} : fs_result [rulesD (RR a s c b lim), takeD (tB b)] = .val false (.str "open") none := by
  have := result_ok (RR_ok ha hs hc hb lim) (tB_ok ha hs hc hb lim)
  rw [(resB ha hs hc hb).1] at this; exact this
theorem good2 {lim : Nat} : fs_is_good [rulesD (RR a s c b lim), takeD (tB b)] = .val false (.bl false) none := by
  have := good_ok (RR_ok ha hs hc hb lim) (tB_ok ha hs hc hb lim)
  rw [(resB ha hs hc hb).2] at this; exact this
end
end Y

set_option Elab.async false
set_option linter.all false
set_option maxRecDepth 100000
set_option maxHeartbeats 4000000
/-! k30: takes by hand, all of it -/
namespace Y
open PySem PySem.Spec PyProof.Rows L2 PySem.W
theorem shown_ok {ps : List (Nat × Nat × Bool)} (hp : ps.length ≤ 100) (b x1 x2 x3 x4 x5 x6 x7 x9 x10 x11 x12 x13 : Option S) : sSet 9 (s1 dSum (sLc (sIt (sVar 8)) (hName 14) (sNotT (sTru (sBin dIx (sVar 14) (sC (.int 2))))) (sBin dIx (sVar 14) (sC (.int 1))) [14])) (uE b x1 x2 x3 x4 x5 x6 x7 (some (.f (.nd .tup (ps.map gapD)))) x9 x10 x11 x12 x13 none) = .ok .nx (uE b x1 x2 x3 x4 x5 x6 x7 (some (.f (.nd .tup (ps.map gapD)))) (some (.f (iN (hrN ps false)))) x10 x11 x12 x13 none) := by
  refine set_call (i := 9) (ρ1 := uE b x1 x2 x3 x4 x5 x6 x7 (some (.f (.nd .tup (ps.map gapD)))) x9 x10 x11 x12 x13 none) (s1_ok (d := .nd .lst (((ps.filter fun g => decide (g.2.2 = false)).map (·.2.1)).map iN)) ?_ (sum_nat _))
  exact slc_ty gapD (fun g => decide (g.2.2 = false)) (fun g => iN g.2.1) ps (it_ok rfl rfl) rfl (fun g hg => ⟨uE b x1 x2 x3 x4 x5 x6 x7 (some (.f (.nd .tup (ps.map gapD)))) x9 x10 x11 x12 x13 (some (.f (gapD g))), rfl, by
    have := not_ok (tru_ok (b := g.2.2) (bin_ok (a := sVar 14) (b := sC (.int 2)) (g := dIx) (ρ := uE b x1 x2 x3 x4 x5 x6 x7 (some (.f (.nd .tup (ps.map gapD)))) x9 x10 x11 x12 x13 (some (.f (gapD g)))) (x := gapD g) (d := .bl g.2.2) rfl rfl rfl))
    rw [this]
    cases g.2.2 <;> rfl, fun _ => bin_ok (x := gapD g) rfl rfl rfl, rfl⟩) (by omega) (by rw [List.map_map]; rfl)
theorem str_ne {ρ : En} {f : En → Y.R D} {s : Str} (hs : strG s = true) (e : f ρ = .ok (.str s) ρ) : sBin dNe f (sC (.str s)) ρ = .ok false ρ := bin_ok e rfl (dNe_self (dok_str hs))
abbrev prtA : En → Y.R Fl := (sSeq (sSet 8 (sBin dPlus (s1 dTuple (sSlc (sVar 8) sNoPt (sPt (sC (.int 11))))) (sMk .tup (sCons (sMk .tup (sCons (sC (.int 60)) (sCons (sC (.int 9)) (sCons (sC (.bl true)) sNil)))) sNil))))
  (sSeq (sSet 9 (s1 dSum (sLc (sIt (sVar 8)) (hName 14) (sNotT (sTru (sBin dIx (sVar 14) (sC (.int 2))))) (sBin dIx (sVar 14) (sC (.int 1))) [14])))
  (sSeq (sSet 10 (sBin dPlus (sSlc (sVar 5) sNoPt (sPt (sC (.int 3)))) (sMk .tup (sCons (sVar 8) sNil))))
  (sSeq (sSet 11 (sBin dPlus (sBin dPlus (sSlc (sVar 4) sNoPt (sPt (sC (.int 3)))) (sMk .tup (sCons (sVar 9) sNil))) (sSlc (sVar 4) (sPt (sC (.int 4))) sNoPt)))
  (sSeq (sIfS (sOrT (sBin dNe (sCall fs_result (sCons (sVar 11) (sCons (sVar 10) sNil))) (sC (.str "out"))) (sNotT (sTru (sCall fs_is_good (sCons (sVar 11) (sCons (sVar 10) sNil))))))
  (sRet (sC (.bl false)))
  sNx)
  (sSeq (sIfS (sBin dGt (sVar 9) (sC (.int 0)))
  (sSeq (sSet 12 (sBin dPlus (sBin dPlus (sSlc (sVar 4) sNoPt (sPt (sC (.int 3)))) (sMk .tup (sCons (sBin dSub (sVar 9) (sC (.int 1))) sNil))) (sSlc (sVar 4) (sPt (sC (.int 4))) sNoPt)))
  (sIfS (sOrT (sBin dNe (sCall fs_result (sCons (sVar 12) (sCons (sVar 10) sNil))) (sC (.str "out"))) (sOrT (sTru (sCall fs_is_good (sCons (sVar 12) (sCons (sVar 10) sNil)))) (sBin dNe (sCall fs_mean (sCons (sVar 12) (sCons (sVar 10) sNil))) (sMk .tup (sCons (sVar 1) (sCons (sC (.int 1)) sNil))))))
  (sRet (sC (.bl false)))
  sNx))
  sNx)
  (sRet (sCmp dIs (sCall fs_is_record (sCons (sMk .tup (sCons (sMk .tup (sCons (sC (.int 2000)) (sCons (sVar 4) (sCons (sC (.str "one")) (sCons (sMk .tup (sCons (sVar 5) sNil)) sNil))))) sNil)) sNil)) (sC (.bl true))))))))))
section
variable {a s c b : Nat} (ha : 1 ≤ a ∧ a ≤ 9) (hs : 1 ≤ s ∧ s ≤ 9) (hc : 1 ≤ c ∧ c ≤ 9) (hb : 1 ≤ b ∧ b ≤ 100)
include ha hs hc hb
theorem prtA_ok {lim : Nat} (hl : lim < 99) (B : D) (x2 x3 x6 x7 x9 x10 x11 x12 : Option S) : ∃ t, prtA (uE (some (.b B)) (some (.f (iN b))) x2 x3 (some (.f (rulesD (RR a s c b lim)))) (some (.f (takeD (tA b [])))) x6 x7 (some (.f (.nd .lst ((gapsL lim).map gapD)))) x9 x10 x11 x12 none none) = .ok (.rt (.bl true)) (some (.b B) :: t) := by
  have gl := gapsL_len hl
  have ga := gapsA_len hl
  have f1 : sSet 8 (sBin dPlus (s1 dTuple (sSlc (sVar 8) sNoPt (sPt (sC (.int 11))))) (sMk .tup (sCons (sMk .tup (sCons (sC (.int 60)) (sCons (sC (.int 9)) (sCons (sC (.bl true)) sNil)))) sNil))) (uE (some (.b B)) (some (.f (iN b))) x2 x3 (some (.f (rulesD (RR a s c b lim)))) (some (.f (takeD (tA b [])))) x6 x7 (some (.f (.nd .lst ((gapsL lim).map gapD)))) x9 x10 x11 x12 none none) = .ok .nx (uE (some (.b B)) (some (.f (iN b))) x2 x3 (some (.f (rulesD (RR a s c b lim)))) (some (.f (takeD (tA b [])))) x6 x7 (some (.f (.nd .tup ((gapsA lim).map gapD)))) x9 x10 x11 x12 none none) := by
    have hm : ((gapsL lim).map gapD).length ≤ 11 := by rw [List.length_map]; exact gl
    refine set_call (i := 8) (ρ1 := uE (some (.b B)) (some (.f (iN b))) x2 x3 (some (.f (rulesD (RR a s c b lim)))) (some (.f (takeD (tA b [])))) x6 x7 (some (.f (.nd .lst ((gapsL lim).map gapD)))) x9 x10 x11 x12 none none) (d := .nd .tup ((gapsA lim).map gapD)) ?_
    have e : (gapsA lim).map gapD = (gapsL lim).map gapD ++ [gapD (60, 9, true)] := by
      unfold gapsA
      rw [List.map_append]; rfl
    rw [e]
    exact bin_ok (s1_ok (slc_ok (a := none) (c := some 11) (d := .nd .lst ((gapsL lim).map gapD)) rfl rfl rfl (by
      show some (D.nd .lst (cutD ((gapsL lim).map gapD) none (some ((11 : Nat) : Int)))) = _
      rw [cut_all hm])) rfl) (mk_ok (one_ok (mk_ok (ds := [iN 60, iN 9, .bl true]) rfl (small (show 3 ≤ 100000 by decide)))) (small (show 1 ≤ 100000 by decide))) (tcat_ok (small (by
        show ((gapsL lim).map gapD).length + 1 ≤ 100000
        omega)))
  have f2 := shown_ok (ps := gapsA lim) (by omega) (some (.b B)) (some (.f (iN b))) x2 x3 (some (.f (rulesD (RR a s c b lim)))) (some (.f (takeD (tA b [])))) x6 x7 x9 x10 x11 x12 none
  generalize hg : gapsA lim = ps at *
  clear hg
  generalize hH : hrN ps false = H at f2
  have f3 : sSet 10 (sBin dPlus (sSlc (sVar 5) sNoPt (sPt (sC (.int 3)))) (sMk .tup (sCons (sVar 8) sNil))) (uE (some (.b B)) (some (.f (iN b))) x2 x3 (some (.f (rulesD (RR a s c b lim)))) (some (.f (takeD (tA b [])))) x6 x7 (some (.f (.nd .tup (ps.map gapD)))) (some (.f (iN H))) x10 x11 x12 none none) = .ok .nx (uE (some (.b B)) (some (.f (iN b))) x2 x3 (some (.f (rulesD (RR a s c b lim)))) (some (.f (takeD (tA b [])))) x6 x7 (some (.f (.nd .tup (ps.map gapD)))) (some (.f (iN H))) (some (.f (takeD (tA b ps)))) x11 x12 none none) :=
    set_call (i := 10) (ρ1 := uE (some (.b B)) (some (.f (iN b))) x2 x3 (some (.f (rulesD (RR a s c b lim)))) (some (.f (takeD (tA b [])))) x6 x7 (some (.f (.nd .tup (ps.map gapD)))) (some (.f (iN H))) x10 x11 x12 none none) (d := takeD (tA b ps)) (bin_ok (slc_ok (a := none) (c := some 3) (d := takeD (tA b [])) (r := .nd .tup [.str "art", iN 3, .nd .tup ((msA b).map markD)]) rfl rfl rfl rfl) (mk_ok (ds := [.nd .tup (ps.map gapD)]) (one_ok rfl) (small (show 1 ≤ 100000 by decide))) (tcat_ok (small (show 3 + 1 ≤ 100000 by decide))))
  have f4 : sSet 11 (sBin dPlus (sBin dPlus (sSlc (sVar 4) sNoPt (sPt (sC (.int 3)))) (sMk .tup (sCons (sVar 9) sNil))) (sSlc (sVar 4) (sPt (sC (.int 4))) sNoPt)) (uE (some (.b B)) (some (.f (iN b))) x2 x3 (some (.f (rulesD (RR a s c b lim)))) (some (.f (takeD (tA b [])))) x6 x7 (some (.f (.nd .tup (ps.map gapD)))) (some (.f (iN H))) (some (.f (takeD (tA b ps)))) x11 x12 none none) = .ok .nx (uE (some (.b B)) (some (.f (iN b))) x2 x3 (some (.f (rulesD (RR a s c b lim)))) (some (.f (takeD (tA b [])))) x6 x7 (some (.f (.nd .tup (ps.map gapD)))) (some (.f (iN H))) (some (.f (takeD (tA b ps)))) (some (.f (rulesD (RR a s c b H)))) x12 none none) :=
    set_call (i := 11) (ρ1 := uE (some (.b B)) (some (.f (iN b))) x2 x3 (some (.f (rulesD (RR a s c b lim)))) (some (.f (takeD (tA b [])))) x6 x7 (some (.f (.nd .tup (ps.map gapD)))) (some (.f (iN H))) (some (.f (takeD (tA b ps)))) x11 x12 none none) (take3 (RR a s c b lim) (l := 0) rfl rfl)
  have t1 : sOrT (sBin dNe (sCall fs_result (sCons (sVar 11) (sCons (sVar 10) sNil))) (sC (.str "out"))) (sNotT (sTru (sCall fs_is_good (sCons (sVar 11) (sCons (sVar 10) sNil))))) (uE (some (.b B)) (some (.f (iN b))) x2 x3 (some (.f (rulesD (RR a s c b lim)))) (some (.f (takeD (tA b [])))) x6 x7 (some (.f (.nd .tup (ps.map gapD)))) (some (.f (iN H))) (some (.f (takeD (tA b ps)))) (some (.f (rulesD (RR a s c b H)))) x12 none none) = .ok false (uE (some (.b B)) (some (.f (iN b))) x2 x3 (some (.f (rulesD (RR a s c b lim)))) (some (.f (takeD (tA b [])))) x6 x7 (some (.f (.nd .tup (ps.map gapD)))) (some (.f (iN H))) (some (.f (takeD (tA b ps)))) (some (.f (rulesD (RR a s c b H)))) x12 none none) := by
    have g := good1 ha hs hc hb (lim := H) ga
    rw [hH, decide_eq_false (Nat.lt_irrefl H)] at g
    exact or_no (str_ne str_out (call_ok (ds := [rulesD (RR a s c b H), takeD (tA b ps)]) rfl (result1 ha hs hc hb ga))) (not_ok (b := true) (tru_ok (call_ok (ds := [rulesD (RR a s c b H), takeD (tA b ps)]) rfl g)))
  have last : ∀ y12 : Option S, sRet (sCmp dIs (sCall fs_is_record (sCons (sMk .tup (sCons (sMk .tup (sCons (sC (.int 2000)) (sCons (sVar 4) (sCons (sC (.str "one")) (sCons (sMk .tup (sCons (sVar 5) sNil)) sNil))))) sNil)) sNil)) (sC (.bl true))) (uE (some (.b B)) (some (.f (iN b))) x2 x3 (some (.f (rulesD (RR a s c b lim)))) (some (.f (takeD (tA b [])))) x6 x7 (some (.f (.nd .tup (ps.map gapD)))) (some (.f (iN H))) (some (.f (takeD (tA b ps)))) (some (.f (rulesD (RR a s c b H)))) y12 none none) = .ok (.rt (.bl true)) (uE (some (.b B)) (some (.f (iN b))) x2 x3 (some (.f (rulesD (RR a s c b lim)))) (some (.f (takeD (tA b [])))) x6 x7 (some (.f (.nd .tup (ps.map gapD)))) (some (.f (iN H))) (some (.f (takeD (tA b ps)))) (some (.f (rulesD (RR a s c b H)))) y12 none none) := fun y12 =>
    ret_ok (bin_ok (x := .bl true) (call_ok (ds := [.nd .tup [entryD ⟨2000, RR a s c b lim, "one", [tA b []]⟩]]) (one_ok (mk_ok (one_ok (mk_ok (ds := [iN 2000, rulesD (RR a s c b lim), .str "one", .nd .tup [takeD (tA b [])]]) (cons_ok rfl (cons_ok rfl (cons_ok rfl (one_ok (mk_ok (ds := [takeD (tA b [])]) rfl (small (show 1 ≤ 100000 by decide))))))) (small (show 4 ≤ 100000 by decide)))) (small (show 1 ≤ 100000 by decide)))) (record_yes (RR_ru ha hs hc hb (by omega)) (show nmS "art" = true by decide +kernel) (show nmS "one" = true by decide +kernel) (by decide) (by decide) (msA_ok ha hs hc hb lim))) rfl rfl)
  by_cases c0 : 0 < H
  · have g0 : sBin dGt (sVar 9) (sC (.int 0)) (uE (some (.b B)) (some (.f (iN b))) x2 x3 (some (.f (rulesD (RR a s c b lim)))) (some (.f (takeD (tA b [])))) x6 x7 (some (.f (.nd .tup (ps.map gapD)))) (some (.f (iN H))) (some (.f (takeD (tA b ps)))) (some (.f (rulesD (RR a s c b H)))) x12 none none) = .ok true (uE (some (.b B)) (some (.f (iN b))) x2 x3 (some (.f (rulesD (RR a s c b lim)))) (some (.f (takeD (tA b [])))) x6 x7 (some (.f (.nd .tup (ps.map gapD)))) (some (.f (iN H))) (some (.f (takeD (tA b ps)))) (some (.f (rulesD (RR a s c b H)))) x12 none none) := bin_ok (x := iN H) (y := iN 0) rfl rfl (by rw [gt_nat, decide_eq_true c0])
    have f5 : sSet 12 (sBin dPlus (sBin dPlus (sSlc (sVar 4) sNoPt (sPt (sC (.int 3)))) (sMk .tup (sCons (sBin dSub (sVar 9) (sC (.int 1))) sNil))) (sSlc (sVar 4) (sPt (sC (.int 4))) sNoPt)) (uE (some (.b B)) (some (.f (iN b))) x2 x3 (some (.f (rulesD (RR a s c b lim)))) (some (.f (takeD (tA b [])))) x6 x7 (some (.f (.nd .tup (ps.map gapD)))) (some (.f (iN H))) (some (.f (takeD (tA b ps)))) (some (.f (rulesD (RR a s c b H)))) x12 none none) = .ok .nx (uE (some (.b B)) (some (.f (iN b))) x2 x3 (some (.f (rulesD (RR a s c b lim)))) (some (.f (takeD (tA b [])))) x6 x7 (some (.f (.nd .tup (ps.map gapD)))) (some (.f (iN H))) (some (.f (takeD (tA b ps)))) (some (.f (rulesD (RR a s c b H)))) (some (.f (rulesD (RR a s c b (H - 1))))) none none) :=
      set_call (i := 12) (ρ1 := uE (some (.b B)) (some (.f (iN b))) x2 x3 (some (.f (rulesD (RR a s c b lim)))) (some (.f (takeD (tA b [])))) x6 x7 (some (.f (.nd .tup (ps.map gapD)))) (some (.f (iN H))) (some (.f (takeD (tA b ps)))) (some (.f (rulesD (RR a s c b H)))) x12 none none) (take3 (RR a s c b lim) (l := 0) rfl (bin_ok (x := iN H) rfl rfl (sub1_nat c0)))
    have t2 : sOrT (sBin dNe (sCall fs_result (sCons (sVar 12) (sCons (sVar 10) sNil))) (sC (.str "out"))) (sOrT (sTru (sCall fs_is_good (sCons (sVar 12) (sCons (sVar 10) sNil)))) (sBin dNe (sCall fs_mean (sCons (sVar 12) (sCons (sVar 10) sNil))) (sMk .tup (sCons (sVar 1) (sCons (sC (.int 1)) sNil))))) (uE (some (.b B)) (some (.f (iN b))) x2 x3 (some (.f (rulesD (RR a s c b lim)))) (some (.f (takeD (tA b [])))) x6 x7 (some (.f (.nd .tup (ps.map gapD)))) (some (.f (iN H))) (some (.f (takeD (tA b ps)))) (some (.f (rulesD (RR a s c b H)))) (some (.f (rulesD (RR a s c b (H - 1))))) none none) = .ok false (uE (some (.b B)) (some (.f (iN b))) x2 x3 (some (.f (rulesD (RR a s c b lim)))) (some (.f (takeD (tA b [])))) x6 x7 (some (.f (.nd .tup (ps.map gapD)))) (some (.f (iN H))) (some (.f (takeD (tA b ps)))) (some (.f (rulesD (RR a s c b H)))) (some (.f (rulesD (RR a s c b (H - 1))))) none none) := by
      have g := good1 ha hs hc hb (lim := H - 1) ga
      rw [hH, decide_eq_true (show H - 1 < H by omega)] at g
      exact or_no (str_ne str_out (call_ok (ds := [rulesD (RR a s c b (H - 1)), takeD (tA b ps)]) rfl (result1 ha hs hc hb ga))) (or_no (tru_ok (b := false) (call_ok (ds := [rulesD (RR a s c b (H - 1)), takeD (tA b ps)]) rfl g)) (bin_ok (call_ok (ds := [rulesD (RR a s c b (H - 1)), takeD (tA b ps)]) rfl (meanA_ok ha hs hc hb (H - 1) ga)) (mk_ok (ds := [iN b, iN 1]) rfl (small (show 2 ≤ 100000 by decide))) (dNe_self (dk_dok (n := 1) (by decide) (fD_dk (b, 1))))))
    exact ⟨_, (seq_ok f1).trans ((seq_ok f2).trans ((seq_ok f3).trans ((seq_ok f4).trans ((out_skip t1).trans ((seq_ok ((if_yes g0).trans ((seq_ok f5).trans ((if_no t2).trans rfl)))).trans (last _))))))⟩
  · have g0 : sBin dGt (sVar 9) (sC (.int 0)) (uE (some (.b B)) (some (.f (iN b))) x2 x3 (some (.f (rulesD (RR a s c b lim)))) (some (.f (takeD (tA b [])))) x6 x7 (some (.f (.nd .tup (ps.map gapD)))) (some (.f (iN H))) (some (.f (takeD (tA b ps)))) (some (.f (rulesD (RR a s c b H)))) x12 none none) = .ok false (uE (some (.b B)) (some (.f (iN b))) x2 x3 (some (.f (rulesD (RR a s c b lim)))) (some (.f (takeD (tA b [])))) x6 x7 (some (.f (.nd .tup (ps.map gapD)))) (some (.f (iN H))) (some (.f (takeD (tA b ps)))) (some (.f (rulesD (RR a s c b H)))) x12 none none) := bin_ok (x := iN H) (y := iN 0) rfl rfl (by rw [gt_nat, decide_eq_false c0])
    exact ⟨_, (seq_ok f1).trans ((seq_ok f2).trans ((seq_ok f3).trans ((seq_ok f4).trans ((out_skip t1).trans ((seq_ok ((if_no g0).trans rfl)).trans (last _))))))⟩
end
end Y

set_option Elab.async false
set_option linter.all false
set_option maxRecDepth 100000
set_option maxHeartbeats 4000000
/-! k30: takes by hand -/
namespace Y
open PySem PySem.Spec PyProof.Rows L2 PySem.W
theorem mk3 {ρ : En} {f : En → Y.R D} {n v : Nat} {s : Str} (e : f ρ = .ok (iN v) ρ) : sMk .tup (sCons (sC (.int (n : Int))) (sCons (sC (.str s)) (sCons f sNil))) ρ = .ok (markD (n, s, v)) ρ := mk_ok (ds := [iN n, .str s, iN v]) (cons_ok rfl (cons_ok rfl (one_ok e))) (small (show 3 ≤ 100000 by decide))
theorem mkT {ρ : En} {f g h : En → Y.R D} {ms : List (Nat × Str × Nat)} {m1 m2 m3 : Nat × Str × Nat} (e1 : f ρ = .ok (markD m1) ρ) (e2 : g ρ = .ok (markD m2) ρ) (e3 : h ρ = .ok (markD m3) ρ) (hm : ms = [m1, m2, m3]) : sMk .tup (sCons (sC (.str "art")) (sCons (sC (.int 3)) (sCons (sMk .tup (sCons f (sCons g (sCons h sNil)))) (sCons (sMk .tup sNil) sNil)))) ρ = .ok (takeD ⟨"art", 3, ms, []⟩) ρ := by
  subst hm
  exact mk_ok (ds := [.str "art", iN 3, .nd .tup [markD m1, markD m2, markD m3], .nd .tup []]) (cons_ok rfl (cons_ok rfl (cons_ok (mk_ok (cons_ok e1 (cons_ok e2 (one_ok e3))) (small (show 3 ≤ 100000 by decide))) (one_ok (mk_ok (ds := []) rfl (small (by decide))))))) (small (show 4 ≤ 100000 by decide))
theorem takes_right {B : D} (hB : BagOk B) {b : Nat} (hb : 1 ≤ b ∧ b ≤ 100) : ∃ B', fs__law_takes_right [B, iN b] = .val false (.bl true) (some B') ∧ BagOk B' := by
  obtain ⟨a, B1, k1, hB1, ha⟩ := kind_step hB "oral" (some (.f (iN b)) :: [none, none, none, none, none, none, none, none, none, none, none, none, none])
  obtain ⟨s, B2, k2, hB2, hs⟩ := kind_step hB1 "test" (some (.f (iN b)) :: [none, none, none, none, none, none, none, none, none, none, none, none, none])
  obtain ⟨c, B3, k3, hB3, hc⟩ := kind_step hB2 "work" (some (.f (iN b)) :: [none, none, none, none, none, none, none, none, none, none, none, none, none])
  have f1 := set_call (i := 2) (mk_ok (k := .tup) (cons_ok k1 (cons_ok k2 (one_ok k3))) (small (show 3 ≤ 100000 by decide)))
  obtain ⟨lim, B4, e4, hB4, hl⟩ := takeC hB3 (t := some (.f (iN b)) :: some (.f (.nd .tup ((ks3 a s c).map kindD))) :: [none, none, none, none, none, none, none, none, none, none, none, none]) (f := sCons (sC (.int 99)) sNil) (n := 99) rfl (by decide) (by decide)
  have f2 := set_call (i := 3) e4
  let E4 : Option S → Option S → Option S → Option S → Option S → En := fun x4 x5 x6 x7 x8 => uE (some (.b B4)) (some (.f (iN b))) (some (.f (.nd .tup ((ks3 a s c).map kindD)))) (some (.f (iN lim))) x4 x5 x6 x7 x8 none none none none none none
  have f3 : sSet 4 (sMk .tup (sCons (sVar 2) (sCons (sMk .tup (sCons (sMk .tup (sCons (sC (.int 0)) (sCons (sC (.str "open")) sNil))) (sCons (sMk .tup (sCons (sVar 1) (sCons (sC (.str "out")) sNil))) sNil))) (sCons (sC (.int 1)) (sCons (sVar 3) (sCons (sC (.int 5)) sNil)))))) (E4 none none none none none) = .ok .nx (E4 (some (.f (rulesD (RR a s c b lim)))) none none none none) :=
    set_call (i := 4) (ρ1 := E4 none none none none none) (d := rulesD (RR a s c b lim)) (mk_ok (ds := [.nd .tup ((ks3 a s c).map kindD), .nd .tup [.nd .tup [iN 0, .str "open"], .nd .tup [iN b, .str "out"]], iN 1, iN lim, iN 5]) (cons_ok rfl (cons_ok (mk_ok (cons_ok (mk_ok (ds := [iN 0, .str "open"]) rfl (small (show 2 ≤ 100000 by decide))) (one_ok (mk_ok (ds := [iN b, .str "out"]) rfl (small (show 2 ≤ 100000 by decide))))) (small (show 2 ≤ 100000 by decide))) rfl)) (small (show 5 ≤ 100000 by decide)))
  have f4 : sSet 5 (sMk .tup (sCons (sC (.str "art")) (sCons (sC (.int 3)) (sCons (sMk .tup (sCons (sMk .tup (sCons (sC (.int 1)) (sCons (sC (.str "test")) (sCons (sVar 1) sNil)))) (sCons (sMk .tup (sCons (sC (.int 2)) (sCons (sC (.str "test")) (sCons (sVar 1) sNil)))) (sCons (sMk .tup (sCons (sC (.int 2)) (sCons (sC (.str "work")) (sCons (sVar 1) sNil)))) sNil)))) (sCons (sMk .tup sNil) sNil))))) (E4 (some (.f (rulesD (RR a s c b lim)))) none none none none) = .ok .nx (E4 (some (.f (rulesD (RR a s c b lim)))) (some (.f (takeD (tA b [])))) none none none) :=
    set_call (i := 5) (ρ1 := E4 (some (.f (rulesD (RR a s c b lim)))) none none none none) (d := takeD (tA b [])) (mkT (ms := msA b) (m1 := (1, "test", b)) (m2 := (2, "test", b)) (m3 := (2, "work", b)) (mk3 (n := 1) (v := b) rfl) (mk3 (n := 2) (v := b) rfl) (mk3 (n := 2) (v := b) rfl) rfl)
  have f5 : sSet 6 (sMk .tup (sCons (sC (.str "art")) (sCons (sC (.int 3)) (sCons (sMk .tup (sCons (sMk .tup (sCons (sC (.int 1)) (sCons (sC (.str "test")) (sCons (sVar 1) sNil)))) (sCons (sMk .tup (sCons (sC (.int 2)) (sCons (sC (.str "test")) (sCons (sVar 1) sNil)))) (sCons (sMk .tup (sCons (sC (.int 3)) (sCons (sC (.str "test")) (sCons (sBin dSub (sVar 1) (sC (.int 1))) sNil)))) sNil)))) (sCons (sMk .tup sNil) sNil))))) (E4 (some (.f (rulesD (RR a s c b lim)))) (some (.f (takeD (tA b [])))) none none none) = .ok .nx (E4 (some (.f (rulesD (RR a s c b lim)))) (some (.f (takeD (tA b [])))) (some (.f (takeD (tB b)))) none none) :=
    set_call (i := 6) (ρ1 := E4 (some (.f (rulesD (RR a s c b lim)))) (some (.f (takeD (tA b [])))) none none none) (d := takeD (tB b)) (mkT (ms := msB b) (m1 := (1, "test", b)) (m2 := (2, "test", b)) (m3 := (3, "test", b - 1)) (mk3 (n := 1) (v := b) rfl) (mk3 (n := 2) (v := b) rfl) (mk3 (n := 3) (v := b - 1) (bin_ok (x := iN b) rfl rfl (sub1_nat hb.1))) rfl)
  generalize hρ : E4 (some (.f (rulesD (RR a s c b lim)))) (some (.f (takeD (tA b [])))) (some (.f (takeD (tB b)))) none none = ρ at f5
  have aA : sCons (sVar 4) (sCons (sVar 5) sNil) ρ = .ok [rulesD (RR a s c b lim), takeD (tA b [])] ρ := by subst hρ; rfl
  have aB : sCons (sVar 4) (sCons (sVar 6) sNil) ρ = .ok [rulesD (RR a s c b lim), takeD (tB b)] ρ := by subst hρ; rfl
  have v1 : sVar 1 ρ = .ok (iN b) ρ := by subst hρ; rfl
  have b1 : sBor 1 ρ = .ok (iN b) ρ := by subst hρ; rfl
  have g1 := good1 ha hs hc hb (lim := lim) (ps := []) (by decide)
  rw [show decide (lim < hrN [] false) = false from decide_eq_false (Nat.not_lt_zero lim)] at g1
  have t1 : sBin dNe (sMk .lst (sCons (sCall fs_mean (sCons (sVar 4) (sCons (sVar 5) sNil))) (sCons (sCall fs_result (sCons (sVar 4) (sCons (sVar 5) sNil))) (sCons (sCall fs_is_good (sCons (sVar 4) (sCons (sVar 5) sNil))) sNil)))) (sMk .lst (sCons (sMk .tup (sCons (sVar 1) (sCons (sC (.int 1)) sNil))) (sCons (sC (.str "out")) (sCons (sC (.bl true)) sNil)))) ρ = .ok false ρ :=
    bin_ok (mk_ok (cons_ok (call_ok aA (meanA_ok ha hs hc hb lim (ps := []) (by decide))) (cons_ok (call_ok aA (result1 ha hs hc hb (ps := []) (by decide))) (one_ok (call_ok aA g1)))) (small (show 3 ≤ 100000 by decide))) (mk_ok (ds := [fD (b, 1), .str "out", .bl true]) (cons_ok (mk_ok (ds := [iN b, iN 1]) (cons_ok v1 rfl) (small (show 2 ≤ 100000 by decide))) rfl) (small (show 3 ≤ 100000 by decide))) (dNe_self (trio_dok (b, 1) str_out true))
  have t2 : sBin dNe (sMk .lst (sCons (sCall fs_mean (sCons (sVar 4) (sCons (sVar 6) sNil))) (sCons (sCall fs_result (sCons (sVar 4) (sCons (sVar 6) sNil))) (sCons (sCall fs_is_good (sCons (sVar 4) (sCons (sVar 6) sNil))) sNil)))) (sMk .lst (sCons (sMk .tup (sCons (sBin dSub (sBin dMul (sC (.int 3)) (sBor 1)) (sC (.int 1))) (sCons (sC (.int 3)) sNil))) (sCons (sC (.str "open")) (sCons (sC (.bl false)) sNil)))) ρ = .ok false ρ :=
    bin_ok (mk_ok (cons_ok (call_ok aB (meanB_ok ha hs hc hb lim)) (cons_ok (call_ok aB (result2 ha hs hc hb)) (one_ok (call_ok aB (good2 ha hs hc hb))))) (small (show 3 ≤ 100000 by decide))) (mk_ok (ds := [fD (3 * b - 1, 3), .str "open", .bl false]) (cons_ok (mk_ok (ds := [iN (3 * b - 1), iN 3]) (cons_ok (bin_ok (bin_ok (x := iN 3) rfl b1 (mul_nat (.inl (by decide)))) rfl (sub1_nat (by omega))) rfl) (small (show 2 ≤ 100000 by decide))) rfl) (small (show 3 ≤ 100000 by decide))) (dNe_self (trio_dok (3 * b - 1, 3) str_open false))
  subst hρ
  have f6 : sSet 7 (sMk .lst (sCons (sBin dDiv (sVar 3) (sC (.int 9))) (sCons (sBin dMod (sVar 3) (sC (.int 9))) sNil))) (E4 (some (.f (rulesD (RR a s c b lim)))) (some (.f (takeD (tA b [])))) (some (.f (takeD (tB b)))) none none) = .ok .nx (E4 (some (.f (rulesD (RR a s c b lim)))) (some (.f (takeD (tA b [])))) (some (.f (takeD (tB b)))) (some (.f (.nd .lst [iN (lim / 9), iN (lim % 9)]))) none) :=
    set_call (i := 7) (ρ1 := E4 (some (.f (rulesD (RR a s c b lim)))) (some (.f (takeD (tA b [])))) (some (.f (takeD (tB b)))) none none) (mk_ok (cons_ok (bin_ok (x := iN lim) (y := iN 9) rfl rfl (div_nat (by decide) (by decide))) (one_ok (bin_ok (x := iN lim) (y := iN 9) rfl rfl (mod_nat (by decide))))) (small (show 2 ≤ 100000 by decide)))
  have f7 := gaps1_ok hl (some (.b B4)) (some (.f (iN b))) (some (.f (.nd .tup ((ks3 a s c).map kindD)))) (some (.f (iN lim))) (some (.f (rulesD (RR a s c b lim)))) (some (.f (takeD (tA b [])))) (some (.f (takeD (tB b)))) none none none none none none
  obtain ⟨t, f8⟩ := prtA_ok ha hs hc hb hl B4 (some (.f (.nd .tup ((ks3 a s c).map kindD)))) (some (.f (iN lim))) (some (.f (takeD (tB b)))) (some (.f (.nd .lst [iN (lim / 9), iN (lim % 9)]))) none none none none
  refine ⟨B4, fin_io (t := t) rfl ?_, hB4⟩
  show m__law_takes_right (some (.b B) :: some (.f (iN b)) :: [none, none, none, none, none, none, none, none, none, none, none, none, none]) = _
  unfold m__law_takes_right
  exact (seq_ok f1).trans ((seq_ok f2).trans ((seq_ok f3).trans ((seq_ok f4).trans ((seq_ok f5).trans ((out_go t1).trans ((out_go t2).trans ((seq_ok f6).trans ((seq_ok f7).trans f8))))))))
end Y

set_option Elab.async false
set_option linter.all false
set_option maxRecDepth 100000
set_option maxHeartbeats 4000000
/-! k30: standing by hand -/
namespace Y
open PySem PySem.Spec PyProof.Rows L2 PySem.W
def R0 : Rl := ⟨[("test", 2)], [(0, "f"), (50, "d")], 1, 4, 5⟩
def tGood : Tk := ⟨"art", 2, [(1, "test", 80)], []⟩
def tBad : Tk := ⟨"bio", 5, [(1, "test", 10)], []⟩
def tGone : Tk := ⟨"chem", 6, [(1, "test", 90)], [(1, 5, false)]⟩
def tBare : Tk := ⟨"dutch", 1, [], []⟩
def tLost : Tk := ⟨"eng", 3, [], [(1, 9, false)]⟩
def tWorse : Tk := ⟨"art", 2, [(1, "test", 3)], []⟩
theorem R0_ok : RlOk R0 := ⟨by decide, fun k hk => by
  simp only [R0, List.mem_cons, List.not_mem_nil, or_false] at hk
  subst hk
  exact ⟨str_test, by decide, by decide⟩, by decide, ⟨_, _, rfl⟩, fun g hg => by
  simp only [R0, List.mem_cons, List.not_mem_nil, or_false] at hg
  rcases hg with rfl | rfl
  · exact ⟨by decide +kernel, by decide⟩
  · exact ⟨by decide +kernel, by decide⟩, by
  show [((0 : Nat), ("f" : Str)), (50, "d")].Pairwise _
  simp⟩
theorem t_ok : ∀ t ∈ [tGood, tBad, tGone, tBare, tLost, tWorse], TkOk R0 t ∧ 1 ≤ t.wt ∧ t.wt ≤ 9 ∧ t.ms.length ≤ 6 := by
  intro t ht
  simp only [List.mem_cons, List.not_mem_nil, or_false] at ht
  have m : ∀ (v : Nat), ∀ x ∈ [((1 : Nat), ("test" : Str), v)], strG x.2.1 = true ∧ x.2.1 ∈ R0.ks.map (·.1) := fun v x hx => by
    rw [List.mem_singleton.mp hx]
    exact ⟨str_test, List.mem_singleton.mpr rfl⟩
  rcases ht with rfl | rfl | rfl | rfl | rfl | rfl
  · exact ⟨⟨by decide +kernel, by decide, m 80, by decide⟩, by decide, by decide, by decide⟩
  · exact ⟨⟨by decide +kernel, by decide, m 10, by decide⟩, by decide, by decide, by decide⟩
  · exact ⟨⟨by decide +kernel, by decide, m 90, by decide⟩, by decide, by decide, by decide⟩
  · exact ⟨⟨by decide +kernel, by decide, fun x hx => (by cases hx), by decide⟩, by decide, by decide, by decide⟩
  · exact ⟨⟨by decide +kernel, by decide, fun x hx => (by cases hx), by decide⟩, by decide, by decide, by decide⟩
  · exact ⟨⟨by decide +kernel, by decide, m 3, by decide⟩, by decide, by decide, by decide⟩
theorem e_ok (y : Nat) {ts : List Tk} (h : ∀ t ∈ ts, t ∈ [tGood, tBad, tGone, tBare, tLost, tWorse]) (hl : ts.length ≤ 4) : EtOk ⟨y, R0, "one", ts⟩ := ⟨R0_ok, (show 1 ≤ 3 by decide), fun g hg => by
  have hg' : g ∈ R0.gs := hg
  simp only [R0, List.mem_cons, List.not_mem_nil, or_false] at hg'
  rcases hg' with rfl | rfl
  · exact ⟨by decide +kernel, by decide +kernel⟩
  · exact ⟨by decide +kernel, by decide +kernel⟩, fun t ht => t_ok t (h t ht), hl⟩
theorem st1 : stN ⟨2000, R0, "one", [tGood, tBad]⟩ = "up" := by decide +kernel
theorem st2 : stN ⟨2000, R0, "one", [tGood, tBad, tBare]⟩ = "open" := by decide +kernel
theorem st3 : stN ⟨2000, R0, "one", [tGone]⟩ = "stays" := by decide +kernel
theorem st4 : stN ⟨2000, R0, "one", [tLost]⟩ = "up" := by decide +kernel
theorem st5 : stN ⟨2000, R0, "one", []⟩ = "up" := by decide +kernel
theorem st6 : stN ⟨2000, R0, "one", [tBad, tLost]⟩ = "stays" := by decide +kernel
theorem st7 : stN ⟨2000, R0, "one", [tGood, tBad, tGone, tBare]⟩ = "open" := by decide +kernel
theorem wh7 : rAcc ⟨2000, R0, "one", [tGood, tBad, tGone, tBare]⟩ = ((210, 1), 7) := by decide +kernel
theorem ms7 : ([tGood, tBad, tGone, tBare].map fun t => hrN t.ps false).sum = 5 := by decide +kernel
theorem r3 : rowR R0 tGone = .nd .tup [.str "chem", .str "out", fD (90, 1), .bl false, iN 5, iN 0] := by
  have a : resN R0 tGone = "out" := by decide +kernel
  have b : meanN R0.ks tGone.ms = some (90, 1) := by decide +kernel
  have c : goodN R0 tGone = false := by decide +kernel
  unfold rowR
  rw [a, b, c]
  rfl
theorem r4 : rowR R0 tBare = .nd .tup [.str "dutch", .str "open", .non, .bl false, iN 0, iN 0] := by
  have a : resN R0 tBare = "open" := by decide +kernel
  have b : meanN R0.ks tBare.ms = none := by decide +kernel
  have c : goodN R0 tBare = false := by decide +kernel
  unfold rowR
  rw [a, b, c]
  rfl
def bk : List Et := [⟨2000, R0, "one", [tGood]⟩, ⟨2001, R0, "one", [tWorse]⟩]
theorem bk_ok : ∀ e ∈ bk, EtOk e := fun e he => by
  simp only [bk, List.mem_cons, List.not_mem_nil, or_false] at he
  rcases he with rfl | rfl
  · exact e_ok _ (by simp) (by decide)
  · exact e_ok _ (by simp) (by decide)
theorem p1 : passN bk 2000 = [] := by
  have : nmsP bk 2000 = [] := by decide +kernel
  unfold passN
  rw [this]
  exact (srt_perm []).eq_nil
theorem p2 : passN bk 2001 = [("art" : Str)] := by
  have : nmsP bk 2001 = [("art" : Str)] := by decide +kernel
  unfold passN
  rw [this]
  exact List.perm_singleton.mp (srt_perm [("art" : Str)])
theorem p3 : passN bk 2002 = [("art" : Str)] := by
  have : nmsP bk 2002 = [("art" : Str)] := by decide +kernel
  unfold passN
  rw [this]
  exact List.perm_singleton.mp (srt_perm [("art" : Str)])
end Y

set_option Elab.async false
set_option linter.all false
set_option maxRecDepth 100000
set_option maxHeartbeats 4000000
/-! k30: standing by hand, the walk -/
namespace Y
open PySem PySem.Spec PyProof.Rows L2 PySem.W
def vE (b : D) (x1 x2 x3 x4 x5 x6 x7 x8 x9 x10 x11 x12 x13 x14 x15 : Option S) : En := [some (.f b), x1, x2, x3, x4, x5, x6, x7, x8, x9, x10, x11, x12, x13, x14, x15]
def rowsD : D := .nd .tup ([tGood, tBad, tGone, tBare].map (rowR R0))
theorem ups_dok : dok (lD ["up", "open", "stays", "up", "up"]) = true := by decide +kernel
theorem arts_dok : dok (.nd .lst [lD [], lD ["art"], lD ["art"]]) = true := by decide +kernel
theorem row3_dok : dok (.nd .tup [.str "chem", .str "out", fD (90, 1), .bl false, iN 5, iN 0]) = true := by decide +kernel
theorem row4_dok : dok (.nd .tup [.str "dutch", .str "open", .non, .bl false, iN 0, iN 0]) = true := by decide +kernel
theorem whole7 : repD ⟨2000, R0, "one", [tGood, tBad, tGone, tBare]⟩ = .nd .tup [rowsD, fD (frN 210 7), iN 5, .str "open"] := by
  unfold repD
  rw [wh7, st7]
  show D.nd .tup [rowsD, wholeD ((210, 1), 7), iN ([tGood, tBad, tGone, tBare].map fun t => hrN t.ps false).sum, .str "open"] = _
  rw [ms7]
  rfl
theorem standing_right (b : D) : fs__law_standing_right [b] = .val false (.bl true) none := by
  have f0 : (sSet 1 (sMk .tup (sCons (sMk .tup (sCons (sMk .tup (sCons (sC (.str "test")) (sCons (sC (.int 2)) sNil))) sNil)) (sCons (sMk .tup (sCons (sMk .tup (sCons (sC (.int 0)) (sCons (sC (.str "f")) sNil))) (sCons (sMk .tup (sCons (sC (.int 50)) (sCons (sC (.str "d")) sNil))) sNil))) (sCons (sC (.int 1)) (sCons (sC (.int 4)) (sCons (sC (.int 5)) sNil))))))) (vE b none none none none none none none none none none none none none none none) = .ok .nx (vE b (some (.f (rulesD R0))) none none none none none none none none none none none none none none) := rfl
  have f1 : (sAsg (hTup 2 (hCons (hName 6) (hCons (hName 7) hNil))) (sMk .tup (sCons (sMk .tup (sCons (sC (.str "art")) (sCons (sC (.int 2)) (sCons (sMk .tup (sCons (sMk .tup (sCons (sC (.int 1)) (sCons (sC (.str "test")) (sCons (sC (.int 80)) sNil)))) sNil)) (sCons (sMk .tup sNil) sNil))))) (sCons (sMk .tup (sCons (sC (.str "bio")) (sCons (sC (.int 5)) (sCons (sMk .tup (sCons (sMk .tup (sCons (sC (.int 1)) (sCons (sC (.str "test")) (sCons (sC (.int 10)) sNil)))) sNil)) (sCons (sMk .tup sNil) sNil))))) sNil)))) (vE b (some (.f (rulesD R0))) none none none none none none none none none none none none none none) = .ok .nx (vE b (some (.f (rulesD R0))) none none none none (some (.f (takeD tGood))) (some (.f (takeD tBad))) none none none none none none none none) := rfl
  have f2 : (sAsg (hTup 2 (hCons (hName 8) (hCons (hName 9) hNil))) (sMk .tup (sCons (sMk .tup (sCons (sC (.str "chem")) (sCons (sC (.int 6)) (sCons (sMk .tup (sCons (sMk .tup (sCons (sC (.int 1)) (sCons (sC (.str "test")) (sCons (sC (.int 90)) sNil)))) sNil)) (sCons (sMk .tup (sCons (sMk .tup (sCons (sC (.int 1)) (sCons (sC (.int 5)) (sCons (sC (.bl false)) sNil)))) sNil)) sNil))))) (sCons (sMk .tup (sCons (sC (.str "dutch")) (sCons (sC (.int 1)) (sCons (sMk .tup sNil) (sCons (sMk .tup sNil) sNil))))) sNil)))) (vE b (some (.f (rulesD R0))) none none none none (some (.f (takeD tGood))) (some (.f (takeD tBad))) none none none none none none none none) = .ok .nx (vE b (some (.f (rulesD R0))) none none none none (some (.f (takeD tGood))) (some (.f (takeD tBad))) (some (.f (takeD tGone))) (some (.f (takeD tBare))) none none none none none none) := rfl
  have f3 : (sSet 2 (sMk .tup (sCons (sC (.str "eng")) (sCons (sC (.int 3)) (sCons (sMk .tup sNil) (sCons (sMk .tup (sCons (sMk .tup (sCons (sC (.int 1)) (sCons (sC (.int 9)) (sCons (sC (.bl false)) sNil)))) sNil)) sNil)))))) (vE b (some (.f (rulesD R0))) none none none none (some (.f (takeD tGood))) (some (.f (takeD tBad))) (some (.f (takeD tGone))) (some (.f (takeD tBare))) none none none none none none) = .ok .nx (vE b (some (.f (rulesD R0))) (some (.f (takeD tLost))) none none none (some (.f (takeD tGood))) (some (.f (takeD tBad))) (some (.f (takeD tGone))) (some (.f (takeD tBare))) none none none none none none) := rfl
  have f4 : (sSet 3 (sLc (sIt (sMk .lst (sCons (sMk .tup (sCons (sVar 6) (sCons (sVar 7) sNil))) (sCons (sMk .tup (sCons (sVar 6) (sCons (sVar 7) (sCons (sVar 9) sNil)))) (sCons (sMk .tup (sCons (sVar 8) sNil)) (sCons (sMk .tup (sCons (sVar 2) sNil)) (sCons (sMk .tup sNil) sNil))))))) (hName 14) sYes (sCall fs_standing (sCons (sMk .tup (sCons (sC (.int 2000)) (sCons (sVar 1) (sCons (sC (.str "one")) (sCons (sVar 14) sNil))))) sNil)) [14])) (vE b (some (.f (rulesD R0))) (some (.f (takeD tLost))) none none none (some (.f (takeD tGood))) (some (.f (takeD tBad))) (some (.f (takeD tGone))) (some (.f (takeD tBare))) none none none none none none) = .ok .nx (vE b (some (.f (rulesD R0))) (some (.f (takeD tLost))) (some (.f (lD ["up", "open", "stays", "up", "up"]))) none none (some (.f (takeD tGood))) (some (.f (takeD tBad))) (some (.f (takeD tGone))) (some (.f (takeD tBare))) none none none none none none) := by
    refine set_call (i := 3) (ρ1 := vE b (some (.f (rulesD R0))) (some (.f (takeD tLost))) none none none (some (.f (takeD tGood))) (some (.f (takeD tBad))) (some (.f (takeD tGone))) (some (.f (takeD tBare))) none none none none none none) ?_
    exact slc_ty (fun ts : List Tk => .nd .tup (ts.map takeD)) (fun _ => true) (fun ts => .str (stN ⟨2000, R0, "one", ts⟩)) [[tGood, tBad], [tGood, tBad, tBare], [tGone], [tLost], []] (it_ok (mk_ok (ds := [.nd .tup [takeD tGood, takeD tBad], .nd .tup [takeD tGood, takeD tBad, takeD tBare], .nd .tup [takeD tGone], .nd .tup [takeD tLost], .nd .tup []]) rfl (small (show 5 ≤ 100000 by decide))) rfl) rfl (fun ts hts => ⟨vE b (some (.f (rulesD R0))) (some (.f (takeD tLost))) none none none (some (.f (takeD tGood))) (some (.f (takeD tBad))) (some (.f (takeD tGone))) (some (.f (takeD tBare))) none none none none (some (.f (.nd .tup (ts.map takeD)))) none, rfl, rfl, fun _ => call_ok (one_ok (mk_ok (ds := [iN 2000, rulesD R0, .str "one", .nd .tup (ts.map takeD)]) rfl (small (show 4 ≤ 100000 by decide)))) (standing_ok (e_ok 2000 (fun t ht => by
      simp only [List.mem_cons, List.not_mem_nil, or_false] at hts ⊢
      rcases hts with rfl | rfl | rfl | rfl | rfl <;> simp only [List.mem_cons, List.not_mem_nil, or_false] at ht <;> (first | exact ht.elim | skip) <;> (rcases ht with rfl | rfl | rfl <;> simp)) (by
      simp only [List.mem_cons, List.not_mem_nil, or_false] at hts
      rcases hts with rfl | rfl | rfl | rfl | rfl <;> decide))), rfl⟩) (show 5 ≤ 100000 by decide) (by
      show [D.str (stN ⟨2000, R0, "one", [tGood, tBad]⟩), .str (stN ⟨2000, R0, "one", [tGood, tBad, tBare]⟩), .str (stN ⟨2000, R0, "one", [tGone]⟩), .str (stN ⟨2000, R0, "one", [tLost]⟩), .str (stN ⟨2000, R0, "one", []⟩)] = _
      rw [st1, st2, st3, st4, st5]
      rfl)
  have t5 : (sOrT (sBin dNe (sVar 3) (sMk .lst (sCons (sC (.str "up")) (sCons (sC (.str "open")) (sCons (sC (.str "stays")) (sCons (sC (.str "up")) (sCons (sC (.str "up")) sNil))))))) (sBin dNe (sCall fs_standing (sCons (sMk .tup (sCons (sC (.int 2000)) (sCons (sVar 1) (sCons (sC (.str "one")) (sCons (sMk .tup (sCons (sVar 7) (sCons (sVar 2) sNil))) sNil))))) sNil)) (sC (.str "stays")))) (vE b (some (.f (rulesD R0))) (some (.f (takeD tLost))) (some (.f (lD ["up", "open", "stays", "up", "up"]))) none none (some (.f (takeD tGood))) (some (.f (takeD tBad))) (some (.f (takeD tGone))) (some (.f (takeD tBare))) none none none none none none) = .ok false (vE b (some (.f (rulesD R0))) (some (.f (takeD tLost))) (some (.f (lD ["up", "open", "stays", "up", "up"]))) none none (some (.f (takeD tGood))) (some (.f (takeD tBad))) (some (.f (takeD tGone))) (some (.f (takeD tBare))) none none none none none none) := or_no (bin_ok (x := lD ["up", "open", "stays", "up", "up"]) rfl (mk_ok (ds := nD ["up", "open", "stays", "up", "up"]) rfl (small (show 5 ≤ 100000 by decide))) (dNe_self ups_dok)) (str_ne (by decide +kernel) (call_ok (one_ok (mk_ok (ds := [iN 2000, rulesD R0, .str "one", .nd .tup [takeD tBad, takeD tLost]]) (cons_ok rfl (cons_ok rfl (cons_ok rfl (one_ok (mk_ok (ds := [takeD tBad, takeD tLost]) rfl (small (show 2 ≤ 100000 by decide))))))) (small (show 4 ≤ 100000 by decide)))) (by
    have := standing_ok (e_ok 2000 (ts := [tBad, tLost]) (by simp) (by decide))
    rw [st6] at this
    exact this)))
  have f6 : (sAsg (hTup 4 (hCons (hName 10) (hCons (hName 11) (hCons (hName 12) (hCons (hName 13) hNil))))) (sCall fs_report (sCons (sMk .tup (sCons (sC (.int 2000)) (sCons (sVar 1) (sCons (sC (.str "one")) (sCons (sMk .tup (sCons (sVar 6) (sCons (sVar 7) (sCons (sVar 8) (sCons (sVar 9) sNil))))) sNil))))) sNil))) (vE b (some (.f (rulesD R0))) (some (.f (takeD tLost))) (some (.f (lD ["up", "open", "stays", "up", "up"]))) none none (some (.f (takeD tGood))) (some (.f (takeD tBad))) (some (.f (takeD tGone))) (some (.f (takeD tBare))) none none none none none none) = .ok .nx (vE b (some (.f (rulesD R0))) (some (.f (takeD tLost))) (some (.f (lD ["up", "open", "stays", "up", "up"]))) none none (some (.f (takeD tGood))) (some (.f (takeD tBad))) (some (.f (takeD tGone))) (some (.f (takeD tBare))) (some (.f rowsD)) (some (.f (fD (frN 210 7)))) (some (.f (iN 5))) (some (.f (.str "open"))) none none) := asg_ok (ρ1 := vE b (some (.f (rulesD R0))) (some (.f (takeD tLost))) (some (.f (lD ["up", "open", "stays", "up", "up"]))) none none (some (.f (takeD tGood))) (some (.f (takeD tBad))) (some (.f (takeD tGone))) (some (.f (takeD tBare))) none none none none none none) (d := .nd .tup [rowsD, fD (frN 210 7), iN 5, .str "open"]) (call_ok (one_ok (mk_ok (ds := [iN 2000, rulesD R0, .str "one", .nd .tup [takeD tGood, takeD tBad, takeD tGone, takeD tBare]]) (cons_ok rfl (cons_ok rfl (cons_ok rfl (one_ok (mk_ok (ds := [takeD tGood, takeD tBad, takeD tGone, takeD tBare]) rfl (small (show 4 ≤ 100000 by decide))))))) (small (show 4 ≤ 100000 by decide)))) (by
    have := report_ok (e_ok 2000 (ts := [tGood, tBad, tGone, tBare]) (by simp) (by decide))
    rw [whole7] at this
    exact this)) rfl
  have t7 : (sOrT (sBin dNe (sVar 11) (sCall fs__law_frac (sCons (sBin dPlus (sBin dMul (sC (.int 2)) (sC (.int 80))) (sBin dMul (sC (.int 5)) (sC (.int 10)))) (sCons (sC (.int 7)) sNil)))) (sOrT (sBin dNe (sVar 12) (sC (.int 5))) (sBin dNe (sVar 13) (sC (.str "open"))))) (vE b (some (.f (rulesD R0))) (some (.f (takeD tLost))) (some (.f (lD ["up", "open", "stays", "up", "up"]))) none none (some (.f (takeD tGood))) (some (.f (takeD tBad))) (some (.f (takeD tGone))) (some (.f (takeD tBare))) (some (.f rowsD)) (some (.f (fD (frN 210 7)))) (some (.f (iN 5))) (some (.f (.str "open"))) none none) = .ok false (vE b (some (.f (rulesD R0))) (some (.f (takeD tLost))) (some (.f (lD ["up", "open", "stays", "up", "up"]))) none none (some (.f (takeD tGood))) (some (.f (takeD tBad))) (some (.f (takeD tGone))) (some (.f (takeD tBare))) (some (.f rowsD)) (some (.f (fD (frN 210 7)))) (some (.f (iN 5))) (some (.f (.str "open"))) none none) := or_no (bin_ok (x := fD (frN 210 7)) rfl (call_ok (cons_ok (d := iN 210) rfl (one_ok (d := iN 7) rfl)) (lfrac_ok (by decide) (by decide))) (dNe_self (dk_dok (n := 1) (by decide) (fD_dk _)))) (or_no (bin_ok (x := iN 5) (y := iN 5) rfl rfl rfl) (str_ne str_open rfl))
  have t8 : (sOrT (sBin dNe (sBin dIx (sVar 10) (sC (.int 2))) (sMk .tup (sCons (sC (.str "chem")) (sCons (sC (.str "out")) (sCons (sMk .tup (sCons (sC (.int 90)) (sCons (sC (.int 1)) sNil))) (sCons (sC (.bl false)) (sCons (sC (.int 5)) (sCons (sC (.int 0)) sNil)))))))) (sBin dNe (sBin dIx (sVar 10) (sC (.int 3))) (sMk .tup (sCons (sC (.str "dutch")) (sCons (sC (.str "open")) (sCons (sC .non) (sCons (sC (.bl false)) (sCons (sC (.int 0)) (sCons (sC (.int 0)) sNil))))))))) (vE b (some (.f (rulesD R0))) (some (.f (takeD tLost))) (some (.f (lD ["up", "open", "stays", "up", "up"]))) none none (some (.f (takeD tGood))) (some (.f (takeD tBad))) (some (.f (takeD tGone))) (some (.f (takeD tBare))) (some (.f rowsD)) (some (.f (fD (frN 210 7)))) (some (.f (iN 5))) (some (.f (.str "open"))) none none) = .ok false (vE b (some (.f (rulesD R0))) (some (.f (takeD tLost))) (some (.f (lD ["up", "open", "stays", "up", "up"]))) none none (some (.f (takeD tGood))) (some (.f (takeD tBad))) (some (.f (takeD tGone))) (some (.f (takeD tBare))) (some (.f rowsD)) (some (.f (fD (frN 210 7)))) (some (.f (iN 5))) (some (.f (.str "open"))) none none) := or_no (bin_ok (bin_ok (x := rowsD) (d := rowR R0 tGone) rfl rfl rfl) (mk_ok (ds := [.str "chem", .str "out", fD (90, 1), .bl false, iN 5, iN 0]) (cons_ok rfl (cons_ok rfl (cons_ok (mk_ok (ds := [iN 90, iN 1]) rfl (small (show 2 ≤ 100000 by decide))) rfl))) (small (show 6 ≤ 100000 by decide))) (by rw [r3]; exact dNe_self row3_dok)) (bin_ok (bin_ok (x := rowsD) (d := rowR R0 tBare) rfl rfl rfl) (mk_ok (ds := [.str "dutch", .str "open", .non, .bl false, iN 0, iN 0]) rfl (small (show 6 ≤ 100000 by decide))) (by rw [r4]; exact dNe_self row4_dok))
  have f9 : (sSet 4 (sBin dPlus (sSlc (sVar 6) sNoPt (sPt (sC (.int 2)))) (sMk .tup (sCons (sMk .tup (sCons (sMk .tup (sCons (sC (.int 1)) (sCons (sC (.str "test")) (sCons (sC (.int 3)) sNil)))) sNil)) (sCons (sMk .tup sNil) sNil))))) (vE b (some (.f (rulesD R0))) (some (.f (takeD tLost))) (some (.f (lD ["up", "open", "stays", "up", "up"]))) none none (some (.f (takeD tGood))) (some (.f (takeD tBad))) (some (.f (takeD tGone))) (some (.f (takeD tBare))) (some (.f rowsD)) (some (.f (fD (frN 210 7)))) (some (.f (iN 5))) (some (.f (.str "open"))) none none) = .ok .nx (vE b (some (.f (rulesD R0))) (some (.f (takeD tLost))) (some (.f (lD ["up", "open", "stays", "up", "up"]))) (some (.f (takeD tWorse))) none (some (.f (takeD tGood))) (some (.f (takeD tBad))) (some (.f (takeD tGone))) (some (.f (takeD tBare))) (some (.f rowsD)) (some (.f (fD (frN 210 7)))) (some (.f (iN 5))) (some (.f (.str "open"))) none none) := rfl
  have f10 : (sSet 5 (sMk .tup (sCons (sMk .tup (sCons (sC (.int 2000)) (sCons (sVar 1) (sCons (sC (.str "one")) (sCons (sMk .tup (sCons (sVar 6) sNil)) sNil))))) (sCons (sMk .tup (sCons (sC (.int 2001)) (sCons (sVar 1) (sCons (sC (.str "one")) (sCons (sMk .tup (sCons (sVar 4) sNil)) sNil))))) sNil)))) (vE b (some (.f (rulesD R0))) (some (.f (takeD tLost))) (some (.f (lD ["up", "open", "stays", "up", "up"]))) (some (.f (takeD tWorse))) none (some (.f (takeD tGood))) (some (.f (takeD tBad))) (some (.f (takeD tGone))) (some (.f (takeD tBare))) (some (.f rowsD)) (some (.f (fD (frN 210 7)))) (some (.f (iN 5))) (some (.f (.str "open"))) none none) = .ok .nx (vE b (some (.f (rulesD R0))) (some (.f (takeD tLost))) (some (.f (lD ["up", "open", "stays", "up", "up"]))) (some (.f (takeD tWorse))) (some (.f (bookD bk))) (some (.f (takeD tGood))) (some (.f (takeD tBad))) (some (.f (takeD tGone))) (some (.f (takeD tBare))) (some (.f rowsD)) (some (.f (fD (frN 210 7)))) (some (.f (iN 5))) (some (.f (.str "open"))) none none) := rfl
  have f11 : (sRet (sCmp dEq (sLc (sIt (sMk .lst (sCons (sC (.int 2000)) (sCons (sC (.int 2001)) (sCons (sC (.int 2002)) sNil))))) (hName 15) sYes (sCall fs_passed (sCons (sVar 5) (sCons (sVar 15) sNil))) [15]) (sMk .lst (sCons (sMk .lst sNil) (sCons (sMk .lst (sCons (sC (.str "art")) sNil)) (sCons (sMk .lst (sCons (sC (.str "art")) sNil)) sNil)))))) (vE b (some (.f (rulesD R0))) (some (.f (takeD tLost))) (some (.f (lD ["up", "open", "stays", "up", "up"]))) (some (.f (takeD tWorse))) (some (.f (bookD bk))) (some (.f (takeD tGood))) (some (.f (takeD tBad))) (some (.f (takeD tGone))) (some (.f (takeD tBare))) (some (.f rowsD)) (some (.f (fD (frN 210 7)))) (some (.f (iN 5))) (some (.f (.str "open"))) none none) = .ok (.rt (.bl true)) (vE b (some (.f (rulesD R0))) (some (.f (takeD tLost))) (some (.f (lD ["up", "open", "stays", "up", "up"]))) (some (.f (takeD tWorse))) (some (.f (bookD bk))) (some (.f (takeD tGood))) (some (.f (takeD tBad))) (some (.f (takeD tGone))) (some (.f (takeD tBare))) (some (.f rowsD)) (some (.f (fD (frN 210 7)))) (some (.f (iN 5))) (some (.f (.str "open"))) none none) := by
    refine ret_ok (bin_ok (x := .nd .lst [lD [], lD ["art"], lD ["art"]]) ?_ (mk_ok (ds := [lD [], lD ["art"], lD ["art"]]) rfl (small (show 3 ≤ 100000 by decide))) (by
      show (dEq (.nd .lst [lD [], lD ["art"], lD ["art"]]) (.nd .lst [lD [], lD ["art"], lD ["art"]])).map D.bl = _
      rw [dEq_self arts_dok]; rfl))
    exact slc_ty iN (fun _ => true) (fun y => lD (passN bk y)) [2000, 2001, 2002] (it_ok (mk_ok (ds := [iN 2000, iN 2001, iN 2002]) rfl (small (show 3 ≤ 100000 by decide))) rfl) rfl (fun y _ => ⟨vE b (some (.f (rulesD R0))) (some (.f (takeD tLost))) (some (.f (lD ["up", "open", "stays", "up", "up"]))) (some (.f (takeD tWorse))) (some (.f (bookD bk))) (some (.f (takeD tGood))) (some (.f (takeD tBad))) (some (.f (takeD tGone))) (some (.f (takeD tBare))) (some (.f rowsD)) (some (.f (fD (frN 210 7)))) (some (.f (iN 5))) (some (.f (.str "open"))) none (some (.f (iN y))), rfl, rfl, fun _ => call_ok (ds := [bookD bk, iN y]) rfl (passed_ok bk_ok (by decide) y), rfl⟩) (show 3 ≤ 100000 by decide) (by
      show [lD (passN bk 2000), lD (passN bk 2001), lD (passN bk 2002)] = _
      rw [p1, p2, p3])
  refine fin_ok (ρ := vE b (some (.f (rulesD R0))) (some (.f (takeD tLost))) (some (.f (lD ["up", "open", "stays", "up", "up"]))) (some (.f (takeD tWorse))) (some (.f (bookD bk))) (some (.f (takeD tGood))) (some (.f (takeD tBad))) (some (.f (takeD tGone))) (some (.f (takeD tBare))) (some (.f rowsD)) (some (.f (fD (frN 210 7)))) (some (.f (iN 5))) (some (.f (.str "open"))) none none) rfl ?_
  show m__law_standing_right (vE b none none none none none none none none none none none none none none none) = _
  unfold m__law_standing_right
  exact (seq_ok f0).trans ((seq_ok f1).trans ((seq_ok f2).trans ((seq_ok f3).trans ((seq_ok f4).trans ((out_go t5).trans ((seq_ok f6).trans ((out_go t7).trans ((out_go t8).trans ((seq_ok f9).trans ((seq_ok f10).trans f11))))))))))
end Y

set_option Elab.async false
set_option linter.all false
set_option maxRecDepth 100000
set_option maxHeartbeats 4000000
/-! k30: the law -/
namespace Y
open PySem PySem.Spec PyProof.Rows L2 PySem.W
theorem count_ok {m : Nat} (hm : m ≤ 1000) (ns : List Int) (t : List (Option S)) : sRg rg1 (sCons (sBin dPlus (sN dMin2 (sCons (s1 dLen' (sBor 0)) (sCons (sC (.int (m : Int))) sNil))) (sC (.int 2))) sNil) (some (.f (.nd .scr (ns.map D.int))) :: t) = .ok ((List.range' 0 (min ns.length m + 2)).map fun i : Nat => D.int (i : Int)) (some (.f (.nd .scr (ns.map D.int))) :: t) := by
  have d1 : dLen' (.nd .scr (ns.map D.int)) = some (iN ns.length) := by simp [dLen', dLen]
  have d4 := rg1_nat (n := min ns.length m + 2) (by omega)
  rw [rg_nat] at d4
  exact rg_ok (one_ok (bin_ok (n_ok (cons_ok (s1_ok (f := sBor 0) rfl d1) (cons_ok (d := iN m) rfl rfl)) (min_nat _ _)) (y := iN 2) rfl (add_nat _ _))) d4
def wE (sc : D) (k b bound : Option S) : En := [some (.f sc), k, b, bound]
abbrev boundB : En → Y.R Fl := sIfS (sNotT (sTru (sCallI 2 fs__law_takes_right (sCons (sVar 3) sNil)))) (sRet (sC (.bl false))) sNx
abbrev cellB : En → Y.R Fl := (sSeq (sSetO 2 (sCallO fs__law_bag (sCons (sVar 0) (sCons (sVar 1) sNil))))
  (sSeq (sFor (sIt (sMk .lst (sCons (sC (.int 1)) (sCons (sC (.int 100)) (sCons (sBin dPlus (sC (.int 1)) (sCallI 2 fs__law_take (sCons (sC (.int 100)) sNil))) sNil))))) (hName 3) boundB)
  (sIfS (sNotT (sTru (sCall fs__law_standing_right (sCons (sFrz 2) sNil))))
  (sRet (sC (.bl false)))
  sNx)))
theorem cell_step (ns : List Int) (k : Nat) (hk : k ≤ 1000) (x2 x3 : Option S) : ∃ y2 y3, cellB (wE (.nd .scr (ns.map D.int)) (some (.f (iN k))) x2 x3) = .ok .nx (wE (.nd .scr (ns.map D.int)) (some (.f (iN k))) y2 y3) := by
  obtain ⟨b, e1, hb⟩ := bag_ok ns k hk
  generalize hsc : D.nd .scr (ns.map D.int) = sc at *
  have f1 : sSetO 2 (sCallO fs__law_bag (sCons (sVar 0) (sCons (sVar 1) sNil))) (wE sc (some (.f (iN k))) x2 x3) = .ok .nx (wE sc (some (.f (iN k))) (some (.o b)) x3) := by
    simp [wE, runF, argS, finF, outs, sSeq, sq, bnd, lift, sVar, sBor, sFrz, sMov, sC, sBin, sCmp, sChain, sTru, tru, sAndT, sOrT, sNotT, sAndV, sOrV, sNotV, sIf, sNil, sCons, sMk, s1, sN, sNx, sDrop, sRet, sRetO, sIfS, sSet, sSetO, sAsg, sPut, ownD, chg, ownL, isLst, sMeth, sIxV, bor, sCall, sCallO, sCallI, sCallIO, dGt, cmpI, dMod, dDiv, dMul, dPlus, dAdd, dSub, dNeg, dLen', dLen, sSlc, sSlcV, sPt, sNoPt, sIt, itD, sRg, rg1, hName, hTup, hCons, hNil, sFor, List.replicate, sPar2, pO, pF, pNil, noB, sIsiV, isTy, tyN, isA, sCmpV, sz0, sz1, sz2, sz3, sz4, sz5, e1]
  obtain ⟨r, b1, e2, hb1, hr⟩ := take_nat hb (n := 100) (by decide) (by decide)
  have src : sIt (sMk .lst (sCons (sC (.int 1)) (sCons (sC (.int 100)) (sCons (sBin dPlus (sC (.int 1)) (sCallI 2 fs__law_take (sCons (sC (.int 100)) sNil))) sNil)))) (wE sc (some (.f (iN k))) (some (.o b)) x3) = .ok [iN 1, iN 100, iN (1 + r)] (wE sc (some (.f (iN k))) (some (.o b1)) x3) :=
    it_ok (mk_ok (ds := [iN 1, iN 100, iN (1 + r)]) (cons_ok rfl (cons_ok rfl (one_ok (bin_ok (x := iN 1) rfl (callI_ok (i := 2) (d0 := b) (ρ := wE sc (some (.f (iN k))) (some (.o b)) x3) ⟨b, rfl⟩ (ds := [iN 100]) rfl rfl e2) (add_nat 1 r))))) (small (show 3 ≤ 100000 by decide))) rfl
  obtain ⟨ρ', l, b2, y3, hb2, h1⟩ := forL_inv (g := hName 3) (b := boundB) (fun j ρ => ∃ b x3, BagOk b ∧ ρ = wE sc (some (.f (iN k))) (some (.o b)) x3) [iN 1, iN 100, iN (1 + r)] 0 _ ⟨b1, x3, hb1, rfl⟩ (fun i d ρ hd ⟨b, x3, hb, e⟩ => by
    obtain ⟨n, rfl, h1, h2⟩ : ∃ n : Nat, d = iN n ∧ 1 ≤ n ∧ n ≤ 100 := by
      have hm := List.mem_of_getElem? hd
      simp only [List.mem_cons, List.not_mem_nil, or_false] at hm
      rcases hm with h | h | h
      · exact ⟨1, h, by decide, by decide⟩
      · exact ⟨100, h, by decide, by decide⟩
      · exact ⟨1 + r, h, by omega, by omega⟩
    subst e
    obtain ⟨b', e2, hb'⟩ := takes_right hb ⟨h1, h2⟩
    exact ⟨wE sc (some (.f (iN k))) (some (.o b)) (some (.f (iN n))), wE sc (some (.f (iN k))) (some (.o b')) (some (.f (iN n))), rfl, (if_no (not_ok (b := true) (tru_ok (callI_ok (i := 2) (d0 := b) ⟨b, rfl⟩ (ds := [iN n]) rfl rfl e2)))).trans rfl, b', _, hb', rfl⟩)
  subst h1
  have t3 : sNotT (sTru (sCall fs__law_standing_right (sCons (sFrz 2) sNil))) (wE sc (some (.f (iN k))) (some (.o b2)) y3) = .ok false (wE sc (some (.f (iN k))) (some (.f b2)) y3) := not_ok (b := true) (tru_ok (call_ok (ds := [b2]) rfl (standing_right b2)))
  exact ⟨_, _, (seq_ok f1).trans ((seq_ok (for_ok src l)).trans ((if_no t3).trans rfl))⟩
theorem law_true : ∀ ns : List Int, ns.length ≤ 63 → fs_law [.nd .scr (ns.map D.int)] = .val false (.bl true) none := by
  intro ns _
  obtain ⟨ρ', e, y1, y2, y3, h1⟩ := forL_inv (g := hName 1) (b := cellB) (fun j ρ => ∃ x1 x2 x3, ρ = wE (.nd .scr (ns.map D.int)) x1 x2 x3) ((List.range' 0 (min ns.length 8 + 2)).map fun i : Nat => D.int (i : Int)) 0 (wE (.nd .scr (ns.map D.int)) none none none) ⟨_, _, _, rfl⟩ (fun i d ρ hd ⟨x1, x2, x3, e1⟩ => by
    obtain ⟨n, hn, rfl⟩ := List.mem_map.mp (List.mem_of_getElem? hd)
    rw [List.mem_range'_1] at hn
    subst e1
    obtain ⟨y2, y3, e2⟩ := cell_step ns n (by omega) x2 x3
    exact ⟨_, _, rfl, e2, _, _, _, rfl⟩)
  refine fin_ok (ρ := ρ') rfl ?_
  show m_law (wE (.nd .scr (ns.map D.int)) none none none) = _
  unfold m_law
  exact (seq_ok (for_ok (count_ok (m := 8) (by decide) ns _) e)).trans rfl
end Y

open PySem PySem.W PyProof.Rows
set_option maxRecDepth 100000 in
set_option maxHeartbeats 0 in
theorem PySem.Challenge.cw_schoolbook_k30_results_by_hand_holds : PySem.Challenge.rw_schoolbook_k30_results_by_hand.Holds := by
  w_on; o_law; k_head; (case hw => w_witness2)
  k_fill
  refine Y.walk (fs := Y.fs_law) (k := 8) (l := PySem.Challenge.rw_schoolbook_k30_results_by_hand) ⟨rfl, by decide, by decide⟩ rfl rfl Y.law_true (fun w h Y => PySem.W.kIn_of Y) ?F
  case F =>
    intro w mg fa h KX G hmg
    refine' Y.all_mk KX G hmg ?a0 ?l0 ?c0 ?k0 ?a1 ?l1 ?c1 ?k1 ?a2 ?l2 ?c2 ?k2 ?a3 ?l3 ?c3 ?k3 ?a4 ?l4 ?c4 ?k4 ?a5 ?l5 ?c5 ?k5 ?a6 ?l6 ?c6 ?k6 ?a7 ?l7 ?c7 ?k7 ?a8 ?l8 ?c8 ?k8 ?a9 ?l9 ?c9 ?k9 ?a10 ?l10 ?c10 ?k10 ?a11 ?l11 ?c11 ?k11 ?a12 ?l12 ?c12 ?k12 ?a13 ?l13 ?c13 ?k13 ?a14 ?l14 ?c14 ?k14 ?a15 ?l15 ?c15 ?k15 ?a16 ?l16 ?c16 ?k16 ?a17 ?l17 ?c17 ?k17 ?a18 ?l18 ?c18 ?k18 ?a19 ?l19 ?c19 ?k19 ?a20 ?l20 ?c20 ?k20 ?a21 ?l21 ?c21 ?k21 ?a22 ?l22 ?c22 ?k22 ?a23 ?l23 ?c23 ?k23 ?a24 ?l24 ?c24 ?k24 ?a25 ?l25 ?c25 ?k25 ?a26 ?l26 ?c26 ?k26 ?a27 ?l27 ?c27 ?k27 ?a28 ?l28 ?c28 ?k28 ?a29 ?l29 ?c29 ?k29 ?a30 ?l30 ?c30 ?k30 ?g_MOST_KINDS ?g_MOST_GRADES ?g_MOST_MARKS ?g_MOST_TAKES ?g_MOST_ENTRIES ?g_LAST_DAY ?z_abs ?z_all ?z_any ?z_bool ?z_int ?z_isinstance ?z_len ?z_list ?z_min ?z_range ?z_sorted ?z_str ?z_sum ?z_tuple ?z_zip
    (case a0 => k_is); (case l0 => k_is); (case c0 => k_is); (case k0 => k_is); (case a1 => k_is); (case l1 => k_is)
    (case c1 => k_is); (case k1 => k_is); (case a2 => k_is); (case l2 => k_is); (case c2 => k_is); (case k2 => k_is)
    (case a3 => k_is); (case l3 => k_is); (case c3 => k_is); (case k3 => k_is); (case a4 => k_is); (case l4 => k_is)
    (case c4 => k_is); (case k4 => k_is); (case a5 => k_is); (case l5 => k_is); (case c5 => k_is); (case k5 => k_is)
    (case a6 => k_is); (case l6 => k_is); (case c6 => k_is); (case k6 => k_is); (case a7 => k_is); (case l7 => k_is)
    (case c7 => k_is); (case k7 => k_is); (case a8 => k_is); (case l8 => k_is); (case c8 => k_is); (case k8 => k_is)
    (case a9 => k_is); (case l9 => k_is); (case c9 => k_is); (case k9 => k_is); (case a10 => k_is); (case l10 => k_is)
    (case c10 => k_is); (case k10 => k_is); (case a11 => k_is); (case l11 => k_is); (case c11 => k_is); (case k11 => k_is)
    (case a12 => k_is); (case l12 => k_is); (case c12 => k_is); (case k12 => k_is); (case a13 => k_is); (case l13 => k_is)
    (case c13 => k_is); (case k13 => k_is); (case a14 => k_is); (case l14 => k_is); (case c14 => k_is); (case k14 => k_is)
    (case a15 => k_is); (case l15 => k_is); (case c15 => k_is); (case k15 => k_is); (case a16 => k_is); (case l16 => k_is)
    (case c16 => k_is); (case k16 => k_is); (case a17 => k_is); (case l17 => k_is); (case c17 => k_is); (case k17 => k_is)
    (case a18 => k_is); (case l18 => k_is); (case c18 => k_is); (case k18 => k_is); (case a19 => k_is); (case l19 => k_is)
    (case c19 => k_is); (case k19 => k_is); (case a20 => k_is); (case l20 => k_is); (case c20 => k_is); (case k20 => k_is)
    (case a21 => k_is); (case l21 => k_is); (case c21 => k_is); (case k21 => k_is); (case a22 => k_is); (case l22 => k_is)
    (case c22 => k_is); (case k22 => k_is); (case a23 => k_is); (case l23 => k_is); (case c23 => k_is); (case k23 => k_is)
    (case a24 => k_is); (case l24 => k_is); (case c24 => k_is); (case k24 => k_is); (case a25 => k_is); (case l25 => k_is)
    (case c25 => k_is); (case k25 => k_is); (case a26 => k_is); (case l26 => k_is); (case c26 => k_is); (case k26 => k_is)
    (case a27 => k_is); (case l27 => k_is); (case c27 => k_is); (case k27 => k_is); (case a28 => k_is); (case l28 => k_is)
    (case c28 => k_is); (case k28 => k_is); (case a29 => k_is); (case l29 => k_is); (case c29 => k_is); (case k29 => k_is)
    (case a30 => k_is); (case l30 => k_is); (case c30 => k_is); (case k30 => k_is); (case g_MOST_KINDS => k_is); (case g_MOST_GRADES => k_is)
    (case g_MOST_MARKS => k_is); (case g_MOST_TAKES => k_is); (case g_MOST_ENTRIES => k_is); (case g_LAST_DAY => k_is); (case z_abs => k_is); (case z_all => k_is)
    (case z_any => k_is); (case z_bool => k_is); (case z_int => k_is); (case z_isinstance => k_is); (case z_len => k_is); (case z_list => k_is)
    (case z_min => k_is); (case z_range => k_is); (case z_sorted => k_is); (case z_str => k_is); (case z_sum => k_is); (case z_tuple => k_is)
    (case z_zip => k_is)
#print axioms PySem.Challenge.cw_schoolbook_k30_results_by_hand_holds

