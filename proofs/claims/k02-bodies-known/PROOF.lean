import PyProof.Rows.All
import Wide.All
import OpenK.AllK
import Wide.FinOn
import HandS.ForMost
import HandS.ForExc
import HandS.Defaults
import HandS.Star
import HandS.Style
import HandS.TupAny
import HandS.TupMul
import HandS.IsInst
import KE.GoesEnum
import PyProof.Rows.IntBool
import PyProof.Rows.EqBoolInt
import HandS.Text
import HandS.SortKw
import HandS.WrittenGet
import KE.KUnpackStar
import HandS.MakeKwOnly
import HandS.ClsMeth
import HandS.WordsDict
import HandS.Iter
import HandS.HeadHook2
import HandS.Ends
import PySem.Challenge.RW_finestcells_k02_bodies_known
set_option Elab.async false
set_option linter.all false
set_option maxRecDepth 100000
set_option maxHeartbeats 4000000
/-! Fa: data without addresses over the hand layer. -/
namespace Fc
open PySem PySem.Spec PyProof.Rows L2

inductive D where
  | non | bl (b : Bool) | int (i : Int) | str (x : Str) | tup (l : List D) | ref (n : Nat)
inductive O where
  | lst (l : List D) | frz (l : List D) | dct (l : List (Key × D)) | fdc (l : List (Key × D)) | ins (c : Str) (fs : List (Str × D))
abbrev G := List O
abbrev Ev := List (Option D)
inductive Re (α : Type) where
  | ok (a : α) (g : G) | ex (c : Str) (fs : List (Str × D)) (g : G) | bad
def Re.bind {α β : Type} (r : Re α) (k : α → G → Re β) : Re β := match r with
  | .ok a g => k a g
  | .ex c fs g => .ex c fs g
  | .bad => .bad

mutual
inductive RV (K : PySem.W.Frag) (ι : Nat → Addr) (n : Nat) (H : Hp) : D → V → Prop
  | non : RV K ι n H .non .non
  | bl (b : Bool) : RV K ι n H (.bl b) (.bl b)
  | int (i : Int) : RV K ι n H (.int i) (.int i)
  | str (x : Str) : RV K ι n H (.str x) (.str x)
  | tup {ds : List D} {a : Addr} {vs : List V} : SqT K H a vs → RVs K ι n H ds vs → RV K ι n H (.tup ds) (.ref a)
  | ref {m : Nat} : m < n → RV K ι n H (.ref m) (.ref (ι m))
inductive RVs (K : PySem.W.Frag) (ι : Nat → Addr) (n : Nat) (H : Hp) : List D → List V → Prop
  | nil : RVs K ι n H [] []
  | cons {d : D} {v : V} {ds : List D} {vs : List V} : RV K ι n H d v → RVs K ι n H ds vs → RVs K ι n H (d :: ds) (v :: vs)
end

section
variable {K : PySem.W.Frag} {ι ι' : Nat → Addr} {n n' : Nat} {H H' : Hp}
mutual
theorem RV.mono (h1 : ∀ m, m < n → ι' m = ι m) (h2 : n ≤ n') (h3 : ∀ a xs, SqT K H a xs → SqT K H' a xs) : ∀ {d : D} {v : V}, RV K ι n H d v → RV K ι' n' H' d v
  | _, _, .non => .non
  | _, _, .bl b => .bl b
  | _, _, .int i => .int i
  | _, _, .str x => .str x
  | _, _, .tup hs r => .tup (h3 _ _ hs) (RVs.mono h1 h2 h3 r)
  | _, _, .ref hm => by
    rw [← h1 _ hm]
    exact .ref (Nat.lt_of_lt_of_le hm h2)
theorem RVs.mono (h1 : ∀ m, m < n → ι' m = ι m) (h2 : n ≤ n') (h3 : ∀ a xs, SqT K H a xs → SqT K H' a xs) : ∀ {ds : List D} {vs : List V}, RVs K ι n H ds vs → RVs K ι' n' H' ds vs
  | _, _, .nil => .nil
  | _, _, .cons r t => .cons (RV.mono h1 h2 h3 r) (RVs.mono h1 h2 h3 t)
end
theorem RVs.length : ∀ {ds : List D} {vs : List V}, RVs K ι n H ds vs → vs.length = ds.length
  | _, _, .nil => rfl
  | _, _, .cons _ t => congrArg Nat.succ (RVs.length t)
theorem RVs.get : ∀ {ds : List D} {vs : List V} {i : Nat} {d : D}, RVs K ι n H ds vs → ds[i]? = some d → ∃ v, vs[i]? = some v ∧ RV K ι n H d v
  | _, _, _, _, .nil, e => by simp at e
  | _, _, 0, _, .cons r _, e => by simp at e; subst e; exact ⟨_, rfl, r⟩
  | _, _, i + 1, d, .cons _ t, e => by
    obtain ⟨v, h1, h2⟩ := RVs.get (i := i) (d := d) t (by simpa using e)
    exact ⟨v, by simpa using h1, h2⟩
theorem RVs.get' : ∀ {ds : List D} {vs : List V} {i : Nat} {v : V}, RVs K ι n H ds vs → vs[i]? = some v → ∃ d, ds[i]? = some d ∧ RV K ι n H d v
  | _, _, _, _, .nil, e => by simp at e
  | _, _, 0, _, .cons r _, e => by simp at e; subst e; exact ⟨_, rfl, r⟩
  | _, _, i + 1, v, .cons _ t, e => by
    obtain ⟨d, h1, h2⟩ := RVs.get' (i := i) (v := v) t (by simpa using e)
    exact ⟨d, by simpa using h1, h2⟩
theorem RVs.append : ∀ {ds es : List D} {vs ws : List V}, RVs K ι n H ds vs → RVs K ι n H es ws → RVs K ι n H (ds ++ es) (vs ++ ws)
  | _, _, _, _, .nil, s => s
  | _, _, _, _, .cons r t, s => .cons r (RVs.append t s)
theorem RVs.take : ∀ {ds : List D} {vs : List V} (k : Nat), RVs K ι n H ds vs → RVs K ι n H (ds.take k) (vs.take k)
  | _, _, 0, _ => .nil
  | _, _, _ + 1, .nil => .nil
  | _, _, k + 1, .cons r t => .cons r (RVs.take k t)
theorem RVs.drop : ∀ {ds : List D} {vs : List V} (k : Nat), RVs K ι n H ds vs → RVs K ι n H (ds.drop k) (vs.drop k)
  | _, _, 0, r => r
  | _, _, _ + 1, .nil => .nil
  | _, _, k + 1, .cons _ t => RVs.drop k t
theorem RVs.set {d : D} {v : V} (r : RV K ι n H d v) : ∀ {ds : List D} {vs : List V} (i : Nat), RVs K ι n H ds vs → RVs K ι n H (ds.set i d) (vs.set i v)
  | _, _, _, .nil => .nil
  | _, _, 0, .cons _ t => .cons r t
  | _, _, i + 1, .cons q t => .cons q (RVs.set r i t)
theorem RVs.reverse {ds : List D} {vs : List V} (r : RVs K ι n H ds vs) : RVs K ι n H ds.reverse vs.reverse := by
  have go : ∀ {ds es : List D} {vs ws : List V}, RVs K ι n H ds vs → RVs K ι n H es ws → RVs K ι n H (ds.reverseAux es) (vs.reverseAux ws) := by
    intro ds
    induction ds with
    | nil => intro es vs ws r s; cases r; exact s
    | cons d ds ih => intro es vs ws r s; cases r with | cons q t => exact (ih t (.cons q s) : RVs K ι n H (ds.reverseAux (d :: es)) (List.reverseAux _ (_ :: _)))
  exact go r .nil
end

/-- entries of a dict, of an instance -/
inductive RKs {κ : Type} (K : PySem.W.Frag) (ι : Nat → Addr) (n : Nat) (H : Hp) : List (κ × D) → List (κ × V) → Prop
  | nil : RKs K ι n H [] []
  | cons {k : κ} {d : D} {v : V} {ds : List (κ × D)} {vs : List (κ × V)} : RV K ι n H d v → RKs K ι n H ds vs → RKs K ι n H ((k, d) :: ds) ((k, v) :: vs)
theorem RKs.mono {κ : Type} {K : PySem.W.Frag} {ι ι' : Nat → Addr} {n n' : Nat} {H H' : Hp} (h1 : ∀ m, m < n → ι' m = ι m) (h2 : n ≤ n') (h3 : ∀ a xs, SqT K H a xs → SqT K H' a xs) : ∀ {ds : List (κ × D)} {vs : List (κ × V)}, RKs K ι n H ds vs → RKs K ι' n' H' ds vs
  | _, _, .nil => .nil
  | _, _, .cons r t => .cons (RV.mono h1 h2 h3 r) (RKs.mono h1 h2 h3 t)

/-- what an object of ours stands for -/
def RO (K : PySem.W.Frag) (mg : Str → Option Value) (ι : Nat → Addr) (n : Nat) (H : Hp) (a : Addr) : O → Prop
  | .lst l => ∃ vs, H a = some (.lst vs) ∧ RVs K ι n H l vs
  | .frz l => ∃ ob vs, H a = some (.frz ob (.lst vs)) ∧ RVs K ι n H l vs
  | .dct l => ∃ kvs, H a = some (.dK kvs) ∧ RKs K ι n H l kvs
  | .fdc l => ∃ ob kvs, H a = some (.frz ob (.dK kvs)) ∧ RKs K ι n H l kvs
  | .ins c fs => ∃ C dx fvs, mg c = some (.ref C) ∧ H a = some (.ins C dx fvs) ∧ H dx = some (.own a) ∧ RKs K ι n H fs fvs

structure Rep (K : PySem.W.Frag) (mg : Str → Option Value) (ι : Nat → Addr) (H : Hp) (g : G) : Prop where
  obj : ∀ m o, g[m]? = some o → RO K mg ι g.length H (ι m) o
  inj : ∀ m k, m < g.length → k < g.length → ι m = ι k → m = k
structure Pres (H H' : Hp) : Prop where
  tup : ∀ a xs, H a = some (.tup xs) → H' a = some (.tup xs)
  frz : ∀ a o u, H a = some (.frz o u) → H' a = some (.frz o u)
theorem Pres.refl (H : Hp) : Pres H H := ⟨fun _ _ h => h, fun _ _ _ h => h⟩
theorem Pres.trans {H H1 H2 : Hp} (a : Pres H H1) (b : Pres H1 H2) : Pres H H2 := ⟨fun c xs h => b.tup c xs (a.tup c xs h), fun c o u h => b.frz c o u (a.frz c o u h)⟩
theorem Pres.sq {K : PySem.W.Frag} {H H' : Hp} (p : Pres H H') {a : Addr} {xs : List V} (h : SqT K H a xs) : SqT K H' a xs := by
  rcases h with (h | ⟨o, h⟩) | h
  · exact .inl (.inl (p.tup _ _ h))
  · exact .inl (.inr ⟨o, p.frz _ _ _ h⟩)
  · exact .inr h
theorem Pres.new {H : Hp} {p : Addr} {o : HO} (h : H p = none) : Pres H (upd H p o) :=
  ⟨fun a xs e => by rw [upd_ne (ne_of_none e h)]; exact e, fun a o u e => by rw [upd_ne (ne_of_none e h)]; exact e⟩
theorem Pres.mut {H : Hp} {p : Addr} {o u : HO} (h : H p = some u) (h1 : ∀ xs, u ≠ .tup xs) (h2 : ∀ o x, u ≠ .frz o x) : Pres H (upd H p o) :=
  ⟨fun a xs e => by
    rw [upd_ne (fun q => by rw [q, h] at e; exact h1 _ (Option.some.inj e))]; exact e,
   fun a o' x e => by
    rw [upd_ne (fun q => by rw [q, h] at e; exact h2 _ _ (Option.some.inj e))]; exact e⟩

structure Nx (K : PySem.W.Frag) (mg : Str → Option Value) (ι : Nat → Addr) (g : G) (H : Hp) (ι' : Nat → Addr) (g' : G) (H' : Hp) : Prop where
  rep : Rep K mg ι' H' g'
  len : g.length ≤ g'.length
  agr : ∀ m, m < g.length → ι' m = ι m
  prs : Pres H H'
section
variable {K : PySem.W.Frag} {mg : Str → Option Value} {ι ι' ι2 : Nat → Addr} {g g' g2 : G} {H H' H2 : Hp}
theorem Nx.refl (r : Rep K mg ι H g) : Nx K mg ι g H ι g H := ⟨r, Nat.le_refl _, fun _ _ => rfl, Pres.refl H⟩
theorem Nx.trans (a : Nx K mg ι g H ι' g' H') (b : Nx K mg ι' g' H' ι2 g2 H2) : Nx K mg ι g H ι2 g2 H2 :=
  ⟨b.rep, Nat.le_trans a.len b.len, fun m h => (b.agr m (Nat.lt_of_lt_of_le h a.len)).trans (a.agr m h), a.prs.trans b.prs⟩
theorem RV.nx {d : D} {v : V} (r : RV K ι g.length H d v) (x : Nx K mg ι g H ι' g' H') : RV K ι' g'.length H' d v := r.mono x.agr x.len fun _ _ h => x.prs.sq h
theorem RVs.nx {d : List D} {v : List V} (r : RVs K ι g.length H d v) (x : Nx K mg ι g H ι' g' H') : RVs K ι' g'.length H' d v := r.mono x.agr x.len fun _ _ h => x.prs.sq h
theorem RKs.nx {κ : Type} {d : List (κ × D)} {v : List (κ × V)} (r : RKs K ι g.length H d v) (x : Nx K mg ι g H ι' g' H') : RKs K ι' g'.length H' d v := r.mono x.agr x.len fun _ _ h => x.prs.sq h

theorem RO.tracked {n : Nat} {a : Addr} {o : O} (r : RO K mg ι n H a o) : ∃ u, H a = some u ∧ (∀ xs, u ≠ .tup xs) ∧ (∀ y, u ≠ .own y) := by
  cases o with
  | lst l => obtain ⟨vs, e, _⟩ := r; exact ⟨_, e, (fun _ z => nomatch z), (fun _ z => nomatch z)⟩
  | frz l => obtain ⟨ob, vs, e, _⟩ := r; exact ⟨_, e, (fun _ z => nomatch z), (fun _ z => nomatch z)⟩
  | dct l => obtain ⟨vs, e, _⟩ := r; exact ⟨_, e, (fun _ z => nomatch z), (fun _ z => nomatch z)⟩
  | fdc l => obtain ⟨ob, vs, e, _⟩ := r; exact ⟨_, e, (fun _ z => nomatch z), (fun _ z => nomatch z)⟩
  | ins c fs => obtain ⟨C, dx, fvs, _, e, _⟩ := r; exact ⟨_, e, (fun _ z => nomatch z), (fun _ z => nomatch z)⟩
/-- an object stays under a change elsewhere -/
theorem RO.upd {n n' : Nat} {a p : Addr} {o : O} {u : HO} (r : RO K mg ι n H a o) (h1 : ∀ m, m < n → ι' m = ι m) (h2 : n ≤ n') (h3 : Pres H (upd H p u)) (hp : a ≠ p) (hd : ∀ y, H p ≠ some (.own y)) : RO K mg ι' n' (upd H p u) a o := by
  have h3' : ∀ a xs, SqT K H a xs → SqT K (L2.upd H p u) a xs := fun _ _ h => h3.sq h
  cases o with
  | lst l => obtain ⟨vs, e, r⟩ := r; exact ⟨vs, by rw [upd_ne hp]; exact e, r.mono h1 h2 h3'⟩
  | frz l => obtain ⟨ob, vs, e, r⟩ := r; exact ⟨ob, vs, by rw [upd_ne hp]; exact e, r.mono h1 h2 h3'⟩
  | dct l => obtain ⟨vs, e, r⟩ := r; exact ⟨vs, by rw [upd_ne hp]; exact e, r.mono h1 h2 h3'⟩
  | fdc l => obtain ⟨ob, vs, e, r⟩ := r; exact ⟨ob, vs, by rw [upd_ne hp]; exact e, r.mono h1 h2 h3'⟩
  | ins c fs =>
    obtain ⟨C, dx, fvs, ec, e, ed, r⟩ := r
    exact ⟨C, dx, fvs, ec, by rw [upd_ne hp]; exact e, by rw [upd_ne (fun q => hd a (by rw [← q]; exact ed))]; exact ed, r.mono h1 h2 h3'⟩
/-- the addresses with one more -/
def ix (ι : Nat → Addr) (n : Nat) (p : Addr) : Nat → Addr := fun m => if m = n then p else ι m
theorem ix_same {n : Nat} {p : Addr} : ix ι n p n = p := if_pos rfl
theorem ix_lt {n m : Nat} {p : Addr} (h : m < n) : ix ι n p m = ι m := if_neg (Nat.ne_of_lt h)
/-- a new object -/
theorem Nx.new {p : Addr} {o : O} {u : HO} (r : Rep K mg ι H g) (hp : H p = none) (ho : RO K mg (ix ι g.length p) (g.length + 1) (upd H p u) p o) : Nx K mg ι g H (ix ι g.length p) (g ++ [o]) (upd H p u) := by
  have pr : Pres H (upd H p u) := Pres.new hp
  have len : (g ++ [o]).length = g.length + 1 := by simp
  have lt : ∀ m, m < g.length → ι m ≠ p := fun m h e => by
    obtain ⟨w, hw, _⟩ := (r.obj m g[m] (by simp [h])).tracked
    rw [e, hp] at hw; cases hw
  refine ⟨⟨fun m ob e => ?_, fun m k hm hk e => ?_⟩, by rw [len]; exact Nat.le_succ _, fun m h => ix_lt h, pr⟩
  · rw [len]
    by_cases h : m < g.length
    · rw [List.getElem?_append_left h] at e
      rw [ix_lt h]
      exact (r.obj m ob e).upd (fun k hk => ix_lt hk) (Nat.le_succ _) pr (lt m h) fun y z => by rw [hp] at z; cases z
    · rw [List.getElem?_append_right (Nat.le_of_not_lt h)] at e
      have hm : m = g.length := by
        have : m - g.length < 1 := (List.getElem?_eq_some_iff.mp e).1
        omega
      subst hm
      rw [Nat.sub_self] at e
      cases e
      rw [ix_same]
      exact ho
  · rw [len] at hm hk
    by_cases h : m < g.length
    · by_cases h' : k < g.length
      · rw [ix_lt h, ix_lt h'] at e; exact r.inj m k h h' e
      · have hk' : k = g.length := by omega
        rw [hk', ix_same, ix_lt h] at e
        exact absurd e (lt m h)
    · have hm' : m = g.length := by omega
      by_cases h' : k < g.length
      · rw [hm', ix_same, ix_lt h'] at e
        exact absurd e.symm (lt k h')
      · omega
/-- a new list -/
theorem Nx.newL {p : Addr} {l : List D} {vs : List V} (r : Rep K mg ι H g) (hp : H p = none) (h : RVs K ι g.length H l vs) : Nx K mg ι g H (ix ι g.length p) (g ++ [.lst l]) (upd H p (.lst vs)) :=
  .new r hp ⟨vs, upd_same, h.mono (fun m hm => ix_lt hm) (Nat.le_succ _) fun _ _ h => (Pres.new hp).sq h⟩
theorem Nx.newD {p : Addr} {l : List (Key × D)} {vs : List (Key × V)} (r : Rep K mg ι H g) (hp : H p = none) (h : RKs K ι g.length H l vs) : Nx K mg ι g H (ix ι g.length p) (g ++ [.dct l]) (upd H p (.dK vs)) :=
  .new r hp ⟨vs, upd_same, h.mono (fun m hm => ix_lt hm) (Nat.le_succ _) fun _ _ h => (Pres.new hp).sq h⟩
/-- a new tuple (no object of ours) -/
theorem Nx.newT {p : Addr} {vs : List V} (r : Rep K mg ι H g) (hp : H p = none) : Nx K mg ι g H ι g (upd H p (.tup vs)) := by
  have pr : Pres H (upd H p (.tup vs)) := Pres.new hp
  refine ⟨⟨fun m ob e => ?_, r.inj⟩, Nat.le_refl _, fun _ _ => rfl, pr⟩
  have hm := (List.getElem?_eq_some_iff.mp e).1
  obtain ⟨w, hw, _⟩ := (r.obj m ob e).tracked
  exact (r.obj m ob e).upd (fun k hk => rfl) (Nat.le_refl _) pr (ne_of_none hw hp) fun y z => by rw [hp] at z; cases z
/-- an object of ours is written -/
theorem Nx.upd {m : Nat} {o o' : O} {u : HO} (r : Rep K mg ι H g) (e : g[m]? = some o) (pr : Pres H (upd H (ι m) u)) (ho : RO K mg ι g.length (upd H (ι m) u) (ι m) o') : Nx K mg ι g H ι (g.set m o') (upd H (ι m) u) := by
  have hm := (List.getElem?_eq_some_iff.mp e).1
  obtain ⟨w, hw, _, hown⟩ := (r.obj m o e).tracked
  refine ⟨⟨fun k ob q => ?_, fun a b ha hb => ?_⟩, by simp, fun _ _ => rfl, pr⟩
  · rw [List.length_set]
    by_cases hk : m = k
    · subst hk
      rw [List.getElem?_set_self hm] at q
      cases q
      exact ho
    · rw [List.getElem?_set_ne hk] at q
      have hk' := (List.getElem?_eq_some_iff.mp q).1
      exact (r.obj k ob q).upd (fun _ _ => rfl) (Nat.le_refl _) pr (fun z => hk (r.inj m k hm hk' z.symm)) fun y z => by rw [hw] at z; exact hown y (Option.some.inj z)
  · rw [List.length_set] at ha hb
    exact r.inj a b ha hb
theorem Nx.setL {m : Nat} {l l' : List D} {vs' : List V} (r : Rep K mg ι H g) (e : g[m]? = some (.lst l)) (h : RVs K ι g.length H l' vs') : Nx K mg ι g H ι (g.set m (.lst l')) (L2.upd H (ι m) (.lst vs')) := by
  obtain ⟨vs, ev, _⟩ := r.obj m _ e
  have pr : Pres H (L2.upd H (ι m) (.lst vs')) := Pres.mut ev (fun _ z => nomatch z) (fun _ _ z => nomatch z)
  exact .upd r e pr ⟨vs', upd_same, h.mono (fun _ _ => rfl) (Nat.le_refl _) fun _ _ h => pr.sq h⟩
end
end Fc

set_option Elab.async false
set_option linter.all false
set_option maxRecDepth 100000
set_option maxHeartbeats 4000000
/-! Fb: what a piece of syntax does to data: judgements. -/
namespace Fc
open PySem PySem.Spec PyProof.Rows L2

/-- how an exception stands: its class by name, its fields in its own dict -/
def RX (K : PySem.W.Frag) (mg : Str → Option Value) (ι : Nat → Addr) (n : Nat) (H : Hp) (c : Str) (fs : List (Str × D)) (cls : Value) (dd : Option Addr) : Prop :=
  ∃ C, mg c = some (.ref C) ∧ cls = .ref C ∧ ((fs = [] ∧ dd = none) ∨ ∃ d fvs, dd = some d ∧ H d = some (.xd fvs) ∧ RKs K ι n H fs fvs)
/-- the slots -/
structure REnv (K : PySem.W.Frag) (ι : Nat → Addr) (n : Nat) (H : Hp) (ρ : Ev) (σ : L2.St) : Prop where
  len : ρ.length = σ.length
  get : ∀ (i : Nat) (d : D), ρ[i]? = some (some d) → ∃ v, σ[i]? = some (some v) ∧ RV K ι n H d v

/-- what is wanted of an outcome -/
def Tc {α β : Type} (K : PySem.W.Frag) (mg : Str → Option Value) (Rl : (Nat → Addr) → Nat → Hp → α → β → Prop) (W : WX) (σ : L2.St) (H : Hp) (ι : Nat → Addr) (g : G) (r : Re α) (Q : β → Hp → Prop) : Prop := match r with
  | .ok d g' => ∀ ι' H' v, Nx K mg ι g H ι' g' H' → Rl ι' g'.length H' d v → Q v H'
  | .ex c fs g' => ∀ ι' H' cls dd, Nx K mg ι g H ι' g' H' → RX K mg ι' g'.length H' c fs cls dd → W cls dd σ H'
  | .bad => False
/-- the reading of a piece of syntax that does f -/
def tF {α β : Type} (K : PySem.W.Frag) (mg : Str → Option Value) (Rl : (Nat → Addr) → Nat → Hp → α → β → Prop) (W : WX) (f : Ev → G → Re α) : L2.St → Hp → (β → Hp → Prop) → Prop := fun σ H Q =>
  ∃ ι ρ g, Rep K mg ι H g ∧ REnv K ι g.length H ρ σ ∧ Tc K mg Rl W σ H ι g (f ρ g) Q
abbrev Rb {α : Type} : (Nat → Addr) → Nat → Hp → α → α → Prop := fun _ _ _ a b => a = b

section
variable {K : PySem.W.Frag} {mg : Str → Option Value} {ι ι1 : Nat → Addr} {g g1 : G} {H H1 : Hp} {ρ : Ev} {σ : L2.St} {W : WX}
theorem REnv.nx (r : REnv K ι g.length H ρ σ) (x : Nx K mg ι g H ι1 g1 H1) : REnv K ι1 g1.length H1 ρ σ := ⟨r.len, fun i d e => by
  obtain ⟨v, h, q⟩ := r.get i d e
  exact ⟨v, h, q.nx x⟩⟩
theorem REnv.set (r : REnv K ι g.length H ρ σ) {d : D} {v : V} (q : RV K ι g.length H d v) (i : Nat) : REnv K ι g.length H (ρ.set i (some d)) (σ.set i (some v)) := by
  refine ⟨by simp [r.len], fun j e h => ?_⟩
  by_cases hj : i = j
  · subst hj
    by_cases hi : i < ρ.length
    · rw [List.getElem?_set_self hi] at h
      cases h
      exact ⟨v, List.getElem?_set_self (by rw [← r.len]; exact hi), q⟩
    · rw [List.getElem?_eq_none_iff.mpr (by simp; omega)] at h
      cases h
  · rw [List.getElem?_set_ne hj] at h
    obtain ⟨w, h1, h2⟩ := r.get j e h
    exact ⟨w, by rw [List.getElem?_set_ne hj]; exact h1, h2⟩
section
variable {α β γ δ : Type} {Rl : (Nat → Addr) → Nat → Hp → α → β → Prop} {Rm : (Nat → Addr) → Nat → Hp → γ → δ → Prop}
theorem Tc.base {r : Re α} {Q : β → Hp → Prop} (x : Nx K mg ι g H ι1 g1 H1) (h : Tc K mg Rl W σ H ι g r Q) : Tc K mg Rl W σ H1 ι1 g1 r Q := by
  cases r with
  | ok d g' => exact fun ι' H' v y q => h ι' H' v (x.trans y) q
  | ex c fs g' => exact fun ι' H' cls dd y q => h ι' H' cls dd (x.trans y) q
  | bad => exact h
theorem Tc.imp {r : Re α} {Q Q' : β → Hp → Prop} (h : Tc K mg Rl W σ H ι g r Q) (k : ∀ v H', Q v H' → Q' v H') : Tc K mg Rl W σ H ι g r Q' := by
  cases r with
  | ok d g' => exact fun ι' H' v y q => k _ _ (h ι' H' v y q)
  | ex c fs g' => exact h
  | bad => exact h
theorem Tc.bind {r : Re α} {k : α → G → Re γ} {Q : δ → Hp → Prop} {P : β → Hp → Prop} (h : Tc K mg Rm W σ H ι g (r.bind k) Q)
    (hk : ∀ a g1 ι1 H1 b, Nx K mg ι g H ι1 g1 H1 → Rl ι1 g1.length H1 a b → Tc K mg Rm W σ H1 ι1 g1 (k a g1) Q → P b H1) : Tc K mg Rl W σ H ι g r P := by
  cases r with
  | ok d g' => exact fun ι' H' v y q => hk d g' ι' H' v y q (Tc.base y h)
  | ex c fs g' => exact h
  | bad => exact h
theorem Tc.ok {d : α} {g' : G} {Q : β → Hp → Prop} (h : Tc K mg Rl W σ H ι g (.ok d g') Q) {ι' : Nat → Addr} {H' : Hp} {v : β} (x : Nx K mg ι g H ι' g' H') (q : Rl ι' g'.length H' d v) : Q v H' := h ι' H' v x q
end
end

/-! ### judgements -/
section
variable (X : Cx) (W : WX)
def FE (e : Expr) (f : Ev → G → Re D) : Prop := PE X e (tF X.K X.mg (RV X.K) W f)
def FT (e : Expr) (f : Ev → G → Re Bool) : Prop := PT X e (tF X.K X.mg Rb W f)
def FW (e : Expr) (f : Ev → G → Re Bool) : Prop := PW X e (tF X.K X.mg Rb W f)
def FA (es : List Expr) (f : Ev → G → Re (List D)) : Prop := PA X es (tF X.K X.mg (RVs X.K) W f)
end
theorem PE.imp {X : Cx} {e : Expr} {t t' : TE} (h : PE X e t) (k : ∀ σ H Q, t' σ H Q → t σ H Q) : PE X e t' := ⟨fun pins s σ H Q I q => h.run pins s σ H Q I (k σ H Q q)⟩
theorem PT.imp {X : Cx} {e : Expr} {t t' : TT} (h : PT X e t) (k : ∀ σ H Q, t' σ H Q → t σ H Q) : PT X e t' := ⟨fun pins s σ H Q I q => h.run pins s σ H Q I (k σ H Q q)⟩
theorem PW.imp {X : Cx} {e : Expr} {t t' : TT} (h : PW X e t) (k : ∀ σ H Q, t' σ H Q → t σ H Q) : PW X e t' := ⟨fun w pins s σ H Q I q => h.run w pins s σ H Q I (k σ H Q q)⟩
theorem PA.imp {X : Cx} {e : List Expr} {t t' : TA} (h : PA X e t) (k : ∀ σ H Q, t' σ H Q → t σ H Q) : PA X e t' := ⟨fun p pins s σ H Q I q => h.run p pins s σ H Q I (k σ H Q q)⟩
theorem PS.imp {X : Cx} {e : Stmt} {t t' : TS} (h : PS X e t) (k : ∀ D σ H, t' D σ H → t D σ H) : PS X e t' := ⟨fun pins s σ H D I q => h.run pins s σ H D I (k D σ H q)⟩
theorem PSs.imp {X : Cx} {e : List Stmt} {t t' : TS} (h : PSs X e t) (k : ∀ D σ H, t' D σ H → t D σ H) : PSs X e t' := ⟨fun pins s σ H D I q => h.run pins s σ H D I (k D σ H q)⟩

/-! ### names, constants -/
def fVar (i : Nat) : Ev → G → Re D := fun ρ g => match ρ[i]? with
  | some (some d) => .ok d g
  | _ => .bad
def fC (d : D) : Ev → G → Re D := fun _ g => .ok d g
section
variable {X : Cx} {W : WX} {x : Str} {pos : Pos}
theorem fe_var (i : Nat) (hN : X.N[i]? = some x := by rfl) (hv : Vis X.env.scope x := by first | exact Or.inl rfl | exact Or.inr (Or.inl rfl) | exact Or.inr (Or.inr rfl)) (hd : (x == ("__debug__" : Str)) = false := by decide)
    (hcd : (x == ("__classdict__" : Str)) = false := by decide) : FE X W (.Name x pos) (fVar i) := PE.imp (pe_var hN hv hd hcd) fun σ H Q ⟨ι, ρ, g, r, re, h⟩ => by
  unfold fVar at h
  split at h
  · rename_i d e
    obtain ⟨v, e1, e2⟩ := re.get i d e
    exact ⟨v, e1, h.ok (.refl r) e2⟩
  · exact h.elim
theorem fe_c {e : Expr} {d : D} {v : V} (h : PE X e (tC v)) (r : ∀ ι n H, RV X.K ι n H d v) : FE X W e (fC d) := PE.imp h fun σ H Q ⟨ι, ρ, g, rp, _, h⟩ => h.ok (.refl rp) (r _ _ _)
theorem fe_int {i : Int} {j} : FE X W (.Constant (.int i) j pos) (fC (.int i)) := fe_c pe_int fun _ _ _ => .int i
theorem fe_bl {b : Bool} {j} : FE X W (.Constant (.bool b) j pos) (fC (.bl b)) := fe_c pe_bl fun _ _ _ => .bl b
theorem fe_non {j} : FE X W (.Constant .none j pos) (fC .non) := fe_c pe_non fun _ _ _ => .non
theorem fe_str {x : Str} {j} : FE X W (.Constant (.str x) j pos) (fC (.str x)) := fe_c pe_str fun _ _ _ => .str x
/-- a constant of the module -/
theorem fe_gl {d : D} {v : V} {u : Value} (hm : X.mg x = some u) (r : RelV v u) (rd : ∀ ι n H, RV X.K ι n H d v) (hg : Gl X x := by rfl) (hd : (x == ("__debug__" : Str)) = false := by decide) : FE X W (.Name x pos) (fC d) := fe_c (pe_glob hg hm r hd) rd
end

/-! ### operations on values -/
def Vc (K : PySem.W.Frag) (mg : Str → Option Value) (H : Hp) (ι : Nat → Addr) (g : G) (r : Re D) (Q : VK) : Prop := match r with
  | .ok d g' => ∀ ι' H' v, Nx K mg ι g H ι' g' H' → RV K ι' g'.length H' d v → Q v H'
  | _ => False
theorem Vc.of {K : PySem.W.Frag} {mg : Str → Option Value} {W : WX} {σ : L2.St} {H : Hp} {ι : Nat → Addr} {g : G} {r : Re D} {Q : VK} (hx : ∀ c fs g', r ≠ .ex c fs g') (h : Tc K mg (RV K) W σ H ι g r Q) : Vc K mg H ι g r Q := by
  cases r with
  | ok d g' => exact h
  | ex c fs g' => exact absurd rfl (hx c fs g')
  | bad => exact h
abbrev Op2 := D → D → G → Re D
abbrev Op1 := D → G → Re D
abbrev OpN := List D → G → Re D
def noEx {α : Type} (r : Re α) : Re α := match r with
  | .ex _ _ _ => .bad
  | r => r
theorem Vc.noEx {K : PySem.W.Frag} {mg : Str → Option Value} {W : WX} {σ : L2.St} {H : Hp} {ι : Nat → Addr} {g : G} {r : Re D} {Q : VK} (h : Tc K mg (RV K) W σ H ι g (noEx r) Q) : Vc K mg H ι g r Q := by
  cases r with
  | ok d g' => exact h
  | ex c fs g' => exact h.elim
  | bad => exact h
/-- f does o -/
def OpS (X : Cx) (f : Value → Value → Sem Value) (o : Op2) : Prop := ∃ r, OpR X f r ∧ ∀ ι g H a b x y Q, Rep X.K X.mg ι H g → RV X.K ι g.length H a x → RV X.K ι g.length H b y → Vc X.K X.mg H ι g (o a b g) Q → r x y H Q
def UnS (X : Cx) (f : Value → Sem Value) (o : Op1) : Prop := ∃ r, UnR X f r ∧ ∀ ι g H a x Q, Rep X.K X.mg ι H g → RV X.K ι g.length H a x → Vc X.K X.mg H ι g (o a g) Q → r x H Q
def CallS (X : Cx) (f : Value) (o : OpN) : Prop := ∃ r, CallR X f r ∧ ∀ ι g H as xs Q, Rep X.K X.mg ι H g → RVs X.K ι g.length H as xs → Vc X.K X.mg H ι g (o as g) Q → r xs H Q
def IxS (X : Cx) (o : Op2) : Prop := ∃ r, IxR X r ∧ ∀ ι g H a b x y Q, Rep X.K X.mg ι H g → RV X.K ι g.length H a x → RV X.K ι g.length H b y → Vc X.K X.mg H ι g (o a b g) Q → r x y H Q
/-- one or the other -/
def Op2.or (o p : Op2) : Op2 := fun a b g => match o a b g with
  | .ok d g' => .ok d g'
  | _ => p a b g
theorem OpS.or {X : Cx} {f : Value → Value → Sem Value} {o p : Op2} (h : OpS X f o) (k : OpS X f p) : OpS X f (o.or p) := by
  obtain ⟨r, hr, h⟩ := h
  obtain ⟨r', hr', k⟩ := k
  refine ⟨fun x y H Q => r x y H Q ∨ r' x y H Q, fun pins s σ H x y v u Q I rx ry q => q.elim (hr pins s σ H x y v u Q I rx ry) (hr' pins s σ H x y v u Q I rx ry), fun ι g H a b x y Q rp ra rb q => ?_⟩
  unfold Op2.or at q
  split at q
  · rename_i e
    exact .inl (h ι g H a b x y Q rp ra rb (by rw [e]; exact q))
  · exact .inr (k ι g H a b x y Q rp ra rb q)
theorem IxS.or {X : Cx} {o p : Op2} (h : IxS X o) (k : IxS X p) : IxS X (o.or p) := by
  obtain ⟨r, hr, h⟩ := h
  obtain ⟨r', hr', k⟩ := k
  refine ⟨fun x y H Q => r x y H Q ∨ r' x y H Q, hr.or hr', fun ι g H a b x y Q rp ra rb q => ?_⟩
  unfold Op2.or at q
  split at q
  · rename_i e
    exact .inl (h ι g H a b x y Q rp ra rb (by rw [e]; exact q))
  · exact .inr (k ι g H a b x y Q rp ra rb q)

def fBin (o : Op2) (fa fb : Ev → G → Re D) : Ev → G → Re D := fun ρ g => (fa ρ g).bind fun a g1 => (fb ρ g1).bind fun b g2 => noEx (o a b g2)
def fUn (o : Op1) (fa : Ev → G → Re D) : Ev → G → Re D := fun ρ g => (fa ρ g).bind fun a g1 => noEx (o a g1)
def fNil : Ev → G → Re (List D) := fun _ g => .ok [] g
def fCons (fa : Ev → G → Re D) (fr : Ev → G → Re (List D)) : Ev → G → Re (List D) := fun ρ g => (fa ρ g).bind fun a g1 => (fr ρ g1).bind fun r g2 => .ok (a :: r) g2
def fTup (fr : Ev → G → Re (List D)) : Ev → G → Re D := fun ρ g => (fr ρ g).bind fun r g1 => if r.length ≤ sizeLine then .ok (.tup r) g1 else .bad
def fLst (fr : Ev → G → Re (List D)) : Ev → G → Re D := fun ρ g => (fr ρ g).bind fun r g1 => if r.length ≤ sizeLine then .ok (.ref g1.length) (g1 ++ [.lst r]) else .bad
def fCall (o : OpN) (fr : Ev → G → Re (List D)) : Ev → G → Re D := fun ρ g => (fr ρ g).bind fun r g1 => noEx (o r g1)
section
variable {X : Cx} {W : WX} {pos : Pos} {a b : Expr} {es : List Expr} {fa fb : Ev → G → Re D} {fr : Ev → G → Re (List D)}
theorem two {σ : L2.St} {H : Hp} {Q : VK} {o : Op2} {r : R2} (ho : ∀ ι g H a b x y Q, Rep X.K X.mg ι H g → RV X.K ι g.length H a x → RV X.K ι g.length H b y → Vc X.K X.mg H ι g (o a b g) Q → r x y H Q)
    (h : tF X.K X.mg (RV X.K) W (fBin o fa fb) σ H Q) : tOp r (tF X.K X.mg (RV X.K) W fa) (tF X.K X.mg (RV X.K) W fb) σ H Q := by
  obtain ⟨ι, ρ, g, rp, re, h⟩ := h
  refine ⟨ι, ρ, g, rp, re, h.bind fun d g1 ι1 H1 v x1 q1 h1 => ⟨ι1, ρ, g1, x1.rep, re.nx x1, h1.bind fun e g2 ι2 H2 w x2 q2 h2 => ?_⟩⟩
  exact ho ι2 g2 H2 d e v w Q x2.rep (q1.nx x2) q2 (Vc.noEx h2)
theorem fe_bin {op : Operator} {o : Op2} (ho : OpS X (binaryOp op) o) (ha : FE X W a fa) (hb : FE X W b fb) : FE X W (.BinOp a op b pos) (fBin o fa fb) := by
  obtain ⟨r, hr, k⟩ := ho
  exact PE.imp (pe_op hr ha hb) fun σ H Q h => two k h
theorem fe_cmp {op : CmpOp} {o : Op2} (ho : OpS X (compareOp op) o) (ha : FE X W a fa) (hb : FE X W b fb) (hm : behindInMarks op b = false := by rfl) : FE X W (.Compare a [op] [b] pos) (fBin o fa fb) := by
  obtain ⟨r, hr, k⟩ := ho
  exact PE.imp (pe_cmpR hr ha hb hm) fun σ H Q h => two k h
theorem fe_un {op : UnaryOp} {o : Op1} (ho : UnS X (unaryOp op) o) (ha : FE X W a fa) : FE X W (.UnaryOp op a pos) (fUn o fa) := by
  obtain ⟨r, hr, k⟩ := ho
  refine PE.imp (pe_un hr ha) fun σ H Q ⟨ι, ρ, g, rp, re, h⟩ => ⟨ι, ρ, g, rp, re, h.bind fun d g1 ι1 H1 v x1 q1 h1 => ?_⟩
  exact k ι1 g1 H1 d v Q x1.rep q1 (Vc.noEx h1)
theorem fe_ix {o : Op2} (ho : IxS X o) (ha : FE X W a fa) (hb : FE X W b fb) (hs : PlainIx b := by exact fun _ _ => rfl) : FE X W (.Subscript a b pos) (fBin o fa fb) := by
  obtain ⟨r, hr, k⟩ := ho
  exact PE.imp (pe_ix hr ha hb hs) fun σ H Q h => two k h
theorem fa_nil : FA X W [] fNil := PA.imp pa_nil fun σ H Q ⟨ι, ρ, g, rp, re, h⟩ => h.ok (.refl rp) .nil
theorem fa_cons (ha : FE X W a fa) (hr : FA X W es fr) (hs : starEach (a :: es) X.env = (false, eval a X.env) :: starEach es X.env := by rfl) : FA X W (a :: es) (fCons fa fr) :=
  PA.imp (pa_cons ha hr hs) fun σ H Q ⟨ι, ρ, g, rp, re, h⟩ => ⟨ι, ρ, g, rp, re, h.bind fun d g1 ι1 H1 v x1 q1 h1 => ⟨ι1, ρ, g1, x1.rep, re.nx x1, h1.bind fun e g2 ι2 H2 w x2 q2 h2 => h2.ok (.refl x2.rep) (.cons (q1.nx x2) q2)⟩⟩
theorem fe_tup {k} (hr : FA X W es fr) : FE X W (.Tuple es k pos) (fTup fr) :=
  PE.imp (pe_tup hr) fun σ H Q ⟨ι, ρ, g, rp, re, h⟩ => ⟨ι, ρ, g, rp, re, h.bind fun d g1 ι1 H1 v x1 q1 h1 => by
    split at h1
    · rename_i hl
      refine ⟨by rw [q1.length]; exact hl, fun p hp => h1.ok (.newT x1.rep hp) (.tup (SqT.of upd_same) (q1.nx (Nx.newT (vs := v) x1.rep hp)))⟩
    · exact h1.elim⟩
theorem fe_lst (hr : FA X W es fr) : FE X W (.List es pos) (fLst fr) :=
  PE.imp (pe_lst hr) fun σ H Q ⟨ι, ρ, g, rp, re, h⟩ => ⟨ι, ρ, g, rp, re, h.bind fun d g1 ι1 H1 v x1 q1 h1 => by
    split at h1
    · rename_i hl
      refine ⟨by rw [q1.length]; exact hl, fun p hp => ?_⟩
      have y := Nx.newL x1.rep hp q1
      refine h1.ok y ?_
      have z := RV.ref (K := X.K) (ι := ix ι1 g1.length p) (n := (g1 ++ [O.lst d]).length) (H := upd H1 p (.lst v)) (m := g1.length) (by simp)
      rw [ix_same] at z
      exact z
    · exact h1.elim⟩
theorem fe_callB {x : Str} {id : String} {o : OpN} {p : Pos} (ho : CallS X (.builtin id) o) (hm : X.mg x = none) (hv : bootBuiltins x = some (.builtin id)) (hr : FA X W (a :: es) fr) (hg : Gl X x := by rfl) (hn : x ≠ "__name__" := by decide) (hdb : (x == ("__debug__" : Str)) = false := by decide)
    (he : starEach (a :: es) X.env = (false, eval a X.env) :: starEach es X.env := by rfl) (hpl : (backTo pos (starEach es X.env)).any (·.1) = false := by rfl) : FE X W (.Call (.Name x p) (a :: es) [] pos) (fCall o fr) := by
  obtain ⟨r, hr', k⟩ := ho
  exact PE.imp (pe_callB hr' hg hm hv hr hn hdb he hpl) fun σ H Q ⟨ι, ρ, g, rp, re, h⟩ => ⟨ι, ρ, g, rp, re, h.bind fun d g1 ι1 H1 v x1 q1 h1 => k ι1 g1 H1 d v Q x1.rep q1 (Vc.noEx h1)⟩
theorem fe_callTy {x : Str} {T : String} {o : OpN} {p : Pos} (ho : CallS X (.type T) o) (hm : X.mg x = none) (hv : bootBuiltins x = some (.type T)) (hr : FA X W (a :: es) fr) (hg : Gl X x := by rfl) (hn : x ≠ "__name__" := by decide) (hdb : (x == ("__debug__" : Str)) = false := by decide)
    (he : starEach (a :: es) X.env = (false, eval a X.env) :: starEach es X.env := by rfl) (hpl : (backTo pos (starEach es X.env)).any (·.1) = false := by rfl) : FE X W (.Call (.Name x p) (a :: es) [] pos) (fCall o fr) := by
  obtain ⟨r, hr', k⟩ := ho
  exact PE.imp (pe_callTy hr' hg hm hv hr hn hdb he hpl) fun σ H Q ⟨ι, ρ, g, rp, re, h⟩ => ⟨ι, ρ, g, rp, re, h.bind fun d g1 ι1 H1 v x1 q1 h1 => k ι1 g1 H1 d v Q x1.rep q1 (Vc.noEx h1)⟩
end

/-! ### tests, and, or, not -/
def fTest (f : Ev → G → Re D) : Ev → G → Re Bool := fun ρ g => (f ρ g).bind fun d g1 => match d with
  | .bl b => .ok b g1
  | _ => .bad
def fNotT (f : Ev → G → Re Bool) : Ev → G → Re Bool := fun ρ g => (f ρ g).bind fun b g1 => .ok (!b) g1
def fAndT (f h : Ev → G → Re Bool) : Ev → G → Re Bool := fun ρ g => (f ρ g).bind fun b g1 => if b = true then h ρ g1 else .ok false g1
def fOrT (f h : Ev → G → Re Bool) : Ev → G → Re Bool := fun ρ g => (f ρ g).bind fun b g1 => if b = true then .ok true g1 else h ρ g1
def fIfE (c : Ev → G → Re Bool) (f h : Ev → G → Re D) : Ev → G → Re D := fun ρ g => (c ρ g).bind fun b g1 => if b = true then f ρ g1 else h ρ g1
def fAnd (f h : Ev → G → Re D) : Ev → G → Re D := fun ρ g => (f ρ g).bind fun d g1 => match d with
  | .bl true => h ρ g1
  | .bl false => .ok (.bl false) g1
  | _ => .bad
def fOr (f h : Ev → G → Re D) : Ev → G → Re D := fun ρ g => (f ρ g).bind fun d g1 => match d with
  | .bl true => .ok (.bl true) g1
  | .bl false => h ρ g1
  | _ => .bad
def fNot (f : Ev → G → Re D) : Ev → G → Re D := fun ρ g => (f ρ g).bind fun d g1 => match d with
  | .bl b => .ok (.bl (!b)) g1
  | _ => .bad
/-- a value's truth -/
def truD (d : D) (g : G) : Option Bool := match d with
  | .non => some false
  | .bl b => some b
  | .int i => some (i != 0)
  | .str x => if x.length ≤ sizeLine then some ((x.length : Int) != 0) else none
  | .tup l => some (!l.isEmpty)
  | .ref m => match g[m]? with
    | some (.lst l) => some (!l.isEmpty)
    | some (.frz l) => some (!l.isEmpty)
    | some (.dct l) => some (!l.isEmpty)
    | _ => none
def fTru (f : Ev → G → Re D) : Ev → G → Re Bool := fun ρ g => (f ρ g).bind fun d g1 => match truD d g1 with
  | some b => .ok b g1
  | none => .bad
section
variable {X : Cx} {W : WX} {pos : Pos} {a b c : Expr} {es rest : List Expr} {fa fb : Ev → G → Re D} {ft fu : Ev → G → Re Bool}
theorem RVs.isEmpty {K : PySem.W.Frag} {ι : Nat → Addr} {n : Nat} {H : Hp} {ds : List D} {vs : List V} (r : RVs K ι n H ds vs) : vs.isEmpty = ds.isEmpty := by cases r <;> rfl
theorem RKs.isEmpty {κ : Type} {K : PySem.W.Frag} {ι : Nat → Addr} {n : Nat} {H : Hp} {ds : List (κ × D)} {vs : List (κ × V)} (r : RKs K ι n H ds vs) : vs.isEmpty = ds.isEmpty := by cases r <;> rfl
theorem ft_val (h : FE X W a fa) (he : ∀ whole, isTrue a X.env whole = (do let v ← whole; standAt a.pos; holding [v] (truthy v)) := by intro _; rfl) : FT X W a (fTest fa) :=
  PT.imp (pt_val h he) fun σ H Q ⟨ι, ρ, g, rp, re, h⟩ => ⟨ι, ρ, g, rp, re, h.bind fun d g1 ι1 H1 v x1 q1 h1 => by
    cases q1 with
    | bl b => exact ⟨b, rfl, h1.ok (.refl x1.rep) rfl⟩
    | _ => exact h1.elim⟩
theorem ft_tru (h : FE X W a fa) (he : ∀ whole, isTrue a X.env whole = (do let v ← whole; standAt a.pos; holding [v] (truthy v)) := by intro _; rfl) : FT X W a (fTru fa) :=
  PT.imp (pt_truth h he) fun σ H Q ⟨ι, ρ, g, rp, re, h⟩ => ⟨ι, ρ, g, rp, re, h.bind fun d g1 ι1 H1 v x1 q1 h1 => by
    split at h1
    · rename_i k e
      refine ⟨k, ?_, h1.ok (.refl x1.rep) rfl⟩
      cases q1 with
      | non => cases e; rfl
      | bl b => cases e; rfl
      | int i => cases e; rfl
      | str x =>
        simp only [truD] at e
        split at e
        · rename_i hl; cases e; exact ⟨hl, rfl⟩
        · cases e
      | tup hs r => cases e; exact .inr (.inl ⟨_, hs, by rw [r.isEmpty]⟩)
      | ref hm =>
        simp only [truD] at e
        split at e
        · rename_i l q; cases e
          obtain ⟨vs, e1, r⟩ := x1.rep.obj _ _ q
          exact .inl ⟨_, SqL.of e1, by rw [r.isEmpty]⟩
        · rename_i l q; cases e
          obtain ⟨ob, vs, e1, r⟩ := x1.rep.obj _ _ q
          exact .inl ⟨_, .inl (.inr ⟨_, e1⟩), by rw [r.isEmpty]⟩
        · rename_i l q; cases e
          obtain ⟨vs, e1, r⟩ := x1.rep.obj _ _ q
          exact .inr (.inr ⟨_, e1, by rw [r.isEmpty]⟩)
        · cases e
    · exact h1.elim⟩
theorem ft_cmp {op : CmpOp} {o : Op2} (ho : OpS X (compareOp op) o) (ha : FE X W a fa) (hb : FE X W b fb) (hm : behindInMarks op b = false := by rfl) : FT X W (.Compare a [op] [b] pos) (fTest (fBin o fa fb)) := by
  obtain ⟨r, hr, k⟩ := ho
  refine PT.imp (pt_cmpR hr ha hb hm) fun σ H Q ⟨ι, ρ, g, rp, re, h⟩ => ?_
  refine two k ⟨ι, ρ, g, rp, re, ?_⟩
  refine h.bind fun d g1 ι1 H1 v x1 q1 h1 => ?_
  cases q1 with
  | bl b => exact ⟨b, rfl, h1.ok (.refl x1.rep) rfl⟩
  | _ => exact h1.elim
theorem ft_not (h : FT X W a ft) : FT X W (.UnaryOp .Not a pos) (fNotT ft) :=
  PT.imp (pt_not h) fun σ H Q ⟨ι, ρ, g, rp, re, h⟩ => ⟨ι, ρ, g, rp, re, h.bind fun d g1 ι1 H1 v x1 q1 h1 => by
    obtain rfl : d = v := q1
    exact h1.ok (.refl x1.rep) rfl⟩
theorem fw_and1 (h : FT X W a ft) : FW X W (.BoolOp .And [a] pos) ft := pw_and1 h
theorem fw_or1 (h : FT X W a ft) : FW X W (.BoolOp .Or [a] pos) ft := pw_or1 h
theorem fw_and (h : FT X W a ft) (k : FW X W (.BoolOp .And (b :: rest) pos) fu) : FW X W (.BoolOp .And (a :: b :: rest) pos) (fAndT ft fu) :=
  PW.imp (pw_and h k) fun σ H Q ⟨ι, ρ, g, rp, re, h⟩ => ⟨ι, ρ, g, rp, re, h.bind fun d g1 ι1 H1 v x1 q1 h1 => by
    obtain rfl : d = v := q1
    cases d with
    | true => exact iteT ⟨ι1, ρ, g1, x1.rep, re.nx x1, h1⟩
    | false => exact iteF (h1.ok (.refl x1.rep) rfl)⟩
theorem fw_or (h : FT X W a ft) (k : FW X W (.BoolOp .Or (b :: rest) pos) fu) : FW X W (.BoolOp .Or (a :: b :: rest) pos) (fOrT ft fu) :=
  PW.imp (pw_or h k) fun σ H Q ⟨ι, ρ, g, rp, re, h⟩ => ⟨ι, ρ, g, rp, re, h.bind fun d g1 ι1 H1 v x1 q1 h1 => by
    obtain rfl : d = v := q1
    cases d with
    | true => exact iteT (h1.ok (.refl x1.rep) rfl)
    | false => exact iteF ⟨ι1, ρ, g1, x1.rep, re.nx x1, h1⟩⟩
theorem ft_w (h : FW X W a ft) : FT X W a ft := PW.pt h
theorem fe_if (hc : FT X W c ft) (ha : FE X W a fa) (hb : FE X W b fb) : FE X W (.IfExp c a b pos) (fIfE ft fa fb) :=
  PE.imp (pe_ifExp hc ha hb) fun σ H Q ⟨ι, ρ, g, rp, re, h⟩ => ⟨ι, ρ, g, rp, re, h.bind fun d g1 ι1 H1 v x1 q1 h1 => by
    obtain rfl : d = v := q1
    cases d with
    | true => exact iteT ⟨ι1, ρ, g1, x1.rep, re.nx x1, h1⟩
    | false => exact iteF ⟨ι1, ρ, g1, x1.rep, re.nx x1, h1⟩⟩
theorem fe_one {op} (h : FE X W a fa) : FE X W (.BoolOp op [a] pos) fa := pe_one h
theorem fe_and (h : FE X W a fa) (k : FE X W (.BoolOp .And (b :: rest) pos) fb) : FE X W (.BoolOp .And (a :: b :: rest) pos) (fAnd fa fb) :=
  PE.imp (pe_and h k) fun σ H Q ⟨ι, ρ, g, rp, re, h⟩ => ⟨ι, ρ, g, rp, re, h.bind fun d g1 ι1 H1 v x1 q1 h1 => by
    cases q1 with
    | bl b =>
      refine ⟨b, rfl, ?_⟩
      cases b with
      | true => exact iteT ⟨ι1, ρ, g1, x1.rep, re.nx x1, h1⟩
      | false => exact iteF (h1.ok (.refl x1.rep) (.bl false))
    | _ => exact h1.elim⟩
theorem fe_or (h : FE X W a fa) (k : FE X W (.BoolOp .Or (b :: rest) pos) fb) : FE X W (.BoolOp .Or (a :: b :: rest) pos) (fOr fa fb) :=
  PE.imp (pe_or h k) fun σ H Q ⟨ι, ρ, g, rp, re, h⟩ => ⟨ι, ρ, g, rp, re, h.bind fun d g1 ι1 H1 v x1 q1 h1 => by
    cases q1 with
    | bl b =>
      refine ⟨b, rfl, ?_⟩
      cases b with
      | true => exact iteT (h1.ok (.refl x1.rep) (.bl true))
      | false => exact iteF ⟨ι1, ρ, g1, x1.rep, re.nx x1, h1⟩
    | _ => exact h1.elim⟩
theorem fe_not (h : FE X W a fa) : FE X W (.UnaryOp .Not a pos) (fNot fa) :=
  PE.imp (pe_not h) fun σ H Q ⟨ι, ρ, g, rp, re, h⟩ => ⟨ι, ρ, g, rp, re, h.bind fun d g1 ι1 H1 v x1 q1 h1 => by
    cases q1 with
    | bl b => exact ⟨b, rfl, h1.ok (.refl x1.rep) (.bl (!b))⟩
    | _ => exact h1.elim⟩
end
end Fc

set_option Elab.async false
set_option linter.all false
set_option maxRecDepth 100000
set_option maxHeartbeats 4000000
/-! Fs: statements, loops, list comprehensions. -/
namespace Fc
open PySem PySem.Spec PyProof.Rows L2

inductive Rs where
  | nx (ρ : Ev) (g : G) | rt (d : D) (g : G) | bk (ρ : Ev) (g : G) | ct (ρ : Ev) (g : G) | ex (c : Str) (fs : List (Str × D)) (ρ : Ev) (g : G) | bad
def Re.st {α : Type} (r : Re α) (ρ : Ev) (k : α → G → Rs) : Rs := match r with
  | .ok a g => k a g
  | .ex c fs g => .ex c fs ρ g
  | .bad => .bad
def Rs.sq (r : Rs) (k : Ev → G → Rs) : Rs := match r with
  | .nx ρ g => k ρ g
  | .rt d g => .rt d g
  | .bk ρ g => .bk ρ g
  | .ct ρ g => .ct ρ g
  | .ex c fs ρ g => .ex c fs ρ g
  | .bad => .bad
def Sc (K : PySem.W.Frag) (mg : Str → Option Value) (W : WX) (Z : Ends) (H : Hp) (ι : Nat → Addr) (g : G) (r : Rs) : Prop := match r with
  | .nx ρ' g' => ∀ ι' H' σ', Nx K mg ι g H ι' g' H' → REnv K ι' g'.length H' ρ' σ' → Z.nx σ' H'
  | .bk ρ' g' => ∀ ι' H' σ', Nx K mg ι g H ι' g' H' → REnv K ι' g'.length H' ρ' σ' → Z.bk σ' H'
  | .ct ρ' g' => ∀ ι' H' σ', Nx K mg ι g H ι' g' H' → REnv K ι' g'.length H' ρ' σ' → Z.ct σ' H'
  | .rt d g' => ∀ ι' H' v, Nx K mg ι g H ι' g' H' → RV K ι' g'.length H' d v → Z.rt v H'
  | .ex c fs ρ' g' => ∀ ι' H' cls dd σ', Nx K mg ι g H ι' g' H' → REnv K ι' g'.length H' ρ' σ' → RX K mg ι' g'.length H' c fs cls dd → W cls dd σ' H'
  | .bad => False
def tS (K : PySem.W.Frag) (mg : Str → Option Value) (W : WX) (f : Ev → G → Rs) : TS := fun Z σ H => ∃ ι ρ g, Rep K mg ι H g ∧ REnv K ι g.length H ρ σ ∧ Sc K mg W Z H ι g (f ρ g)
def FS (X : Cx) (W : WX) (st : Stmt) (f : Ev → G → Rs) : Prop := PS X st (tS X.K X.mg W f)
def FB (X : Cx) (W : WX) (sts : List Stmt) (f : Ev → G → Rs) : Prop := PSs X sts (tS X.K X.mg W f)
abbrev W0 : WX := fun _ _ _ _ => False

section
variable {K : PySem.W.Frag} {mg : Str → Option Value} {ι ι1 : Nat → Addr} {g g1 : G} {H H1 : Hp} {ρ : Ev} {σ : L2.St} {W : WX} {Z : Ends}
theorem Sc.base {r : Rs} (x : Nx K mg ι g H ι1 g1 H1) (h : Sc K mg W Z H ι g r) : Sc K mg W Z H1 ι1 g1 r := by
  cases r with
  | nx ρ' g' => exact fun ι' H' v y q => h ι' H' v (x.trans y) q
  | bk ρ' g' => exact fun ι' H' v y q => h ι' H' v (x.trans y) q
  | ct ρ' g' => exact fun ι' H' v y q => h ι' H' v (x.trans y) q
  | rt d g' => exact fun ι' H' v y q => h ι' H' v (x.trans y) q
  | ex c fs ρ' g' => exact fun ι' H' cls dd σ' y q => h ι' H' cls dd σ' (x.trans y) q
  | bad => exact h
section
variable {α β : Type} {Rl : (Nat → Addr) → Nat → Hp → α → β → Prop}
theorem Sc.st {r : Re α} {k : α → G → Rs} {P : β → Hp → Prop} (re : REnv K ι g.length H ρ σ) (h : Sc K mg W Z H ι g (r.st ρ k))
    (hk : ∀ a g1 ι1 H1 b, Nx K mg ι g H ι1 g1 H1 → Rl ι1 g1.length H1 a b → Sc K mg W Z H1 ι1 g1 (k a g1) → P b H1) : Tc K mg Rl W σ H ι g r P := by
  cases r with
  | ok a g' => exact fun ι' H' v y q => hk a g' ι' H' v y q (Sc.base y h)
  | ex c fs g' => exact fun ι' H' cls dd y q => h ι' H' cls dd σ y (re.nx y) q
  | bad => exact h
end
theorem Sc.sq {r : Rs} {k : Ev → G → Rs} {nx : L2.St → Hp → Prop} (h : Sc K mg W Z H ι g (r.sq k))
    (hk : ∀ ρ1 g1 ι1 H1 σ1, Nx K mg ι g H ι1 g1 H1 → REnv K ι1 g1.length H1 ρ1 σ1 → Sc K mg W Z H1 ι1 g1 (k ρ1 g1) → nx σ1 H1) : Sc K mg W { Z with nx := nx } H ι g r := by
  cases r with
  | nx ρ' g' => exact fun ι' H' v y q => hk ρ' g' ι' H' v y q (Sc.base y h)
  | bk ρ' g' => exact h
  | ct ρ' g' => exact h
  | rt d g' => exact h
  | ex c fs ρ' g' => exact h
  | bad => exact h
end

def sNil : Ev → G → Rs := fun ρ g => .nx ρ g
def sSeq (f h : Ev → G → Rs) : Ev → G → Rs := fun ρ g => (f ρ g).sq h
def sSet (i : Nat) (f : Ev → G → Re D) : Ev → G → Rs := fun ρ g => (f ρ g).st ρ fun d g1 => .nx (ρ.set i (some d)) g1
def sDrop (f : Ev → G → Re D) : Ev → G → Rs := fun ρ g => (f ρ g).st ρ fun _ g1 => .nx ρ g1
def sRet (f : Ev → G → Re D) : Ev → G → Rs := fun ρ g => (f ρ g).st ρ fun d g1 => .rt d g1
def sRetN : Ev → G → Rs := fun _ g => .rt .non g
def sIf (c : Ev → G → Re Bool) (f h : Ev → G → Rs) : Ev → G → Rs := fun ρ g => (c ρ g).st ρ fun b g1 => if b = true then f ρ g1 else h ρ g1
def sBk : Ev → G → Rs := fun ρ g => .bk ρ g
def sCt : Ev → G → Rs := fun ρ g => .ct ρ g
def sPar (i j : Nat) (f h : Ev → G → Re D) : Ev → G → Rs := fun ρ g => (f ρ g).st ρ fun d g1 => (h ρ g1).st ρ fun e g2 => .nx ((ρ.set i (some d)).set j (some e)) g2
def sPar3 (i j l : Nat) (f h k : Ev → G → Re D) : Ev → G → Rs := fun ρ g => (f ρ g).st ρ fun d g1 => (h ρ g1).st ρ fun e g2 => (k ρ g2).st ρ fun x g3 => .nx (((ρ.set i (some d)).set j (some e)).set l (some x)) g3
def sAug (i : Nat) (o : Op2) (f : Ev → G → Re D) : Ev → G → Rs := fun ρ g => match ρ[i]? with
  | some (some d) => (f ρ g).st ρ fun e g1 => (noEx (o d e g1)).st ρ fun x g2 => .nx (ρ.set i (some x)) g2
  | _ => .bad
section
variable {X : Cx} {W : WX} {pos : Pos} {st : Stmt} {sts : List Stmt} {e : Expr} {x : Str} {i : Nat} {fs ft : Ev → G → Rs} {f h : Ev → G → Re D} {c : Expr} {fc : Ev → G → Re Bool}
theorem fb_nil : FB X W [] sNil := PSs.imp pss_nil fun Z σ H ⟨ι, ρ, g, rp, re, h⟩ => h ι H σ (.refl rp) re
theorem fb_cons (h1 : FS X W st fs) (h2 : FB X W sts ft) : FB X W (st :: sts) (sSeq fs ft) :=
  PSs.imp (pss_cons h1 h2) fun Z σ H ⟨ι, ρ, g, rp, re, h⟩ => ⟨ι, ρ, g, rp, re, h.sq fun ρ1 g1 ι1 H1 σ1 y q k => ⟨ι1, ρ1, g1, y.rep, q, k⟩⟩
theorem fb_one (h1 : FS X W st fs) : FB X W [st] fs := pss_one h1
theorem fs_pass : FS X W (.Pass pos) sNil := PS.imp ps_pass fun Z σ H ⟨ι, ρ, g, rp, re, h⟩ => h ι H σ (.refl rp) re
theorem fs_bk : FS X W (.Break pos) sBk := PS.imp ps_break fun Z σ H ⟨ι, ρ, g, rp, re, h⟩ => h ι H σ (.refl rp) re
theorem fs_ct : FS X W (.Continue pos) sCt := PS.imp ps_continue fun Z σ H ⟨ι, ρ, g, rp, re, h⟩ => h ι H σ (.refl rp) re
theorem fs_set (i : Nat) (hN : X.N.Nodup) (hx : Loc X.env.scope x) (he : FE X W e f) {pos' : Pos} (hi : X.N[i]? = some x := by rfl) (hs : swapsWith e (some (.Name x pos')) pos.line X.env = pure false := by rfl)
    (hf : X.fn x = true ∨ X.env.scope.names.lookup x = some .local := by first | exact .inl rfl | exact .inr rfl | assumption) : FS X W (.Assign [.Name x pos'] e pos) (sSet i f) :=
  PS.imp (ps_set hN hi hx he hs hf) fun Z σ H ⟨ι, ρ, g, rp, re, h⟩ => ⟨ι, ρ, g, rp, re, h.st re fun d g1 ι1 H1 v y q k => k ι1 H1 _ (.refl y.rep) ((re.nx y).set q i)⟩
theorem fs_expr (he : FE X W e f) (hs : swapsWith e none pos.line X.env = pure false := by rfl) : FS X W (.Expr e pos) (sDrop f) :=
  PS.imp (ps_expr he hs) fun Z σ H ⟨ι, ρ, g, rp, re, h⟩ => ⟨ι, ρ, g, rp, re, h.st re fun d g1 ι1 H1 v y q k => k ι1 H1 _ (.refl y.rep) (re.nx y)⟩
theorem fs_ret (he : FE X W e f) : FS X W (.Return (some e) pos) (sRet f) :=
  PS.imp (ps_ret he) fun Z σ H ⟨ι, ρ, g, rp, re, h⟩ => ⟨ι, ρ, g, rp, re, h.st re fun d g1 ι1 H1 v y q k => k ι1 H1 _ (.refl y.rep) q⟩
theorem fs_retN : FS X W (.Return none pos) sRetN := PS.imp ps_retN fun Z σ H ⟨ι, ρ, g, rp, re, h⟩ => h ι H _ (.refl rp) .non
theorem fs_if {a b : List Stmt} (hc : FT X W c fc) (ha : FB X W a fs) (hb : FB X W b ft) : FS X W (.If c a b pos) (sIf fc fs ft) :=
  PS.imp (ps_if hc ha hb) fun Z σ H ⟨ι, ρ, g, rp, re, h⟩ => ⟨ι, ρ, g, rp, re, h.st re fun d g1 ι1 H1 v y q k => by
    obtain rfl : d = v := q
    cases d with
    | true => exact iteT ⟨ι1, ρ, g1, y.rep, re.nx y, k⟩
    | false => exact iteF ⟨ι1, ρ, g1, y.rep, re.nx y, k⟩⟩
theorem fs_par (i j : Nat) {x y : Str} {a b : Expr} {px py pt : Pos} {kt k2 pt2} (hc : X.calm = true) (hN : X.N.Nodup) (hx : X.env.scope.names.lookup x = some .local) (hy : X.env.scope.names.lookup y = some .local) (ha : FE X W a f) (hb : FE X W b h)
    (hi : X.N[i]? = some x := by rfl) (hj : X.N[j]? = some y := by rfl) (hij : i ≠ j := by decide)
    (h1 : starEach (a :: [b]) X.env = (false, eval a X.env) :: starEach [b] X.env := by rfl) (h2 : starEach (b :: []) X.env = (false, eval b X.env) :: starEach [] X.env := by rfl)
    (hw : swappedStores [.Tuple [.Name x px, .Name y py] kt pt] (.Tuple [a, b] k2 pt2) X.env = pure (some [x, y]) := by rfl)
    (hs : swapsWithSole [.Tuple [.Name x px, .Name y py] kt pt] (.Tuple [a, b] k2 pt2) pos.line X.env = pure false := by rfl) : FS X W (.Assign [.Tuple [.Name x px, .Name y py] kt pt] (.Tuple [a, b] k2 pt2) pos) (sPar i j f h) :=
  PS.imp (ps_par hc hN hi hj hij hx hy (pa_cons ha (pa_cons hb pa_nil h2) h1) hw hs) fun Z σ H ⟨ι, ρ, g, rp, re, h⟩ => ⟨ι, ρ, g, rp, re, h.st re fun d g1 ι1 H1 v y q k =>
    ⟨ι1, ρ, g1, y.rep, re.nx y, k.st (re.nx y) fun d2 g2 ι2 H2 v2 y2 q2 k2 => ⟨v, v2, rfl, k2 ι2 H2 _ (.refl y2.rep) (((re.nx (y.trans y2)).set (q.nx y2) i).set q2 j)⟩⟩⟩
theorem fs_par3 (i j l : Nat) {x y z : Str} {a b c : Expr} {px py pz pt : Pos} {kt k2 pt2} {h2 : Ev → G → Re D} (hc : X.calm = true) (hN : X.N.Nodup) (hx : X.env.scope.names.lookup x = some .local) (hy : X.env.scope.names.lookup y = some .local) (hz : X.env.scope.names.lookup z = some .local)
    (ha : FE X W a f) (hb : FE X W b h) (hc' : FE X W c h2)
    (hi : X.N[i]? = some x := by rfl) (hj : X.N[j]? = some y := by rfl) (hl : X.N[l]? = some z := by rfl) (hij : i ≠ j := by decide) (hil : i ≠ l := by decide) (hjl : j ≠ l := by decide)
    (h1 : starEach (a :: [b, c]) X.env = (false, eval a X.env) :: starEach [b, c] X.env := by rfl) (h2' : starEach (b :: [c]) X.env = (false, eval b X.env) :: starEach [c] X.env := by rfl) (h3 : starEach (c :: []) X.env = (false, eval c X.env) :: starEach [] X.env := by rfl)
    (hw : swappedStores [.Tuple [.Name x px, .Name y py, .Name z pz] kt pt] (.Tuple [a, b, c] k2 pt2) X.env = pure (some [x, y, z]) := by rfl)
    (hs : swapsWithSole [.Tuple [.Name x px, .Name y py, .Name z pz] kt pt] (.Tuple [a, b, c] k2 pt2) pos.line X.env = pure false := by rfl) : FS X W (.Assign [.Tuple [.Name x px, .Name y py, .Name z pz] kt pt] (.Tuple [a, b, c] k2 pt2) pos) (sPar3 i j l f h h2) :=
  PS.imp (ps_par3 hc hN hi hj hl hij hil hjl hx hy hz (pa_cons ha (pa_cons hb (pa_cons hc' pa_nil h3) h2') h1) hw hs) fun Z σ H ⟨ι, ρ, g, rp, re, h⟩ => ⟨ι, ρ, g, rp, re, h.st re fun d g1 ι1 H1 v y q k =>
    ⟨ι1, ρ, g1, y.rep, re.nx y, k.st (re.nx y) fun d2 g2 ι2 H2 v2 y2 q2 k2 => ⟨ι2, ρ, g2, y2.rep, re.nx (y.trans y2), k2.st (re.nx (y.trans y2)) fun d3 g3 ι3 H3 v3 y3 q3 k3 =>
      ⟨v, v2, v3, rfl, k3 ι3 H3 _ (.refl y3.rep) ((((re.nx ((y.trans y2).trans y3)).set (q.nx (y2.trans y3)) i).set (q2.nx y3) j).set q3 l)⟩⟩⟩⟩
theorem fs_aug (i : Nat) {op : Operator} {o : Op2} {pos' : Pos} (hN : X.N.Nodup) (hx : Loc X.env.scope x) (ho : OpS X (inplaceOp op) o) (he : FE X W e f) (hi : X.N[i]? = some x := by rfl)
    (hf : X.fn x = true ∨ X.env.scope.names.lookup x = some .local := by first | exact .inl rfl | exact .inr rfl | assumption)
    (hP : ∀ {te : TE} {ti : TIp}, PE X e te → PIp X op ti → PS X (.AugAssign (.Name x pos') op e pos) (tAug i te ti) := by intro _ _ h1 h2; exact ps_aug ‹_› ‹_› ‹_› h1 h2) : FS X W (.AugAssign (.Name x pos') op e pos) (sAug i o f) := by
  obtain ⟨r, hr, k⟩ := ho
  refine PS.imp (hP he (ti := r) hr) fun Z σ H ⟨ι, ρ, g, rp, re, h⟩ => ?_
  unfold sAug at h
  split at h
  · rename_i d ed
    obtain ⟨v, ev, qv⟩ := re.get i d ed
    refine ⟨v, ev, ι, ρ, g, rp, re, h.st re fun d1 g1 ι1 H1 v1 y q k1 => ?_⟩
    refine k ι1 g1 H1 d d1 v v1 _ y.rep (qv.nx y) q ?_
    have z : Tc X.K X.mg (RV X.K) W σ H1 ι1 g1 (noEx (o d d1 g1)) (fun z H2 => Z.nx (σ.set i (some z)) H2) := k1.st (re.nx y) fun d2 g2 ι2 H2 v2 y2 q2 k2 => k2 ι2 H2 _ (.refl y2.rep) ((re.nx (y.trans y2)).set q2 i)
    exact Vc.noEx z
  · exact h.elim
end
end Fc

set_option Elab.async false
set_option linter.all false
set_option maxRecDepth 100000
set_option maxHeartbeats 4000000
/-! Fl: targets, stores, loops, comprehensions. -/
namespace Fc
open PySem PySem.Spec PyProof.Rows L2

/-! ### equality of data -/
mutual
def D.eqb : D → D → Bool
  | .non, .non => true
  | .bl a, .bl b => a == b
  | .int a, .int b => decide (a = b)
  | .str a, .str b => decide (a = b)
  | .tup a, .tup b => D.eqbs a b
  | .ref a, .ref b => decide (a = b)
  | _, _ => false
def D.eqbs : List D → List D → Bool
  | [], [] => true
  | a :: as, b :: bs => D.eqb a b && D.eqbs as bs
  | _, _ => false
end
mutual
theorem D.eqb_ok : ∀ {a b : D}, D.eqb a b = true → a = b
  | .non, .non, _ => rfl
  | .bl a, .bl b, h => by rw [eq_of_beq (show (a == b) = true from h)]
  | .int a, .int b, h => by rw [of_decide_eq_true (show decide (a = b) = true from h)]
  | .str a, .str b, h => by rw [of_decide_eq_true (show decide (a = b) = true from h)]
  | .tup a, .tup b, h => by rw [D.eqbs_ok (show D.eqbs a b = true from h)]
  | .ref a, .ref b, h => by rw [of_decide_eq_true (show decide (a = b) = true from h)]
theorem D.eqbs_ok : ∀ {a b : List D}, D.eqbs a b = true → a = b
  | [], [], _ => rfl
  | a :: as, b :: bs, h => by
    have h : (D.eqb a b && D.eqbs as bs) = true := h
    obtain ⟨h1, h2⟩ := Bool.and_eq_true_iff.mp h
    rw [D.eqb_ok h1, D.eqbs_ok h2]
end
mutual
theorem D.eqb_rfl : ∀ a : D, D.eqb a a = true
  | .non => rfl
  | .bl a => by cases a <;> rfl
  | .int a => decide_eq_true rfl
  | .str a => decide_eq_true rfl
  | .tup a => D.eqbs_rfl a
  | .ref a => decide_eq_true rfl
theorem D.eqbs_rfl : ∀ a : List D, D.eqbs a a = true
  | [] => rfl
  | a :: as => by
    show (D.eqb a a && D.eqbs as as) = true
    rw [D.eqb_rfl a, D.eqbs_rfl as]; rfl
end

/-! ### targets -/
abbrev Bd := D → Ev → G → Option Ev
def gF (K : PySem.W.Frag) (mg : Str → Option Value) (sl : List Nat) (b : Bd) : TG := fun v σ H Q => ∃ ι ρ g d ρ', Rep K mg ι H g ∧ REnv K ι g.length H ρ σ ∧ RV K ι g.length H d v ∧ b d ρ g = some ρ' ∧
  ∀ σ', REnv K ι g.length H ρ' σ' → (∀ vs : List Nat, (∀ i ∈ sl, i ∈ vs) → wipe σ' vs = wipe σ vs) → Q σ' H
def gFs (K : PySem.W.Frag) (mg : Str → Option Value) (sl : List Nat) (b : List D → Ev → G → Option Ev) : TGs := fun v σ H Q => ∃ ι ρ g d ρ', Rep K mg ι H g ∧ REnv K ι g.length H ρ σ ∧ RVs K ι g.length H d v ∧ b d ρ g = some ρ' ∧
  ∀ σ', REnv K ι g.length H ρ' σ' → (∀ vs : List Nat, (∀ i ∈ sl, i ∈ vs) → wipe σ' vs = wipe σ vs) → Q σ' H
def FG (X : Cx) (tg : Expr) (sl : List Nat) (b : Bd) : Prop := PG X tg (gF X.K X.mg sl b)
def FGs (X : Cx) (tgs : List Expr) (sl : List Nat) (b : List D → Ev → G → Option Ev) : Prop := PGs X tgs (gFs X.K X.mg sl b)
theorem PG.imp {X : Cx} {tg : Expr} {t t' : TG} (h : PG X tg t) (k : ∀ v σ H Q, t' v σ H Q → t v σ H Q) : PG X tg t' := ⟨fun pins s σ H v u Q I r q => h.run pins s σ H v u Q I r (k v σ H Q q)⟩
theorem PGs.imp {X : Cx} {tg : List Expr} {t t' : TGs} (h : PGs X tg t) (k : ∀ v σ H Q, t' v σ H Q → t v σ H Q) : PGs X tg t' := ⟨fun pins s σ H v u Q I r q => h.run pins s σ H v u Q I r (k v σ H Q q)⟩
def bNm (i : Nat) : Bd := fun d ρ _ => some (ρ.set i (some d))
def bNil : List D → Ev → G → Option Ev := fun ds ρ _ => if ds.isEmpty then some ρ else none
def bCons (b : Bd) (c : List D → Ev → G → Option Ev) : List D → Ev → G → Option Ev := fun ds ρ g => match ds with
  | d :: r => (b d ρ g).bind fun ρ1 => c r ρ1 g
  | [] => none
def bTup (n : Nat) (c : List D → Ev → G → Option Ev) : Bd := fun d ρ g => match d with
  | .tup l => if l.length = n then c l ρ g else none
  | _ => none
def bLst (n : Nat) (c : List D → Ev → G → Option Ev) : Bd := fun d ρ g => match d with
  | .ref m => (match g[m]? with
    | some (.lst l) => if l.length = n then c l ρ g else none
    | _ => none)
  | _ => none
theorem wipe_set {σ : L2.St} {i : Nat} {x : Option V} : ∀ {vs : List Nat}, i ∈ vs → wipe (σ.set i x) vs = wipe σ vs
  | [], h => nomatch h
  | v :: vs, h => by
    show (wipe (σ.set i x) vs).set v none = (wipe σ vs).set v none
    by_cases hm : i ∈ vs
    · rw [wipe_set hm]
    · have hv : i = v := by
        rcases List.mem_cons.mp h with e | e
        · exact e
        · exact absurd e hm
      subst hv
      have go : ∀ (vs : List Nat) (τ : L2.St), i ∉ vs → wipe (τ.set i x) vs = (wipe τ vs).set i x := by
        intro vs
        induction vs with
        | nil => intro τ _; rfl
        | cons w ws ih =>
          intro τ hn
          have h1 : w ≠ i := fun e => hn (by rw [e]; exact List.mem_cons_self ..)
          show (wipe (τ.set i x) ws).set w none = ((wipe τ ws).set w none).set i x
          rw [ih τ fun e => hn (List.mem_cons_of_mem _ e), List.set_comm _ _ h1.symm]
      rw [go vs σ hm, List.set_set]
section
variable {X : Cx} {pos : Pos} {x : Str} {e : Expr} {es : List Expr} {b : Bd} {c : List D → Ev → G → Option Ev} {sl sm : List Nat}
theorem fg_nm (i : Nat) (hN : X.N.Nodup) (hx : Loc X.env.scope x) (hi : X.N[i]? = some x := by rfl) (hf : X.fn x = true ∨ X.env.scope.names.lookup x = some .local := by first | exact .inl rfl | exact .inr rfl | assumption) : FG X (.Name x pos) [i] (bNm i) :=
  PG.imp (pg_name hN hi hx hf) fun v σ H Q ⟨ι, ρ, g, d, ρ', rp, re, q, e, k⟩ => by
    cases e
    exact k _ (re.set q i) fun vs h => wipe_set (h i (List.mem_cons_self ..))
theorem fgs_nil : FGs X [] [] bNil := PGs.imp pgs_nil fun v σ H Q ⟨ι, ρ, g, d, ρ', rp, re, q, e, k⟩ => by
  cases q with
  | nil => cases e; exact ⟨rfl, k _ re fun _ _ => rfl⟩
  | cons _ _ => cases e
theorem fgs_cons (h1 : FG X e sl b) (h2 : FGs X es sm c) (hs : ∀ {t : TG} {u : TGs}, PG X e t → PGs X es u → PGs X (e :: es) (gCons t u) := by intro _ _ h1 h2; exact pgs_cons h1 h2) : FGs X (e :: es) (sl ++ sm) (bCons b c) := by
  refine PGs.imp (hs h1 h2) fun v σ H Q ⟨ι, ρ, g, d, ρ', rp, re, q, e, k⟩ => ?_
  cases q with
  | nil => cases e
  | @cons d v ds vs q1 q2 =>
    obtain ⟨ρ1, e1, e2⟩ := Option.bind_eq_some_iff.mp (show (b d ρ g).bind (fun ρ1 => c ds ρ1 g) = some ρ' from e)
    exact ⟨v, vs, rfl, ι, ρ, g, d, ρ1, rp, re, q1, e1, fun σ1 r1 w1 => ⟨ι, ρ1, g, ds, ρ', rp, r1, q2, e2, fun σ2 r2 w2 => k σ2 r2 fun ws hw => (w2 ws fun i hi => hw i (List.mem_append_right _ hi)).trans (w1 ws fun i hi => hw i (List.mem_append_left _ hi))⟩⟩
theorem fg_tup (n : Nat) {k : Nat} (h : FGs X es sl c) (hP : ∀ {t : TGs}, PGs X es t → PG X (.Tuple es k pos) (gTup X.K n t) := by intro _ h; exact pg_tup rfl h) : FG X (.Tuple es k pos) sl (bTup n c) := by
  refine PG.imp (hP h) fun v σ H Q ⟨ι, ρ, g, d, ρ', rp, re, q, e, k⟩ => ?_
  cases q with
  | @tup ds a vs hs q =>
    unfold bTup at e
    simp only at e
    split at e
    · rename_i hl
      exact ⟨a, vs, rfl, hs, by rw [q.length]; exact hl, ι, ρ, g, ds, ρ', rp, re, q, e, k⟩
    · cases e
  | _ => cases e
theorem fg_lst (n : Nat) {k : Nat} (h : FGs X es sl c) (hP : ∀ {t : TGs}, PGs X es t → PG X (.Tuple es k pos) (gLst X.K n t) := by intro _ h; exact pg_lst rfl h) : FG X (.Tuple es k pos) sl (bLst n c) := by
  refine PG.imp (hP h) fun v σ H Q ⟨ι, ρ, g, d, ρ', rp, re, q, e, k⟩ => ?_
  cases q with
  | ref hm =>
    unfold bLst at e
    simp only at e
    split at e
    · rename_i l el
      split at e
      · rename_i hl
        obtain ⟨vs, ev, q⟩ := rp.obj _ _ el
        exact ⟨_, vs, rfl, SqL.of ev, by rw [q.length]; exact hl, ι, ρ, g, l, ρ', rp, re, q, e, k⟩
      · cases e
    · cases e
  | _ => cases e
end

def sAsg (f : Ev → G → Re D) (b : Bd) : Ev → G → Rs := fun ρ g => (f ρ g).st ρ fun d g1 => match b d ρ g1 with
  | some ρ' => .nx ρ' g1
  | none => .bad
/-- o[i] = e, by values -/
def StS (X : Cx) (o : D → D → D → G → Option G) : Prop := ∃ t, PSet X t ∧ ∀ ι g H a b c x y z g' (Q : Hp → Prop), Rep X.K X.mg ι H g → RV X.K ι g.length H a x → RV X.K ι g.length H b y → RV X.K ι g.length H c z → o a b c g = some g' →
  (∀ ι' H', Nx X.K X.mg ι g H ι' g' H' → Q H') → t x y z H Q
def sSub (fe fo fi : Ev → G → Re D) (o : D → D → D → G → Option G) : Ev → G → Rs := fun ρ g => (fe ρ g).st ρ fun d g1 => (fo ρ g1).st ρ fun a g2 => (fi ρ g2).st ρ fun b g3 => match o a b d g3 with
  | some g4 => .nx ρ g4
  | none => .bad
/-- lists -/
def setL : D → D → D → G → Option G := fun a b c g => match a, b with
  | .ref m, .int k => (match g[m]? with
    | some (.lst l) => (match ixN l.length k with
      | some j => some (g.set m (.lst (l.set j c)))
      | none => none)
    | _ => none)
  | _, _ => none
section
variable {X : Cx} {W : WX} {pos : Pos} {e o i tg : Expr} {f fo fi : Ev → G → Re D} {b : Bd} {sl : List Nat}
theorem fs_asg (he : FE X W e f) (hg : FG X tg sl b) (hP : ∀ {te : TE} {t : TG}, PE X e te → PG X tg t → PS X (.Assign [tg] e pos) (tAsg te t) := by intro _ _ h1 h2; exact ps_asg h1 h2) : FS X W (.Assign [tg] e pos) (sAsg f b) := by
  refine PS.imp (hP he hg) fun Z σ H ⟨ι, ρ, g, rp, re, h⟩ => ⟨ι, ρ, g, rp, re, h.st re fun d g1 ι1 H1 v y q k => ?_⟩
  split at k
  · rename_i ρ' e'
    exact ⟨ι1, ρ, g1, d, ρ', y.rep, re.nx y, q, e', fun σ' r' _ => k ι1 H1 σ' (.refl y.rep) r'⟩
  · exact k.elim
theorem fs_sub {st : D → D → D → G → Option G} {p1 : Pos} (hst : StS X st) (he : FE X W e f) (ho : FE X W o fo) (hi : FE X W i fi)
    (hP : ∀ {te to ti : TE} {t : TSet}, PE X e te → PE X o to → PE X i ti → PSet X t → PS X (.Assign [.Subscript o i p1] e pos) (tAsg te (gSub to ti t)) := by intro _ _ _ _ h0 h1 h2 h3; exact ps_asg h0 (pg_sub h1 h2 h3)) : FS X W (.Assign [.Subscript o i p1] e pos) (sSub f fo fi st) := by
  obtain ⟨t, ht, hb⟩ := hst
  refine PS.imp (hP he ho hi ht) fun Z σ H ⟨ι, ρ, g, rp, re, h⟩ => ⟨ι, ρ, g, rp, re, h.st re fun d g1 ι1 H1 v y q k => ⟨ι1, ρ, g1, y.rep, re.nx y, k.st (re.nx y) fun a g2 ι2 H2 va y2 q2 k2 => ⟨ι2, ρ, g2, y2.rep, re.nx (y.trans y2), k2.st (re.nx (y.trans y2)) fun b g3 ι3 H3 vb y3 q3 k3 => ?_⟩⟩⟩
  split at k3
  · rename_i g4 e4
    exact hb ι3 g3 H3 a b d va vb v g4 _ y3.rep (q2.nx y3) q3 (q.nx (y2.trans y3)) e4 fun ι4 H4 y4 => k3 ι4 H4 σ y4 (re.nx (((y.trans y2).trans y3).trans y4))
  · exact k3.elim
theorem st_list : StS X setL := ⟨_, set_list, fun ι g H a b c x y z g' Q rp ra rb rc e k => by
  unfold setL at e
  split at e
  · rename_i m kk
    split at e
    · rename_i l el
      split at e
      · rename_i j ej
        cases e
        cases ra with
        | ref hm =>
          cases rb
          obtain ⟨vs, ev, q⟩ := rp.obj _ _ el
          exact ⟨_, vs, kk, j, rfl, rfl, ev, by rw [q.length]; exact ej, k ι _ (Nx.setL rp el (q.set rc j))⟩
      · cases e
    · cases e
  · cases e⟩
end

/-! ### what is walked -/
abbrev Wt := List (Nat × List D)
/-- the lists that must stand still do -/
def wOk (w : Wt) (g : G) : Bool := w.all fun p => match g[p.1]? with
  | some (.lst l) => D.eqbs l p.2
  | some (.frz l) => D.eqbs l p.2
  | _ => false
theorem wOk_at {w : Wt} {g : G} (h : wOk w g = true) {m : Nat} {l : List D} (hm : (m, l) ∈ w) : g[m]? = some (.lst l) ∨ g[m]? = some (.frz l) := by
  have z := List.all_eq_true.mp h (m, l) hm
  simp only at z
  split at z
  · rename_i l' e; rw [e, D.eqbs_ok z]; exact .inl rfl
  · rename_i l' e; rw [e, D.eqbs_ok z]; exact .inr rfl
  · cases z
def IOk (K : PySem.W.Frag) (mg : Str → Option Value) (ι0 : Nat → Addr) (g0 : G) (H0 : Hp) (J : It) (items : List D) (w : Wt) : Prop := ∀ i ι g H, Nx K mg ι0 g0 H0 ι g H → wOk w g = true →
  (∀ d, items[i]? = some d → J.go i H ∧ ∀ x H', J.yld i H x H' → ∃ ι', Nx K mg ι g H ι' g H' ∧ RV K ι' g.length H' d x) ∧ (items.length = i → J.stop i H)
def Ic (K : PySem.W.Frag) (mg : Str → Option Value) (W : WX) (σ : L2.St) (H : Hp) (ι : Nat → Addr) (g : G) (r : Re (List D × Wt)) (R : It → Hp → Prop) : Prop := match r with
  | .ok p g' => ∀ ι' H' J, Nx K mg ι g H ι' g' H' → IOk K mg ι' g' H' J p.1 p.2 → R J H'
  | .ex c fs g' => ∀ ι' H' cls dd, Nx K mg ι g H ι' g' H' → RX K mg ι' g'.length H' c fs cls dd → W cls dd σ H'
  | .bad => False
theorem Ic.base {K : PySem.W.Frag} {mg : Str → Option Value} {W : WX} {σ : L2.St} {H H1 : Hp} {ι ι1 : Nat → Addr} {g g1 : G} {r : Re (List D × Wt)} {R : It → Hp → Prop} (x : Nx K mg ι g H ι1 g1 H1) (h : Ic K mg W σ H ι g r R) : Ic K mg W σ H1 ι1 g1 r R := by
  cases r with
  | ok d g' => exact fun ι' H' J y q => h ι' H' J (x.trans y) q
  | ex c fs g' => exact fun ι' H' cls dd y q => h ι' H' cls dd (x.trans y) q
  | bad => exact h
theorem Ic.bind {α β : Type} {Rl : (Nat → Addr) → Nat → Hp → α → β → Prop} {K : PySem.W.Frag} {mg : Str → Option Value} {W : WX} {σ : L2.St} {H : Hp} {ι : Nat → Addr} {g : G} {r : Re α} {k : α → G → Re (List D × Wt)} {R : It → Hp → Prop} {P : β → Hp → Prop} (h : Ic K mg W σ H ι g (r.bind k) R)
    (hk : ∀ a g1 ι1 H1 b, Nx K mg ι g H ι1 g1 H1 → Rl ι1 g1.length H1 a b → Ic K mg W σ H1 ι1 g1 (k a g1) R → P b H1) : Tc K mg Rl W σ H ι g r P := by
  cases r with
  | ok d g' => exact fun ι' H' v y q => hk d g' ι' H' v y q (Ic.base y h)
  | ex c fs g' => exact h
  | bad => exact h
def FI (X : Cx) (W : WX) (tg iter : Expr) (f : Ev → G → Re (List D × Wt)) : Prop := PI X tg iter fun σ H R => ∃ ι ρ g, Rep X.K X.mg ι H g ∧ REnv X.K ι g.length H ρ σ ∧ Ic X.K X.mg W σ H ι g (f ρ g) R
theorem PI.imp {X : Cx} {tg e : Expr} {t t' : TI} (h : PI X tg e t) (k : ∀ σ H Q, t' σ H Q → t σ H Q) : PI X tg e t' := ⟨fun pins s σ H Q I q => h.run pins s σ H Q I (k σ H Q q)⟩
theorem drop_get {α : Type} {l : List α} {i : Nat} : (∃ d, l[i]? = some d ∧ l.drop i = d :: l.drop (i + 1)) ∨ (l.length ≤ i ∧ l.drop i = []) := by
  by_cases h : i < l.length
  · exact .inl ⟨l[i], by simp [h], by rw [List.drop_eq_getElem_cons h]⟩
  · exact .inr ⟨by omega, List.drop_eq_nil_of_le (by omega)⟩

def Rs.lp (r : Rs) (k : Ev → G → Rs) : Rs := match r with
  | .nx ρ g => k ρ g
  | .ct ρ g => k ρ g
  | .bk ρ g => .nx ρ g
  | .rt d g => .rt d g
  | .ex c fs ρ g => .ex c fs ρ g
  | .bad => .bad
theorem Sc.lp {K : PySem.W.Frag} {mg : Str → Option Value} {ι : Nat → Addr} {g : G} {H : Hp} {W : WX} {Z : Ends} {r : Rs} {k : Ev → G → Rs} {nx : L2.St → Hp → Prop} (h : Sc K mg W Z H ι g (r.lp k))
    (hk : ∀ ρ1 g1 ι1 H1 σ1, Nx K mg ι g H ι1 g1 H1 → REnv K ι1 g1.length H1 ρ1 σ1 → Sc K mg W Z H1 ι1 g1 (k ρ1 g1) → nx σ1 H1) : Sc K mg W { Z with nx := nx, ct := nx, bk := Z.nx } H ι g r := by
  cases r with
  | nx ρ' g' => exact fun ι' H' v y q => hk ρ' g' ι' H' v y q (Sc.base y h)
  | ct ρ' g' => exact fun ι' H' v y q => hk ρ' g' ι' H' v y q (Sc.base y h)
  | bk ρ' g' => exact h
  | rt d g' => exact h
  | ex c fs ρ' g' => exact h
  | bad => exact h
def runFor (b : Bd) (body : Ev → G → Rs) (w : Wt) : List D → Ev → G → Rs
  | [], ρ, g => if wOk w g = true then .nx ρ g else .bad
  | d :: ds, ρ, g => if wOk w g = true then (match b d ρ g with
    | none => .bad
    | some ρ1 => (body ρ1 g).lp (runFor b body w ds)) else .bad
def sFor (it : Ev → G → Re (List D × Wt)) (b : Bd) (body : Ev → G → Rs) : Ev → G → Rs := fun ρ g => (it ρ g).st ρ fun p g1 => runFor b body p.2 p.1 ρ g1
def runWhile (c : Ev → G → Re Bool) (body : Ev → G → Rs) : Nat → Ev → G → Rs
  | 0, _, _ => .bad
  | n + 1, ρ, g => (c ρ g).st ρ fun k g1 => if k = true then (body ρ g1).lp (runWhile c body n) else .nx ρ g1
section
variable {X : Cx} {W : WX} {pos : Pos} {tg iter c : Expr} {body : List Stmt} {sl : List Nat} {b : Bd} {fi : Ev → G → Re (List D × Wt)} {fb : Ev → G → Rs} {fc : Ev → G → Re Bool}
theorem fs_for (hp : PassesOwn (model X.prog X.w) X.A X.env X.xe) (hc : X.calm = true) (hi : FI X W tg iter fi) (hg : FG X tg sl b) (hb : FB X W body fb) (hs : ∀ x, foldedSetIterable iter X.env x = pure x := by intro _; rfl) : FS X W (.For tg iter body [] pos) (sFor fi b fb) := by
  refine PS.imp (ps_for hp hc hi hg hb hs) fun Z σ H ⟨ι, ρ, g, rp, re, h⟩ => ⟨ι, ρ, g, rp, re, ?_⟩
  unfold sFor at h
  unfold Ic
  split
  · rename_i p g' e
    rw [e] at h
    intro ι' H' J y ok
    refine ⟨fun i m σ1 H1 => m = p.1.length - i ∧ i ≤ p.1.length ∧ ∃ ι1 ρ1 g1, Nx X.K X.mg ι' g' H' ι1 g1 H1 ∧ REnv X.K ι1 g1.length H1 ρ1 σ1 ∧ Sc X.K X.mg W Z H1 ι1 g1 (runFor b fb p.2 (p.1.drop i) ρ1 g1),
      ⟨p.1.length, rfl, Nat.zero_le _, ι', ρ, g', .refl y.rep, re.nx y, Sc.base y h⟩, ?_⟩
    rintro i m σ1 H1 ⟨rfl, hi, ι1, ρ1, g1, y1, re1, h1⟩
    rcases drop_get (l := p.1) (i := i) with ⟨d, ed, e2⟩ | ⟨hl, e2⟩
    · rw [e2] at h1
      unfold runFor at h1
      split at h1
      · rename_i hw
        obtain ⟨go, yl⟩ := (ok i ι1 g1 H1 y1 hw).1 d ed
        have hlt : i < p.1.length := (List.getElem?_eq_some_iff.mp ed).1
        refine .inr ⟨go, fun σ2 H2 => ∃ ι2 ρ2 g2, Nx X.K X.mg ι' g' H' ι2 g2 H2 ∧ REnv X.K ι2 g2.length H2 ρ2 σ2 ∧ Sc X.K X.mg W Z H2 ι2 g2 (runFor b fb p.2 (p.1.drop (i + 1)) ρ2 g2),
          fun σ2 H2 n2 => ⟨p.1.length - (i + 1), by omega, rfl, hlt, n2⟩, fun x H2 yx => ?_⟩
        obtain ⟨ι2, y2, q2⟩ := yl x H2 yx
        split at h1
        · exact h1.elim
        · rename_i ρ2 eb
          refine ⟨ι2, ρ1, g1, d, ρ2, y2.rep, re1.nx y2, q2, eb, fun σ3 r3 _ => ⟨ι2, ρ2, g1, y2.rep, r3, ?_⟩⟩
          exact (Sc.base y2 h1).lp fun ρ4 g4 ι5 H5 σ5 y5 r5 h5 => ⟨ι5, ρ4, g4, y1.trans (y2.trans y5), r5, h5⟩
      · exact h1.elim
    · rw [e2] at h1
      unfold runFor at h1
      split at h1
      · rename_i hw
        exact .inl ⟨(ok i ι1 g1 H1 y1 hw).2 (Nat.le_antisymm hl hi), h1 ι1 H1 σ1 (.refl y1.rep) re1⟩
      · exact h1.elim
  · rename_i c fs g' e
    rw [e] at h
    exact fun ι' H' cls dd y q => h ι' H' cls dd σ y (re.nx y) q
  · rename_i e
    rw [e] at h
    exact h
theorem fs_while (n : Nat) (hp : PassesOwn (model X.prog X.w) X.A X.env X.xe) (hc : FT X W c fc) (hb : FB X W body fb) : FS X W (.While c body [] pos) (runWhile fc fb n) := by
  refine PS.imp (ps_while hp hc hb) fun Z σ H ⟨ι, ρ, g, rp, re, h⟩ => ?_
  refine ⟨fun m σ1 H1 => ∃ ι1 ρ1 g1, Rep X.K X.mg ι1 H1 g1 ∧ REnv X.K ι1 g1.length H1 ρ1 σ1 ∧ Sc X.K X.mg W Z H1 ι1 g1 (runWhile fc fb m ρ1 g1), ⟨n, ι, ρ, g, rp, re, h⟩, ?_⟩
  rintro m σ1 H1 ⟨ι1, ρ1, g1, rp1, re1, h1⟩
  cases m with
  | zero => exact h1.elim
  | succ m =>
    refine ⟨ι1, ρ1, g1, rp1, re1, Sc.st re1 h1 fun k g2 ι2 H2 k' y2 q2 h2 => ?_⟩
    obtain rfl : k = k' := q2
    cases k with
    | false => rw [if_neg Bool.false_ne_true] at h2 ⊢; exact h2 ι2 H2 σ1 (.refl y2.rep) (re1.nx y2)
    | true =>
      rw [if_pos rfl] at h2 ⊢
      refine ⟨fun σ3 H3 => ∃ ι3 ρ3 g3, Rep X.K X.mg ι3 H3 g3 ∧ REnv X.K ι3 g3.length H3 ρ3 σ3 ∧ Sc X.K X.mg W Z H3 ι3 g3 (runWhile fc fb m ρ3 g3), fun σ3 H3 n3 => ⟨m, Nat.lt_succ_self m, n3⟩, ι2, ρ1, g2, y2.rep, re1.nx y2, ?_⟩
      exact h2.lp fun ρ4 g4 ι5 H5 σ5 y5 r5 h5 => ⟨ι5, ρ4, g4, y5.rep, r5, h5⟩
end
end Fc

set_option Elab.async false
set_option linter.all false
set_option maxRecDepth 100000
set_option maxHeartbeats 4000000
/-! Fm: list comprehensions, calls of own defs. -/
namespace Fc
open PySem PySem.Spec PyProof.Rows L2

def FTs (X : Cx) (W : WX) (ifs : List Expr) (f : Ev → G → Re Bool) : Prop := PTs X ifs (tF X.K X.mg Rb W f)
theorem PTs.imp {X : Cx} {e : List Expr} {t t' : TT} (h : PTs X e t) (k : ∀ σ H Q, t' σ H Q → t σ H Q) : PTs X e t' := ⟨fun pins s σ H Q I q => h.run pins s σ H Q I (k σ H Q q)⟩
def fYes : Ev → G → Re Bool := fun _ g => .ok true g
section
variable {X : Cx} {W : WX} {c : Expr} {f : Ev → G → Re Bool}
theorem fts_nil : FTs X W [] fYes := PTs.imp pts_nil fun σ H Q ⟨ι, ρ, g, rp, re, h⟩ => h.ok (.refl rp) rfl
theorem fts_one (h : FT X W c f) : FTs X W [c] f := pts_one h
end
/-- the slots of a block's own names forgotten -/
def wipeE (ρ : Ev) : List Nat → Ev
  | [] => ρ
  | v :: vs => (wipeE ρ vs).set v none
theorem REnv.none {K : PySem.W.Frag} {ι : Nat → Addr} {n : Nat} {H : Hp} {ρ : Ev} {σ : L2.St} (r : REnv K ι n H ρ σ) (i : Nat) : REnv K ι n H (ρ.set i none) (σ.set i none) := by
  refine ⟨by simp [r.len], fun j e h => ?_⟩
  by_cases hj : i = j
  · subst hj
    by_cases hi : i < ρ.length
    · rw [List.getElem?_set_self hi] at h; cases h
    · rw [List.getElem?_eq_none_iff.mpr (by simp; omega)] at h; cases h
  · rw [List.getElem?_set_ne hj] at h
    obtain ⟨w, h1, h2⟩ := r.get j e h
    exact ⟨w, by rw [List.getElem?_set_ne hj]; exact h1, h2⟩
theorem REnv.wipe {K : PySem.W.Frag} {ι : Nat → Addr} {n : Nat} {H : Hp} {ρ : Ev} {σ : L2.St} (r : REnv K ι n H ρ σ) : ∀ vs : List Nat, REnv K ι n H (wipeE ρ vs) (L2.wipe σ vs)
  | [] => r
  | v :: vs => (REnv.wipe r vs).none v

def goLc (b : Bd) (ft : Ev → G → Re Bool) (fe : Ev → G → Re D) (w : Wt) (L : Nat) (ρ : Ev) : List D → G → Re Unit
  | [], g => if wOk w g = true then .ok () g else .bad
  | d :: ds, g => if wOk w g = true then (match b d ρ g with
    | none => .bad
    | some ρ1 => (noEx (ft ρ1 g)).bind fun k g2 => if k = true then (noEx (fe ρ1 g2)).bind fun y g3 => (match g3[L]? with
        | some (.lst acc) => if acc.length < sizeLine then goLc b ft fe w L ρ ds (g3.set L (.lst (acc ++ [y]))) else .bad
        | _ => .bad) else goLc b ft fe w L ρ ds g2) else .bad
def fLc (it : Ev → G → Re (List D × Wt)) (b : Bd) (ft : Ev → G → Re Bool) (fe : Ev → G → Re D) (vs : List Nat) : Ev → G → Re D := fun ρ g =>
  (it ρ g).bind fun p g1 => (goLc b ft fe p.2 g1.length (wipeE ρ vs) p.1 (g1 ++ [.lst []])).bind fun _ g2 => .ok (.ref g1.length) g2
theorem Tc.noex {α β γ δ : Type} {K : PySem.W.Frag} {mg : Str → Option Value} {Rl : (Nat → Addr) → Nat → Hp → α → β → Prop} {Rm : (Nat → Addr) → Nat → Hp → γ → δ → Prop} {W W' : WX} {σ σ' : L2.St} {H : Hp} {ι : Nat → Addr} {g : G} {r : Re α} {k : α → G → Re γ} {Q : δ → Hp → Prop} {P : β → Hp → Prop}
    (h : Tc K mg Rm W σ H ι g ((noEx r).bind k) Q) (hk : ∀ a g1 ι1 H1 b, Nx K mg ι g H ι1 g1 H1 → Rl ι1 g1.length H1 a b → Tc K mg Rm W σ H1 ι1 g1 (k a g1) Q → P b H1) : Tc K mg Rl W' σ' H ι g r P := by
  cases r with
  | ok d g' => exact fun ι' H' v y q => hk d g' ι' H' v y q (Tc.base y h)
  | ex c fs g' => exact h.elim
  | bad => exact h.elim
theorem Re.bind_assoc {α β γ : Type} (r : Re α) (k : α → G → Re β) (l : β → G → Re γ) : (r.bind k).bind l = r.bind fun a g => (k a g).bind l := by cases r <;> rfl
section
variable {X : Cx} {W : WX} {elt tg iter : Expr} {ifs : List Expr} {scope : Scope} {own : List (Str × Nat)} {pos : Pos} {fi : Ev → G → Re (List D × Wt)} {b : Bd} {ft : Ev → G → Re Bool} {fe : Ev → G → Re D} {sl : List Nat}
theorem lc_read {tt : TT} {te : TE} {wi : TI} {σ : L2.St} {H : Hp} {Q : VK} (hsl : ∀ i ∈ sl, i ∈ own.map (·.2))
    (hwi : ∀ σ H R, (∃ ι ρ g, Rep X.K X.mg ι H g ∧ REnv X.K ι g.length H ρ σ ∧ Ic X.K X.mg W σ H ι g (fi ρ g) R) → wi σ H R)
    (htt : ∀ σ H Q, tF X.K X.mg Rb W0 ft σ H Q → tt σ H Q) (hte : ∀ σ H Q, tF X.K X.mg (RV X.K) W0 fe σ H Q → te σ H Q)
    (h : tF X.K X.mg (RV X.K) W (fLc fi b ft fe (own.map (·.2))) σ H Q) : tLc wi (gF X.K X.mg sl b) tt te (own.map (·.2)) σ H Q := by
  obtain ⟨ι, ρ, g, rp, re, h⟩ := h
  refine hwi σ H _ ⟨ι, ρ, g, rp, re, ?_⟩
  unfold fLc at h
  unfold Ic
  split
  · rename_i p g' e
    rw [e] at h
    intro ι' H' J y ok D hD
    have hw : ∀ vs : List Nat, wipe (wipe σ vs) vs = wipe σ vs := by
      intro vs
      induction vs with
      | nil => rfl
      | cons v vs ih =>
        show (wipe ((wipe σ vs).set v Option.none) vs).set v Option.none = (wipe σ vs).set v Option.none
        by_cases hm : v ∈ vs
        · rw [wipe_set hm, ih]
        · have z : wipe ((wipe σ vs).set v Option.none) vs = (wipe (wipe σ vs) vs).set v Option.none := by
            have go : ∀ (ws : List Nat) (τ : L2.St), v ∉ ws → wipe (τ.set v Option.none) ws = (wipe τ ws).set v Option.none := by
              intro ws
              induction ws with
              | nil => intro τ _; rfl
              | cons w ws ih2 =>
                intro τ hn
                have h1 : w ≠ v := fun e => hn (by rw [e]; exact List.mem_cons_self ..)
                show (wipe (τ.set v Option.none) ws).set w Option.none = ((wipe τ ws).set w Option.none).set v Option.none
                rw [ih2 τ fun e => hn (List.mem_cons_of_mem _ e), List.set_comm _ _ h1.symm]
            exact go vs _ hm
          rw [z, ih, List.set_set]
    have y0 : Nx X.K X.mg ι' g' H' (ix ι' g'.length D) (g' ++ [.lst []]) (upd H' D (.lst [])) := Nx.newL y.rep hD .nil
    have h0 : Tc X.K X.mg (RV X.K) W σ (upd H' D (.lst [])) (ix ι' g'.length D) (g' ++ [.lst []]) ((goLc b ft fe p.2 g'.length (wipeE ρ (own.map (·.2))) p.1 (g' ++ [.lst []])).bind fun _ g2 => .ok (.ref g'.length) g2) Q := Tc.base (y.trans y0) h
    have lenL : g'.length < (g' ++ [O.lst []]).length := by simp
    refine ⟨fun i m H1 => m = p.1.length - i ∧ i ≤ p.1.length ∧ ∃ ι1 g1, Nx X.K X.mg (ix ι' g'.length D) (g' ++ [.lst []]) (upd H' D (.lst [])) ι1 g1 H1 ∧
      Tc X.K X.mg (RV X.K) W σ H1 ι1 g1 ((goLc b ft fe p.2 g'.length (wipeE ρ (own.map (·.2))) (p.1.drop i) g1).bind fun _ g2 => .ok (.ref g'.length) g2) Q, ⟨p.1.length, rfl, Nat.zero_le _, _, _, .refl y0.rep, h0⟩, ?_⟩
    rintro i m H1 ⟨rfl, hi, ι1, g1, y1, h1⟩
    have eD : ι1 g'.length = D := by rw [y1.agr _ lenL, ix_same]
    rcases drop_get (l := p.1) (i := i) with ⟨d, ed, e2⟩ | ⟨hl, e2⟩
    · rw [e2] at h1
      unfold goLc at h1
      split at h1
      · rename_i hw1
        obtain ⟨go, yl⟩ := (ok i ι1 g1 H1 (y0.trans y1) hw1).1 d ed
        have hlt : i < p.1.length := (List.getElem?_eq_some_iff.mp ed).1
        refine .inr ⟨go, fun H2 => ∃ ι2 g2, Nx X.K X.mg (ix ι' g'.length D) (g' ++ [.lst []]) (upd H' D (.lst [])) ι2 g2 H2 ∧
          Tc X.K X.mg (RV X.K) W σ H2 ι2 g2 ((goLc b ft fe p.2 g'.length (wipeE ρ (own.map (·.2))) (p.1.drop (i + 1)) g2).bind fun _ g2 => .ok (.ref g'.length) g2) Q, fun H2 n2 => ⟨p.1.length - (i + 1), by omega, rfl, hlt, n2⟩, fun x H2 yx => ?_⟩
        obtain ⟨ι2, y2, q2⟩ := yl x H2 yx
        split at h1
        · exact h1.elim
        · rename_i ρ2 eb
          refine ⟨ι2, _, g1, d, ρ2, y2.rep, (re.nx (y.trans (y0.trans (y1.trans y2)))).wipe _, q2, eb, fun σ3 r3 w3 => ⟨(w3 _ hsl).trans (hw _), htt _ _ _ ⟨ι2, ρ2, g1, y2.rep, r3, ?_⟩⟩⟩
          have h2 := Tc.base y2 h1
          rw [Re.bind_assoc] at h2
          refine h2.noex fun k g3 ι3 H3 k' y3 q3 h3 => ?_
          obtain rfl : k = k' := q3
          cases k with
          | false =>
            rw [if_neg Bool.false_ne_true] at h3 ⊢
            exact ⟨ι3, g3, y1.trans (y2.trans y3), h3⟩
          | true =>
            rw [if_pos rfl] at h3 ⊢
            refine hte _ _ _ ⟨ι3, ρ2, g3, y3.rep, r3.nx y3, ?_⟩
            rw [Re.bind_assoc] at h3
            refine h3.noex fun a g4 ι4 H4 v y4 q4 h4 => ?_
            have e4 : ι4 g'.length = D := by rw [((y1.trans (y2.trans (y3.trans y4))).agr _ lenL), ix_same]
            split at h4
            · rename_i acc ea
              split at h4
              · rename_i hz
                obtain ⟨ws, ew, rw⟩ := y4.rep.obj _ _ ea
                rw [e4] at ew
                refine ⟨ws, ew, by rw [rw.length]; exact hz, ?_⟩
                have y5 := Nx.setL y4.rep ea (rw.append (.cons q4 .nil))
                rw [e4] at y5
                exact ⟨ι4, _, y1.trans (y2.trans (y3.trans (y4.trans y5))), Tc.base y5 h4⟩
              · exact h4.elim
            · exact h4.elim
      · exact h1.elim
    · rw [e2] at h1
      unfold goLc at h1
      split at h1
      · rename_i hw1
        refine .inl ⟨(ok i ι1 g1 H1 (y0.trans y1) hw1).2 (Nat.le_antisymm hl hi), ?_⟩
        have z := RV.ref (K := X.K) (ι := ι1) (n := g1.length) (H := H1) (m := g'.length) (Nat.lt_of_lt_of_le lenL y1.len)
        rw [eD] at z
        exact h1.ok (.refl y1.rep) z
      · exact h1.elim
  · rename_i c fs g' e
    rw [e] at h
    exact h
  · rename_i e
    rw [e] at h
    exact h
theorem fe_lc (own : List (Str × Nat)) (hc : X.calm = true) (hN : X.N.Nodup) (hi : FI X W tg iter fi) (ok : BlkOk X.N X.env.scope scope own)
    (hg : ∀ (s : Shared) (H : Hp) (C : Addr) (cl : List (Str × Addr)) (fp : List Addr), FG (X.blk s H scope (compEnvC scope cl C X.env) fp) tg sl b)
    (ht : ∀ (s : Shared) (H : Hp) (C : Addr) (cl : List (Str × Addr)) (fp : List Addr), FTs (X.blk s H scope (compEnvC scope cl C X.env) fp) W0 ifs ft)
    (he : ∀ (s : Shared) (H : Hp) (C : Addr) (cl : List (Str × Addr)) (fp : List Addr), FE (X.blk s H scope (compEnvC scope cl C X.env) fp) W0 elt fe)
    (hsl : ∀ i ∈ sl, i ∈ own.map (·.2) := by decide) (hs : ∀ x, foldedSetIterable iter X.env x = pure x := by intro _; rfl) : FE X W (.ListComp elt [⟨tg, iter, ifs, 0⟩] scope pos) (fLc fi b ft fe (own.map (·.2))) :=
  PE.imp (pe_lc (g := gF X.K X.mg sl b) (tt := tF X.K X.mg Rb W0 ft) (te := tF X.K X.mg (RV X.K) W0 fe) hc hN hi ok hg ht he hs) fun σ H Q h => lc_read hsl (fun _ _ _ h => h) (fun _ _ _ h => h) (fun _ _ _ h => h) h
theorem fs_setLc (i : Nat) {y : Str} {py spos : Pos} (own : List (Str × Nat)) (hc : X.calm = true) (hN : X.N.Nodup) (hyl : X.env.scope.names.lookup y = some .local) (hi : FI X W tg iter fi) (ok : BlkOk X.N X.env.scope scope own)
    (hg : ∀ (s : Shared) (H : Hp) (C : Addr) (cl : List (Str × Addr)) (fp : List Addr), FG (X.blk s H scope (compEnvC scope cl C X.env) fp) tg sl b)
    (ht : ∀ (s : Shared) (H : Hp) (C : Addr) (cl : List (Str × Addr)) (fp : List Addr), FTs (X.blk s H scope (compEnvC scope cl C X.env) fp) W0 ifs ft)
    (he : ∀ (s : Shared) (H : Hp) (C : Addr) (cl : List (Str × Addr)) (fp : List Addr), FE (X.blk s H scope (compEnvC scope cl C X.env) fp) W0 elt fe)
    (hsl : ∀ i ∈ sl, i ∈ own.map (·.2) := by decide) (hs : ∀ x, foldedSetIterable iter X.env x = pure x := by intro _; rfl) (hy : X.N[i]? = some y := by rfl)
    (hsw : swapsWith (.ListComp elt [⟨tg, iter, ifs, 0⟩] scope pos) (some (.Name y py)) spos.line X.env = pure true := by exact sw_true rfl rfl rfl (by decide +kernel)) :
    FS X W (.Assign [.Name y py] (.ListComp elt [⟨tg, iter, ifs, 0⟩] scope pos) spos) (sSet i (fLc fi b ft fe (own.map (·.2)))) :=
  PS.imp (ps_setLc (g := gF X.K X.mg sl b) (tt := tF X.K X.mg Rb W0 ft) (te := tF X.K X.mg (RV X.K) W0 fe) hc hN hy hyl hsw hi ok hg ht he hs) fun Z σ H ⟨ι, ρ, g, rp, re, h⟩ => by
    refine lc_read (W := W) hsl (fun _ _ _ h => h) (fun _ _ _ h => h) (fun _ _ _ h => h) ⟨ι, ρ, g, rp, re, ?_⟩
    exact h.st re fun d g1 ι1 H1 v y q k => k ι1 H1 _ (.refl y.rep) ((re.nx y).set q i)
end
end Fc

set_option Elab.async false
set_option linter.all false
set_option maxRecDepth 100000
set_option maxHeartbeats 4000000
/-! Fn: own defs: their promise by a denotation, their calls. -/
namespace Fc
open PySem PySem.Spec PyProof.Rows L2

abbrev Fun1 := List D → G → Re D
abbrev Fun2 := List D → List D → G → Re D
/-- what is wanted of a call's outcome -/
def Cc (K : PySem.W.Frag) (mg : Str → Option Value) (H : Hp) (ι : Nat → Addr) (g : G) (r : Re D) (Q : VK) (E : XK) : Prop := match r with
  | .ok d g' => ∀ ι' H' v, Nx K mg ι g H ι' g' H' → RV K ι' g'.length H' d v → Q v H'
  | .ex c fs g' => ∀ ι' H' cls dd, Nx K mg ι g H ι' g' H' → RX K mg ι' g'.length H' c fs cls dd → E cls dd H'
  | .bad => False
def spF (K : PySem.W.Frag) (mg : Str → Option Value) (n : Nat) (φ : Fun1) : Sp := fun vs H Q E => vs.length = n ∧ ∃ ι g ds, Rep K mg ι H g ∧ RVs K ι g.length H ds vs ∧ Cc K mg H ι g (φ ds g) Q E
def spK (K : PySem.W.Frag) (mg : Str → Option Value) (φ : Fun2) (vs zs : List V) (H : Hp) (Q : VK) (E : XK) : Prop := ∃ ι g ds es, Rep K mg ι H g ∧ RVs K ι g.length H ds vs ∧ RVs K ι g.length H es zs ∧ Cc K mg H ι g (φ ds es g) Q E
theorem Cc.base {K : PySem.W.Frag} {mg : Str → Option Value} {ι ι1 : Nat → Addr} {g g1 : G} {H H1 : Hp} {r : Re D} {Q : VK} {E : XK} (x : Nx K mg ι g H ι1 g1 H1) (h : Cc K mg H ι g r Q E) : Cc K mg H1 ι1 g1 r Q E := by
  cases r with
  | ok d g' => exact fun ι' H' v y q => h ι' H' v (x.trans y) q
  | ex c fs g' => exact fun ι' H' cls dd y q => h ι' H' cls dd (x.trans y) q
  | bad => exact h
/-- a body's end -/
def runB (f : Ev → G → Rs) (ρ : Ev) (g : G) : Re D := match f ρ g with
  | .nx _ g' => .ok .non g'
  | .rt d g' => .ok d g'
  | .ex c fs _ g' => .ex c fs g'
  | _ => .bad
def ini (n : Nat) (ds : List D) : Ev := ds.map some ++ List.replicate (n - ds.length) none
section
variable {K : PySem.W.Frag} {mg : Str → Option Value}
theorem ini_env {ι : Nat → Addr} {n : Nat} {H : Hp} {N : List Str} {ds : List D} {vs : List V} (r : RVs K ι n H ds vs) : REnv K ι n H (ini N.length ds) (L2.start N vs) := by
  have hl := r.length
  refine ⟨by unfold ini L2.start; simp [hl], fun i d e => ?_⟩
  unfold ini at e
  unfold L2.start
  by_cases h : i < ds.length
  · rw [List.getElem?_append_left (by simpa using h), List.getElem?_map] at e
    cases e1 : ds[i]? with
    | none => rw [e1] at e; cases e
    | some d' =>
      rw [e1] at e
      cases e
      obtain ⟨v, ev, q⟩ := r.get e1
      exact ⟨v, by rw [List.getElem?_append_left (by simpa [hl] using h), List.getElem?_map, ev] <;> rfl, q⟩
  · rw [List.getElem?_append_right (by simpa using h), List.getElem?_replicate] at e
    split at e <;> cases e
theorem body_read {ι : Nat → Addr} {g : G} {H : Hp} {ρ : Ev} {σ : L2.St} {f : Ev → G → Rs} {Q : VK} {E : XK} (rp : Rep K mg ι H g) (re : REnv K ι g.length H ρ σ) (h : Cc K mg H ι g (runB f ρ g) Q E) :
    tS K mg (fun cls d _ H' => E cls d H') f { nx := fun _ H' => Q .non H', rt := Q } σ H := by
  refine ⟨ι, ρ, g, rp, re, ?_⟩
  unfold runB at h
  cases e : f ρ g with
  | nx ρ' g' => rw [e] at h; exact fun ι' H' σ' y _ => h ι' H' .non y .non
  | rt d g' => rw [e] at h; exact h
  | ex c fs ρ' g' => rw [e] at h; exact fun ι' H' cls dd σ' y _ q => h ι' H' cls dd y q
  | bk ρ' g' => rw [e] at h; exact h.elim
  | ct ρ' g' => rw [e] at h; exact h.elim
  | bad => rw [e] at h; exact h.elim
end
section
variable {P : Program} {w : World} {K : PySem.W.Frag} {mg : Str → Option Value} {base : Heap} {x qual : Str} {params : Arguments} {body : List Stmt} {scope : Scope} {dvs : List V} {kws : List (Str × V)} {f : Addr} {fd : FuncData}
/-- THE RULE for a def -/
theorem fun_ok {N ps : List Str} {k : Nat} {fb : Ev → G → Rs} (F : FunD K x qual params body scope dvs kws f fd) (S : FnScope N ps scope)
    (hbody : ∀ (cdv : Value) (A : Around) (outer : List Env) (s : Shared) (H : Hp) (E : XK), Room k (A.deeper (envOfC qual scope s.heap.objs.size f cdv)) →
      FB (cxOf (L2.CX P w) P w K mg base N qual scope f cdv A outer s H E) (fun cls d _ H' => E cls d H') body fb) :
    FnOk P w K mg base (L2.CX P w) (k + 1) f fd ps (spF K mg ps.length fun ds g => runB fb (ini N.length ds) g) :=
  F.ok S (fun vs H Q E h => h.1) fun cdv A outer s H vs Q E hr ⟨_, ι, g, ds, rp, rv, h⟩ => ⟨_, hbody cdv A outer s H E hr, body_read rp (ini_env rv) h⟩
/-- a call with positional arguments and keywords named ks does φ -/
def CallF (P : Program) (w : World) (K : PySem.W.Frag) (mg : Str → Option Value) (base : Heap) (k : Nat) (f : Addr) (ks : List Str) (φ : Fun2) : Prop :=
  ∀ (A : Around) (outer : List Env) (s : Shared) (H : Hp) (us ws : List Value) (vs zs : List V) (Q : VK) (E : XK), Room k A → Env0 P w K mg base A outer s H → Vals vs us → Vals zs ws → ws.length = ks.length → spK K mg φ vs zs H Q E →
    codeAny (model P w) A (.call (.ref f) ⟨us, ks.zip ws⟩) (CR (L2.CX P w) outer P w H s Q E) s
theorem callF_bad {k : Nat} {ks : List Str} : CallF P w K mg base k f ks (fun _ _ _ => .bad) := fun A outer s H us ws vs zs Q E _ _ _ _ _ ⟨_, _, _, _, _, _, _, h⟩ => h.elim
/-- arrange what is written in the order of the parameters: place i of the positional ones, place i of the keywords, a constant -/
inductive Ar where
  | pos (i : Nat) | kw (i : Nat) | dfl (d : D)
def Ar.get (ds es : List D) : Ar → Option D
  | .pos i => ds[i]?
  | .kw i => es[i]?
  | .dfl d => some d
/-- the positional parameters alone, all written -/
theorem callF_pos {k : Nat} {ps : List Str} {φ : Fun1} (F : FnOk P w K mg base (L2.CX P w) k f fd ps (spF K mg ps.length φ)) (hb : Binds K fd ps []) : CallF P w K mg base k f [] (fun ds _ g => if ds.length = ps.length then φ ds g else .bad) := by
  intro A outer s H us ws vs zs Q E hr e0 r rz hl ⟨ι, g, ds, es, rp, rv, _, h⟩
  dsimp only at h
  have ew : ws = [] := List.eq_nil_of_length_eq_zero hl
  subst ew
  split at h
  · rename_i hd
    have l1 : us.length = ps.length := by rw [← r.length, rv.length, hd]
    have b := hb s us (e0.mod.kin.keeps fun b o e => (e0.bs b o e).1) (by rw [List.append_nil]; exact l1)
    rw [List.append_nil] at b
    exact F.run A outer s H ⟨us, []⟩ us vs Q E hr e0 b r ⟨by rw [rv.length, hd], ι, g, ds, rp, rv, h⟩
  · exact h.elim
/-- with keywords, or defaults: arr says which argument goes where; a default stands in the def (values ds0, equal data) -/
theorem callF_arr {k n : Nat} {ps ks : List Str} {φ : Fun1} {g : List Value → List Value → List Value} {gV : List V → List V → List V} (F : FnOk P w K mg base (L2.CX P w) k f fd ps (spF K mg ps.length φ)) (hb : KBn K fd ps n ks g gV) (gD : List D → List D → List D)
    (hg : ∀ ι m H ds es vs zs, RVs K ι m H ds vs → RVs K ι m H es zs → ds.length = n → es.length = ks.length → RVs K ι m H (gD ds es) (gV vs zs)) (hn : ∀ ds es : List D, ds.length = n → es.length = ks.length → (gD ds es).length = ps.length) :
    CallF P w K mg base k f ks (fun ds es g => if ds.length = n ∧ es.length = ks.length then φ (gD ds es) g else .bad) := by
  intro A outer s H us ws vs zs Q E hr e0 r rz hl ⟨ι, g', ds, es, rp, rv, rw, h⟩
  dsimp only at h
  split at h
  · rename_i hd
    have r2 := hg ι _ H ds es vs zs rv rw hd.1 hd.2
    have l1 : us.length = n := by rw [← r.length, rv.length, hd.1]
    exact F.run A outer s H ⟨us, ks.zip ws⟩ (g us ws) (gV vs zs) Q E hr e0 (hb.to s us ws (e0.mod.kin.keeps fun b o e => (e0.bs b o e).1) l1 hl) (hb.rel r rz) ⟨by rw [r2.length, hn _ _ hd.1 hd.2], ι, g', gD ds es, rp, r2, h⟩
  · exact h.elim
end
def fCallK (φ : Fun2) (fr fk : Ev → G → Re (List D)) : Ev → G → Re D := fun ρ g => (fr ρ g).bind fun ds g1 => (fk ρ g1).bind fun es g2 => φ ds es g2
def fCallF (φ : Fun2) (fr : Ev → G → Re (List D)) : Ev → G → Re D := fun ρ g => (fr ρ g).bind fun ds g1 => φ ds [] g1
def FK (X : Cx) (W : WX) (kws : List Keyword) (n : Nat) (f : Ev → G → Re (List D)) : Prop := PK X kws (tF X.K X.mg (RVs X.K) W f) ∧ ∀ ρ g ds g', f ρ g = .ok ds g' → ds.length = n
theorem PK.imp {X : Cx} {e : List Keyword} {t t' : TA} (h : PK X e t) (k : ∀ σ H Q, t' σ H Q → t σ H Q) : PK X e t' := ⟨fun p pins s σ H Q I q => h.run p pins s σ H Q I (k σ H Q q)⟩
/-- a def of the module's top, at level k -/
structure TabF (P : Program) (w : World) (K : PySem.W.Frag) (mg : Str → Option Value) (base : Heap) (k : Nat) (x : Str) (ks : List Str) (φ : Fun2) : Prop where
  ex : ∃ f, mg x = some (.ref f) ∧ PySem.W.keepIn K (.ref f) = true ∧ CallF P w K mg base k f ks φ
section
variable {X : Cx} {W : WX} {k : Nat} {f : Addr} {ks : List Str} {φ : Fun2} {x : Str} {p pos kpos : Pos} {e : Expr} {es : List Expr} {kws : List Keyword} {fr fk : Ev → G → Re (List D)} {fe : Ev → G → Re D} {nm : Option Str}
theorem fk_nil : FK X W [] 0 fNil := ⟨PK.imp pk_nil fun σ H Q ⟨ι, ρ, g, rp, re, h⟩ => h.ok (.refl rp) .nil, fun ρ g ds g' h => by cases h; rfl⟩
theorem fk_cons {n : Nat} (ha : FE X W e fe) (hr : FK X W kws n fk) : FK X W (⟨nm, e, kpos⟩ :: kws) (n + 1) (fCons fe fk) :=
  ⟨PK.imp (pk_cons ha hr.1) fun σ H Q ⟨ι, ρ, g, rp, re, h⟩ => ⟨ι, ρ, g, rp, re, h.bind fun d g1 ι1 H1 v x1 q1 h1 => ⟨ι1, ρ, g1, x1.rep, re.nx x1, h1.bind fun e g2 ι2 H2 w x2 q2 h2 => h2.ok (.refl x2.rep) (.cons (q1.nx x2) q2)⟩⟩,
    fun ρ g ds g' h => by
      unfold fCons at h
      cases e1 : fe ρ g with
      | ok a g1 =>
        rw [e1] at h
        simp only [Re.bind] at h
        cases e2 : fk ρ g1 with
        | ok r g2 =>
          rw [e2] at h
          simp only [Re.ok.injEq] at h
          rw [← h.1]
          exact congrArg Nat.succ (hr.2 _ _ _ _ e2)
        | ex c fs g2 => rw [e2] at h; cases h
        | bad => rw [e2] at h; cases h
      | ex c fs g1 => rw [e1] at h; cases h
      | bad => rw [e1] at h; cases h⟩
theorem run_callF {pins : List (Addr × Obj)} {σ : L2.St} {H : Hp} {s : Shared} {Q : VK} {us ws : List Value} {vs zs : List V} (C : CallF X.prog X.w X.K X.mg X.base k f ks φ) (hr : Room k X.A) (tk : Takes X W) (I : Inv X pins σ H s) (r : Vals vs us) (rz : Vals zs ws) (hl : ws.length = ks.length)
    (h : spK X.K X.mg φ vs zs H Q (WE W σ)) : wpAny (model X.prog X.w) X.A (call (.ref f) us (ks.zip ws)) (EP X pins σ Q) X.xe s := by
  refine wpAny_call (codeAny_mono (C X.A X.stack s H us ws vs zs Q (WE W σ) hr I.env0 r rz hl h) fun r s' hq => ?_)
  cases r with
  | error e => exact passAt tk σ pins H s e s' I hq
  | ok fl =>
    cases fl with
    | ret u => exact I.after hq
    | next => exact False.elim hq
    | brk => exact False.elim hq
    | cont => exact False.elim hq
theorem Tc.cc {σ : L2.St} {H : Hp} {ι : Nat → Addr} {g : G} {r : Re D} {Q : VK} (h : Tc X.K X.mg (RV X.K) W σ H ι g r Q) : Cc X.K X.mg H ι g r Q (WE W σ) := by
  cases r with
  | ok d g' => exact h
  | ex c fs g' => exact h
  | bad => exact h
theorem fe_call (C : TabF X.prog X.w X.K X.mg X.base k x [] φ) (hr : Room k X.A) (tk : Takes X W) (ha : FA X W (e :: es) fr) (hg : Gl X x := by rfl) (hdb : (x == ("__debug__" : Str)) = false := by decide)
    (he : starEach (e :: es) X.env = (false, eval e X.env) :: starEach es X.env := by rfl) (hpl : (backTo pos (starEach es X.env)).any (·.1) = false := by rfl) : FE X W (.Call (.Name x p) (e :: es) [] pos) (fCallF φ fr) := by
  obtain ⟨f, hm, hk, C⟩ := C.ex
  refine ⟨fun pins s σ H Q I ⟨ι, ρ, g, rp, re, h⟩ => ?_⟩
  refine wpAny_Call_Name_kw (ld_glob I hg hm ?_ hdb)
  have ha' := ha.run pos pins s σ H (fun vs H1 => spK X.K X.mg φ vs [] H1 Q (WE W σ)) I ⟨ι, ρ, g, rp, re, h.bind fun ds g1 ι1 H1 vs y q k => ⟨ι1, g1, ds, [], y.rep, q, .nil, k.cc⟩⟩
  refine PySem.W.callWith_K (h₀ := X.base) I.ok.mod.kin hk (thn ha' fun us s1 ⟨vs, H1, I1, r, q⟩ => ⟨I1.kIn, ?_⟩) he hpl
  exact run_callF (ws := []) (zs := []) C hr tk I1 r .nil rfl q
theorem fe_call0 (C : TabF X.prog X.w X.K X.mg X.base k x [] φ) (hr : Room k X.A) (tk : Takes X W) (hg : Gl X x := by rfl) (hdb : (x == ("__debug__" : Str)) = false := by decide) : FE X W (.Call (.Name x p) [] [] pos) (fCallF φ fNil) := by
  obtain ⟨f, hm, hk, C⟩ := C.ex
  refine ⟨fun pins s σ H Q I ⟨ι, ρ, g, rp, re, h⟩ => ?_⟩
  refine wpAny_Call_Name_kw (ld_glob I hg hm ?_ hdb)
  exact PySem.W.callWith_K0 I.kIn hk (run_callF (us := []) (ws := []) (zs := []) C hr tk I .nil .nil rfl ⟨ι, g, [], [], rp, .nil, .nil, h.cc⟩)
theorem vals_len {xs : List V} {us : List Value} (r : Vals xs us) : us.length = xs.length := r.length.symm
theorem fe_callK (C : TabF X.prog X.w X.K X.mg X.base k x ks φ) (hr : Room k X.A) (tk : Takes X W) (ha : FA X W (e :: es) fr) (hkw : FK X W kws ks.length fk) (hg : Gl X x := by rfl) (hdb : (x == ("__debug__" : Str)) = false := by decide)
    (hall : (backToKw pos (keywordEach kws X.env)).all (·.1.isSome) = true := by rfl) (hks : (backToKw pos (keywordEach kws X.env)).filterMap (·.1) = ks := by rfl)
    (he : starEach (e :: es) X.env = (false, eval e X.env) :: starEach es X.env := by rfl) (hpl : ((backTo pos (starEach (e :: es) X.env)).any (·.1) || (backToKw pos (keywordEach kws X.env)).any (·.1.isNone)) = false := by rfl) :
    FE X W (.Call (.Name x p) (e :: es) kws pos) (fCallK φ fr fk) := by
  obtain ⟨f, hm, hk, C⟩ := C.ex
  refine ⟨fun pins s σ H Q I ⟨ι, ρ, g, rp, re, h⟩ => ?_⟩
  refine wpAny_Call_Name_kw (ld_glob I hg hm ?_ hdb)
  have ha' := ha.run pos pins s σ H (fun vs H1 => tF X.K X.mg (RVs X.K) W fk σ H1 fun zs H2 => zs.length = ks.length ∧ spK X.K X.mg φ vs zs H2 Q (WE W σ)) I
    ⟨ι, ρ, g, rp, re, h.bind fun ds g1 ι1 H1 vs y q k => ⟨ι1, ρ, g1, y.rep, re.nx y, by
      have k' := k
      cases e1 : fk ρ g1 with
      | ok es' g2 =>
        rw [e1] at k
        exact fun ι2 H2 zs y2 q2 => ⟨by rw [q2.length]; exact hkw.2 _ _ _ _ e1, ι2, g2, ds, es', y2.rep, q.nx y2, q2, (Tc.base y2 k).cc⟩
      | ex c fs g2 => rw [e1] at k; exact k
      | bad => rw [e1] at k; exact k⟩⟩
  refine PySem.W.callWith_KW (h₀ := X.base) I.ok.mod.kin hk hall (thn ha' fun us s1 ⟨vs, H1, I1, r, q⟩ => ?_) hpl he
  refine thn (hkw.1.run pos pins s1 σ H1 _ I1 q) fun ws s2 ⟨zs, H2, I2, rz, l2, q2⟩ => ⟨I2.kIn, ?_⟩
  rw [hks]
  exact run_callF C hr tk I2 r rz (by rw [← rz.length]; exact l2) q2
theorem fe_callK0 (C : TabF X.prog X.w X.K X.mg X.base k x ks φ) (hr : Room k X.A) (tk : Takes X W) (hkw : FK X W kws ks.length fk) (hg : Gl X x := by rfl) (hdb : (x == ("__debug__" : Str)) = false := by decide)
    (hall : (backToKw pos (keywordEach kws X.env)).all (·.1.isSome) = true := by rfl) (hks : (backToKw pos (keywordEach kws X.env)).filterMap (·.1) = ks := by rfl)
    (hpl : ((backTo pos (starEach [] X.env)).any (·.1) || (backToKw pos (keywordEach kws X.env)).any (·.1.isNone)) = false := by rfl) :
    FE X W (.Call (.Name x p) [] kws pos) (fCallK φ fNil fk) := by
  obtain ⟨f, hm, hk, C⟩ := C.ex
  refine ⟨fun pins s σ H Q I ⟨ι, ρ, g, rp, re, h⟩ => ?_⟩
  refine wpAny_Call_Name_kw (ld_glob I hg hm ?_ hdb)
  have hk' := hkw.1.run pos pins s σ H (fun zs H2 => zs.length = ks.length ∧ spK X.K X.mg φ [] zs H2 Q (WE W σ)) I ⟨ι, ρ, g, rp, re, by
    have h : Tc X.K X.mg (RV X.K) W σ H ι g ((fk ρ g).bind fun es g2 => φ [] es g2) Q := h
    cases e1 : fk ρ g with
    | ok es' g2 =>
      rw [e1] at h
      exact fun ι2 H2 zs y2 q2 => ⟨by rw [q2.length]; exact hkw.2 _ _ _ _ e1, ι2, g2, [], es', y2.rep, .nil, q2, (Tc.base y2 h).cc⟩
    | ex c fs g2 => rw [e1] at h; exact h
    | bad => rw [e1] at h; exact h⟩
  refine PySem.W.callWith_KW0 (h₀ := X.base) I.ok.mod.kin hk hall (thn hk' fun ws s2 ⟨zs, H2, I2, rz, l2, q2⟩ => ⟨I2.kIn, ?_⟩) hpl
  rw [hks]
  exact run_callF (us := []) (vs := []) C hr tk I2 .nil rz (by rw [← rz.length]; exact l2) q2
end
end Fc

set_option Elab.async false
set_option linter.all false
set_option maxRecDepth 100000
set_option maxHeartbeats 4000000
/-! Fi: what is walked: lists, tuples, texts, ranges; enumerate and zip over lists, tuples, texts in any mix. -/
namespace Fc
open PySem PySem.Spec PyProof.Rows L2

inductive Src where
  | lst (a : Addr) | tup (a : Addr) | txt (x : Str) (t : Tok)
def signsV (x : Str) : List V := x.cps.toList.map fun c => .str ⟨#[c]⟩
def Src.at_ (K : PySem.W.Frag) (H : Hp) : Src → List V → Prop
  | .lst a, xs => SqL K H a xs
  | .tup a, xs => SqT K H a xs
  | .txt x _, xs => xs = signsV x
def Src.st : Src → Addr → Nat → Heap → Prop
  | .lst a, it, i, h => h.IsListIter it a i
  | .tup a, it, i, h => h.IsTupleIter it a i
  | .txt x t, it, i, h => h.IsStrIter it (strIterType x) x t i
def Src.fp : Src → Addr → List Addr
  | .lst a, it => [it, a]
  | .tup a, it => [it, a]
  | .txt _ _, it => [it]
def Src.val : Src → Value
  | .lst a => .ref a
  | .tup a => .ref a
  | .txt x t => .str x t
theorem Src.st_obj {S : Src} {it : Addr} {i : Nat} {h : Heap} (st : S.st it i h) : ∃ o, h.get? it = some o ∧ ∀ v, o.data ≠ .cell v := by
  cases S with
  | lst a => obtain ⟨o, e, c, d⟩ := st; exact ⟨o, e, fun v z => by rw [d] at z; cases z⟩
  | tup a => obtain ⟨o, e, c, d⟩ := st; exact ⟨o, e, fun v z => by rw [d] at z; cases z⟩
  | txt x t => obtain ⟨o, e, c, d⟩ := st; exact ⟨o, e, fun v z => by rw [d] at z; cases z⟩
theorem Src.st_keep {S : Src} {it : Addr} {i : Nat} {h h' : Heap} (st : S.st it i h) (k : ∀ o, h.get? it = some o → h'.get? it = some o) : S.st it i h' := by
  cases S with
  | lst a => exact Heap.IsListIter.at st k
  | tup a => exact Heap.IsTupleIter.at st k
  | txt x t => obtain ⟨o, e, r⟩ := st; exact ⟨o, k o e, r⟩
theorem Src.mem {S : Src} {it : Addr} : it ∈ S.fp it := by cases S <;> simp [Src.fp]
theorem Src.at_inj {S : Src} {X : Cx} {pins : List (Addr × Obj)} {σ : L2.St} {H : Hp} {s : Shared} {xs ys : List V} (I : Inv X pins σ H s) (h : S.at_ X.K H xs) (k : S.at_ X.K H ys) : xs = ys := by
  cases S with
  | lst a => exact I.list_inj h k
  | tup a => exact I.tuple_inj h k
  | txt x t => exact Eq.trans h (Eq.symm k)
structure Drw (X : Cx) (S : Src) (it : Addr) (i : Nat) (s : Shared) (xs : List V) (P : Nat → Value → Prop) (St : Nat → Heap → Prop) : Prop where
  d : Draws X.prog X.w X.A.in1 it (S.fp it) xs.length P St
  now : St i s.heap
  val : ∀ j v, P j v → ∃ x, xs[j]? = some x ∧ RelV x v
  back : ∀ j h, St j h → S.st it j h
theorem src_draws {S : Src} {X : Cx} {pins : List (Addr × Obj)} {σ : L2.St} {H : Hp} {s : Shared} {it : Addr} {i : Nat} {xs : List V} (hc : X.calm = true) (I : Inv X pins σ H s) (st : S.st it i s.heap) (h : S.at_ X.K H xs) : ∃ P St, Drw X S it i s xs P St := by
  have hh : X.A.in1.handled = none := I.ok.hd hc
  cases S with
  | lst a =>
    obtain ⟨its, rv, p, hz⟩ := I.list h
    have hl := rv.length
    have hne : a ≠ it := fun e => by
      obtain ⟨o, e1, c1, _⟩ := st
      obtain ⟨o2, e2, c2, _⟩ := p.isList
      rw [e, e1] at e2; cases e2
      rw [c1] at c2; simp at c2
    have D := Draws.list (prog := X.prog) (w := X.w) hh it a hne its.toArray
    rw [show its.toArray.size = xs.length by simp [hl]] at D
    exact ⟨_, _, D, ⟨st, p.isList⟩, fun j v q => by
      have q : its[j]? = some v := by simpa using q
      cases e : xs[j]? with
      | none => rw [rv.none_of e] at q; cases q
      | some x =>
        obtain ⟨u, hu, ru⟩ := rv.get e
        rw [q] at hu; cases hu
        exact ⟨x, rfl, ru⟩, fun j h q => q.1⟩
  | tup a =>
    obtain ⟨its, rv, p, hz⟩ := I.tuple h
    have hl := rv.length
    have hne : a ≠ it := fun e => by
      obtain ⟨o, e1, c1, _⟩ := st
      obtain ⟨o2, e2, c2, _⟩ := p
      rw [e, e1] at e2; cases e2
      rw [c1] at c2; simp at c2
    have D := Draws.tuple (prog := X.prog) (w := X.w) hh it a hne its.toArray
    rw [show its.toArray.size = xs.length by simp [hl]] at D
    exact ⟨_, _, D, ⟨st, p⟩, fun j v q => by
      have q : its[j]? = some v := by simpa using q
      cases e : xs[j]? with
      | none => rw [rv.none_of e] at q; cases q
      | some x =>
        obtain ⟨u, hu, ru⟩ := rv.get e
        rw [q] at hu; cases hu
        exact ⟨x, rfl, ru⟩, fun j h q => q.1⟩
  | txt x t =>
    obtain rfl : xs = signsV x := h
    have D := Draws.text (prog := X.prog) (w := X.w) hh it x t
    rw [show x.cps.size = (signsV x).length by simp [signsV]] at D
    exact ⟨_, _, D, st, fun j v ⟨c, u, ec, ev⟩ => ⟨.str ⟨#[c]⟩, by
      unfold signsV
      rw [List.getElem?_map, Array.getElem?_toList, ec] <;> rfl, ⟨u, ev⟩⟩, fun j h q => q⟩

/-! ### enumerate -/
def IteS (K : PySem.W.Frag) (S : Src) : It :=
  ⟨fun i H => ∃ (xs : List V) (x : V), S.at_ K H xs ∧ xs[i]? = some x, fun i H v H' => ∃ T x, v = .ref T ∧ H T = none ∧ H' = upd H T (.tup [.int (i : Nat), x]) ∧ ∀ xs, S.at_ K H xs → xs[i]? = some x, fun i H => ∃ xs : List V, S.at_ K H xs ∧ xs.length = i⟩
theorem turn_enumS {P : Program} {w : World} {K : PySem.W.Frag} {elts : List Expr} {kk : Nat} {tpos : Pos} (S : Src) (e it : Addr) (hne : e ≠ it) (hef : e ∉ S.fp it) :
    Turn P w K (.Tuple elts kk tpos) (IteS K S) [e, it] e (fun i h => (∃ old, IsEnum h e it ((i : Nat) : Int) old) ∧ S.st it i h) where
  mem := by simp
  obj := fun i h st b hb => by
    obtain ⟨⟨old, he⟩, hi⟩ := st
    have e' : b = e ∨ b = it := by simpa using hb
    rcases e' with z | z
    · rw [z]; exact ⟨_, he, fun v q => nomatch q⟩
    · rw [z]; exact Src.st_obj hi
  keep := fun i h h' st k => let ⟨⟨old, he⟩, hi⟩ := st; ⟨⟨old, k e (by simp) _ he⟩, Src.st_keep hi fun o q => k it (by simp) o q⟩
  item := by
    intro X hP hw hK hc i pins s σ H E I hf st hg
    subst hP hw hK
    obtain ⟨⟨old, he⟩, hit⟩ := st
    obtain ⟨xs, x, hq, hx⟩ := hg
    obtain ⟨P, St, D⟩ := src_draws hc I hit hq
    have hel : e < s.heap.objs.size := Heap.lt_size he
    have hil : it < s.heap.objs.size := by obtain ⟨_, q, _⟩ := Src.st_obj hit; exact Heap.lt_size q
    have hlt : i < xs.length := (List.getElem?_eq_some_iff.mp hx).1
    refine wpAny_pyNext_enum_itemD D.d he D.now hlt hne hef fun u h' tk hP ho hit' hT hsz hk => ?_
    obtain ⟨x', hx', ru⟩ := D.val _ _ hP
    rw [hx] at hx'; cases hx'
    refine ⟨_, rfl, wpAny_letOwnedTupleGo_enum (s := { s with heap := h', toks := tk + 1 }) ho fun h'' he' sb => ?_⟩
    have hT2 : h''.get? s.heap.objs.size = some { cls := .type "tuple", data := .seq #[.int i tk, u] } := (sb.2 _ (Nat.ne_of_gt hel)).trans hT
    have new : ObjOk X.prog X.w (upd H s.heap.objs.size (.tup [.int (i : Nat), x])) h'' s.heap.objs.size (.tup [.int (i : Nat), x]) :=
      ⟨by show 2 ≤ sizeLine; decide, [.int i tk, u], .cons ⟨_, rfl⟩ (.cons ru .nil), ⟨_, hT2, rfl, _, rfl⟩⟩
    have I1 : Inv X pins σ (upd H s.heap.objs.size (.tup [.int (i : Nat), x])) { s with heap := h'', toks := tk + 1 } :=
      I.turnedNew (ch := [e, it]) (fun b ob hb q => (sb.2 b (fun z => hb (by simp [z]))).trans (hk b ob (fun z => hb (by simp [z])) (fun z => hb (by simp [z])) q)) hf (Nat.le_refl _) new
    refine ⟨.ref s.heap.objs.size, _, I1, rfl, ⟨_, x, rfl, I.hok.fresh (Nat.le_refl _), rfl, fun ys hy => by rw [Src.at_inj I hy hq]; exact hx⟩, ⟨⟨u, ?_⟩, Src.st_keep (D.back _ _ hit') fun o q => (sb.2 it (Ne.symm hne)).trans q⟩, fun b hb => ?_⟩
    · have e1 : ((i + 1 : Nat) : Int) = (i : Int) + 1 := by omega
      rw [e1]; exact he'
    · have hb' : b < s.heap.objs.size := by
        have e' : b = e ∨ b = it := by simpa using hb
        rcases e' with z | z
        · rw [z]; exact hel
        · rw [z]; exact hil
      rw [upd_ne (Nat.ne_of_lt hb')]
      exact (hf b hb).1
  done := by
    intro X hP hw hK hc i pins s σ H E I hf st hg
    subst hP hw hK
    obtain ⟨⟨old, he⟩, hit⟩ := st
    obtain ⟨xs, hq, hx⟩ := hg
    obtain ⟨P, St, D⟩ := src_draws hc I hit hq
    obtain ⟨f0, f1, f2, f3, f4, f5⟩ := hf it (by simp)
    subst hx
    exact wpAny_pyNext_enum_endD D.d he D.now fun h' eb => ⟨rfl, I.turned (t' := s.toks) (fun b o hb q => eb b o hb q) f0 f1 f3 f4 f5⟩
  self := fun A i s Q E st h => let ⟨⟨_, he⟩, _⟩ := st; wpAny_pyIter_enum he h

/-! ### zip -/
def ItzS (K : PySem.W.Frag) (S1 S2 : Src) : It :=
  ⟨fun i H => ∃ (xs ys : List V) (x y : V), S1.at_ K H xs ∧ S2.at_ K H ys ∧ xs[i]? = some x ∧ ys[i]? = some y,
    fun i H v H' => ∃ T x y, v = .ref T ∧ H T = none ∧ H' = upd H T (.tup [x, y]) ∧ (∀ xs, S1.at_ K H xs → xs[i]? = some x) ∧ ∀ ys, S2.at_ K H ys → ys[i]? = some y,
    fun i H => ∃ xs ys : List V, S1.at_ K H xs ∧ S2.at_ K H ys ∧ i ≤ xs.length ∧ i ≤ ys.length ∧ (i = xs.length ∨ i = ys.length)⟩
theorem turn_zipS {P : Program} {w : World} {K : PySem.W.Frag} {elts : List Expr} {kk : Nat} {tpos : Pos} (S1 S2 : Src) {z TI TO i1 i2 : Addr} (Sp : ZipSep2 z TI TO i1 i2 (S1.fp i1) (S2.fp i2)) :
    Turn P w K (.Tuple elts kk tpos) (ItzS K S1 S2) [z, TI, TO, i1, i2] z (fun i h => IsZip h z TI TO .none ∧ IsTupOf2 h TI (.ref i1) (.ref i2) ∧ (∃ x y, IsTupOf2 h TO x y) ∧ S1.st i1 i h ∧ S2.st i2 i h) where
  mem := by simp
  obj := fun i h st c hc => by
    obtain ⟨hz, hTI, ⟨x, y, hTO⟩, h1, h2⟩ := st
    have e' : c = z ∨ c = TI ∨ c = TO ∨ c = i1 ∨ c = i2 := by simpa using hc
    rcases e' with q | q | q | q | q
    · rw [q]; exact ⟨_, hz, fun v q => nomatch q⟩
    · rw [q]; exact ⟨_, hTI, fun v q => nomatch q⟩
    · rw [q]; exact ⟨_, hTO, fun v q => nomatch q⟩
    · rw [q]; exact Src.st_obj h1
    · rw [q]; exact Src.st_obj h2
  keep := fun i h h' st k => by
    obtain ⟨hz, hTI, ⟨x, y, hTO⟩, h1, h2⟩ := st
    exact ⟨k z (by simp) _ hz, k TI (by simp) _ hTI, ⟨x, y, k TO (by simp) _ hTO⟩, Src.st_keep h1 fun o q => k i1 (by simp) o q, Src.st_keep h2 fun o q => k i2 (by simp) o q⟩
  item := by
    intro X hP hw hK hc i pins s σ H E I hf st hg
    subst hP hw hK
    obtain ⟨hz, hTI, ⟨x0, y0, hTO⟩, h1, h2⟩ := st
    obtain ⟨xs, ys, x, y, hqx, hqy, hx, hy⟩ := hg
    obtain ⟨P1, St1, D1⟩ := src_draws hc I h1 hqx
    obtain ⟨P2, St2, D2⟩ := src_draws hc I h2 hqy
    have hzl : z < s.heap.objs.size := Heap.lt_size hz
    have l1 : i < xs.length := (List.getElem?_eq_some_iff.mp hx).1
    have l2 : i < ys.length := (List.getElem?_eq_some_iff.mp hy).1
    refine wpAny_pyNext_zipD2_item Sp D1.d D2.d hz hTI hTO D1.now D2.now l1 l2 fun u u2 h' tk p1 p2 z' TO' h1' h2' hT hsz hk => ?_
    obtain ⟨x', hx', ru⟩ := D1.val _ _ p1
    rw [hx] at hx'; cases hx'
    obtain ⟨y', hy', ru2⟩ := D2.val _ _ p2
    rw [hy] at hy'; cases hy'
    refine ⟨_, rfl, wpAny_letOwnedTupleGo_zip (s := { s with heap := h', toks := tk }) z' fun h'' z'' sb => ?_⟩
    have hT2 : h''.get? s.heap.objs.size = some { cls := .type "tuple", data := .seq #[u, u2] } := (sb.2 _ (Nat.ne_of_gt hzl)).trans hT
    have new : ObjOk X.prog X.w (upd H s.heap.objs.size (.tup [x, y])) h'' s.heap.objs.size (.tup [x, y]) :=
      ⟨by show 2 ≤ sizeLine; decide, [u, u2], .cons ru (.cons ru2 .nil), ⟨_, hT2, rfl, _, rfl⟩⟩
    have I1 : Inv X pins σ (upd H s.heap.objs.size (.tup [x, y])) { s with heap := h'', toks := tk } :=
      I.turnedNew (t' := tk) (ch := [z, TI, TO, i1, i2]) (fun c o hb q => (sb.2 c (fun q' => hb (by simp [q']))).trans (hk c o (fun q' => hb (by simp [q'])) (fun q' => hb (by simp [q'])) (fun q' => hb (by simp [q'])) (fun q' => hb (by simp [q'])) q)) hf (Nat.le_refl _) new
    refine ⟨.ref s.heap.objs.size, _, I1, rfl, ⟨_, x, y, rfl, I.hok.fresh (Nat.le_refl _), rfl, fun l hl => by rw [Src.at_inj I hl hqx]; exact hx, fun l hl => by rw [Src.at_inj I hl hqy]; exact hy⟩, ⟨z'', ?_, ⟨u, u2, ?_⟩, ?_, ?_⟩, fun c hcm => ?_⟩
    · exact (sb.2 _ Sp.TIz).trans (hk _ _ Sp.TIz Sp.TITO Sp.TIi1 Sp.TIi2 hTI)
    · exact (sb.2 _ Sp.TOz).trans TO'
    · exact Src.st_keep (D1.back _ _ h1') fun o q => (sb.2 _ Sp.zi1.symm).trans q
    · exact Src.st_keep (D2.back _ _ h2') fun o q => (sb.2 _ Sp.zi2.symm).trans q
    · have hlt : c < s.heap.objs.size := by
        have e' : c = z ∨ c = TI ∨ c = TO ∨ c = i1 ∨ c = i2 := by simpa using hcm
        rcases e' with q | q | q | q | q
        · rw [q]; exact hzl
        · rw [q]; exact Heap.lt_size hTI
        · rw [q]; exact Heap.lt_size hTO
        · rw [q]; obtain ⟨_, e1, _⟩ := Src.st_obj h1; exact Heap.lt_size e1
        · rw [q]; obtain ⟨_, e2, _⟩ := Src.st_obj h2; exact Heap.lt_size e2
      rw [upd_ne (Nat.ne_of_lt hlt)]
      exact (hf c hcm).1
  done := by
    intro X hP hw hK hc i pins s σ H E I hf st hg
    subst hP hw hK
    obtain ⟨hz, hTI, ⟨x0, y0, hTO⟩, h1, h2⟩ := st
    obtain ⟨xs, ys, hqx, hqy, l1, l2, hend⟩ := hg
    obtain ⟨P1, St1, D1⟩ := src_draws hc I h1 hqx
    obtain ⟨P2, St2, D2⟩ := src_draws hc I h2 hqy
    exact wpAny_pyNext_zipD2_end Sp D1.d D2.d hz hTI hTO D1.now D2.now l1 l2 hend fun h' tk hk => ⟨rfl, I.turnedL (t' := tk) (ch := [z, TI, TO, i1, i2]) (fun c o hb q =>
      hk c o (fun q' => hb (by simp [q'])) (fun q' => hb (by simp [q'])) (fun q' => hb (by simp [q'])) (fun q' => hb (by simp [q'])) q) hf⟩
  self := fun A i s Q E st h => wpAny_pyIter_zip st.1 h
end Fc

set_option Elab.async false
set_option linter.all false
set_option maxRecDepth 100000
set_option maxHeartbeats 4000000
/-! Fj: the rules of walks. -/
namespace Fc
open PySem PySem.Spec PyProof.Rows L2

def signsD (x : Str) : List D := x.cps.toList.map fun c => .str ⟨#[c]⟩
def srcD (d : D) (g : G) : Option (List D × Wt) := match d with
  | .tup l => some (l, [])
  | .str x => some (signsD x, [])
  | .ref m => (match g[m]? with
    | some (.lst l) => some (l, [(m, l)])
    | some (.frz l) => some (l, [(m, l)])
    | _ => none)
  | _ => none
section
variable {K : PySem.W.Frag} {mg : Str → Option Value} {ι : Nat → Addr} {g : G} {H : Hp}
theorem signs_rv (x : Str) : RVs K ι g.length H (signsD x) (signsV x) := by
  unfold signsD signsV
  induction x.cps.toList with
  | nil => exact .nil
  | cons c r ih => exact .cons (.str _) ih
def SrcFit (K : PySem.W.Frag) (mg : Str → Option Value) (ι : Nat → Addr) (g : G) (H : Hp) (S : Src) (p : List D × Wt) : Prop := ∀ ι' g' H', Nx K mg ι g H ι' g' H' → wOk p.2 g' = true → ∃ xs, S.at_ K H' xs ∧ RVs K ι' g'.length H' p.1 xs
theorem src_fit {d : D} {v : V} {u : Value} {p : List D × Wt} (rp : Rep K mg ι H g) (r : RV K ι g.length H d v) (ru : RelV v u) (e : srcD d g = some p) : ∃ S : Src, S.val = u ∧ (∃ xs, S.at_ K H xs) ∧ SrcFit K mg ι g H S p := by
  cases r with
  | tup hs r =>
    rename_i ds a vs
    cases e
    obtain rfl : u = .ref a := ru
    exact ⟨.tup a, rfl, ⟨vs, hs⟩, fun ι' g' H' y _ => ⟨vs, y.prs.sq hs, r.nx y⟩⟩
  | str x =>
    cases e
    obtain ⟨t, rfl⟩ := ru
    exact ⟨.txt x t, rfl, ⟨_, rfl⟩, fun ι' g' H' y _ => ⟨_, rfl, signs_rv x⟩⟩
  | ref hm =>
    rename_i m
    obtain rfl : u = .ref (ι m) := ru
    unfold srcD at e
    simp only at e
    have fin : ∀ l, (g[m]? = some (.lst l) ∨ g[m]? = some (.frz l)) → p = (l, [(m, l)]) → ∃ S : Src, S.val = Value.ref (ι m) ∧ (∃ xs, S.at_ K H xs) ∧ SrcFit K mg ι g H S p := by
      rintro l hl rfl
      have at_ : ∀ ι' g' H', Nx K mg ι g H ι' g' H' → (g'[m]? = some (.lst l) ∨ g'[m]? = some (.frz l)) → ∃ xs, SqL K H' (ι m) xs ∧ RVs K ι' g'.length H' l xs := fun ι' g' H' y hl => by
        have em := y.agr m hm
        rcases hl with hl | hl
        · obtain ⟨vs, e1, r1⟩ := y.rep.obj _ _ hl
          rw [em] at e1
          exact ⟨vs, SqL.of e1, r1⟩
        · obtain ⟨ob, vs, e1, r1⟩ := y.rep.obj _ _ hl
          rw [em] at e1
          exact ⟨vs, .inl (.inr ⟨_, e1⟩), r1⟩
      obtain ⟨xs, h1, _⟩ := at_ ι g H (.refl rp) hl
      exact ⟨.lst (ι m), rfl, ⟨xs, h1⟩, fun ι' g' H' y hw => at_ ι' g' H' y (wOk_at hw (List.mem_cons_self ..))⟩
    split at e
    · rename_i l el; cases e; exact fin l (.inl el) rfl
    · rename_i l el; cases e; exact fin l (.inr el) rfl
    · cases e
  | _ => cases e
end
def fSrc (f : Ev → G → Re D) : Ev → G → Re (List D × Wt) := fun ρ g => (f ρ g).bind fun d g1 => match srcD d g1 with
  | some p => .ok p g1
  | none => .bad
def enumD : Nat → List D → List D
  | _, [] => []
  | i, d :: ds => .tup [.int (i : Int), d] :: enumD (i + 1) ds
theorem enumD_get : ∀ {l : List D} {k i : Nat} {d : D}, (enumD k l)[i]? = some d → ∃ x, l[i]? = some x ∧ d = .tup [.int ((k + i : Nat) : Int), x]
  | [], _, _, _, h => by simp [enumD] at h
  | a :: l, k, 0, d, h => by
    simp only [enumD, List.getElem?_cons_zero, Option.some.injEq] at h
    exact ⟨a, rfl, h.symm⟩
  | a :: l, k, i + 1, d, h => by
    simp only [enumD, List.getElem?_cons_succ] at h
    obtain ⟨x, h1, h2⟩ := enumD_get h
    exact ⟨x, h1, by rw [h2, show k + 1 + i = k + (i + 1) by omega]⟩
theorem enumD_length : ∀ {l : List D} {k : Nat}, (enumD k l).length = l.length
  | [], _ => rfl
  | _ :: _, _ => congrArg Nat.succ enumD_length
def zipD : List D → List D → List D
  | a :: as, b :: bs => .tup [a, b] :: zipD as bs
  | _, _ => []
theorem zipD_get : ∀ {l m : List D} {i : Nat} {d : D}, (zipD l m)[i]? = some d → ∃ x y, l[i]? = some x ∧ m[i]? = some y ∧ d = .tup [x, y]
  | [], _, _, _, h => by simp [zipD] at h
  | _ :: _, [], _, _, h => by simp [zipD] at h
  | a :: l, b :: m, 0, d, h => by
    simp only [zipD, List.getElem?_cons_zero, Option.some.injEq] at h
    exact ⟨a, b, rfl, rfl, h.symm⟩
  | a :: l, b :: m, i + 1, d, h => by
    simp only [zipD, List.getElem?_cons_succ] at h
    obtain ⟨x, y, h1, h2, h3⟩ := zipD_get h
    exact ⟨x, y, h1, h2, h3⟩
theorem zipD_length : ∀ {l m : List D}, (zipD l m).length = min l.length m.length
  | [], _ => by simp [zipD]
  | _ :: _, [] => by simp [zipD]
  | a :: l, b :: m => by simp [zipD, zipD_length]
def fEnum (f : Ev → G → Re D) : Ev → G → Re (List D × Wt) := fun ρ g => (fSrc f ρ g).bind fun p g1 => .ok (enumD 0 p.1, p.2) g1
def fZip (f h : Ev → G → Re D) : Ev → G → Re (List D × Wt) := fun ρ g => (f ρ g).bind fun d g1 => (h ρ g1).bind fun e g2 => match srcD d g2, srcD e g2 with
  | some p, some q => .ok (zipD p.1 q.1, p.2 ++ q.2) g2
  | _, _ => .bad
def rngD (lo : Int) (n : Nat) : List D := (List.range n).map fun (i : Nat) => D.int (lo + (i : Int))
def fRng1 (f : Ev → G → Re D) : Ev → G → Re (List D × Wt) := fun ρ g => (f ρ g).bind fun d g1 => match d with
  | .int j => if -(2 ^ 62) ≤ j ∧ j < 2 ^ 62 then .ok (rngD 0 j.toNat, []) g1 else .bad
  | _ => .bad
def fRng2 (f h : Ev → G → Re D) : Ev → G → Re (List D × Wt) := fun ρ g => (f ρ g).bind fun d g1 => (h ρ g1).bind fun e g2 => match d, e with
  | .int i, .int j => if -(2 ^ 62) ≤ i ∧ i < 2 ^ 62 ∧ -(2 ^ 62) ≤ j ∧ j < 2 ^ 62 then .ok (rngD i (j - i).toNat, []) g2 else .bad
  | _, _ => .bad
section
variable {X : Cx} {W : WX} {tg e e2 : Expr} {f f2 : Ev → G → Re D} {p pos tpos : Pos} {elts : List Expr} {kk : Nat}
theorem iok_enum {ι : Nat → Addr} {g : G} {H : Hp} {S : Src} {q : List D × Wt} (h : SrcFit X.K X.mg ι g H S q) : IOk X.K X.mg ι g H (IteS X.K S) (enumD 0 q.1) q.2 := fun i ι' g' H' y hw => by
  obtain ⟨xs, ha, rv⟩ := h ι' g' H' y hw
  refine ⟨fun d ed => ?_, fun hl => ⟨xs, ha, by rw [rv.length, ← hl, enumD_length]⟩⟩
  obtain ⟨x, hx, rfl⟩ := enumD_get ed
  obtain ⟨v, hv, q⟩ := rv.get hx
  refine ⟨⟨xs, v, ha, hv⟩, fun z H2 ⟨T, v', ez, hT, eH, hv'⟩ => ?_⟩
  subst ez eH
  have e1 := hv' xs ha
  rw [hv] at e1; cases e1
  have y2 := Nx.newT (vs := [.int (i : Nat), v]) y.rep hT
  exact ⟨ι', y2, .tup (SqT.of upd_same) (.cons (by rw [Nat.zero_add]; exact .int _) (.cons (q.nx y2) .nil))⟩
theorem iok_zip {ι : Nat → Addr} {g : G} {H : Hp} {S S2 : Src} {q q2 : List D × Wt} (h : SrcFit X.K X.mg ι g H S q) (h2 : SrcFit X.K X.mg ι g H S2 q2) : IOk X.K X.mg ι g H (ItzS X.K S S2) (zipD q.1 q2.1) (q.2 ++ q2.2) := fun i ι' g' H' y hw => by
  have hw' : (wOk q.2 g' && wOk q2.2 g') = true := by
    unfold wOk at hw ⊢
    rw [List.all_append] at hw
    exact hw
  obtain ⟨w1, w2⟩ := Bool.and_eq_true_iff.mp hw'
  obtain ⟨xs, ha, rv⟩ := h ι' g' H' y w1
  obtain ⟨ys, hb, rw⟩ := h2 ι' g' H' y w2
  have lx := rv.length
  have ly := rw.length
  refine ⟨fun d ed => ?_, fun hl => ⟨xs, ys, ha, hb, ?_⟩⟩
  · obtain ⟨x, z, hx, hz, rfl⟩ := zipD_get ed
    obtain ⟨v, hv, q⟩ := rv.get hx
    obtain ⟨w, hw2, r⟩ := rw.get hz
    refine ⟨⟨xs, ys, v, w, ha, hb, hv, hw2⟩, fun o H2 ⟨T, v', w', eo, hT, eH, hv', hw'⟩ => ?_⟩
    subst eo eH
    have e1 := hv' xs ha
    rw [hv] at e1; cases e1
    have e2 := hw' ys hb
    rw [hw2] at e2; cases e2
    have y2 := Nx.newT (vs := [v, w]) y.rep hT
    exact ⟨ι', y2, .tup (SqT.of upd_same) (.cons (q.nx y2) (.cons (r.nx y2) .nil))⟩
  · rw [zipD_length] at hl
    omega
set_option maxHeartbeats 4000000 in
theorem meets_enumerate_newB1 {v : Value} {o : Obj} {H : Heap → Prop} (B : Begins v o H) :
    Meets (Builtin.«enumerate.__new__» ⟨[.type "enumerate", v], []⟩) (fun _ R s => H s.heap ∧
      R (.ok (.ret (.ref (s.heap.push o).objs.size))) { s with heap := (s.heap.push o).push { cls := .type "enumerate", data := .fields #[.none, .bool false, .ref s.heap.objs.size, rawInt 0, .none, .none] } }) :=
  .of_wp fun prog w A R s h => by
    obtain ⟨hp, g, d, tk, os⟩ := s; obtain ⟨h1, h⟩ := h
    have hsub := sub_enumerate
    have q1 : ∀ {A' : Around} {E : Value → Shared → Prop} {Q : Value → Shared → Prop}, Q (.ref hp.objs.size) ⟨hp.push o, g, d, tk, os⟩ → wpAny (model prog w) A' (pyIter v) Q E ⟨hp, g, d, tk, os⟩ :=
      fun q => B.iter prog w _ _ ⟨hp, g, d, tk, os⟩ _ h1 q
    wp_walk using q1
    refine wpAny_stack_any fun st => wpAny_pure ?_
    split
    · rename_i c _ _ _ _ _
      cases (c == Value.type "enumerate")
      · wp_walk using q1
        exact ⟨_, rfl, h⟩
      · wp_walk using q1
        exact ⟨_, rfl, h⟩
    · wp_walk using q1
      exact ⟨_, rfl, h⟩
theorem enum_begins1 {prog : Program} {w : World} {A : Around} {E : Value → Shared → Prop} {s : Shared} {v : Value} {o : Obj} {H : Heap → Prop} {Q : Value → Shared → Prop} (B : Begins v o H) (h1 : H s.heap)
    (h : ∀ h', IsEnum h' (s.heap.objs.size + 1) s.heap.objs.size 0 .none → h'.get? s.heap.objs.size = some o → h'.objs.size = s.heap.objs.size + 2 →
      (∀ b o, s.heap.get? b = some o → h'.get? b = some o) → Q (.ref (s.heap.objs.size + 1)) { s with heap := h' }) :
    wpAny (model prog w) A (call (.type "enumerate") [v]) Q E s := by
  refine callType_new F.called_enumerate (by decide) (F.typeCall_enumerate_1 _) (F.newCall_enumerate_1 _) (fun obj => F.args_object_init_2 obj _) F.entry_enumerate_new
    (meets_enumerate_newB1 B) ⟨h1, ?_⟩
  have hz : (s.heap.push o).objs.size = s.heap.objs.size + 1 := Heap.size_push ..
  show _ ∧ _
  rw [hz]
  have he : IsEnum ((s.heap.push o).push { cls := .type "enumerate", data := .fields #[.none, .bool false, .ref s.heap.objs.size, rawInt 0, .none, .none] }) (s.heap.objs.size + 1) s.heap.objs.size 0 .none := by
    have := Heap.get?_push_size (s.heap.push o) (o := { cls := .type "enumerate", data := .fields #[.none, .bool false, .ref s.heap.objs.size, rawInt 0, .none, .none] }) rfl
    rw [hz] at this; exact this
  refine ⟨⟨_, he, rfl⟩, h _ he (Heap.get?_push_of_some _ (Heap.get?_push_size _ B.free)) (by rw [Heap.size_push, hz]) fun b o x => Heap.get?_push_of_some _ (Heap.get?_push_of_some _ x)⟩
/-- a source begins -/
theorem src_begins {pins : List (Addr × Obj)} {σ : L2.St} {H : Hp} {s : Shared} {S : Src} (I : Inv X pins σ H s) (h : ∃ xs, S.at_ X.K H xs) : ∃ (o : Obj) (Hb : Heap → Prop), Begins S.val o Hb ∧ Hb s.heap ∧ (∀ (it : Addr) (h' : Heap), h'.get? it = some o → S.st it 0 h') ∧ ∀ (N : Nat), s.heap.objs.size ≤ N → ∃ r : List Addr, S.fp N = N :: r ∧ ∀ b ∈ r, b < s.heap.objs.size := by
  obtain ⟨xs, h⟩ := h
  cases S with
  | lst a =>
    obtain ⟨its, rv, p, hz⟩ := I.list h
    refine ⟨_, _, begins_list a its.toArray, p.isList, fun it h' e => ⟨_, e, rfl, rfl⟩, fun N _ => ⟨[a], rfl, fun b hb => ?_⟩⟩
    rw [List.mem_singleton.mp hb]
    exact p.lt
  | tup a =>
    obtain ⟨its, rv, p, hz⟩ := I.tuple h
    refine ⟨_, _, begins_tuple a its.toArray, p, fun it h' e => ⟨_, e, rfl, rfl⟩, fun N _ => ⟨[a], rfl, fun b hb => ?_⟩⟩
    rw [List.mem_singleton.mp hb]
    exact p.lt
  | txt x t => exact ⟨_, _, begins_text x t, trivial, fun it h' e => ⟨_, e, rfl, rfl⟩, fun N _ => ⟨[], rfl, fun b hb => nomatch hb⟩⟩
theorem fi_enum (hm : X.mg "enumerate" = none) (ha : FE X W e f) (hg : Gl X "enumerate" := by rfl) (hs : starEach [e] X.env = [(false, eval e X.env)] := by rfl) : FI X W (.Tuple elts kk tpos) (.Call (.Name "enumerate" p) [e] [] pos) (fEnum f) := by
  refine ⟨fun pins s σ H R I ⟨ι, ρ, g, rp, re, h⟩ => ?_⟩
  have ha' := (pa_cons ha pa_nil (hs.trans rfl)).run pos pins s σ H (fun vs H1 => ∃ x, vs = [x] ∧ ∀ u, RelV x u → ∃ S : Src, S.val = u ∧ (∃ xs, S.at_ X.K H1 xs) ∧ R (IteS X.K S) H1) I
    ⟨ι, ρ, g, rp, re, by
      unfold fEnum fSrc at h
      rw [Re.bind_assoc] at h
      refine h.bind fun d g1 ι1 H1 x y1 q1 h1 => ⟨x, rfl, fun u ru => ?_⟩
      cases e4 : srcD d g1 with
      | none => rw [e4] at h1; exact h1.elim
      | some q =>
        rw [e4] at h1
        obtain ⟨S, sv, sa, sf⟩ := src_fit y1.rep q1 ru e4
        exact ⟨S, sv, sa, h1 ι1 H1 _ (.refl y1.rep) (iok_enum sf)⟩⟩
  refine Call_ (ld_blt I hg hm boot_enumerate (PyProof.Rows.callWith_type1 (thn ha' fun us s1 ⟨vs, H1, I1, r1, x, ev, k⟩ => ?_) hs rfl))
  subst ev
  cases r1 with
  | @cons _ u _ _ r rr =>
    cases rr
    obtain ⟨S, sv, sa, kR⟩ := k u r
    subst sv
    obtain ⟨o, Hb, B, hb, hst, hfp⟩ := src_begins I1 sa
    refine enum_begins1 B hb fun h' he ho hsz hk => wpAny_pyIter_enum he ?_
    have I2 : Inv X pins σ H1 { s1 with heap := h' } := I1.kept (t' := s1.toks) hk
    obtain ⟨r', er, hlt⟩ := hfp s1.heap.objs.size (Nat.le_refl _)
    refine ⟨s1.heap.objs.size + 1, [s1.heap.objs.size + 1, s1.heap.objs.size], _, _, H1, rfl, I2, turn_enumS S (s1.heap.objs.size + 1) s1.heap.objs.size (Nat.succ_ne_self _) ?_, ⟨⟨.none, he⟩, hst _ _ ho⟩, fun b hb => ?_, kR⟩
    · rw [er]
      exact notIn_new (N := s1.heap.objs.size) (j := 1) (i := 0) hlt (by omega)
    · have e' : b = s1.heap.objs.size + 1 ∨ b = s1.heap.objs.size := by simpa using hb
      have hle : s1.heap.objs.size ≤ b := by
        rcases e' with z | z
        · rw [z]; exact Nat.le_add_right _ _
        · rw [z]; exact Nat.le_refl _
      exact I1.fpOk hle (I1.hok.fresh hle)
theorem fi_zip (hm : X.mg "zip" = none) (ha : FE X W e f) (hb : FE X W e2 f2) (hg : Gl X "zip" := by rfl)
    (hs : starEach [e, e2] X.env = (false, eval e X.env) :: starEach [e2] X.env := by rfl) (hs2 : starEach [e2] X.env = (false, eval e2 X.env) :: starEach [] X.env := by rfl) (hpl : (backTo pos (starEach [e2] X.env)).any (·.1) = false := by rfl) :
    FI X W (.Tuple elts kk tpos) (.Call (.Name "zip" p) [e, e2] [] pos) (fZip f f2) := by
  refine ⟨fun pins s σ H R I ⟨ι, ρ, g, rp, re, h⟩ => ?_⟩
  have ha' := (pa_cons ha (pa_cons hb pa_nil hs2) hs).run pos pins s σ H (fun vs H1 => ∃ x y, vs = [x, y] ∧ ∀ u u2, RelV x u → RelV y u2 → ∃ S S2 : Src, S.val = u ∧ S2.val = u2 ∧ (∃ xs, S.at_ X.K H1 xs) ∧ (∃ ys, S2.at_ X.K H1 ys) ∧ R (ItzS X.K S S2) H1) I
    ⟨ι, ρ, g, rp, re, by
      unfold fZip at h
      refine h.bind fun d g1 ι1 H1 x y1 q1 h1 => ⟨ι1, ρ, g1, y1.rep, re.nx y1, h1.bind fun d2 g2 ι2 H2 y y2 q2 h2 => ⟨x, y, rfl, fun u u2 ru ru2 => ?_⟩⟩
      cases e4 : srcD d g2 with
      | none => rw [e4] at h2; exact h2.elim
      | some q =>
        cases e5 : srcD d2 g2 with
        | none => rw [e4, e5] at h2; exact h2.elim
        | some r =>
          rw [e4, e5] at h2
          obtain ⟨S, sv, sa, sf⟩ := src_fit y2.rep (q1.nx y2) ru e4
          obtain ⟨S2, sv2, sa2, sf2⟩ := src_fit y2.rep q2 ru2 e5
          exact ⟨S, S2, sv, sv2, sa, sa2, h2 ι2 H2 _ (.refl y2.rep) (iok_zip sf sf2)⟩⟩
  refine Call_ (ld_blt I hg hm PyProof.Rows.boot_zip (PyProof.Rows.callWith_type1 (thn ha' fun us s1 ⟨vs, H1, I1, r1, x, y, ev, k⟩ => ?_) hs hpl))
  subst ev
  cases r1 with
  | @cons _ u _ _ r rr =>
    cases rr with
    | @cons _ u2 _ _ r' rr =>
      cases rr
      obtain ⟨S, S2, sv, sv2, sa, sa2, kR⟩ := k u u2 r r'
      subst sv sv2
      obtain ⟨o1, Hb1, B1, hb1, hst1, hfp1⟩ := src_begins I1 sa
      obtain ⟨o2, Hb2, B2, hb2, hst2, hfp2⟩ := src_begins I1 sa2
      refine zip_begins2 B1 B2 hb1 hb2 fun h' hz hTI hTO h1 h2 hsz hk => wpAny_pyIter_zip hz ?_
      have I2 : Inv X pins σ H1 { s1 with heap := h' } := I1.kept (t' := s1.toks) hk
      obtain ⟨r1, er1, hlt1⟩ := hfp1 s1.heap.objs.size (Nat.le_refl _)
      obtain ⟨r2, er2, hlt2⟩ := hfp2 (s1.heap.objs.size + 1) (Nat.le_succ _)
      refine ⟨s1.heap.objs.size + 4, [s1.heap.objs.size + 4, s1.heap.objs.size + 2, s1.heap.objs.size + 3, s1.heap.objs.size, s1.heap.objs.size + 1], _, _, H1, rfl, I2, turn_zipS S S2 (TI := s1.heap.objs.size + 2) (TO := s1.heap.objs.size + 3) (i1 := s1.heap.objs.size) (i2 := s1.heap.objs.size + 1) ?_, ⟨hz, hTI, ⟨_, _, hTO⟩, hst1 _ _ h1, hst2 _ _ h2⟩, fun c hcm => ?_, kR⟩
      · rw [er1, er2]
        exact zip_sep2 hlt1 hlt2
      · have e' : c = s1.heap.objs.size + 4 ∨ c = s1.heap.objs.size + 2 ∨ c = s1.heap.objs.size + 3 ∨ c = s1.heap.objs.size ∨ c = s1.heap.objs.size + 1 := by simpa using hcm
        have hle : s1.heap.objs.size ≤ c := by
          rcases e' with z | z | z | z | z
          · rw [z]; exact Nat.le_add_right _ _
          · rw [z]; exact Nat.le_add_right _ _
          · rw [z]; exact Nat.le_add_right _ _
          · rw [z]; exact Nat.le_refl _
          · rw [z]; exact Nat.le_add_right _ _
        exact I1.fpOk hle (I1.hok.fresh hle)
/-- over a list, a tuple, a text -/
theorem PI.or {X : Cx} {tg e : Expr} {t u : TI} (h : PI X tg e t) (k : PI X tg e u) : PI X tg e (fun σ H R => t σ H R ∨ u σ H R) := ⟨fun pins s σ H R I q => q.elim (h.run pins s σ H R I) (k.run pins s σ H R I)⟩
theorem signsV_get {x : Str} {i : Nat} {v : V} (h : (signsV x)[i]? = some v) : ∃ c, x.cps[i]? = some c ∧ v = .str ⟨#[c]⟩ := by
  unfold signsV at h
  rw [List.getElem?_map, Array.getElem?_toList] at h
  cases e : x.cps[i]? with
  | none => rw [e] at h; cases h
  | some c => rw [e] at h; cases h; exact ⟨c, rfl, rfl⟩
theorem iok_tup {ι : Nat → Addr} {g : G} {H : Hp} {l : List D} {a : Addr} {vs : List V} (hs : SqT X.K H a vs) (r : RVs X.K ι g.length H l vs) : IOk X.K X.mg ι g H (Itt X.K a) l [] := fun i ι' g' H' y hw => by
  have lx := r.length
  refine ⟨fun d ed => ?_, fun hl => ⟨vs, y.prs.sq hs, by omega⟩⟩
  obtain ⟨v, hv, q⟩ := r.get ed
  refine ⟨⟨vs, v, y.prs.sq hs, hv⟩, fun x H2 ⟨eH, k⟩ => ?_⟩
  subst eH
  have e1 := k vs (y.prs.sq hs)
  rw [hv] at e1; cases e1
  exact ⟨ι', .refl y.rep, q.nx y⟩
theorem iok_lst {ι : Nat → Addr} {g : G} {H : Hp} {l : List D} {m : Nat} (hm : m < g.length) : IOk X.K X.mg ι g H (Itl X.K (ι m)) l [(m, l)] := fun i ι' g' H' y hw => by
  have hs : ∃ xs, SqL X.K H' (ι m) xs ∧ RVs X.K ι' g'.length H' l xs := by
    have em := y.agr m hm
    rcases wOk_at hw (List.mem_cons_self ..) with hl | hl
    · obtain ⟨vs, e1, r1⟩ := y.rep.obj _ _ hl
      rw [em] at e1
      exact ⟨vs, SqL.of e1, r1⟩
    · obtain ⟨ob, vs, e1, r1⟩ := y.rep.obj _ _ hl
      rw [em] at e1
      exact ⟨vs, .inl (.inr ⟨_, e1⟩), r1⟩
  obtain ⟨vs, hs, r⟩ := hs
  have lx := r.length
  refine ⟨fun d ed => ?_, fun hl => ⟨vs, hs, by omega⟩⟩
  obtain ⟨v, hv, q⟩ := r.get ed
  refine ⟨⟨vs, v, hs, hv⟩, fun x H2 ⟨eH, k⟩ => ?_⟩
  subst eH
  have e1 := k vs hs
  rw [hv] at e1; cases e1
  exact ⟨ι', .refl y.rep, q⟩
theorem iok_str {ι : Nat → Addr} {g : G} {H : Hp} (x : Str) : IOk X.K X.mg ι g H (Its x) (signsD x) [] := fun i ι' g' H' y hw => by
  have hl : (signsD x).length = x.cps.size := by simp [signsD]
  refine ⟨fun d ed => ?_, fun h => show x.cps.size ≤ i by omega⟩
  have hi : i < x.cps.size := by rw [← hl]; exact (List.getElem?_eq_some_iff.mp ed).1
  refine ⟨hi, fun v H2 ⟨eH, c, ec, ev⟩ => ?_⟩
  subst eH ev
  unfold signsD at ed
  rw [List.getElem?_map, Array.getElem?_toList, ec] at ed
  cases ed
  exact ⟨ι', .refl y.rep, .str _⟩
theorem iok_rng {ι : Nat → Addr} {g : G} {H : Hp} (lo : Int) (n : Nat) : IOk X.K X.mg ι g H (Itr lo n) (rngD lo n) [] := fun i ι' g' H' y hw => by
  have hl : (rngD lo n).length = n := by simp [rngD]
  refine ⟨fun d ed => ?_, fun h => show n ≤ i by omega⟩
  have hi : i < n := by rw [← hl]; exact (List.getElem?_eq_some_iff.mp ed).1
  refine ⟨hi, fun v H2 ⟨eH, ev⟩ => ?_⟩
  subst eH ev
  unfold rngD at ed
  rw [List.getElem?_map, List.getElem?_range hi] at ed
  cases ed
  exact ⟨ι', .refl y.rep, .int _⟩
theorem fi_any (he : FE X W e f) : FI X W tg e (fSrc f) := by
  refine PI.imp (PI.or (pi_list he) (PI.or (pi_tup he) (pi_str he))) fun σ H R ⟨ι, ρ, g, rp, re, h⟩ => ?_
  unfold fSrc at h
  cases ed : f ρ g with
  | ex c fs g1 => exact .inl ⟨ι, ρ, g, rp, re, by rw [ed] at h ⊢; exact h⟩
  | bad => rw [ed] at h; exact h.elim
  | ok d g1 =>
    rw [ed] at h
    have h : Ic X.K X.mg W σ H ι g (match srcD d g1 with
      | some p => .ok p g1
      | none => .bad) R := h
    cases d with
    | tup l =>
      refine .inr (.inl ⟨ι, ρ, g, rp, re, ?_⟩)
      rw [ed]
      intro ι1 H1 v y q
      cases q with
      | @tup _ a vs hs r => exact ⟨a, rfl, ⟨vs, hs⟩, h ι1 H1 _ y (iok_tup hs r)⟩
    | str x =>
      refine .inr (.inr ⟨ι, ρ, g, rp, re, ?_⟩)
      rw [ed]
      intro ι1 H1 v y q
      cases q with
      | str => exact ⟨x, rfl, h ι1 H1 _ y (iok_str x)⟩
    | ref m =>
      refine .inl ⟨ι, ρ, g, rp, re, ?_⟩
      rw [ed]
      intro ι1 H1 v y q
      cases q with
      | ref hm =>
        refine ⟨_, rfl, ?_⟩
        cases e1 : g1[m]? with
        | none => simp only [srcD, e1] at h; exact h.elim
        | some o =>
          cases o with
          | lst l =>
            simp only [srcD, e1] at h
            obtain ⟨vs, e2, r⟩ := y.rep.obj _ _ e1
            exact ⟨⟨vs, SqL.of e2⟩, h ι1 H1 _ y (iok_lst hm)⟩
          | frz l =>
            simp only [srcD, e1] at h
            obtain ⟨ob, vs, e2, r⟩ := y.rep.obj _ _ e1
            exact ⟨⟨vs, .inl (.inr ⟨_, e2⟩)⟩, h ι1 H1 _ y (iok_lst hm)⟩
          | _ => simp only [srcD, e1] at h; exact h.elim
    | _ => exact h.elim
theorem fi_rng1 (hm : X.mg "range" = none) (ha : FE X W e f) (hg : Gl X "range" := by rfl) (hs : starEach [e] X.env = [(false, eval e X.env)] := by rfl) : FI X W tg (.Call (.Name "range" p) [e] [] pos) (fRng1 f) :=
  PI.imp (pi_range1 hg hm (pa_cons ha pa_nil (hs.trans rfl)) hs) fun σ H R ⟨ι, ρ, g, rp, re, h⟩ => ⟨ι, ρ, g, rp, re, h.bind fun d g1 ι1 H1 v y q h1 => by
    cases q with
    | int j =>
      simp only at h1
      split at h1
      · rename_i hb
        exact ⟨j, rfl, hb.1, hb.2, h1 ι1 H1 _ (.refl y.rep) (iok_rng 0 j.toNat)⟩
      · exact h1.elim
    | _ => exact h1.elim⟩
theorem fi_rng2 (hm : X.mg "range" = none) (ha : FE X W e f) (hb : FE X W e2 f2) (hg : Gl X "range" := by rfl) (hs : starEach [e, e2] X.env = [(false, eval e X.env), (false, eval e2 X.env)] := by rfl) (hs2 : starEach [e2] X.env = [(false, eval e2 X.env)] := by rfl) :
    FI X W tg (.Call (.Name "range" p) [e, e2] [] pos) (fRng2 f f2) :=
  PI.imp (pi_range2 hg hm (pa_cons ha (pa_cons hb pa_nil (hs2.trans rfl)) (by rw [hs, hs2])) hs hs2) fun σ H R ⟨ι, ρ, g, rp, re, h⟩ => ⟨ι, ρ, g, rp, re, h.bind fun d g1 ι1 H1 v y q h1 => ⟨ι1, ρ, g1, y.rep, re.nx y, h1.bind fun d2 g2 ι2 H2 v2 y2 q2 h2 => by
    cases q with
    | int i =>
      cases q2 with
      | int j =>
        simp only at h2
        split at h2
        · rename_i hb
          exact ⟨i, j, rfl, hb, h2 ι2 H2 _ (.refl y2.rep) (iok_rng i (j - i).toNat)⟩
        · exact h2.elim
      | _ => exact h2.elim
    | _ => exact h2.elim⟩⟩
end
end Fc

set_option Elab.async false
set_option linter.all false
set_option maxRecDepth 100000
set_option maxHeartbeats 4000000
/-! Fo: operations on values. -/
namespace Fc
open PySem PySem.Spec PyProof.Rows L2

def b2 (b : Bool) : Int := if b = true then 1 else 0
/-! ### + - * // % ** -/
def oAddI : Op2 := fun a b g => match a, b with
  | .int i, .int j => .ok (.int (i + j)) g
  | .str x, .str y => if x.length + y.length ≤ sizeLine then .ok (.str (x ++ y)) g else .bad
  | .bl p, .int j => .ok (.int (b2 p + j)) g
  | .int i, .bl p => .ok (.int (i + b2i p)) g
  | .bl p, .bl q => .ok (.int (b2i p + b2i q)) g
  | _, _ => .bad
def oAddT : Op2 := fun a b g => match a, b with
  | .tup x, .tup y => if x.length + y.length ≤ sizeLine then .ok (.tup (x ++ y)) g else .bad
  | _, _ => .bad
def oAddL : Op2 := fun a b g => match a, b with
  | .ref m, .ref k => (match g[m]?, g[k]? with
    | some (.lst x), some (.lst y) => if x.length + y.length ≤ sizeLine then .ok (.ref g.length) (g ++ [.lst (x ++ y)]) else .bad
    | _, _ => .bad)
  | _, _ => .bad
def oAdd : Op2 := oAddI.or (oAddT.or oAddL)
def oSub : Op2 := fun a b g => match a, b with
  | .int i, .int j => .ok (.int (i - j)) g
  | .bl p, .int j => .ok (.int (b2 p - j)) g
  | _, _ => .bad
def oMulI : Op2 := fun a b g => match a, b with
  | .int i, .int j => if (-(2 ^ 64) < i ∧ i < 2 ^ 64) ∨ (-(2 ^ 64) < j ∧ j < 2 ^ 64) then .ok (.int (i * j)) g else .bad
  | _, _ => .bad
def oMulT : Op2 := fun a b g => match a, b with
  | .tup x, .int k => if x ≠ [] ∧ 2 ≤ k ∧ k ≤ 1000 ∧ x.length ≤ 1000 then .ok (.tup (List.replicate k.toNat x).flatten) g else .bad
  | _, _ => .bad
def oMulL : Op2 := fun a b g => match a, b with
  | .ref m, .int k => (match g[m]? with
    | some (.lst x) => if -(2 ^ 63) ≤ k ∧ k < 2 ^ 63 ∧ x.length * k.toNat ≤ sizeLine then .ok (.ref g.length) (g ++ [.lst (List.replicate k.toNat x).flatten]) else .bad
    | _ => .bad)
  | _, _ => .bad
def oMul : Op2 := oMulI.or (oMulT.or oMulL)
def oMod : Op2 := fun a b g => match a, b with
  | .int i, .int j => if 0 < j then .ok (.int (i % j)) g else .bad
  | _, _ => .bad
def oDiv : Op2 := fun a b g => match a, b with
  | .int i, .int j => if 0 < j ∧ j < 1073741824 then .ok (.int (i / j)) g else .bad
  | _, _ => .bad
def oPow : Op2 := fun a b g => match a, b with
  | .int i, .int j => if 0 ≤ j ∧ j ≤ 1000000 ∧ i.natAbs < 2 ^ 64 then .ok (.int (i ^ j.toNat)) g else .bad
  | _, _ => .bad
def oNeg : Op1 := fun a g => match a with
  | .int i => .ok (.int (-i)) g
  | _ => .bad
/-! ### == != < <= > >= in is -/
def sclD : D → D → Option Bool
  | .non, .non => some true
  | .non, .int _ => some false | .int _, .non => some false | .non, .bl _ => some false | .bl _, .non => some false | .non, .str _ => some false | .str _, .non => some false
  | .int i, .int j => some (decide (i = j)) | .bl i, .bl j => some (decide (i = j)) | .str i, .str j => some (decide (i = j))
  | .int _, .str _ => some false | .str _, .int _ => some false | .bl _, .str _ => some false | .str _, .bl _ => some false
  | _, _ => none
mutual
/-- data as the library tells it: lists by their items (so deep at most) -/
def toP (g : G) : Nat → D → Option PyData
  | _, .non => some .none
  | _, .bl b => some (.bool b)
  | _, .int i => some (.int i)
  | _, .str x => some (.str x)
  | 0, _ => none
  | n + 1, .tup l => (toPs g n l).map .tuple
  | n + 1, .ref m => match g[m]? with
    | some (.lst l) => (toPs g n l).map .list
    | _ => none
def toPs (g : G) : Nat → List D → Option (List PyData)
  | _, [] => some []
  | 0, _ :: _ => none
  | n + 1, d :: ds => (toP g n d).bind fun p => (toPs g n ds).map (p :: ·)
end
def eqP (a b : D) (g : G) : Option Bool := match toP g 60 a, toP g 60 b with
  | some p, some q => if SeqAt.shaped p = true ∧ SeqAt.shaped q = true then some (PyData.eqv p q) else none
  | _, _ => none
/-- told by the lengths alone -/
def lenE (l l2 : List D) : Option Bool := if l.length = l2.length then (if l.length = 0 then some true else none) else some false
def eqE (a b : D) (g : G) : Option Bool := match a, b with
  | .tup l, .tup [] => some l.isEmpty
  | .ref m, .ref k => (match g[m]?, g[k]? with
    | some (.lst l), some (.lst l2) => lenE l l2
    | _, _ => none)
  | _, _ => none
def eqA (a b : D) (g : G) : Option Bool := match sclD a b with
  | some k => some k
  | none => (match eqE a b g with
    | some k => some k
    | none => eqP a b g)
def oEq : Op2 := fun a b g => match eqA a b g with
  | some k => .ok (.bl k) g
  | none => .bad
def neA (a b : D) (g : G) : Option Bool := match sclD a b with
  | some k => some k
  | none => (match eqE a b g with
    | some k => some k
    | none => eqP a b g)
def oNe : Op2 := fun a b g => match neA a b g with
  | some k => .ok (.bl (!k)) g
  | none => .bad
def oLt : Op2 := fun a b g => match a, b with
  | .int i, .int j => .ok (.bl (decide (i < j))) g
  | _, _ => .bad
def oLe : Op2 := fun a b g => match a, b with
  | .int i, .int j => .ok (.bl (decide (i ≤ j))) g
  | _, _ => .bad
def oGt : Op2 := fun a b g => match a, b with
  | .int i, .int j => .ok (.bl (decide (j < i))) g
  | _, _ => .bad
def oGe : Op2 := fun a b g => match a, b with
  | .int i, .int j => .ok (.bl (decide (j ≤ i))) g
  | _, _ => .bad
def oIsN : Op2 := fun a b g => match b with
  | .non => .ok (.bl (match a with | .non => true | _ => false)) g
  | _ => .bad
def oNotN : Op2 := fun a b g => match b with
  | .non => .ok (.bl (match a with | .non => false | _ => true)) g
  | _ => .bad
def inS (x z : Str) : Bool := !(Builtin.Str.occurrences z x 0 z.length 1).isEmpty
def flatD : D → Bool
  | .non => true | .bl _ => true | .int _ => true | .str _ => true
  | _ => false
def eqF : D → D → Bool
  | .non, .non => true
  | .bl a, .bl b => a == b
  | .bl a, .int b => (if a then 1 else 0) == b
  | .int a, .bl b => a == (if b then 1 else 0)
  | .int a, .int b => a == b
  | .str a, .str b => a == b
  | _, _ => false
def inD (x : D) (l : List D) : Bool := l.any fun y => eqF y x
def memA (a b : D) (g : G) : Option Bool := match a, b with
  | .str x, .str z => some (inS x z)
  | a, .tup l => if flatD a = true ∧ l.all flatD = true then some (inD a l) else none
  | a, .ref m => (match g[m]? with
    | some (.lst l) => if flatD a = true ∧ l.all flatD = true then some (inD a l) else none
    | _ => none)
  | _, _ => none
def oIn : Op2 := fun a b g => match memA a b g with
  | some k => .ok (.bl k) g
  | none => .bad
def oNotIn : Op2 := fun a b g => match memA a b g with
  | some k => .ok (.bl (!k)) g
  | none => .bad
/-! ### items -/
def oIx : Op2 := fun a b g => match a, b with
  | .tup l, .int i => (match atI l i with | some d => .ok d g | none => .bad)
  | .str x, .int i => (match atI x.cps.toList i with | some c => if x.length ≤ sizeLine then .ok (.str ⟨#[c]⟩) g else .bad | none => .bad)
  | .ref m, .int i => (match g[m]? with
    | some (.lst l) => (match atI l i with | some d => .ok d g | none => .bad)
    | some (.frz l) => (match atI l i with | some d => .ok d g | none => .bad)
    | _ => .bad)
  | _, _ => .bad

section
variable {X : Cx}
theorem Vc.ok {K : PySem.W.Frag} {mg : Str → Option Value} {H : Hp} {ι : Nat → Addr} {g : G} {d : D} {Q : VK} {v : V} (h : Vc K mg H ι g (.ok d g) Q) (rp : Rep K mg ι H g) (r : RV K ι g.length H d v) : Q v H := h ι H v (.refl rp) r
theorem ref_new {K : PySem.W.Frag} {ι : Nat → Addr} {g : G} {o : O} {p : Addr} {H : Hp} : RV K (ix ι g.length p) (g ++ [o]).length H (.ref g.length) (.ref p) := by
  have z := RV.ref (K := K) (ι := ix ι g.length p) (n := (g ++ [o]).length) (H := H) (m := g.length) (by simp)
  rw [ix_same] at z
  exact z
theorem OpR.or2 {f : Value → Value → Sem Value} {r r' : R2} (h : OpR X f r) (k : OpR X f r') : OpR X f (fun x y H Q => r x y H Q ∨ r' x y H Q) :=
  fun pins s σ H x y v u Q I rx ry q => q.elim (h pins s σ H x y v u Q I rx ry) (k pins s σ H x y v u Q I rx ry)
theorem add_bl_int : OpR X (binaryOp .Add) (fun x y H Q => ∃ p j, x = .bl p ∧ y = .int j ∧ Q (.int (b2 p + j)) H) := by
  intro pins s σ H x y v u Q I rx ry ⟨p, j, ex, ey, q⟩
  subst ex ey
  cases rx
  obtain ⟨t, rfl⟩ := ry
  exact IntBool.add_bool_int ⟨.int (b2 p + j), H, I.tok _, ⟨_, rfl⟩, q⟩
theorem sub_bl_int : OpR X (binaryOp .Sub) (fun x y H Q => ∃ p j, x = .bl p ∧ y = .int j ∧ Q (.int (b2 p - j)) H) := by
  intro pins s σ H x y v u Q I rx ry ⟨p, j, ex, ey, q⟩
  subst ex ey
  cases rx
  obtain ⟨t, rfl⟩ := ry
  exact IntBool.sub_bool_int ⟨.int (b2 p - j), H, I.tok _, ⟨_, rfl⟩, q⟩
theorem add_bl_bl : OpR X (binaryOp .Add) (fun x y H Q => ∃ p q, x = .bl p ∧ y = .bl q ∧ Q (.int (b2i p + b2i q)) H) := by
  intro pins s σ H x y v u Q I rx ry ⟨p, q', ex, ey, q⟩
  subst ex ey
  cases rx
  cases ry
  exact add_bool ⟨.int (b2i p + b2i q'), H, I.tok _, ⟨_, rfl⟩, q⟩
theorem os_addI : OpS X (binaryOp .Add) oAddI :=
  ⟨_, OpR.or2 op_add (OpR.or2 op_add_str (OpR.or2 add_bl_int (OpR.or2 op_add_ib add_bl_bl))), fun ι g H a b x y Q rp ra rb h => by
    cases ra <;> cases rb <;> first
      | exact h.elim
      | exact .inl ⟨_, _, rfl, rfl, h.ok rp (.int _)⟩
      | (simp only [oAddI] at h
         split at h
         · rename_i hz
           exact .inr (.inl ⟨_, _, rfl, rfl, hz, h.ok rp (.str _)⟩)
         · exact h.elim)
      | exact .inr (.inr (.inl ⟨_, _, rfl, rfl, h.ok rp (.int _)⟩))
      | exact .inr (.inr (.inr (.inl ⟨_, _, rfl, rfl, h.ok rp (.int _)⟩)))
      | exact .inr (.inr (.inr (.inr ⟨_, _, rfl, rfl, h.ok rp (.int _)⟩)))⟩
theorem os_addT : OpS X (binaryOp .Add) oAddT :=
  ⟨_, op_catA, fun ι g H a b x y Q rp ra rb h => by
    cases ra <;> cases rb <;> first
      | exact h.elim
      | skip
    rename_i l p vs hs r l2 p2 ws hs2 r2
    simp only [oAddT] at h
    split at h
    · rename_i hz
      refine ⟨p, p2, vs, ws, rfl, rfl, hs, hs2, by rw [r.length, r2.length]; exact hz, fun e => ?_, fun _ e => ?_, fun _ _ q hq => ?_⟩
      · subst e
        cases r
        exact h.ok rp (.tup hs2 r2)
      · subst e
        cases r2
        rw [List.append_nil] at h
        exact h.ok rp (.tup hs r)
      · have y := Nx.newT (vs := vs ++ ws) rp hq
        exact h _ _ _ y (.tup (SqT.of upd_same) ((r.append r2).nx y))
    · exact h.elim⟩
theorem os_addL : OpS X (binaryOp .Add) oAddL :=
  ⟨_, op_cat, fun ι g H a b x y Q rp ra rb h => by
    cases ra <;> cases rb <;> first
      | exact h.elim
      | skip
    rename_i m hm k hk
    simp only [oAddL] at h
    split at h
    · rename_i l l2 e1 e2
      split at h
      · rename_i hz
        obtain ⟨vs, ev, r⟩ := rp.obj _ _ e1
        obtain ⟨ws, ew, r2⟩ := rp.obj _ _ e2
        exact ⟨_, _, vs, ws, rfl, rfl, ev, ew, by rw [r.length, r2.length]; exact hz, fun p hp => h _ _ _ (Nx.newL rp hp (r.append r2)) ref_new⟩
      · exact h.elim
    · exact h.elim⟩
theorem os_add : OpS X (binaryOp .Add) oAdd := os_addI.or (os_addT.or os_addL)
theorem os_sub : OpS X (binaryOp .Sub) oSub :=
  ⟨_, OpR.or2 op_sub sub_bl_int, fun ι g H a b x y Q rp ra rb h => by
    cases ra <;> cases rb <;> first
      | exact h.elim
      | exact .inl ⟨_, _, rfl, rfl, h.ok rp (.int _)⟩
      | exact .inr ⟨_, _, rfl, rfl, h.ok rp (.int _)⟩⟩
theorem os_mulI : OpS X (binaryOp .Mult) oMulI :=
  ⟨_, op_mul, fun ι g H a b x y Q rp ra rb h => by
    cases ra <;> cases rb <;> first
      | exact h.elim
      | (simp only [oMulI] at h
         split at h
         · rename_i hz
           exact ⟨_, _, rfl, rfl, hz, h.ok rp (.int _)⟩
         · exact h.elim)⟩
theorem replicate_rv {K : PySem.W.Frag} {ι : Nat → Addr} {n : Nat} {H : Hp} {l : List D} {vs : List V} (r : RVs K ι n H l vs) : ∀ k : Nat, RVs K ι n H (List.replicate k l).flatten (List.replicate k vs).flatten
  | 0 => .nil
  | k + 1 => by
    rw [List.replicate_succ, List.replicate_succ, List.flatten_cons, List.flatten_cons]
    exact r.append (replicate_rv r k)
theorem os_mulT : OpS X (binaryOp .Mult) oMulT :=
  ⟨_, op_repT, fun ι g H a b x y Q rp ra rb h => by
    cases ra <;> cases rb <;> first
      | exact h.elim
      | skip
    rename_i l p vs hs r k
    simp only [oMulT] at h
    split at h
    · rename_i hz
      refine ⟨p, k, vs, rfl, rfl, hs, fun e => ?_, hz.2.1, hz.2.2.1, by rw [r.length]; exact hz.2.2.2, fun q hq => ?_⟩
      · subst e
        cases r
        exact hz.1 rfl
      · have y := Nx.newT (vs := (List.replicate k.toNat vs).flatten) rp hq
        exact h _ _ _ y (.tup (SqT.of upd_same) ((replicate_rv r k.toNat).nx y))
    · exact h.elim⟩
theorem os_mulL : OpS X (binaryOp .Mult) oMulL :=
  ⟨_, op_rep, fun ι g H a b x y Q rp ra rb h => by
    cases ra <;> cases rb <;> first
      | exact h.elim
      | skip
    rename_i m hm k
    simp only [oMulL] at h
    split at h
    · rename_i l e1
      split at h
      · rename_i hz
        obtain ⟨vs, ev, r⟩ := rp.obj _ _ e1
        exact ⟨_, k, vs, rfl, rfl, ev, hz.1, hz.2.1, by rw [r.length]; exact hz.2.2, fun p hp => h _ _ _ (Nx.newL rp hp (replicate_rv r k.toNat)) ref_new⟩
      · exact h.elim
    · exact h.elim⟩
theorem os_mul : OpS X (binaryOp .Mult) oMul := os_mulI.or (os_mulT.or os_mulL)
theorem os_mod : OpS X (binaryOp .Mod) oMod :=
  ⟨_, op_mod, fun ι g H a b x y Q rp ra rb h => by
    cases ra <;> cases rb <;> first
      | exact h.elim
      | (simp only [oMod] at h
         split at h
         · rename_i hz
           exact ⟨_, _, rfl, rfl, hz, h.ok rp (.int _)⟩
         · exact h.elim)⟩
theorem os_div : OpS X (binaryOp .FloorDiv) oDiv :=
  ⟨_, op_fdiv, fun ι g H a b x y Q rp ra rb h => by
    cases ra <;> cases rb <;> first
      | exact h.elim
      | (simp only [oDiv] at h
         split at h
         · rename_i hz
           exact ⟨_, _, rfl, rfl, hz, h.ok rp (.int _)⟩
         · exact h.elim)⟩
theorem os_pow : OpS X (binaryOp .Pow) oPow :=
  ⟨_, op_pow, fun ι g H a b x y Q rp ra rb h => by
    cases ra <;> cases rb <;> first
      | exact h.elim
      | (simp only [oPow] at h
         split at h
         · rename_i hz
           exact ⟨_, _, rfl, rfl, hz, h.ok rp (.int _)⟩
         · exact h.elim)⟩
theorem us_neg : UnS X (unaryOp .USub) oNeg :=
  ⟨_, un_neg, fun ι g H a x Q rp ra h => by
    cases ra <;> first
      | exact h.elim
      | exact ⟨_, rfl, h.ok rp (.int _)⟩⟩
theorem os_lt : OpS X (compareOp .Lt) oLt :=
  ⟨_, op_lt, fun ι g H a b x y Q rp ra rb h => by
    cases ra <;> cases rb <;> first
      | exact h.elim
      | exact ⟨_, _, rfl, rfl, h.ok rp (.bl _)⟩⟩
theorem os_le : OpS X (compareOp .LtE) oLe :=
  ⟨_, op_le, fun ι g H a b x y Q rp ra rb h => by
    cases ra <;> cases rb <;> first
      | exact h.elim
      | exact ⟨_, _, rfl, rfl, h.ok rp (.bl _)⟩⟩
theorem os_gt : OpS X (compareOp .Gt) oGt :=
  ⟨_, op_gt, fun ι g H a b x y Q rp ra rb h => by
    cases ra <;> cases rb <;> first
      | exact h.elim
      | exact ⟨_, _, rfl, rfl, h.ok rp (.bl _)⟩⟩
theorem os_ge : OpS X (compareOp .GtE) oGe :=
  ⟨_, op_ge, fun ι g H a b x y Q rp ra rb h => by
    cases ra <;> cases rb <;> first
      | exact h.elim
      | exact ⟨_, _, rfl, rfl, h.ok rp (.bl _)⟩⟩
theorem os_isN : OpS X (compareOp .Is) oIsN :=
  ⟨_, op_isN, fun ι g H a b x y Q rp ra rb h => by
    cases rb <;> first
      | exact h.elim
      | (refine ⟨rfl, ?_⟩
         cases ra <;> exact h.ok rp (.bl _))⟩
theorem os_notN : OpS X (compareOp .IsNot) oNotN :=
  ⟨_, op_notN, fun ι g H a b x y Q rp ra rb h => by
    cases rb <;> first
      | exact h.elim
      | (refine ⟨rfl, ?_⟩
         cases ra <;> exact h.ok rp (.bl _))⟩
/-! equality -/
def absD : D → V
  | .non => .non | .bl b => .bl b | .int i => .int i | .str x => .str x
  | _ => .non
theorem scl_ok {K : PySem.W.Frag} {ι : Nat → Addr} {n : Nat} {H : Hp} {a b : D} {x y : V} {k : Bool} (ra : RV K ι n H a x) (rb : RV K ι n H b y) (h : sclD a b = some k) : scal x y = true ∧ decide (x = y) = k := by
  cases ra <;> cases rb <;> first
    | (cases h; exact ⟨rfl, by simp⟩)
    | (cases h; exact ⟨rfl, rfl⟩)
    | (cases h; refine ⟨rfl, ?_⟩; rw [decide_eq_decide]; exact ⟨fun e => by injection e, fun e => by rw [e]⟩)
    | cases h
mutual
theorem toP_ok {K : PySem.W.Frag} {mg : Str → Option Value} {ι : Nat → Addr} {g : G} {H : Hp} (rp : Rep K mg ι H g) : ∀ (n : Nat) (d : D) (v : V) (p : PyData), toP g n d = some p → RV K ι g.length H d v → Dp K H v p
  | n, .non, v, p, h, r => by cases r; simp only [toP, Option.some.injEq] at h; subst h; exact .non
  | n, .bl b, v, p, h, r => by cases r; simp only [toP, Option.some.injEq] at h; subst h; exact .bl b
  | n, .int i, v, p, h, r => by cases r; simp only [toP, Option.some.injEq] at h; subst h; exact .int i
  | n, .str x, v, p, h, r => by cases r; simp only [toP, Option.some.injEq] at h; subst h; exact .str x
  | 0, .tup l, v, p, h, r => by simp [toP] at h
  | 0, .ref m, v, p, h, r => by simp [toP] at h
  | n + 1, .tup l, v, p, h, r => by
    simp only [toP, Option.map_eq_some_iff] at h
    obtain ⟨ps, h1, rfl⟩ := h
    cases r with
    | tup hs r => exact .tup hs (toPs_ok rp n l _ ps h1 r)
  | n + 1, .ref m, v, p, h, r => by
    simp only [toP] at h
    split at h
    · rename_i l el
      simp only [Option.map_eq_some_iff] at h
      obtain ⟨ps, h1, rfl⟩ := h
      cases r with
      | ref hm =>
        obtain ⟨vs, ev, r⟩ := rp.obj _ _ el
        exact .lst (SqL.of ev) (toPs_ok rp n l _ ps h1 r)
    · cases h
theorem toPs_ok {K : PySem.W.Frag} {mg : Str → Option Value} {ι : Nat → Addr} {g : G} {H : Hp} (rp : Rep K mg ι H g) : ∀ (n : Nat) (d : List D) (v : List V) (p : List PyData), toPs g n d = some p → RVs K ι g.length H d v → DpAll K H v p
  | n, [], v, p, h, r => by cases r; simp only [toPs, Option.some.injEq] at h; subst h; exact .nil
  | 0, d :: ds, v, p, h, r => by simp [toPs] at h
  | n + 1, d :: ds, v, p, h, r => by
    simp only [toPs, Option.bind_eq_some_iff, Option.map_eq_some_iff] at h
    obtain ⟨q, h1, qs, h2, rfl⟩ := h
    cases r with
    | cons r1 r2 => exact .cons (toP_ok rp n d _ q h1 r1) (toPs_ok rp n ds _ qs h2 r2)
end
theorem eqP_ok {K : PySem.W.Frag} {mg : Str → Option Value} {ι : Nat → Addr} {g : G} {H : Hp} {a b : D} {x y : V} {k : Bool} (rp : Rep K mg ι H g) (ra : RV K ι g.length H a x) (rb : RV K ι g.length H b y) (h : eqP a b g = some k) :
    ∃ p q, Dp K H x p ∧ Dp K H y q ∧ SeqAt.shaped p = true ∧ SeqAt.shaped q = true ∧ PyData.eqv p q = k := by
  unfold eqP at h
  cases e1 : toP g 60 a with
  | none => rw [e1] at h; cases h
  | some p =>
    cases e2 : toP g 60 b with
    | none => rw [e1, e2] at h; cases h
    | some q =>
      rw [e1, e2] at h
      simp only at h
      split at h
      · rename_i hs
        cases h
        exact ⟨p, q, toP_ok rp 60 a x p e1 ra, toP_ok rp 60 b y q e2 rb, hs.1, hs.2, rfl⟩
      · cases h
/-- a tuple beside the empty one -/
theorem op_eqE (hu : X.A.units < cLine) : OpR X (compareOp .Eq) (fun x y H Q => ∃ a b vs, x = .ref a ∧ y = .ref b ∧ SqT X.K H a vs ∧ SqT X.K H b [] ∧ Q (.bl vs.isEmpty) H) := by
  intro pins s σ H x y v u Q I rx ry ⟨a, b, vs, ex, ey, ha, hb, q⟩
  subst ex ey
  obtain rfl : v = .ref a := rx
  obtain rfl : u = .ref b := ry
  obtain ⟨its, r1, p1, _⟩ := I.tuple ha
  obtain ⟨its2, r2, p2, _⟩ := I.tuple hb
  cases r2
  refine SeqAt.eq_tupleAt (e := fun _ => true) p1 p2 hu (fun j h1 h2 => absurd h2 (by simp)) ⟨.bl vs.isEmpty, H, I, ?_, q⟩
  show _ = Value.bool vs.isEmpty
  cases r1 <;> rfl
theorem ne_of_rc {prog : Program} {w : World} {A : Around} {E : Value → Shared → Prop} {s : Shared} {Q : Value → Shared → Prop} {a b : Value} {k : Bool} (h : SeqAt.RcNeAt A s a b k) (hq : Q (.bool k) s) : wpAny (model prog w) A (compareOp .NotEq a b) Q E s := h prog w E Q hq
theorem op_neE (hu : X.A.units < cLine) : OpR X (compareOp .NotEq) (fun x y H Q => ∃ a b vs, x = .ref a ∧ y = .ref b ∧ SqT X.K H a vs ∧ SqT X.K H b [] ∧ Q (.bl (!vs.isEmpty)) H) := by
  intro pins s σ H x y v u Q I rx ry ⟨a, b, vs, ex, ey, ha, hb, q⟩
  subst ex ey
  obtain rfl : v = .ref a := rx
  obtain rfl : u = .ref b := ry
  obtain ⟨its, r1, p1, _⟩ := I.tuple ha
  obtain ⟨its2, r2, p2, _⟩ := I.tuple hb
  cases r2
  refine ne_of_rc (SeqAt.RcNeAt.tuples (e := fun _ => true) p1 p2 hu (fun j h1 h2 => absurd h2 (by simp))) ⟨.bl (!vs.isEmpty), H, I, ?_, q⟩
  cases r1 <;> rfl
theorem op_eqLl (hu : X.A.units < cLine) : OpR X (compareOp .Eq) (fun x y H Q => ∃ a b vs ws, x = .ref a ∧ y = .ref b ∧ SqL X.K H a vs ∧ SqL X.K H b ws ∧ (vs.length = ws.length → vs.length = 0) ∧ Q (.bl (decide (vs.length = ws.length))) H) := by
  intro pins s σ H x y v u Q I rx ry ⟨a, b, vs, ws, ex, ey, ha, hb, h0, q⟩
  subst ex ey
  obtain rfl : v = .ref a := rx
  obtain rfl : u = .ref b := ry
  obtain ⟨its, r1, p1, _⟩ := I.list ha
  obtain ⟨its2, r2, p2, _⟩ := I.list hb
  have l1 := r1.length
  have l2 := r2.length
  by_cases e : vs.length = ws.length
  · have z := h0 e
    have z1 : its = [] := List.eq_nil_of_length_eq_zero (by omega)
    have z2 : its2 = [] := List.eq_nil_of_length_eq_zero (by omega)
    subst z1 z2
    refine SeqAt.eq_listAt (e := fun _ => true) p1.isList p2.isList rfl hu (fun j h1 h2 => absurd h2 (by simp)) ⟨_, H, I, ?_, q⟩
    rw [decide_eq_true e]
    rfl
  · refine SeqAt.eq_list_lengthsAt p1.isList p2.isList (by simp only [List.size_toArray, bne_iff_ne]; omega) hu ⟨_, H, I, ?_, q⟩
    rw [decide_eq_false e]
    rfl
theorem op_neLl (hu : X.A.units < cLine) : OpR X (compareOp .NotEq) (fun x y H Q => ∃ a b vs ws, x = .ref a ∧ y = .ref b ∧ SqL X.K H a vs ∧ SqL X.K H b ws ∧ (vs.length = ws.length → vs.length = 0) ∧ Q (.bl (!decide (vs.length = ws.length))) H) := by
  intro pins s σ H x y v u Q I rx ry ⟨a, b, vs, ws, ex, ey, ha, hb, h0, q⟩
  subst ex ey
  obtain rfl : v = .ref a := rx
  obtain rfl : u = .ref b := ry
  obtain ⟨its, r1, p1, _⟩ := I.list ha
  obtain ⟨its2, r2, p2, _⟩ := I.list hb
  have l1 := r1.length
  have l2 := r2.length
  by_cases e : vs.length = ws.length
  · have z := h0 e
    have z1 : its = [] := List.eq_nil_of_length_eq_zero (by omega)
    have z2 : its2 = [] := List.eq_nil_of_length_eq_zero (by omega)
    subst z1 z2
    refine ne_of_rc (SeqAt.RcNeAt.lists (e := fun _ => true) p1.isList p2.isList rfl hu (fun j h1 h2 => absurd h2 (by simp))) ⟨_, H, I, ?_, q⟩
    rw [decide_eq_true e]
    rfl
  · refine ne_of_rc (SeqAt.RcNeAt.lists_lengths p1.isList p2.isList (by simp only [List.size_toArray, bne_iff_ne]; omega) hu) ⟨_, H, I, ?_, q⟩
    rw [decide_eq_false e]
    rfl
theorem eqE_cases {K : PySem.W.Frag} {mg : Str → Option Value} {ι : Nat → Addr} {g : G} {H : Hp} {a b : D} {x y : V} {k : Bool} (rp : Rep K mg ι H g) (ra : RV K ι g.length H a x) (rb : RV K ι g.length H b y) (h : eqE a b g = some k) :
    (∃ p q vs, x = .ref p ∧ y = .ref q ∧ SqT K H p vs ∧ SqT K H q [] ∧ vs.isEmpty = k) ∨ ∃ p q vs ws, x = .ref p ∧ y = .ref q ∧ SqL K H p vs ∧ SqL K H q ws ∧ (vs.length = ws.length → vs.length = 0) ∧ decide (vs.length = ws.length) = k := by
  cases ra <;> first
    | (simp only [eqE] at h; cases h; done)
    | skip
  · rename_i l p vs hs r
    cases rb with
    | @tup l2 p2 ws hs2 r2 =>
      cases r2 with
      | nil =>
        cases h
        exact .inl ⟨p, p2, vs, rfl, rfl, hs, hs2, r.isEmpty⟩
      | cons _ _ => simp only [eqE] at h; cases h
    | _ => simp only [eqE] at h; cases h
  · rename_i m hm
    cases rb with
    | @ref m2 hm2 =>
      simp only [eqE] at h
      split at h
      · rename_i l l2 e1 e2
        obtain ⟨vs, ev, r⟩ := rp.obj _ _ e1
        obtain ⟨ws, ew, r2⟩ := rp.obj _ _ e2
        refine .inr ⟨_, _, vs, ws, rfl, rfl, SqL.of ev, SqL.of ew, ?_⟩
        rw [r.length, r2.length]
        unfold lenE at h
        split at h
        · rename_i e
          split at h
          · rename_i z
            cases h
            exact ⟨fun _ => z, decide_eq_true e⟩
          · cases h
        · rename_i e
          cases h
          exact ⟨fun q => absurd q e, decide_eq_false e⟩
      · cases h
    | _ => simp only [eqE] at h; cases h
theorem os_eq (hu : X.A.units + 64 < cLine) : OpS X (compareOp .Eq) oEq :=
  ⟨_, OpR.or2 op_eq (OpR.or2 (op_eqE (by omega)) (OpR.or2 (op_eqLl (by omega)) (op_eqD hu))), fun ι g H a b x y Q rp ra rb h => by
    unfold oEq eqA at h
    cases e : sclD a b with
    | some k =>
      rw [e] at h
      obtain ⟨h1, h2⟩ := scl_ok ra rb e
      exact .inl ⟨h1, h2 ▸ h.ok rp (.bl k)⟩
    | none =>
      rw [e] at h
      cases e1 : eqE a b g with
      | some k =>
        rw [e1] at h
        have hq := h.ok rp (.bl k)
        rcases eqE_cases rp ra rb e1 with ⟨p, q, vs, ex, ey, h1, h2, h3⟩ | ⟨p, q, vs, ws, ex, ey, h1, h2, h3, h4⟩
        · exact .inr (.inl ⟨p, q, vs, ex, ey, h1, h2, by rw [h3]; exact hq⟩)
        · exact .inr (.inr (.inl ⟨p, q, vs, ws, ex, ey, h1, h2, h3, by rw [h4]; exact hq⟩))
      | none =>
        rw [e1] at h
        cases e2 : eqP a b g with
        | none => simp only [e2] at h; exact h.elim
        | some k =>
          simp only [e2] at h
          obtain ⟨p, q, h1, h2, h3, h4, h5⟩ := eqP_ok rp ra rb e2
          exact .inr (.inr (.inr ⟨p, q, h1, h2, h3, h4, by rw [h5]; exact h.ok rp (.bl k)⟩))⟩
theorem os_ne (hu : X.A.units + 64 < cLine) : OpS X (compareOp .NotEq) oNe :=
  ⟨_, OpR.or2 op_ne (OpR.or2 (op_neE (by omega)) (OpR.or2 (op_neLl (by omega)) (op_neD hu))), fun ι g H a b x y Q rp ra rb h => by
    unfold oNe neA at h
    cases e : sclD a b with
    | some k =>
      rw [e] at h
      obtain ⟨h1, h2⟩ := scl_ok ra rb e
      exact .inl ⟨h1, by rw [h2]; exact h.ok rp (.bl (!k))⟩
    | none =>
      rw [e] at h
      cases e1 : eqE a b g with
      | some k =>
        rw [e1] at h
        have hq := h.ok rp (.bl (!k))
        rcases eqE_cases rp ra rb e1 with ⟨p, q, vs, ex, ey, h1, h2, h3⟩ | ⟨p, q, vs, ws, ex, ey, h1, h2, h3, h4⟩
        · exact .inr (.inl ⟨p, q, vs, ex, ey, h1, h2, by rw [h3]; exact hq⟩)
        · exact .inr (.inr (.inl ⟨p, q, vs, ws, ex, ey, h1, h2, h3, by rw [h4]; exact hq⟩))
      | none =>
        rw [e1] at h
        cases e2 : eqP a b g with
        | none => simp only [e2] at h; exact h.elim
        | some k =>
          simp only [e2] at h
          obtain ⟨p, q, h1, h2, h3, h4, h5⟩ := eqP_ok rp ra rb e2
          exact .inr (.inr (.inr ⟨p, q, h1, h2, h3, h4, by rw [h5]; exact h.ok rp (.bl (!k))⟩))⟩
/-! in -/
theorem flat_rv {K : PySem.W.Frag} {ι : Nat → Addr} {n : Nat} {H : Hp} {a : D} {x : V} (r : RV K ι n H a x) (h : flatD a = true) : flatV x = true := by cases r <;> first | rfl | cases h
theorem flat_rvs {K : PySem.W.Frag} {ι : Nat → Addr} {n : Nat} {H : Hp} : ∀ {a : List D} {x : List V}, RVs K ι n H a x → a.all flatD = true → x.all flatV = true
  | _, _, .nil, _ => rfl
  | _, _, .cons r t, h => by
    rw [List.all_cons, Bool.and_eq_true] at h ⊢
    exact ⟨flat_rv r h.1, flat_rvs t h.2⟩
theorem eqF_rv {K : PySem.W.Frag} {ι : Nat → Addr} {n : Nat} {H : Hp} {a b : D} {x y : V} (ra : RV K ι n H a x) (rb : RV K ι n H b y) : eqV x y = eqF a b := by cases ra <;> cases rb <;> rfl
theorem inD_rv {K : PySem.W.Frag} {ι : Nat → Addr} {n : Nat} {H : Hp} {a : D} {x : V} (ra : RV K ι n H a x) : ∀ {l : List D} {vs : List V}, RVs K ι n H l vs → inV x vs = inD a l
  | _, _, .nil => rfl
  | _, _, .cons r t => by
    show (eqV _ x || inV x _) = (eqF _ a || inD a _)
    rw [eqF_rv r ra, inD_rv ra t]
theorem mem_cases {K : PySem.W.Frag} {mg : Str → Option Value} {ι : Nat → Addr} {g : G} {H : Hp} {a b : D} {x y : V} {k : Bool} (rp : Rep K mg ι H g) (ra : RV K ι g.length H a x) (rb : RV K ι g.length H b y) (h : memA a b g = some k) :
    (∃ i j, x = .str i ∧ y = .str j ∧ inS i j = k) ∨ ∃ p vs, y = .ref p ∧ (SqL K H p vs ∨ SqT K H p vs) ∧ flatV x = true ∧ vs.all flatV = true ∧ inV x vs = k := by
  have fin : ∀ l p vs, y = .ref p → (SqL K H p vs ∨ SqT K H p vs) → RVs K ι g.length H l vs → (if flatD a = true ∧ l.all flatD = true then some (inD a l) else none) = some k → ∃ p vs, y = .ref p ∧ (SqL K H p vs ∨ SqT K H p vs) ∧ flatV x = true ∧ vs.all flatV = true ∧ inV x vs = k := by
    intro l p vs ey hs r e
    split at e
    · rename_i hf
      cases e
      exact ⟨p, vs, ey, hs, flat_rv ra hf.1, flat_rvs r hf.2, inD_rv ra r⟩
    · cases e
  cases rb with
  | str z =>
    cases ra with
    | str i => cases h; exact .inl ⟨i, z, rfl, rfl, rfl⟩
    | _ => simp only [memA] at h; cases h
  | @tup l p vs hs r =>
    refine .inr (fin l p vs rfl (.inr hs) r ?_)
    cases ra <;> exact h
  | @ref m hm =>
    have h : (match g[m]? with
      | some (.lst l) => if flatD a = true ∧ l.all flatD = true then some (inD a l) else none
      | _ => none) = some k := by cases ra <;> exact h
    split at h
    · rename_i l el
      obtain ⟨vs, ev, r⟩ := rp.obj _ _ el
      exact .inr (fin l _ vs rfl (.inl (SqL.of ev)) r h)
    · cases h
  | _ => cases ra <;> (simp only [memA] at h; cases h)
theorem os_in : OpS X (compareOp .In) oIn :=
  ⟨_, OpR.or2 op_in_str op_in_seq, fun ι g H a b x y Q rp ra rb h => by
    unfold oIn at h
    cases e : memA a b g with
    | none => rw [e] at h; exact h.elim
    | some k =>
      rw [e] at h
      have h := h.ok rp (.bl k)
      rcases mem_cases rp ra rb e with ⟨i, j, ex, ey, ek⟩ | ⟨p, vs, ey, hs, f1, f2, ek⟩
      · exact .inl ⟨i, j, ex, ey, by unfold inS at ek; rw [ek]; exact h⟩
      · exact .inr ⟨p, vs, ey, hs, f1, f2, by rw [ek]; exact h⟩⟩
theorem os_notIn : OpS X (compareOp .NotIn) oNotIn :=
  ⟨_, OpR.or2 op_notIn_str op_notIn_seq, fun ι g H a b x y Q rp ra rb h => by
    unfold oNotIn at h
    cases e : memA a b g with
    | none => rw [e] at h; exact h.elim
    | some k =>
      rw [e] at h
      have h := h.ok rp (.bl (!k))
      rcases mem_cases rp ra rb e with ⟨i, j, ex, ey, ek⟩ | ⟨p, vs, ey, hs, f1, f2, ek⟩
      · exact .inl ⟨i, j, ex, ey, by unfold inS at ek; rw [ek]; exact h⟩
      · exact .inr ⟨p, vs, ey, hs, f1, f2, by rw [ek]; exact h⟩⟩
/-! items -/
theorem atI_rv {K : PySem.W.Frag} {ι : Nat → Addr} {n : Nat} {H : Hp} {l : List D} {vs : List V} {i : Int} {d : D} (r : RVs K ι n H l vs) (h : atI l i = some d) : ∃ v, atI vs i = some v ∧ RV K ι n H d v := by
  unfold atI at h ⊢
  rw [r.length]
  obtain ⟨j, h1, h2⟩ := Option.bind_eq_some_iff.mp h
  obtain ⟨v, h3, h4⟩ := r.get h2
  exact ⟨v, Option.bind_eq_some_iff.mpr ⟨j, h1, h3⟩, h4⟩
theorem xs_ix : IxS X oIx :=
  ⟨_, ix_list.or (ix_tup.or ix_str), fun ι g H a b x y Q rp ra rb h => by
    cases rb with
    | int i =>
      cases ra with
      | @tup l p vs hs r =>
        simp only [oIx] at h
        split at h
        · rename_i d e
          obtain ⟨v, h1, h2⟩ := atI_rv r e
          exact .inr (.inl ⟨p, vs, i, v, rfl, rfl, hs, h1, h.ok rp h2⟩)
        · exact h.elim
      | str z =>
        simp only [oIx] at h
        split at h
        · rename_i c e
          split at h
          · rename_i hz
            exact .inr (.inr ⟨z, i, c, rfl, rfl, hz, e, h.ok rp (.str _)⟩)
          · exact h.elim
        · exact h.elim
      | @ref m hm =>
        simp only [oIx] at h
        split at h
        · rename_i l el
          obtain ⟨vs, ev, r⟩ := rp.obj _ _ el
          split at h
          · rename_i d e
            obtain ⟨v, h1, h2⟩ := atI_rv r e
            exact .inl ⟨_, vs, i, v, rfl, rfl, SqL.of ev, h1, h.ok rp h2⟩
          · exact h.elim
        · rename_i l el
          obtain ⟨ob, vs, ev, r⟩ := rp.obj _ _ el
          split at h
          · rename_i d e
            obtain ⟨v, h1, h2⟩ := atI_rv r e
            exact .inl ⟨_, vs, i, v, rfl, rfl, .inl (.inr ⟨_, ev⟩), h1, h.ok rp h2⟩
          · exact h.elim
        · exact h.elim
      | _ => exact h.elim
    | _ => cases ra <;> exact h.elim⟩
end
end Fc

set_option Elab.async false
set_option linter.all false
set_option maxRecDepth 100000
set_option maxHeartbeats 4000000
/-! Fp: chains, slices, built-in functions. -/
namespace Fc
open PySem PySem.Spec PyProof.Rows L2

/-- a statement that is never reached -/
def sBad : Ev → G → Rs := fun _ _ => .bad
theorem fs_bad {X : Cx} {W : WX} {st : Stmt} : FS X W st sBad := ⟨fun pins s σ H D I ⟨_, _, _, _, _, h⟩ => h.elim⟩
theorem fb_bad {X : Cx} {W : WX} {st : List Stmt} : FB X W st sBad := ⟨fun pins s σ H D I ⟨_, _, _, _, _, h⟩ => h.elim⟩
def fBad : Ev → G → Re D := fun _ _ => .bad
theorem fe_bad {X : Cx} {W : WX} {e : Expr} : FE X W e fBad := ⟨fun pins s σ H Q I ⟨_, _, _, _, _, h⟩ => h.elim⟩

/-! ### a < b < c -/
def fChain (o o' : Op2) (fa fb fc : Ev → G → Re D) : Ev → G → Re D := fun ρ g => (fa ρ g).bind fun a g1 => (fb ρ g1).bind fun b g2 => (noEx (o a b g2)).bind fun k g3 => match k with
  | .bl true => (fc ρ g3).bind fun c g4 => noEx (o' b c g4)
  | .bl false => .ok (.bl false) g3
  | _ => .bad
section
variable {X : Cx} {W : WX} {pos : Pos} {a b c : Expr} {fa fb fc : Ev → G → Re D}
theorem Tc.noExV {σ : L2.St} {H : Hp} {ι : Nat → Addr} {g : G} {r : Re D} {k : D → G → Re D} {Q P : VK} (h : Tc X.K X.mg (RV X.K) W σ H ι g ((noEx r).bind k) Q)
    (hk : ∀ a g1 ι1 H1 b, Nx X.K X.mg ι g H ι1 g1 H1 → RV X.K ι1 g1.length H1 a b → Tc X.K X.mg (RV X.K) W σ H1 ι1 g1 (k a g1) Q → P b H1) : Vc X.K X.mg H ι g r P := by
  cases r with
  | ok d g' => exact fun ι' H' v y q => hk d g' ι' H' v y q (Tc.base y h)
  | ex c fs g' => exact h.elim
  | bad => exact h.elim
theorem chain_read {o o' : Op2} {r r' : R2} {σ : L2.St} {H : Hp} {Q : VK} (k : ∀ ι g H a b x y Q, Rep X.K X.mg ι H g → RV X.K ι g.length H a x → RV X.K ι g.length H b y → Vc X.K X.mg H ι g (o a b g) Q → r x y H Q)
    (k' : ∀ ι g H a b x y Q, Rep X.K X.mg ι H g → RV X.K ι g.length H a x → RV X.K ι g.length H b y → Vc X.K X.mg H ι g (o' a b g) Q → r' x y H Q)
    (h : tF X.K X.mg (RV X.K) W (fChain o o' fa fb fc) σ H Q) : tChain r r' (tF X.K X.mg (RV X.K) W fa) (tF X.K X.mg (RV X.K) W fb) (tF X.K X.mg (RV X.K) W fc) σ H Q := by
  obtain ⟨ι, ρ, g, rp, re, h⟩ := h
  refine ⟨ι, ρ, g, rp, re, h.bind fun d g1 ι1 H1 v x1 q1 h1 => ⟨ι1, ρ, g1, x1.rep, re.nx x1, h1.bind fun e g2 ι2 H2 w x2 q2 h2 => ?_⟩⟩
  refine k ι2 g2 H2 d e v w _ x2.rep (q1.nx x2) q2 (h2.noExV fun z g3 ι3 H3 u x3 q3 h3 => ?_)
  cases q3 with
  | bl b =>
    refine ⟨b, rfl, ?_⟩
    cases b with
    | true =>
      rw [if_pos rfl]
      exact ⟨ι3, ρ, g3, x3.rep, re.nx (x1.trans (x2.trans x3)), h3.bind fun c g4 ι4 H4 u x4 q4 h4 => k' ι4 g4 H4 e c w u Q x4.rep (q2.nx (x3.trans x4)) q4 (Vc.noEx h4)⟩
    | false =>
      rw [if_neg Bool.false_ne_true]
      exact h3.ok (.refl x3.rep) (.bl false)
  | _ => exact h3.elim
theorem fe_chain {op op' : CmpOp} {o o' : Op2} (ho : OpS X (compareOp op) o) (ho' : OpS X (compareOp op') o') (ha : FE X W a fa) (hb : FE X W b fb) (hc : FE X W c fc)
    (hm : lastMarks [op, op'] [b, c] = false := by with_unfolding_all rfl) : FE X W (.Compare a [op, op'] [b, c] pos) (fChain o o' fa fb fc) := by
  obtain ⟨r, hr, k⟩ := ho
  obtain ⟨r', hr', k'⟩ := ho'
  exact PE.imp (pe_chain hr hr' ha hb hc hm) fun σ H Q h => chain_read k k' h
theorem ft_chain {op op' : CmpOp} {o o' : Op2} (ho : OpS X (compareOp op) o) (ho' : OpS X (compareOp op') o') (ha : FE X W a fa) (hb : FE X W b fb) (hc : FE X W c fc)
    (hm : lastMarks [op, op'] [b, c] = false := by with_unfolding_all rfl) : FT X W (.Compare a [op, op'] [b, c] pos) (fTest (fChain o o' fa fb fc)) := by
  obtain ⟨r, hr, k⟩ := ho
  obtain ⟨r', hr', k'⟩ := ho'
  refine PT.imp (pt_chain hr hr' ha hb hc hm) fun σ H Q ⟨ι, ρ, g, rp, re, h⟩ => ?_
  refine chain_read k k' ⟨ι, ρ, g, rp, re, ?_⟩
  refine h.bind fun d g1 ι1 H1 v x1 q1 h1 => ?_
  cases q1 with
  | bl b => exact ⟨b, rfl, h1.ok (.refl x1.rep) rfl⟩
  | _ => exact h1.elim
end

/-! ### slices -/
def cutD (xs : List D) (lo hi : Option Int) : List D := (xs.drop (HT.sIx xs.length 0 lo)).take (HT.sIx xs.length xs.length hi - HT.sIx xs.length 0 lo)
def oSl (d : D) (lo hi : Option Int) (g : G) : Re D := match d with
  | .str z => if z.length ≤ sizeLine then .ok (.str (cutS z lo hi)) g else .bad
  | .tup l => .ok (.tup (cutD l lo hi)) g
  | .ref m => (match g[m]? with
    | some (.lst l) => .ok (.ref g.length) (g ++ [.lst (cutD l lo hi)])
    | _ => .bad)
  | _ => .bad
def fPart (f : Option (Ev → G → Re D)) : Ev → G → Re (Option Int) := fun ρ g => match f with
  | none => .ok none g
  | some f => (f ρ g).bind fun d g1 => match d with
    | .int i => .ok (some i) g1
    | _ => .bad
def fSl (f : Ev → G → Re D) (fl fh : Option (Ev → G → Re D)) : Ev → G → Re D := fun ρ g => (f ρ g).bind fun d g1 => (fPart fl ρ g1).bind fun lo g2 => (fPart fh ρ g2).bind fun hi g3 => oSl d lo hi g3
theorem cut_rv {K : PySem.W.Frag} {ι : Nat → Addr} {n : Nat} {H : Hp} {l : List D} {vs : List V} (r : RVs K ι n H l vs) (lo hi : Option Int) : RVs K ι n H (cutD l lo hi) (cutV vs lo hi) := by
  unfold cutD cutV
  rw [r.length]
  exact (r.drop _).take _
def FP (X : Cx) (W : WX) (e : Option Expr) (f : Option (Ev → G → Re D)) : Prop := PO X e fun σ H Q => tF X.K X.mg Rb W (fPart f) σ H Q
theorem PO.imp {X : Cx} {e : Option Expr} {t t' : TO} (h : PO X e t) (k : ∀ σ H Q, t' σ H Q → t σ H Q) : PO X e t' := ⟨fun pins s σ H Q I q => h.run pins s σ H Q I (k σ H Q q)⟩
theorem cut_whole {l : List D} {lo hi : Option Int} (h : HT.sIx l.length 0 lo = 0 ∧ HT.sIx l.length l.length hi = l.length) : cutD l lo hi = l := by
  unfold cutD
  rw [h.1, h.2, List.drop_zero, Nat.sub_zero, List.take_length]
section
variable {X : Cx} {W : WX} {pos p2 : Pos} {e : Expr} {lo hi : Option Expr} {f : Ev → G → Re D} {fl fh : Option (Ev → G → Re D)}
theorem fp_none : FP X W none none := PO.imp po_none fun σ H Q ⟨ι, ρ, g, rp, re, h⟩ => h.ok (.refl rp) rfl
theorem fp_some (h : FE X W e f) : FP X W (some e) (some f) := PO.imp (po_some h) fun σ H Q ⟨ι, ρ, g, rp, re, h⟩ => ⟨ι, ρ, g, rp, re, h.bind fun d g1 ι1 H1 v x1 q1 h1 => by
  cases q1 with
  | int i => exact ⟨i, rfl, h1.ok (.refl x1.rep) rfl⟩
  | _ => exact h1.elim⟩
theorem sl_any : SlR X (fun x lo hi H Q => rSlS x lo hi H Q ∨ (rSlA X.K x lo hi H Q ∨ rSlL X.K x lo hi H Q)) := SlR.or sl_str (SlR.or sl_tupA sl_list)
theorem fe_sl (he : FE X W e f) (hl : FP X W lo fl) (hh : FP X W hi fh) : FE X W (.Subscript e (.Slice lo hi none p2) pos) (fSl f fl fh) :=
  PE.imp (pe_slice sl_any he hl hh) fun σ H Q ⟨ι, ρ, g, rp, re, h⟩ => ⟨ι, ρ, g, rp, re, h.bind fun d g1 ι1 H1 v x1 q1 h1 => ⟨ι1, ρ, g1, x1.rep, re.nx x1, h1.bind fun l g2 ι2 H2 w x2 q2 h2 => by
    obtain rfl : l = w := q2
    refine ⟨ι2, ρ, g2, x2.rep, re.nx (x1.trans x2), h2.bind fun u g3 ι3 H3 w3 x3 q3 h3 => ?_⟩
    obtain rfl : u = w3 := q3
    have q := q1.nx (x2.trans x3)
    cases q with
    | str z =>
      simp only [oSl] at h3
      split at h3
      · rename_i hz
        exact .inl ⟨z, rfl, hz, h3.ok (.refl x3.rep) (.str _)⟩
      · exact h3.elim
    | @tup ds a ws hs r =>
      refine .inr (.inl ⟨_, _, rfl, hs, fun hw => ?_, fun _ p hp => ?_⟩)
      · rw [r.length] at hw
        simp only [oSl] at h3
        rw [cut_whole hw] at h3
        exact h3.ok (.refl x3.rep) (.tup hs r)
      · have y := Nx.newT (vs := cutV ws l u) x3.rep hp
        exact h3.ok y (.tup (SqT.of upd_same) ((cut_rv r l u).nx y))
    | ref hm =>
      simp only [oSl] at h3
      split at h3
      · rename_i l' el
        obtain ⟨vs, ev, r⟩ := x3.rep.obj _ _ el
        exact .inr (.inr ⟨_, vs, rfl, SqL.of ev, fun p hp => h3.ok (Nx.newL x3.rep hp (cut_rv r l u)) ref_new⟩)
      · exact h3.elim
    | _ => exact h3.elim⟩⟩
end

/-! ### isinstance -/
def tyD (d : D) (g : G) : Option String := match d with
  | .non => some "NoneType" | .bl _ => some "bool" | .int _ => some "int" | .str _ => some "str" | .tup _ => some "tuple"
  | .ref m => match g[m]? with
    | some (.lst _) => some "list" | some (.frz _) => some "list" | some (.dct _) => some "dict"
    | _ => none
/-- the name of the own class -/
def ownD (d : D) (g : G) : Option Str := match d with
  | .ref m => match g[m]? with
    | some (.ins c _) => some c
    | _ => none
  | _ => none
def fIsi (T : String) (own : Str → Option Bool) (f : Ev → G → Re D) : Ev → G → Re D := fun ρ g => (f ρ g).bind fun d g1 => match tyD d g1 with
  | some t => (match kitB t T with | some b => .ok (.bl b) g1 | none => .bad)
  | none => (match (ownD d g1).bind own with | some b => .ok (.bl b) g1 | none => .bad)
/-- an own class, as isinstance asks -/
structure OwnC (K : PySem.W.Frag) (C : Addr) : Prop where
  cl : Cls K C
  ha : PySem.W.findIn K (.ref C) "__class__" = some (some (.builtin "object.__class__"))
  hn : PySem.W.specialIn K (.builtin "object.__class__") "__get__" = some (some (.builtin "getset_descriptor.__get__"))
  htk : PySem.W.takesIn K (.builtin "object.__class__") = some true
  hm : PySem.W.mroIn K C (.type "object") = some true
theorem tyD_ok {K : PySem.W.Frag} {mg : Str → Option Value} {ι : Nat → Addr} {g : G} {H : Hp} {d : D} {v : V} {t : String} (rp : Rep K mg ι H g) (r : RV K ι g.length H d v) (h : tyD d g = some t) : TyX K H v (.type t) := by
  cases r with
  | non => cases h; exact .base .non
  | bl b => cases h; exact .base (.bl b)
  | int i => cases h; exact .base (.int i)
  | str x => cases h; exact .base (.str x)
  | tup hs r =>
    cases h
    rcases hs with (e | ⟨o, e⟩) | ⟨o, its, n, e, c, _⟩
    · exact .base (.tup e)
    · exact .fTuple e
    · exact .kTuple e c
  | ref hm =>
    simp only [tyD] at h
    split at h
    · rename_i l el
      obtain ⟨vs, ev, _⟩ := rp.obj _ _ el
      cases h
      exact .base (.lst ev)
    · rename_i l el
      obtain ⟨ob, vs, ev, _⟩ := rp.obj _ _ el
      cases h
      exact .base (.frz ev)
    · rename_i l el
      obtain ⟨vs, ev, _⟩ := rp.obj _ _ el
      cases h
      exact .base (.dK ev)
    · cases h
theorem ownD_ok {K : PySem.W.Frag} {mg : Str → Option Value} {ι : Nat → Addr} {g : G} {H : Hp} {d : D} {v : V} {c : Str} (rp : Rep K mg ι H g) (r : RV K ι g.length H d v) (h : ownD d g = some c) : ∃ C, mg c = some (.ref C) ∧ (OwnC K C → TyX K H v (.ref C)) := by
  cases r with
  | ref hm =>
    simp only [ownD] at h
    split at h
    · rename_i c' fs el
      obtain ⟨C, dx, fvs, ec, ev, _, _⟩ := rp.obj _ _ el
      cases h
      exact ⟨C, ec, fun o => .base (.ins ev o.cl o.ha o.hn o.htk o.hm)⟩
    · cases h
  | _ => cases h
section
variable {X : Cx} {W : WX} {pos p p1 : Pos} {e : Expr} {f : Ev → G → Re D} {x : Str} {T : String} {own : Str → Option Bool}
theorem fe_isi (T : String) (own : Str → Option Bool) (he : FE X W e f) (hm : X.mg "isinstance" = none) (hx : X.mg x = none) (hT : bootBuiltins x = some (.type T)) (ho : ∀ c C b, own c = some b → X.mg c = some (.ref C) → OwnC X.K C ∧ PySem.W.kitOne X.K (.ref C) (.type T) = some b)
    (hg : Gl X "isinstance" := by rfl) (hgx : Gl X x := by rfl) (hn : x ≠ "__name__" := by decide) (hdx : (x == ("__debug__" : Str)) = false := by decide)
    (he1 : starEach [e, .Name x p1] X.env = (false, eval e X.env) :: starEach [.Name x p1] X.env := by rfl) (he2 : starEach [.Name x p1] X.env = (false, eval (.Name x p1) X.env) :: starEach [] X.env := by rfl)
    (hpl : (backTo pos (starEach [.Name x p1] X.env)).any (·.1) = false := by rfl) : FE X W (.Call (.Name "isinstance" p) [e, .Name x p1] [] pos) (fIsi T own f) := by
  refine PE.imp (pe_callB call_isi hg hm PyProof.Rows.boot_isinstance (pa_cons he (pa_cons (pe_bltn (v := .ty T) hgx hx hT rfl hn hdx) pa_nil he2) he1) (by decide) (by decide) he1 hpl) fun σ H Q ⟨ι, ρ, g, rp, re, h⟩ => ⟨ι, ρ, g, rp, re, h.bind fun d g1 ι1 H1 v x1 q1 h1 => ?_⟩
  show rIsi X.K _ _ _
  cases e1 : tyD d g1 with
  | some t =>
    simp only [e1] at h1
    split at h1
    · rename_i b eb
      exact ⟨v, .ty T, _, _, b, rfl, .ty T, tyD_ok x1.rep q1 e1, kit_ty eb, h1.ok (.refl x1.rep) (.bl b)⟩
    · exact h1.elim
  | none =>
    simp only [e1] at h1
    split at h1
    · rename_i b eb
      obtain ⟨c, ec, eo⟩ := Option.bind_eq_some_iff.mp eb
      obtain ⟨C, emg, ty⟩ := ownD_ok x1.rep q1 ec
      obtain ⟨O, k⟩ := ho c C b eo emg
      exact ⟨v, .ty T, _, _, b, rfl, .ty T, ty O, k, h1.ok (.refl x1.rep) (.bl b)⟩
    · exact h1.elim
end

/-! ### built-in functions of values -/
def lenD (d : D) (g : G) : Option Nat := match d with
  | .str x => if x.length ≤ sizeLine then some x.length else none
  | .tup l => some l.length
  | .ref m => match g[m]? with
    | some (.lst l) => some l.length
    | some (.frz l) => some l.length
    | _ => none
  | _ => none
def oLen : OpN := fun as g => match as with
  | [d] => (match lenD d g with | some n => .ok (.int (n : Int)) g | none => .bad)
  | _ => .bad
def blsD : List D → Option (List Bool)
  | [] => some []
  | .bl b :: r => (blsD r).map (b :: ·)
  | _ => none
def intsD : List D → Option (List Int)
  | [] => some []
  | .int i :: r => (intsD r).map (i :: ·)
  | _ => none
def lstAt (d : D) (g : G) : Option (List D) := match d with
  | .ref m => match g[m]? with
    | some (.lst l) => some l
    | some (.frz l) => some l
    | _ => none
  | _ => none
def oAll : OpN := fun as g => match as with
  | [d] => (match (lstAt d g).bind blsD with | some bs => .ok (.bl (bs.all id)) g | none => .bad)
  | _ => .bad
def oAny : OpN := fun as g => match as with
  | [d] => (match (lstAt d g).bind blsD with | some bs => .ok (.bl (bs.any id)) g | none => .bad)
  | _ => .bad
def oAbs : OpN := fun as g => match as with
  | [.int i] => .ok (.int (if i < 0 then -i else i)) g
  | _ => .bad
def oMax2 : OpN := fun as g => match as with
  | [.int i, .int j] => .ok (.int (if j > i then j else i)) g
  | _ => .bad
def oMin2 : OpN := fun as g => match as with
  | [.int i, .int j] => .ok (.int (if j < i then j else i)) g
  | _ => .bad
def maxZ : List Int → Int
  | [] => 0
  | [x] => x
  | x :: r => max x (maxZ r)
theorem maxZ_spec : ∀ {l : List Int}, l ≠ [] → maxZ l ∈ l ∧ ∀ y ∈ l, y ≤ maxZ l
  | [x], _ => ⟨by simp [maxZ], fun y hy => by simp at hy; subst hy; exact Int.le_refl _⟩
  | x :: z :: r, _ => by
    obtain ⟨h1, h2⟩ := maxZ_spec (l := z :: r) (by simp)
    show max x (maxZ (z :: r)) ∈ _ ∧ _
    refine ⟨?_, fun y hy => ?_⟩
    · rcases Int.le_total x (maxZ (z :: r)) with h | h
      · rw [Int.max_eq_right h]; exact List.mem_cons_of_mem _ h1
      · rw [Int.max_eq_left h]; exact List.mem_cons_self ..
    · show y ≤ max x (maxZ (z :: r))
      rcases List.mem_cons.mp hy with e | e
      · rw [e]; exact Int.le_max_left ..
      · exact Int.le_trans (h2 y e) (Int.le_max_right ..)
def oMaxL : OpN := fun as g => match as with
  | [d] => (match (lstAt d g).bind intsD with | some (n :: ns) => .ok (.int (maxZ (n :: ns))) g | _ => .bad)
  | _ => .bad
def oBool : OpN := fun as g => match as with
  | [.int i] => .ok (.bl (i != 0)) g
  | [.bl b] => .ok (.bl b) g
  | _ => .bad
def oInt : OpN := fun as g => match as with
  | [.int i] => .ok (.int i) g
  | [.bl b] => .ok (.int (if b then 1 else 0)) g
  | _ => .bad
def seqAt (d : D) (g : G) : Option (List D) := match d with
  | .tup l => some l
  | d => lstAt d g
def oList : OpN := fun as g => match as with
  | [d] => (match seqAt d g with | some l => .ok (.ref g.length) (g ++ [.lst l]) | none => .bad)
  | _ => .bad
def oTuple : OpN := fun as g => match as with
  | [d] => (match seqAt d g with | some l => .ok (.tup l) g | none => .bad)
  | _ => .bad
section
variable {X : Cx}
theorem lstAt_ok {K : PySem.W.Frag} {mg : Str → Option Value} {ι : Nat → Addr} {g : G} {H : Hp} {d : D} {v : V} {l : List D} (rp : Rep K mg ι H g) (r : RV K ι g.length H d v) (h : lstAt d g = some l) : ∃ p vs, v = .ref p ∧ SqL K H p vs ∧ RVs K ι g.length H l vs := by
  cases r with
  | ref hm =>
    simp only [lstAt] at h
    split at h
    · rename_i l' el
      obtain ⟨vs, ev, r⟩ := rp.obj _ _ el
      cases h
      exact ⟨_, vs, rfl, SqL.of ev, r⟩
    · rename_i l' el
      obtain ⟨ob, vs, ev, r⟩ := rp.obj _ _ el
      cases h
      exact ⟨_, vs, rfl, .inl (.inr ⟨_, ev⟩), r⟩
    · cases h
  | _ => cases h
theorem seqAt_ok {K : PySem.W.Frag} {mg : Str → Option Value} {ι : Nat → Addr} {g : G} {H : Hp} {d : D} {v : V} {l : List D} (rp : Rep K mg ι H g) (r : RV K ι g.length H d v) (h : seqAt d g = some l) : ∃ p vs, v = .ref p ∧ (SqL K H p vs ∨ SqT K H p vs) ∧ RVs K ι g.length H l vs := by
  cases r with
  | tup hs r => cases h; exact ⟨_, _, rfl, .inr hs, r⟩
  | ref hm =>
    obtain ⟨p, vs, e, h1, h2⟩ := lstAt_ok rp (.ref hm) (show lstAt _ g = some l from h)
    exact ⟨p, vs, e, .inl h1, h2⟩
  | _ => cases h
theorem blsD_ok {K : PySem.W.Frag} {ι : Nat → Addr} {n : Nat} {H : Hp} : ∀ {l : List D} {vs : List V} {bs : List Bool}, RVs K ι n H l vs → blsD l = some bs → vs = bs.map V.bl
  | _, _, _, .nil, h => by cases h; rfl
  | _, _, _, .cons r t, h => by
    cases r with
    | bl b =>
      obtain ⟨bs, h1, rfl⟩ := Option.map_eq_some_iff.mp (show (blsD _).map (b :: ·) = some _ from h)
      rw [blsD_ok t h1]; rfl
    | _ => cases h
theorem intsD_ok {K : PySem.W.Frag} {ι : Nat → Addr} {n : Nat} {H : Hp} : ∀ {l : List D} {vs : List V} {bs : List Int}, RVs K ι n H l vs → intsD l = some bs → vs = bs.map V.int
  | _, _, _, .nil, h => by cases h; rfl
  | _, _, _, .cons r t, h => by
    cases r with
    | int b =>
      obtain ⟨bs, h1, rfl⟩ := Option.map_eq_some_iff.mp (show (intsD _).map (b :: ·) = some _ from h)
      rw [intsD_ok t h1]; rfl
    | _ => cases h
theorem RVs.one {K : PySem.W.Frag} {ι : Nat → Addr} {n : Nat} {H : Hp} {d : D} {vs : List V} (r : RVs K ι n H [d] vs) : ∃ v, vs = [v] ∧ RV K ι n H d v := by
  cases r with
  | cons r t => cases t; exact ⟨_, rfl, r⟩
theorem RVs.two {K : PySem.W.Frag} {ι : Nat → Addr} {n : Nat} {H : Hp} {d e : D} {vs : List V} (r : RVs K ι n H [d, e] vs) : ∃ v w, vs = [v, w] ∧ RV K ι n H d v ∧ RV K ι n H e w := by
  cases r with
  | cons r t => obtain ⟨w, rfl, q⟩ := t.one; exact ⟨_, w, rfl, r, q⟩
theorem cs_len : CallS X (.builtin "len") oLen := ⟨_, call_len, fun ι g H as xs Q rp ra h => by
  unfold oLen at h
  split at h
  · rename_i d
    obtain ⟨v, rfl, r⟩ := ra.one
    split at h
    · rename_i n e
      refine ⟨v, n, rfl, ?_, h.ok rp (.int _)⟩
      cases r with
      | str x =>
        simp only [lenD] at e
        split at e
        · rename_i hz; cases e; exact ⟨hz, rfl⟩
        · cases e
      | tup hs r => cases e; exact .inr ⟨_, hs, r.length.symm⟩
      | ref hm =>
        simp only [lenD] at e
        split at e
        · rename_i l el; cases e
          obtain ⟨vs, ev, r⟩ := rp.obj _ _ el
          exact .inl ⟨vs, SqL.of ev, r.length.symm⟩
        · rename_i l el; cases e
          obtain ⟨ob, vs, ev, r⟩ := rp.obj _ _ el
          exact .inl ⟨vs, .inl (.inr ⟨_, ev⟩), r.length.symm⟩
        · cases e
      | _ => cases e
    · exact h.elim
  · exact h.elim⟩
theorem cs_all (hc : X.calm = true) : CallS X (.builtin "all") oAll := ⟨_, cr_all hc, fun ι g H as xs Q rp ra h => by
  unfold oAll at h
  split at h
  · obtain ⟨v, rfl, r⟩ := ra.one
    split at h
    · rename_i bs e
      obtain ⟨l, e1, e2⟩ := Option.bind_eq_some_iff.mp e
      obtain ⟨p, vs, rfl, hs, rv⟩ := lstAt_ok rp r e1
      exact ⟨p, bs, rfl, blsD_ok rv e2 ▸ hs, h.ok rp (.bl _)⟩
    · exact h.elim
  · exact h.elim⟩
theorem cs_any (hc : X.calm = true) : CallS X (.builtin "any") oAny := ⟨_, cr_any hc, fun ι g H as xs Q rp ra h => by
  unfold oAny at h
  split at h
  · obtain ⟨v, rfl, r⟩ := ra.one
    split at h
    · rename_i bs e
      obtain ⟨l, e1, e2⟩ := Option.bind_eq_some_iff.mp e
      obtain ⟨p, vs, rfl, hs, rv⟩ := lstAt_ok rp r e1
      exact ⟨p, bs, rfl, blsD_ok rv e2 ▸ hs, h.ok rp (.bl _)⟩
    · exact h.elim
  · exact h.elim⟩
theorem cs_abs : CallS X (.builtin "abs") oAbs := ⟨_, call_abs, fun ι g H as xs Q rp ra h => by
  unfold oAbs at h
  split at h
  · obtain ⟨v, rfl, r⟩ := ra.one
    cases r
    exact ⟨_, rfl, h.ok rp (.int _)⟩
  · exact h.elim⟩
theorem cs_max2 (hc : X.calm = true) : CallS X (.builtin "max") oMax2 := ⟨_, call_max2 hc, fun ι g H as xs Q rp ra h => by
  unfold oMax2 at h
  split at h
  · obtain ⟨v, w, rfl, r, r2⟩ := ra.two
    cases r; cases r2
    exact ⟨_, _, rfl, h.ok rp (.int _)⟩
  · exact h.elim⟩
theorem cs_min2 (hc : X.calm = true) : CallS X (.builtin "min") oMin2 := ⟨_, call_min2 hc, fun ι g H as xs Q rp ra h => by
  unfold oMin2 at h
  split at h
  · obtain ⟨v, w, rfl, r, r2⟩ := ra.two
    cases r; cases r2
    exact ⟨_, _, rfl, h.ok rp (.int _)⟩
  · exact h.elim⟩
theorem cs_maxL (hc : X.calm = true) : CallS X (.builtin "max") oMaxL := ⟨_, cr_max hc, fun ι g H as xs Q rp ra h => by
  unfold oMaxL at h
  split at h
  · obtain ⟨v, rfl, r⟩ := ra.one
    split at h
    · rename_i n ns e
      obtain ⟨l, e1, e2⟩ := Option.bind_eq_some_iff.mp e
      obtain ⟨p, vs, rfl, hs, rv⟩ := lstAt_ok rp r e1
      refine ⟨p, n :: ns, rfl, intsD_ok rv e2 ▸ hs, by simp, fun m hm hle => ?_⟩
      obtain ⟨z1, z2⟩ := maxZ_spec (l := n :: ns) (by simp)
      rw [Int.le_antisymm (z2 m hm) (hle _ z1)]
      exact h.ok rp (.int _)
    · exact h.elim
  · exact h.elim⟩
theorem cs_bool : CallS X (.type "bool") oBool := ⟨_, call_bool1, fun ι g H as xs Q rp ra h => by
  unfold oBool at h
  split at h
  · obtain ⟨v, rfl, r⟩ := ra.one
    cases r
    exact .inl ⟨_, rfl, h.ok rp (.bl _)⟩
  · obtain ⟨v, rfl, r⟩ := ra.one
    cases r
    exact .inr ⟨_, rfl, h.ok rp (.bl _)⟩
  · exact h.elim⟩
theorem cs_int : CallS X (.type "int") oInt := ⟨_, call_int1, fun ι g H as xs Q rp ra h => by
  unfold oInt at h
  split at h
  · obtain ⟨v, rfl, r⟩ := ra.one
    cases r
    exact .inl ⟨_, rfl, h.ok rp (.int _)⟩
  · obtain ⟨v, rfl, r⟩ := ra.one
    cases r
    exact .inr ⟨_, rfl, h.ok rp (.int _)⟩
  · exact h.elim⟩
theorem cs_list : CallS X (.type "list") oList := ⟨_, call_list_of, fun ι g H as xs Q rp ra h => by
  unfold oList at h
  split at h
  · obtain ⟨v, rfl, r⟩ := ra.one
    split at h
    · rename_i l e
      obtain ⟨p, vs, rfl, hs, rv⟩ := seqAt_ok rp r e
      exact ⟨p, vs, rfl, hs, fun q hq => h _ _ _ (Nx.newL rp hq rv) ref_new⟩
    · exact h.elim
  · exact h.elim⟩
theorem cs_tuple : CallS X (.type "tuple") oTuple := ⟨_, call_tuple_of, fun ι g H as xs Q rp ra h => by
  unfold oTuple at h
  split at h
  · obtain ⟨v, rfl, r⟩ := ra.one
    split at h
    · rename_i l e
      obtain ⟨p, vs, rfl, hs, rv⟩ := seqAt_ok rp r e
      rcases hs with hs | hs
      · refine ⟨p, vs, rfl, .inl ⟨hs, fun q hq => ?_⟩⟩
        have y := Nx.newT (vs := vs) rp hq
        exact h _ _ _ y (.tup (SqT.of upd_same) (rv.nx y))
      · exact ⟨p, vs, rfl, .inr ⟨hs, h.ok rp (.tup hs rv)⟩⟩
    · exact h.elim
  · exact h.elim⟩
end
end Fc

set_option Elab.async false
set_option linter.all false
set_option maxRecDepth 100000
set_option maxHeartbeats 4000000
/-! Fq: a starred target, the greatest of a list or a default, a tuple from behind, a written table asked. -/
namespace Fc
open PySem PySem.Spec PySem.Calls PyProof.Rows L2

/-! ### a, *b = t -/
theorem star_tup {prog : Program} {w : World} {A : Around} {E : Value → Shared → Prop} {s : Shared} {l : Addr} {items : Array Value} {n i : Nat} {Q : List Value → Shared → Prop} (hl : IsTup s.heap l items) (hh : A.handled = none) (hi : i < n) (hn : n ≤ items.size + 1) (hz : items.size ≤ sizeLine)
    (h : ∀ h' tk, Heap.ExtBut s.heap.objs.size s.heap h' → wpAny (model prog w) A (newList ((items.toList.drop i).take (items.size + 1 - n))) (fun d s' => Q (items.toList.take i ++ [d] ++ (items.toList.drop i).drop (items.size + 1 - n)) s') E { s with heap := h', toks := tk }) :
    wpAny (model prog w) A (unpackItems (.ref l) n (some i)) Q E s := by
  have hlt : l ≠ s.heap.objs.size := by obtain ⟨o, ho, _⟩ := hl; exact Nat.ne_of_lt (Heap.lt_size ho)
  have hll : l < s.heap.objs.size := by obtain ⟨o, ho, _⟩ := hl; exact Heap.lt_size ho
  unfold unpackItems
  refine wpAny_bind ?_
  unfold notIterableAtAll
  refine wpAny_bind (wpAny_specialOf hl.typeIs slot_tuple_iter.lookup ?_)
  refine wpAny_pure ?_
  simp only [Bool.false_eq_true, if_false]
  refine wpAny_bind (wpAny_holding (iter_tuple hl ?_))
  refine wpAny_bind (wpAny_holding (draw_tuple hlt i 0 _ _ ⟨_, Heap.get?_push_size _ rfl, rfl, rfl⟩ (hl.push _) (by omega) fun h₁ hit₁ hs₁ => ?_))
  have hl₁ : IsTup h₁ l items := (hl.push _).extBut hs₁.extBut hlt
  rw [Nat.zero_add] at hit₁
  have hit₁' := hit₁
  obtain ⟨oi, hoi, _⟩ := hit₁'
  have hl₁' := hl₁
  obtain ⟨ol, hol, _⟩ := hl₁'
  rw [List.drop_zero]
  have hfl : (items.toList.take i).length = i := by rw [List.length_take, Array.length_toList]; omega
  rw [if_neg (show ¬ ((items.toList.take i).length < i) by rw [hfl]; omega)]
  refine wpAny_bind (wpAny_holding (PySem.W.kun_collect (s := { s with heap := h₁ }) (T := "tuple_iterator") (.inr (.inr (.inr rfl))) (Walks.tuple (A := A.in1) hh s.heap.objs.size l hlt items) (fun j u st => st.1.typeIs) (k := i) (by omega) ⟨hit₁, hl₁⟩ (Heap.lt_size hoi) (Heap.lt_size hol) (fun h₂ tk hk => ?_) hz))
  have hrl : (items.toList.drop i).length = items.size - i := by rw [List.length_drop, Array.length_toList]
  have hmid : (items.toList.drop i).length - (n - 1 - i) = items.size + 1 - n := by rw [hrl]; omega
  show wpAny _ _ (if (items.toList.drop i).length < n - 1 - i then _ else _) _ _ _
  rw [if_neg (by rw [hrl]; omega)]
  show wpAny _ _ (newList ((items.toList.drop i).take ((items.toList.drop i).length - (n - 1 - i))) >>= fun d => pure (items.toList.take i ++ [d] ++ (items.toList.drop i).drop ((items.toList.drop i).length - (n - 1 - i)))) _ _ _
  rw [hmid]
  have he : Heap.ExtBut s.heap.objs.size s.heap h₂ := fun b o hb e => hk b o hb (hs₁.extBut b o hb (Heap.get?_push_of_some _ e))
  exact wpAny_bind (wpAny_mono (h h₂ tk he) (fun d s' q => wpAny_pure q) fun _ _ e => e)
def midV (n i : Nat) (xs : List V) : List V := (xs.drop i).take (xs.length + 1 - n)
def gStar (K : PySem.W.Frag) (n i : Nat) (t : TGs) : TG := fun v σ H Q => ∃ a xs, v = .ref a ∧ SqT K H a xs ∧ i < n ∧ n ≤ xs.length + 1 ∧ ∀ p, H p = none → t (xs.take i ++ [.ref p] ++ (xs.drop i).drop (xs.length + 1 - n)) σ (upd H p (.lst (midV n i xs))) Q
theorem vals_take {xs : List V} {us : List Value} (r : Vals xs us) (k : Nat) : Vals (xs.take k) (us.take k) := by
  induction k generalizing xs us with
  | zero => exact .nil
  | succ k ih => cases r with
    | nil => exact .nil
    | cons r t => exact .cons r (ih t)
theorem vals_drop {xs : List V} {us : List Value} (r : Vals xs us) (k : Nat) : Vals (xs.drop k) (us.drop k) := by
  induction k generalizing xs us with
  | zero => exact r
  | succ k ih => cases r with
    | nil => exact .nil
    | cons r t => exact ih t
theorem pg_star {X : Cx} {es es' : List Expr} {k : Nat} {t : TGs} {n i : Nat} {pos : Pos} (hc : X.calm = true) (h : PGs X es' t)
    (he : (assignEach es X.env).map (·.2) = (assignEach es' X.env).map (·.2) := by rfl) (hn : (assignEach es X.env).length = n := by rfl) (hst : (assignEach es X.env).findIdx? (·.1) = some i := by rfl) : PG X (.Tuple es k pos) (gStar X.K n i t) := by
  refine ⟨fun pins s σ H v u Q I r hw => ?_⟩
  obtain ⟨a, xs, e1, hq, hi, hl, hw⟩ := hw
  subst e1
  cases r
  obtain ⟨its, rv, ht, hz⟩ := I.tuple hq
  have hlen := rv.length
  rw [assign_Tuple]
  refine wpAny_bind (wpAny_standAt ?_)
  unfold unpack
  rw [hn, hst]
  refine wpAny_bind (wpAny_holding (star_tup ht (I.ok.hd hc) hi (by rw [List.size_toArray]; omega) (by rw [List.size_toArray]; omega) fun h' tk hx => ?_))
  have I1 : Inv X pins σ H { s with heap := h', toks := tk } := I.kept (t' := tk) fun b o e => hx b o (Nat.ne_of_lt (Heap.lt_size e)) e
  have hs : its.toArray.size = xs.length := by rw [List.size_toArray]; omega
  have rm : Vals (midV n i xs) ((its.toArray.toList.drop i).take (xs.length + 1 - n)) := vals_take (vals_drop rv i) _
  rw [hs]
  refine wpAny_newList ?_ (by rw [List.length_take, List.length_drop]; simp only [List.size_toArray]; omega)
  rw [he]
  refine h.run pins _ σ _ _ _ Q (I1.laid (t' := tk) (a := h'.objs.size) (o := .lst (midV n i xs)) (fun b o e => Heap.get?_push_of_some _ e) (Nat.le_refl _) ⟨?_, _, 0, rm, Heap.get?_push_size _ rfl⟩) ?_ (hw _ (I1.hok.fresh (Nat.le_refl _)))
  · unfold midV
    rw [List.length_take, List.length_drop]
    omega
  · have r1 : Vals (xs.take i) (its.take i) := vals_take rv i
    have r3 : Vals ((xs.drop i).drop (xs.length + 1 - n)) ((its.drop i).drop (xs.length + 1 - n)) := vals_drop (vals_drop rv i) _
    have r2 : Vals [V.ref h'.objs.size] [Value.ref h'.objs.size] := .cons (show L2.RelV (.ref h'.objs.size) (.ref h'.objs.size) from rfl) .nil
    exact (r1.append r2).append r3
/-- the middle of a list, what stands before it and behind it -/
def sStar (n i : Nat) (f : Ev → G → Re D) (c : List D → Ev → G → Option Ev) : Ev → G → Rs := fun ρ g => (f ρ g).st ρ fun d g1 => match d with
  | .tup l => if i < n ∧ n ≤ l.length + 1 then (match c (l.take i ++ [.ref g1.length] ++ (l.drop i).drop (l.length + 1 - n)) ρ (g1 ++ [.lst ((l.drop i).take (l.length + 1 - n))]) with
    | some ρ' => .nx ρ' (g1 ++ [.lst ((l.drop i).take (l.length + 1 - n))])
    | none => .bad) else .bad
  | _ => .bad
theorem fs_star {X : Cx} {W : WX} {e : Expr} {es : List Expr} {f : Ev → G → Re D} {c : List D → Ev → G → Option Ev} {sl : List Nat} {k : Nat} {tpos pos : Pos} (n i : Nat) (es' : List Expr) (hc : X.calm = true) (he : FE X W e f) (hg : FGs X es' sl c)
    (h1 : (assignEach es X.env).map (·.2) = (assignEach es' X.env).map (·.2) := by rfl) (hn : (assignEach es X.env).length = n := by rfl) (hst : (assignEach es X.env).findIdx? (·.1) = some i := by rfl)
    (hP : ∀ {te : TE} {t : TG}, PE X e te → PG X (.Tuple es k tpos) t → PS X (.Assign [.Tuple es k tpos] e pos) (tAsg te t) := by intro _ _ h1 h2; exact ps_asg h1 h2) : FS X W (.Assign [.Tuple es k tpos] e pos) (sStar n i f c) := by
  refine PS.imp (hP he (pg_star hc hg h1 hn hst)) fun Z σ H ⟨ι, ρ, g, rp, re, h⟩ => ⟨ι, ρ, g, rp, re, h.st re fun d g1 ι1 H1 v y q k => ?_⟩
  split at k
  · rename_i l
    split at k
    · rename_i hin
      cases q with
      | @tup ds a vs hs r =>
        have hl := r.length
        refine ⟨a, vs, rfl, hs, hin.1, by rw [hl]; exact hin.2, fun p hp => ?_⟩
        rw [hl]
        split at k
        · rename_i ρ' e'
          have ym := Nx.newL y.rep hp ((r.drop i).take (l.length + 1 - n))
          have r' := r.nx ym
          have z := ref_new (K := X.K) (ι := ι1) (g := g1) (o := .lst ((l.drop i).take (l.length + 1 - n))) (p := p) (H := upd H1 p (.lst (midV n i vs)))
          unfold midV at z ⊢
          rw [hl] at z ⊢
          exact ⟨ix ι1 g1.length p, ρ, _, _, ρ', ym.rep, re.nx (y.trans ym), ((r'.take i).append (.cons z .nil)).append ((r'.drop i).drop _), e', fun σ' r'' _ => k _ _ σ' ym r''⟩
        · exact k.elim
    · exact k.elim
  · exact k.elim

/-! ### max(xs, default=d) -/
section
variable {prog : Program} {w : World} {A : Around} {R : Result → Shared → Prop} {I : Addr} {fp wr : List Addr} {n : Nat} {P : Nat → Value → Prop} {St : Nat → Heap → Prop} {kw : List (Str × Value)}
theorem max_loopK (W : Walks prog w A.in1 I fp wr n P St) (bt : Nat → Nat → Bool) (hcmp : CmpOf prog w A.in1 .Gt P bt) (S : Addr) (hSf : S ∉ fp) :
    ∀ (k j : Nat) (s : Shared) (vb : Value) (c : Nat), n - (j + 1) = k → j + 1 ≤ n → St (j + 1) s.heap → P (argBest bt j) vb →
    s.heap.get? S = some { cls := .type "list", dict := none, data := .seq #[vb, vb] c, slots := #[] } →
    (∀ v h' tk, P (argBest bt (n - 1)) v → (∀ b o, b ∉ wr → b ≠ S → s.heap.get? b = some o → h'.get? b = some o) → R (.ok (.ret v)) { s with heap := h', toks := tk }) →
    codeAny (model prog w) A (.builtin "max.loop" ⟨[.ref I, .none, .ref S], kw⟩) R s := by
  have hSw : S ∉ wr := fun h => hSf (W.sub _ h)
  have hname : (toString "max" ++ toString ".loop" : String) = "max.loop" := by decide
  intro k
  induction k with
  | zero =>
    intro j s vb c hk hj hst hPb hS hR
    have hin : j + 1 = n := by omega
    refine codeAny_builtin F.entry_max_loop ?_
    rw [Around.under_plainId F.plain_max_loop _]
    show wpAny _ A.in1 (seqItems? (.ref S) >>= _) _ _ s
    refine wpAny_bind (wpAny_seqItems hS rfl ?_)
    show wpAny _ A.in1 (tryCatch (pyNext (.ref I)) _ >>= _) _ _ s
    refine wpAny_bind (wpAny_tryCatch (W.done s _ _ (hin ▸ hst) fun h' tk hk' => ?_))
    have hS' := hk' S _ hSw hS
    show wpAny _ A.in1 (updateSeq S (fun _ => #[]) >>= _) _ _ _
    refine wpAny_bind ?_
    refine wpAny_updateSeq hS' rfl (wpAny_bind (wpAny_letGo (wpAny_pure ?_)))
    refine hR vb _ tk (by rw [← hin]; exact hPb) fun b o hbw hbS e => (Heap.get?_update_other _ _ (Ne.symm hbS)).trans (hk' b o hbw e)
  | succ k ih =>
    intro j s vb c hk hj hst hPb hS hR
    have hlt : j + 1 < n := by omega
    refine codeAny_builtin F.entry_max_loop ?_
    rw [Around.under_plainId F.plain_max_loop _]
    show wpAny _ A.in1 (seqItems? (.ref S) >>= _) _ _ s
    refine wpAny_bind (wpAny_seqItems hS rfl ?_)
    show wpAny _ A.in1 (tryCatch (pyNext (.ref I)) _ >>= _) _ _ s
    refine wpAny_bind (wpAny_tryCatch (W.item (j + 1) s _ _ hlt hst fun v h' tk hP hst' hk' => ?_))
    have hS' := hk' S _ hSw hS
    show wpAny _ A.in1 (tryCatch (holding [v, v] (richCompare .Gt v vb >>= _)) _ >>= _) _ _ _
    refine wpAny_bind (wpAny_tryCatch (wpAny_holding (wpAny_bind (hcmp (j + 1) (argBest bt j) v vb _ _ _ hP hPb ?_))))
    refine wpAny_bind (wpAny_holding (wpAny_truthy_bool ?_))
    refine wpAny_bind (wpAny_letGo (wpAny_pure ?_))
    cases hb : bt (j + 1) (argBest bt j) with
    | true =>
      simp only [if_true]
      refine wpAny_bind ?_
      refine wpAny_updateSeq hS' rfl (wpAny_bind (wpAny_letGo ?_))
      rw [hname]
      refine wpAny_pure ⟨plainId_quiet F.plain_max_loop _, ih (j + 1) _ v _ (by omega) hlt (W.frame _ _ _ hst' fun b hbf o e => ?_) (by simp only [argBest, hb, if_true]; exact hP) (Heap.get?_update_self _ hS' rfl)
        fun v' h'' tk'' hP' hk'' => ?_⟩
      · exact (Heap.get?_update_other _ _ (fun h : S = b => hSf (by rw [h]; exact hbf))).trans e
      · exact hR v' h'' tk'' hP' fun b o hbw hbS e => hk'' b o hbw hbS ((Heap.get?_update_other _ _ (Ne.symm hbS)).trans (hk' b o hbw e))
    | false =>
      simp only [Bool.false_eq_true, if_false]
      refine wpAny_bind (wpAny_letGo ?_)
      rw [hname]
      refine wpAny_pure ⟨plainId_quiet F.plain_max_loop _, ih (j + 1) _ vb c (by omega) hlt hst' (by simp only [argBest, hb, Bool.false_eq_true, if_false]; exact hPb) hS' fun v' h'' tk'' hP' hk'' => ?_⟩
      exact hR v' h'' tk'' hP' fun b o hbw hbS e => hk'' b o hbw hbS (hk' b o hbw e)
theorem max_loopK1 (W : Walks prog w A.in1 I fp wr n P St) (bt : Nat → Nat → Bool) (hcmp : CmpOf prog w A.in1 .Gt P bt) (S : Addr) (hSf : S ∉ fp) (hn : 0 < n) {s : Shared} {c : Nat} (hst : St 0 s.heap)
    (hS : s.heap.get? S = some { cls := .type "list", dict := none, data := .seq #[] c, slots := #[] })
    (hR : ∀ v h' tk, P (argBest bt (n - 1)) v → (∀ b o, b ∉ wr → b ≠ S → s.heap.get? b = some o → h'.get? b = some o) → R (.ok (.ret v)) { s with heap := h', toks := tk }) :
    codeAny (model prog w) A (.builtin "max.loop" ⟨[.ref I, .none, .ref S], kw⟩) R s := by
  have hSw : S ∉ wr := fun h => hSf (W.sub _ h)
  have hname : (toString "max" ++ toString ".loop" : String) = "max.loop" := by decide
  refine codeAny_builtin F.entry_max_loop ?_
  rw [Around.under_plainId F.plain_max_loop _]
  show wpAny _ A.in1 (seqItems? (.ref S) >>= _) _ _ s
  refine wpAny_bind (wpAny_seqItems hS rfl ?_)
  show wpAny _ A.in1 (tryCatch (pyNext (.ref I)) _ >>= _) _ _ s
  refine wpAny_bind (wpAny_tryCatch (W.item 0 s _ _ hn hst fun v h' tk hP hst' hk' => ?_))
  have hS' := hk' S _ hSw hS
  show wpAny _ A.in1 (updateSeq S (fun _ => #[v, v]) >>= _) _ _ _
  refine wpAny_bind ?_
  refine wpAny_updateSeq hS' rfl ?_
  rw [hname]
  refine wpAny_pure ⟨plainId_quiet F.plain_max_loop _, max_loopK W bt hcmp S hSf _ 0 _ v _ rfl hn (W.frame _ _ _ hst' fun b hbf o e => ?_) hP (Heap.get?_update_self _ hS' rfl) fun v' h'' tk'' hP' hk'' => ?_⟩
  · exact (Heap.get?_update_other _ _ (fun h : S = b => hSf (by rw [h]; exact hbf))).trans e
  · exact hR v' h'' tk'' hP' fun b o hbw hbS e => hk'' b o hbw hbS ((Heap.get?_update_other _ _ (Ne.symm hbS)).trans (hk' b o hbw e))
theorem max_loopK0 {d : Value} (W : Walks prog w A.in1 I fp wr 0 P St) (S : Addr) (hSf : S ∉ fp) {s : Shared} {c : Nat} (hst : St 0 s.heap)
    (hS : s.heap.get? S = some { cls := .type "list", dict := none, data := .seq #[] c, slots := #[] })
    (hR : ∀ h' tk, (∀ b o, b ∉ wr → b ≠ S → s.heap.get? b = some o → h'.get? b = some o) → R (.ok (.ret d)) { s with heap := h', toks := tk }) :
    codeAny (model prog w) A (.builtin "max.loop" ⟨[.ref I, .none, .ref S], [("default", d)]⟩) R s := by
  refine codeAny_builtin F.entry_max_loop ?_
  rw [Around.under_plainId F.plain_max_loop _]
  show wpAny _ A.in1 (seqItems? (.ref S) >>= _) _ _ s
  refine wpAny_bind (wpAny_seqItems hS rfl ?_)
  show wpAny _ A.in1 (tryCatch (pyNext (.ref I)) _ >>= _) _ _ s
  refine wpAny_bind (wpAny_tryCatch (W.done s _ _ hst fun h' tk hk' => ?_))
  refine wpAny_bind (wpAny_rule ?_)
  refine wpAny_pure ?_
  exact hR h' tk fun b o hbw _ e => hk' b o hbw e
end
theorem args_maxD (a d : Value) : argsOk "max" ⟨[a], [("default", d)]⟩ := by unfold argsOk; kernel_rfl
theorem call_tree_kw {prog : Program} {w : World} {A : Around} {E : Value → Shared → Prop} {s : Shared} {id : String} {b : Builtin} {args : List Value} {kw : List (Str × Value)} {Q : Value → Shared → Prop} (hk : builtinKind id = none) (hp : plainId id = true)
    (hb : entryFor table id = some b) (ha : argsOk id ⟨args, kw⟩)
    (hc : wpAny (model prog w) A.in1 (b ⟨args, kw⟩) (fun fin s' => match fin with
      | .done f => (match (Except.ok f : Result) with | .ok (.ret v) => Q v s' | .ok _ => False | .error e => E e s')
      | .again c' => c'.quiet = true ∧ codeAny (model prog w) A c' (fun r s' => match r with | .ok (.ret v) => Q v s' | .ok _ => False | .error e => E e s') s') E s) :
    wpAny (model prog w) A (call (.builtin id) args kw) Q E s := by
  refine wpAny_call (codeAny_call_builtin hp hb ?_)
  simp only [checkBuiltinCall, hk]
  cases hsig : Manifest.signature? id with
  | none => exact wpAny_pure hc
  | some sig =>
    have ha' : Bind.checkArgs id sig ⟨args, kw⟩ = pure () := by simpa only [argsOk, hsig] using ha
    simp only [ha']
    exact wpAny_pure hc
theorem max_dflt {prog : Program} {w : World} {A : Around} {E : Value → Shared → Prop} {s : Shared} {l : Addr} {its : List Value} {ns : List Int} {d : Value} {Q : Value → Shared → Prop} (hh : A.handled = none) (hl : s.heap.IsList l its.toArray) (hi : IntsAre its ns)
    (h0 : ns = [] → ∀ h' tk, (∀ b o, s.heap.get? b = some o → h'.get? b = some o) → Q d { s with heap := h', toks := tk })
    (h : ∀ h' tk M t', (∀ b o, s.heap.get? b = some o → h'.get? b = some o) → M ∈ ns → (∀ a, a ∈ ns → a ≤ M) → Q (.int M t') { s with heap := h', toks := tk }) :
    wpAny (model prog w) A (call (.builtin "max") [.ref l] [("default", d)]) Q E s := by
  have hname : (toString "max" ++ toString ".loop" : String) = "max.loop" := by decide
  obtain ⟨xs, e⟩ := hi.allInts.items
  have hn : numsOf (intItems xs).toList = ns := by rw [← e]; exact hi.numsOf
  rw [nums_intItems] at hn
  subst hn
  rw [e] at hl
  refine call_tree_kw F.kind_max F.plain_max F.entry_max (args_maxD _ _) ?_
  show wpAny _ A.in1 (Builtin.Builtins.bindParams "max" ["key", "default"] 0 ⟨[], [("default", d)]⟩ >>= _) _ _ s
  refine wpAny_bind (wpAny_of_eq (show Builtin.Builtins.bindParams "max" ["key", "default"] 0 ⟨[], [("default", d)]⟩ = pure [none, some d] from rfl) ?_)
  refine wpAny_bind (wpAny_pure ?_)
  refine wpAny_bind (iter_intList hl fun s₂ e st hfp hlI => ?_)
  subst e
  refine wpAny_bind (wpAny_newObj_type ?_)
  have hSf : (s.heap.push { cls := .type "list_iterator", data := .fields #[.ref l, .int 0 0] }).objs.size ∉ [s.heap.objs.size, l] := fun hm => Nat.lt_irrefl _ (hfp _ hm)
  have keep : ∀ {h' : Heap}, (∀ b o, b ∉ [s.heap.objs.size] → b ≠ (s.heap.push { cls := .type "list_iterator", data := .fields #[.ref l, .int 0 0] }).objs.size → ((s.heap.push { cls := .type "list_iterator", data := .fields #[.ref l, .int 0 0] }).push { cls := .type "list", data := .seq #[] }).get? b = some o → h'.get? b = some o) →
      ∀ b o, s.heap.get? b = some o → h'.get? b = some o := fun hk b o eo => by
    have hb := Heap.lt_size eo
    refine hk b o (fun hm => ?_) (fun e => ?_) (Heap.get?_push_of_some _ (Heap.get?_push_of_some _ eo))
    · rw [List.mem_singleton.mp hm] at hb; exact Nat.lt_irrefl _ hb
    · rw [e, Heap.size_push] at hb; exact Nat.lt_irrefl _ (Nat.lt_of_succ_lt hb)
  rw [hname]
  refine wpAny_pure ⟨plainId_quiet F.plain_max_loop _, ?_⟩
  have Wk := Walks.list (prog := prog) (w := w) (A := A.in1) hh s.heap.objs.size l hlI (intItems xs)
  have st1 := Wk.frame 0 (s.heap.push { cls := .type "list_iterator", data := .fields #[.ref l, .int 0 0] }) ((s.heap.push { cls := .type "list_iterator", data := .fields #[.ref l, .int 0 0] }).push { cls := .type "list", data := .seq #[] }) st fun b _ o e => Heap.get?_push_of_some _ e
  by_cases hz : xs.size = 0
  · have hx : xs = #[] := Array.eq_empty_of_size_eq_zero hz
    subst hx
    have ez : (intItems #[]).size = 0 := by simp [intItems]
    refine max_loopK0 (P := fun i v => (intItems #[])[i]? = some v) (St := fun i h => h.IsListIter s.heap.objs.size l i ∧ h.IsList l (intItems #[])) (by rw [← ez]; exact Wk) _ hSf st1 (Heap.get?_push_size _ rfl) fun h' tk hk => h0 (by simp) h' tk (keep hk)
  · refine max_loopK1 (n := (intItems xs).size) Wk (fun i j => decide (numAt xs i > numAt xs j)) (CmpOf.ints_gt (numAt xs) (fun _ _ => intItems_at)) _ hSf (by simp [intItems]; omega) st1 (Heap.get?_push_size _ rfl) fun v h' tk hP hk => ?_
    have hP : (intItems xs)[argBest (fun i j => decide (numAt xs i > numAt xs j)) (xs.size - 1)]? = some v := by simpa [intItems] using hP
    obtain ⟨t, rfl⟩ := intItems_at hP
    obtain ⟨h1, h2⟩ := argBest_gt (numAt xs) (xs.size - 1)
    refine h h' tk _ t (keep hk) ?_ fun a ha => ?_
    · rw [numAt_eq]; exact PySem.getD_mem (by rw [List.length_map, Array.length_toList]; omega)
    · obtain ⟨j, hj, rfl⟩ := mem_getD ha
      rw [List.length_map, Array.length_toList] at hj
      rw [← numAt_eq]; exact h2 j (by omega)
end Fc

set_option Elab.async false
set_option linter.all false
set_option maxRecDepth 100000
set_option maxHeartbeats 4000000
/-! Fr: built-ins by keyword, a tuple from behind, a written table asked, data of the module. -/
namespace Fc
open PySem PySem.Spec PySem.Calls PyProof.Rows L2

/-! ### max(xs, default=d) -/
def oMaxDf (as es : List D) (g : G) : Re D := match as, es with
  | [d], [.int k] => (match (lstAt d g).bind intsD with
    | some [] => .ok (.int k) g
    | some (n :: ns) => .ok (.int (maxZ (n :: ns))) g
    | none => .bad)
  | _, _ => .bad
theorem cr_maxDf {X : Cx} (hc : X.calm = true) : CallRK X (.builtin "max") [Str.ofString "default"] (fun vs zs H Q => ∃ (a : Addr) (ns : List Int) (k : Int), vs = [V.ref a] ∧ zs = [V.int k] ∧ SqL X.K H a (ns.map V.int) ∧ (ns = [] → Q (.int k) H) ∧ (∀ m, m ∈ ns → (∀ y, y ∈ ns → y ≤ m) → Q (.int m) H)) := by
  intro pins s σ H vs zs us ws Q I r rz h
  obtain ⟨a, ns, k, rfl, rfl, hs, q0, q⟩ := h
  obtain ⟨its, rv, hl, _⟩ := I.list hs
  rw [Vals.ref1 r]
  obtain ⟨u, rfl, t, rfl⟩ := vals1 rz
  exact max_dflt (I.ok.hd hc) hl.isList rv.ints (fun e h' tk hk => ⟨.int k, H, I.kept hk, ⟨_, rfl⟩, q0 e⟩) fun h' tk m t' hk h1 h2 => ⟨.int _, H, I.kept hk, ⟨_, rfl⟩, q m h1 h2⟩
def fCallBK (o : List D → List D → G → Re D) (fr fk : Ev → G → Re (List D)) : Ev → G → Re D := fun ρ g => (fr ρ g).bind fun as g1 => (fk ρ g1).bind fun es g2 => noEx (o as es g2)
section
variable {X : Cx} {W : WX} {pos p : Pos} {e : Expr} {kws : List Keyword} {fr fk : Ev → G → Re (List D)} {n : Nat}
theorem fe_maxDf (hc : X.calm = true) (hm : X.mg "max" = none) (ha : FA X W [e] fr) (hk : FK X W kws n fk) (hg : Gl X "max" := by rfl) (he : backTo pos (starEach [e] X.env) = (false, eval e X.env) :: backTo pos (starEach [] X.env) := by rfl) (hpl : (backTo pos (starEach [e] X.env)).any (·.1) = false := by rfl)
    (hall : (backToKw pos (keywordEach kws X.env)).all (·.1.isSome) = true := by rfl) (hnone : (backToKw pos (keywordEach kws X.env)).any (·.1.isNone) = false := by rfl) (hks : (backToKw pos (keywordEach kws X.env)).filterMap (·.1) = [Str.ofString "default"] := by rfl) :
    FE X W (.Call (.Name "max" p) [e] kws pos) (fCallBK oMaxDf fr fk) := by
  refine PE.imp (pe_callBK (cr_maxDf hc) hg hm PyProof.Rows.boot_max ha hk.1 (by decide) (by decide) he hpl hall hnone hks) fun σ H Q ⟨ι, ρ, g, rp, re, h⟩ => ⟨ι, ρ, g, rp, re, h.bind fun d g1 ι1 H1 v x1 q1 h1 => ⟨ι1, ρ, g1, x1.rep, re.nx x1, h1.bind fun e g2 ι2 H2 w x2 q2 h2 => ?_⟩⟩
  have h3 := Vc.noEx h2
  unfold oMaxDf at h3
  split at h3
  · rename_i d k
    obtain ⟨v', rfl, r⟩ := (q1.nx x2).one
    obtain ⟨w', rfl, rk⟩ := q2.one
    cases rk
    split at h3
    · rename_i e1
      obtain ⟨l, e1, e2⟩ := Option.bind_eq_some_iff.mp e1
      obtain ⟨p, vs, rfl, hs, rv⟩ := lstAt_ok x2.rep r e1
      exact ⟨p, [], k, rfl, rfl, intsD_ok rv e2 ▸ hs, fun _ => h3.ok x2.rep (.int _), fun m hm => absurd hm (by simp)⟩
    · rename_i n ns e1
      obtain ⟨l, e1, e2⟩ := Option.bind_eq_some_iff.mp e1
      obtain ⟨p, vs, rfl, hs, rv⟩ := lstAt_ok x2.rep r e1
      refine ⟨p, n :: ns, k, rfl, rfl, intsD_ok rv e2 ▸ hs, (fun z => absurd z (by simp)), (fun m hm hle => ?_)⟩
      obtain ⟨z1, z2⟩ := maxZ_spec (l := n :: ns) (by simp)
      rw [Int.le_antisymm (z2 m hm) (hle _ z1)]
      exact h3.ok x2.rep (.int _)
    · exact h3.elim
  · exact h3.elim
end

/-! ### a table that stands in the written part: d.get(k) -/
/-- at a stands a table of texts: asked for x it gives tab x -/
structure KTab (K : PySem.W.Frag) (w : World) (a : Addr) (tab : Str → Option D) : Prop where
  low : (a == sysModules) = false
  ent : ∃ es n, K.lookup a = some ⟨.type "dict", none, .dict es n, #[]⟩ ∧ PySem.W.KeysLit w.params es.toList
  get : ∀ x, ∃ o, PySem.W.nsIn K a x = some o ∧ (match o, tab x with
    | some u, some d => ∃ v, RelV v u ∧ ∀ ι n H, RV K ι n H d v
    | none, none => True
    | _, _ => False)
def tGetK (K : PySem.W.Frag) (w : World) (a : Addr) (ty : TE) : TE := fun σ H Q => ty σ H fun y H2 => ∃ (z : Str) (o : Option Value) (v : V), y = .str z ∧ PySem.W.nsIn K a z = some o ∧ RelV v (o.getD .none) ∧ Q v H2
theorem pe_getK {X : Cx} {x : Str} {p apos cpos : Pos} {e : Expr} {ty : TE} {a : Addr} {tab : Str → Option D} (T : KTab X.K X.w a tab) (hm : X.mg x = some (.ref a)) (hg : Gl X x) (hd : (x == ("__debug__" : Str)) = false) (he : PE X e ty) (m : M1 X (.Name x p) "get" apos e cpos) :
    PE X (.Call (.Attribute (.Name x p) "get" apos) [e] [] cpos) (tGetK X.K X.w a ty) := by
  refine ⟨fun pins s σ H Q I h => ?_⟩
  obtain ⟨es, n, hl, hk⟩ := T.ent
  have ho : PE X (.Name x p) (tC (.ref a)) := pe_glob hg hm rfl hd
  refine wpAny_Call_method m.base m.few m.line PySem.F.plainAttrs_dict PySem.F.slot_dict_get PySem.F.type_dict_get (thn (ho.run pins s σ H (fun x H1 => x = .ref a ∧ H1 = H) I ⟨rfl, rfl⟩) fun u s1 ⟨x, H1, I1, rx, ex, e2⟩ => ?_)
  subst ex e2
  obtain rfl : u = Value.ref a := rx
  have hM := PySem.W.mapOf_K (prog := X.prog) (w := X.w) I1.kIn hl hk
  refine ⟨hM.typeIs, fun b q => ?_, ?_⟩
  · cases q
    exact ⟨_, I1.kIn _ _ hl, rfl⟩
  rw [m.trees]
  refine Calls.callWith_builtin rfl (Calls.evalArgs_plain (Calls.spliced_cons (thn (he.run pins s1 σ H1 _ I1 h) fun iv s2 ⟨y, H2, I2, ry, z, o, v, ey, hn, rv, q2⟩ => Calls.spliced_nil ?_)))
  subst ey
  obtain ⟨t, rfl⟩ := (show ∃ t, iv = Value.str z t from ry)
  have hM2 := PySem.W.mapOf_K (prog := X.prog) (w := X.w) I2.kIn hl hk
  refine call_meetsIn PySem.F.slot_dict_get hM2.typeIs PySem.F.entry_dict_get (PySem.F.args_dict_get_2 _ _) (meets_dict_get (strKind X.prog X.w) a (strKind_is X.prog X.w z t) T.low) ⟨_, hM2, ?_⟩
  rw [PySem.W.find_K hl hn]
  exact ⟨v, H2, I2.tok _, rv, q2⟩
def fGetK (tab : Str → Option D) (f : Ev → G → Re D) : Ev → G → Re D := fun ρ g => (f ρ g).bind fun d g1 => match d with
  | .str x => (match tab x with
    | some d => .ok d g1
    | none => .ok .non g1)
  | _ => .bad
theorem fe_getK {X : Cx} {W : WX} {x : Str} {p apos cpos : Pos} {e : Expr} {f : Ev → G → Re D} {a : Addr} {tab : Str → Option D} (T : KTab X.K X.w a tab) (hm : X.mg x = some (.ref a)) (he : FE X W e f) (hg : Gl X x := by rfl) (hd : (x == ("__debug__" : Str)) = false := by decide)
    (m : M1 X (.Name x p) "get" apos e cpos := by exact ⟨rfl, rfl, rfl, rfl⟩) : FE X W (.Call (.Attribute (.Name x p) "get" apos) [e] [] cpos) (fGetK tab f) :=
  PE.imp (pe_getK T hm hg hd he m) fun σ H Q ⟨ι, ρ, g, rp, re, h⟩ => ⟨ι, ρ, g, rp, re, h.bind fun d g1 ι1 H1 v x1 q1 h1 => by
    cases q1 with
    | str z =>
      obtain ⟨o, hn, ho⟩ := T.get z
      simp only at h1
      refine ⟨z, o, ?_⟩
      cases o with
      | none =>
        cases et : tab z with
        | none => simp only [et] at h1; exact ⟨.non, rfl, hn, rfl, h1.ok (.refl x1.rep) .non⟩
        | some d => simp only [et] at ho
      | some u =>
        cases et : tab z with
        | none => simp only [et] at ho
        | some d =>
          simp only [et] at h1 ho
          obtain ⟨v, rv, rd⟩ := ho
          exact ⟨v, rfl, hn, rv, h1.ok (.refl x1.rep) (rd _ _ _)⟩
    | _ => exact h1.elim⟩

/-! ### t[::-1] -/
def oRev (d : D) (g : G) : Re D := match d with
  | .tup l => .ok (.tup l.reverse) g
  | .ref m => (match g[m]? with
    | some (.lst l) => .ok (.ref g.length) (g ++ [.lst l.reverse])
    | _ => .bad)
  | _ => .bad

theorem rev_pick (xs : Array Value) : ((List.range xs.size).filterMap fun (k : Nat) => xs[(((xs.size : Int) - 1) + (k : Int) * (-1)).toNat]?).toArray = xs.toList.reverse.toArray := by
  have e : ∀ k ∈ List.range xs.size, xs[(((xs.size : Int) - 1) + (k : Int) * (-1)).toNat]? = xs[xs.size - 1 - k]? := fun k hk => by
    have := List.mem_range.mp hk
    rw [show (((xs.size : Int) - 1) + (k : Int) * (-1)).toNat = xs.size - 1 - k by omega]
  have cg : ∀ (l : List Nat), (∀ k ∈ l, xs[(((xs.size : Int) - 1) + (k : Int) * (-1)).toNat]? = xs[xs.size - 1 - k]?) → l.filterMap (fun (k : Nat) => xs[(((xs.size : Int) - 1) + (k : Int) * (-1)).toNat]?) = l.filterMap (fun k => xs[xs.size - 1 - k]?) := by
    intro l
    induction l with
    | nil => intro _; rfl
    | cons a l ih =>
      intro h
      rw [List.filterMap_cons, List.filterMap_cons, h a (List.mem_cons_self ..), ih fun k hk => h k (List.mem_cons_of_mem _ hk)]
  rw [cg _ e]
  have z := PySem.W.krv_range xs.size
  have : (List.range xs.size).filterMap (fun k => xs[xs.size - 1 - k]?) = ((List.range xs.size).map fun k => xs.size - 1 - k).filterMap (xs[·]?) := by
    rw [List.filterMap_map] <;> rfl
  rw [this, z, List.filterMap_reverse, PySem.W.krv_all]
section
variable {prog : Program} {w : World} {A : Around} {E : Value → Shared → Prop} {s : Shared}
theorem sliceApplied_rev {sl : Addr} {vl vu vs : Value} {n : Nat} {Q : Int × Int × Nat → Shared → Prop} (hs : s.heap.IsSliceOf sl vl vu vs) (pl : IsPart vl none) (pu : IsPart vu none) (ps : IsPart vs (some (-1)))
    (h : Q ((n : Int) - 1, -1, n) s) : wpAny (model prog w) A (Builtin.Slice.sliceApplied (.ref sl) (pure (n : Int))) Q E s := by
  obtain ⟨os, hos, hcs, hds⟩ := id hs
  unfold Builtin.Slice.sliceApplied Builtin.Slice.sliceFields
  refine wpAny_bind (wpAny_bind (wpAny_field hos hds (x := vl) rfl (wpAny_bind (wpAny_field hos hds (x := vu) rfl (wpAny_bind (wpAny_field hos hds (x := vs) rfl (wpAny_pure ?_)))))))
  refine wpAny_bind (HT.slicePart_ ps ?_)
  show wpAny _ _ (if ((-1 : Int) == 0) = true then _ else _) _ _ s
  rw [if_neg (by decide)]
  refine wpAny_bind (HT.slicePart_ pl (wpAny_bind (HT.slicePart_ pu (wpAny_bind (wpAny_pure ?_)))))
  show wpAny _ _ (pure ((n : Int) - 1, (-1 : Int), Builtin.Slice.slicePlaces ((n : Int) - 1) (-1) (-1))) _ _ s
  have e : Builtin.Slice.slicePlaces ((n : Int) - 1) (-1) (-1) = n := by
    unfold Builtin.Slice.slicePlaces
    have h1 : ¬ ((-1 : Int) > 0) := by decide
    simp only [h1, if_false]
    rw [show (-(-1) : Int) = 1 by decide]
    simp only [Int.ediv_one]
    split <;> omega
  rw [e]
  exact wpAny_pure h
theorem getItem_tuple_rev {t sl : Addr} {items : Array Value} {vl vu vs : Value} {Q : Value → Shared → Prop} (ht : IsTup s.heap t items) (hs : s.heap.IsSliceOf sl vl vu vs) (pl : IsPart vl none) (pu : IsPart vu none) (ps : IsPart vs (some (-1)))
    (h : Q (.ref s.heap.objs.size) { s with heap := s.heap.push { cls := .type "tuple", data := .seq items.toList.reverse.toArray } })
    (hsz : items.size ≤ sizeLine) : wpAny (model prog w) A (getItem (.ref t) (.ref sl)) Q E s := by
  have htake : sizeOk (.seq items.toList.reverse.toArray) := by
    show items.toList.reverse.toArray.size ≤ sizeLine
    rw [List.size_toArray, List.length_reverse, Array.length_toList]
    exact hsz
  obtain ⟨os, hos, hcs, hds⟩ := id hs
  have hTs : s.TypeIs (.ref sl) "slice" := ⟨os, hos, hcs⟩
  unfold getItem
  try with_reducible refine wpAny_holding ?_
  first | refine wpAny_bind (wpAny_pure ?_) | skip
  refine wpAny_bind (wpAny_sequenceKey ht.typeIs (by decide) ?_)
  refine wpAny_bind (wpAny_callSpecial?_slot (name := Str.ofString "__getitem__") ht.typeIs PyProof.Rows.slot_tuple_getitem
    (wpAny_call_entry PyProof.Rows.slot_tuple_getitem ht.typeIs entry_tuple_getitem ?_ (args_tuple_getitem _ _)))
  show wpAny _ _ (Builtin.Tuple.tupleItemsOf (.ref t) >>= _) _ _ s
  refine wpAny_bind (tupleItemsOf_ ht ?_)
  refine wpAny_bind (wpAny_typeOf hTs ?_)
  rw [if_pos (by decide)]
  refine wpAny_bind (sliceApplied_rev hs pl pu ps ?_)
  have hno : ¬ ((((items.size : Int) - 1) == 0 && (-1 : Int) == 1 && items.size == items.size) = true) := by
    intro q
    rw [Bool.and_eq_true, Bool.and_eq_true] at q
    exact absurd (eq_of_beq q.1.2) (by decide)
  show wpAny _ _ (if (((items.size : Int) - 1) == 0 && (-1 : Int) == 1 && items.size == items.size) = true then _ else _) _ _ s
  rw [if_neg hno, rev_pick]
  first
    | exact wpAny_bind (m := Builtin.Tuple.tupleExact _) (wpAny_newObj_type (wpAny_pure ⟨_, rfl, wpAny_pure h⟩) htake)
    | exact wpAny_bind (m := Builtin.Tuple.tupleExact _) (wpAny_newObj_type (wpAny_bind (wpAny_pure (wpAny_pure ⟨_, rfl, wpAny_pure h⟩))) htake)
    | exact wpAny_bind (wpAny_bind (m := Builtin.Tuple.tupleExact _) (wpAny_newObj_type (wpAny_pure (wpAny_pure ⟨_, rfl, wpAny_pure h⟩)) htake))
    | exact wpAny_bind (wpAny_bind (m := Builtin.Tuple.tupleExact _) (wpAny_newObj_type (wpAny_pure ⟨_, rfl, wpAny_pure h⟩) htake))
end
def tRev (K : PySem.W.Frag) (te : TE) : TE := fun σ H Q => te σ H fun x H1 => ∃ a xs, x = .ref a ∧ ((SqL K H1 a xs ∧ ∀ p, H1 p = none → Q (.ref p) (upd H1 p (.lst xs.reverse))) ∨ (SqT K H1 a xs ∧ ∀ p, H1 p = none → Q (.ref p) (upd H1 p (.tup xs.reverse))))
theorem pe_rev {X : Cx} {e : Expr} {te : TE} {k : Nat} {p1 p2 p3 pos : Pos} (he : PE X e te) : PE X (.Subscript e (.Slice none none (some (.UnaryOp .USub (.Constant (.int 1) k p1) p2)) p3) pos) (tRev X.K te) := by
  refine ⟨fun pins s σ H Q I h => ?_⟩
  refine Subscript_ (thn (he.run pins s σ H _ I h) fun v s1 ⟨x, H1, I1, r1, q1⟩ => ?_)
  obtain ⟨a, xs, ex, q⟩ := q1
  subst ex
  cases r1
  have hst : PO X (some (.UnaryOp .USub (.Constant (.int 1) k p1) p2)) (tPart (tUn (rU fun i => .int (-i)) (tC (.int 1)))) := po_some (pe_un un_neg pe_int)
  refine wpAny_Slice (thn (po_none.run pins s1 σ H1 (fun o H2 => o = none ∧ H2 = H1) I1 ⟨rfl, rfl⟩) fun vl s2 ⟨l, H2, I2, pl, el, e2⟩ => ?_)
  subst el e2
  refine thn (po_none.run pins s2 σ H2 (fun o H3 => o = none ∧ H3 = H2) I2 ⟨rfl, rfl⟩) fun vu s3 ⟨u, H3, I3, pu, eu, e3⟩ => ?_
  subst eu e3
  refine thn (hst.run pins s3 σ H3 (fun o H4 => o = some (-1) ∧ H4 = H3) I3 ⟨1, rfl, -1, rfl, rfl, rfl⟩) fun vs s4 ⟨o, H4, I4, ps, eo, e4⟩ => ?_
  subst eo e4
  have I5 : Inv X pins σ H4 { s4 with heap := s4.heap.push { cls := .type "slice", data := .fields #[vl, vu, vs] } } := I4.kept (t' := s4.toks) fun b ob q => Heap.get?_push_of_some _ q
  show wpAny (model X.prog X.w) X.A (subscriptTail e (.Slice none none (some (.UnaryOp .USub (.Constant (.int 1) k p1) p2)) p3) (.ref a) (.ref s4.heap.objs.size)) (EP X pins σ Q) X.xe { s4 with heap := s4.heap.push { cls := .type "slice", data := .fields #[vl, vu, vs] } }
  rcases q with ⟨hx, q⟩ | ⟨hx, q⟩
  · obtain ⟨its, r, ht, hz⟩ := I5.list hx
    have hlen := r.length
    refine tail_any (ops := [.ref a, .ref s4.heap.objs.size]) ht.isList.typeIs (PySem.slot_list_getitem.lookup) ?_ (by with_unfolding_all rfl)
    refine wpAny_getItem_list_slice ht.isList (Heap.IsSliceOf.new _ vl vu vs) pl pu ps (by decide) ?_ (by rw [List.size_toArray]; omega)
    rw [PySem.W.krv_pick]
    refine ⟨.ref _, _, I5.laid (t' := s4.toks) (o := .lst xs.reverse) (fun b ob q => Heap.get?_push_of_some _ q) (Nat.le_refl _) ?_, rfl, q _ (I5.hok.fresh (Nat.le_refl _))⟩
    exact ⟨by rw [List.length_reverse]; exact hz, _, 0, r.reverse, Heap.get?_push_size _ rfl⟩
  · obtain ⟨its, r, ht, hz⟩ := I5.tuple hx
    have hlen := r.length
    refine tail_any (ops := [.ref a, .ref s4.heap.objs.size]) ht.typeIs (PyProof.Rows.slot_tuple_getitem.lookup) ?_ (by with_unfolding_all rfl)
    refine getItem_tuple_rev ht (Heap.IsSliceOf.new _ vl vu vs) pl pu ps ?_ (by rw [List.size_toArray]; omega)
    refine ⟨.ref _, _, I5.laid (t' := s4.toks) (o := .tup xs.reverse) (fun b ob q => Heap.get?_push_of_some _ q) (Nat.le_refl _) ?_, rfl, q _ (I5.hok.fresh (Nat.le_refl _))⟩
    exact ⟨by rw [List.length_reverse]; exact hz, _, r.reverse, IsTup.new _ _⟩
def fRev (f : Ev → G → Re D) : Ev → G → Re D := fun ρ g => (f ρ g).bind fun d g1 => oRev d g1
theorem fe_rev {X : Cx} {W : WX} {e : Expr} {f : Ev → G → Re D} {k : Nat} {p1 p2 p3 pos : Pos} (he : FE X W e f) : FE X W (.Subscript e (.Slice none none (some (.UnaryOp .USub (.Constant (.int 1) k p1) p2)) p3) pos) (fRev f) :=
  PE.imp (pe_rev he) fun σ H Q ⟨ι, ρ, g, rp, re, h⟩ => ⟨ι, ρ, g, rp, re, h.bind fun d g1 ι1 H1 v x1 q1 h1 => by
    cases q1 with
    | @tup ds a vs hs r =>
      refine ⟨_, _, rfl, .inr ⟨hs, fun p hp => ?_⟩⟩
      have y := Nx.newT (vs := vs.reverse) x1.rep hp
      exact h1.ok y (.tup (SqT.of upd_same) (r.reverse.nx y))
    | ref hm =>
      simp only [oRev] at h1
      split at h1
      · rename_i l el
        obtain ⟨vs, ev, r⟩ := x1.rep.obj _ _ el
        exact ⟨_, vs, rfl, .inl ⟨SqL.of ev, fun p hp => h1.ok (Nx.newL x1.rep hp r.reverse) ref_new⟩⟩
      · exact h1.elim
    | _ => exact h1.elim⟩
end Fc

set_option Elab.async false
set_option linter.all false
set_option maxRecDepth 100000
set_option maxHeartbeats 4000000
/-! Ft: own classes: made, read, written, their methods. -/
namespace Fc
open PySem PySem.Spec PySem.Calls PyProof.Rows L2

section
variable {K : PySem.W.Frag} {mg : Str → Option Value} {ι : Nat → Addr} {g : G} {H : Hp}
theorem Nx.newU {p : Addr} {u : HO} (r : Rep K mg ι H g) (hp : H p = none) : Nx K mg ι g H ι g (L2.upd H p u) := by
  have pr : Pres H (L2.upd H p u) := Pres.new hp
  refine ⟨⟨fun m ob e => ?_, r.inj⟩, Nat.le_refl _, fun _ _ => rfl, pr⟩
  have hm := (List.getElem?_eq_some_iff.mp e).1
  obtain ⟨w, hw, _⟩ := (r.obj m ob e).tracked
  exact (r.obj m ob e).upd (fun k hk => rfl) (Nat.le_refl _) pr (ne_of_none hw hp) fun y z => by rw [hp] at z; cases z
/-- a new instance -/
theorem Nx.newI {x dx C : Addr} {c : Str} (r : Rep K mg ι H g) (hx : H x = none) (hd : H dx = none) (hne : dx ≠ x) (hc : mg c = some (.ref C)) : Nx K mg ι g H (ix ι g.length x) (g ++ [.ins c []]) (L2.upd (L2.upd H dx (.own x)) x (.ins C dx [])) := by
  have y := Nx.newU (u := .own x) r hd
  refine y.trans (Nx.new y.rep (by rw [upd_ne hne.symm]; exact hx) ⟨C, dx, [], hc, upd_same, ?_, .nil⟩)
  rw [upd_ne hne]
  exact upd_same
end
def putD (f : Str) (v : D) : List (Str × D) → List (Str × D)
  | [] => [(f, v)]
  | (k, x) :: r => if k = f then (k, v) :: r else (k, x) :: putD f v r
theorem RKs.lookup {K : PySem.W.Frag} {ι : Nat → Addr} {n : Nat} {H : Hp} {f : Str} : ∀ {ds : List (Str × D)} {vs : List (Str × V)} {d : D}, RKs K ι n H ds vs → ds.lookup f = some d → ∃ v, vs.lookup f = some v ∧ RV K ι n H d v
  | _, _, _, .nil, e => by cases e
  | _, _, _, .cons (k := k) q t, e => by
    unfold List.lookup at e ⊢
    cases h : f == k with
    | true => rw [h] at e; cases e; exact ⟨_, rfl, q⟩
    | false => rw [h] at e; exact RKs.lookup t e
theorem RKs.lookup_none {K : PySem.W.Frag} {ι : Nat → Addr} {n : Nat} {H : Hp} {f : Str} : ∀ {ds : List (Str × D)} {vs : List (Str × V)}, RKs K ι n H ds vs → ds.lookup f = none → vs.lookup f = none
  | _, _, .nil, e => rfl
  | _, _, .cons (k := k) q t, e => by
    unfold List.lookup at e ⊢
    cases h : f == k with
    | true => rw [h] at e; cases e
    | false => rw [h] at e; exact RKs.lookup_none t e
theorem RKs.length {κ : Type} {K : PySem.W.Frag} {ι : Nat → Addr} {n : Nat} {H : Hp} : ∀ {ds : List (κ × D)} {vs : List (κ × V)}, RKs K ι n H ds vs → vs.length = ds.length
  | _, _, .nil => rfl
  | _, _, .cons _ t => congrArg Nat.succ (RKs.length t)
theorem RKs.put {K : PySem.W.Frag} {ι : Nat → Addr} {n : Nat} {H : Hp} {f : Str} {d : D} {v : V} (r : RV K ι n H d v) : ∀ {ds : List (Str × D)} {vs : List (Str × V)}, RKs K ι n H ds vs → RKs K ι n H (putD f d ds) (putF f v vs)
  | _, _, .nil => .cons r .nil
  | _, _, .cons (k := k) q t => by
    unfold putD putF
    by_cases h : k = f
    · rw [if_pos h, if_pos h]; exact .cons r t
    · rw [if_neg h, if_neg h]; exact .cons q (RKs.put r t)

/-- the object d is an instance -/
def insAt (d : D) (g : G) : Option (Nat × Str × List (Str × D)) := match d with
  | .ref m => match g[m]? with
    | some (.ins c fs) => some (m, c, fs)
    | _ => none
  | _ => none
theorem insAt_ok {K : PySem.W.Frag} {mg : Str → Option Value} {ι : Nat → Addr} {g : G} {H : Hp} {d : D} {v : V} {m : Nat} {c : Str} {fs : List (Str × D)} (rp : Rep K mg ι H g) (r : RV K ι g.length H d v) (h : insAt d g = some (m, c, fs)) :
    d = .ref m ∧ v = .ref (ι m) ∧ g[m]? = some (.ins c fs) ∧ ∃ C dx fvs, mg c = some (.ref C) ∧ H (ι m) = some (.ins C dx fvs) ∧ H dx = some (.own (ι m)) ∧ RKs K ι g.length H fs fvs := by
  cases r with
  | @ref k hk =>
    simp only [insAt] at h
    split at h
    · rename_i c' fs' e
      cases h
      exact ⟨rfl, rfl, e, rp.obj _ _ e⟩
    · cases h
  | _ => cases h
def FldOk (X : Cx) (own : Str → Bool) (f : Str) : Prop := ∀ c C, own c = true → X.mg c = some (.ref C) → Cls X.K C ∧ NoAttr X.K C f
def fFld (own : Str → Bool) (f : Str) (fo : Ev → G → Re D) : Ev → G → Re D := fun ρ g => (fo ρ g).bind fun d g1 => match insAt d g1 with
  | some (_, c, fs) => if own c = true then (match fs.lookup f with | some x => .ok x g1 | none => .bad) else .bad
  | none => .bad
def sFldS (own : Str → Bool) (f : Str) (fv fo : Ev → G → Re D) : Ev → G → Rs := fun ρ g => (fv ρ g).st ρ fun y g1 => (fo ρ g1).st ρ fun d g2 => match insAt d g2 with
  | some (m, c, fs) => if own c = true ∧ fs.length < 1000 then .nx ρ (g2.set m (.ins c (putD f y fs))) else .bad
  | none => .bad
theorem Nx.setI {K : PySem.W.Frag} {mg : Str → Option Value} {ι : Nat → Addr} {g : G} {H : Hp} {m : Nat} {c : Str} {fs : List (Str × D)} {C dx : Addr} {fvs : List (Str × V)} {f : Str} {y : D} {v : V} (r : Rep K mg ι H g) (e : g[m]? = some (.ins c fs)) (hc : mg c = some (.ref C)) (ha : H (ι m) = some (.ins C dx fvs)) (hd : H dx = some (.own (ι m)))
    (rf : RKs K ι g.length H fs fvs) (ry : RV K ι g.length H y v) : Nx K mg ι g H ι (g.set m (.ins c (putD f y fs))) (L2.upd H (ι m) (.ins C dx (putF f v fvs))) := by
  have pr : Pres H (L2.upd H (ι m) (.ins C dx (putF f v fvs))) := Pres.mut ha (fun _ z => nomatch z) (fun _ _ z => nomatch z)
  have ne : dx ≠ ι m := fun z => by rw [z, ha] at hd; cases hd
  refine .upd r e pr ⟨C, dx, _, hc, upd_same, by rw [upd_ne ne]; exact hd, ?_⟩
  exact (RKs.put ry rf).mono (fun _ _ => rfl) (Nat.le_refl _) fun _ _ h => pr.sq h
section
variable {X : Cx} {W : WX} {pos pos' : Pos} {o value : Expr} {f : Str} {fo fv : Ev → G → Re D} {own : Str → Bool}
theorem fe_fld (own : Str → Bool) (hF : FldOk X own f) (ho : FE X W o fo) (hb : attributeBase o f X.env (eval o X.env) = eval o X.env := by rfl) : FE X W (.Attribute o f pos) (fFld own f fo) :=
  PE.imp (pe_fld ho hb) fun σ H Q ⟨ι, ρ, g, rp, re, h⟩ => ⟨ι, ρ, g, rp, re, h.bind fun d g1 ι1 H1 v x1 q1 h1 => by
    split at h1
    · rename_i m c fs e
      obtain ⟨ed, ev, eg, C, dx, fvs, hc, ha, hd, rf⟩ := insAt_ok x1.rep q1 e
      split at h1
      · rename_i ho
        split at h1
        · rename_i x ex
          obtain ⟨w, ew, rw⟩ := rf.lookup ex
          obtain ⟨cl, na⟩ := hF c C ho hc
          exact ⟨_, C, dx, fvs, w, ev, ha, cl, na, ew, h1.ok (.refl x1.rep) rw⟩
        · exact h1.elim
      · exact h1.elim
    · exact h1.elim⟩
theorem fs_fld (own : Str → Bool) (hF : FldOk X own f) (hv : FE X W value fv) (ho : FE X W o fo) (hs : swapsWith value (some (.Attribute o f pos')) pos.line X.env = pure false := by rfl) : FS X W (.Assign [.Attribute o f pos'] value pos) (sFldS own f fv fo) :=
  PS.imp (ps_fld ho hv hs) fun Z σ H ⟨ι, ρ, g, rp, re, h⟩ => ⟨ι, ρ, g, rp, re, h.st re fun y g1 ι1 H1 w y1 q1 k1 => ⟨ι1, ρ, g1, y1.rep, re.nx y1, k1.st (re.nx y1) fun d g2 ι2 H2 v y2 q2 k2 => by
    split at k2
    · rename_i m c fs e
      obtain ⟨ed, ev, eg, C, dx, fvs, hc, ha, hd, rf⟩ := insAt_ok y2.rep q2 e
      split at k2
      · rename_i ho
        obtain ⟨cl, na⟩ := hF c C ho.1 hc
        have ys := Nx.setI (f := f) y2.rep eg hc ha hd rf (q1.nx y2)
        exact ⟨_, C, dx, fvs, ev, ha, cl, na, by rw [rf.length]; exact ho.2, k2 ι2 _ σ ys (re.nx ((y1.trans y2).trans ys))⟩
      · exact k2.elim
    · exact k2.elim⟩⟩
end

/-! ### what a class's name makes -/
structure TabC (P : Program) (w : World) (K : PySem.W.Frag) (mg : Str → Option Value) (base : Heap) (k : Nat) (x : Str) (ks : List Str) (φ : Fun2) : Prop where
  ex : ∃ C f, mg x = some (.ref C) ∧ Mk K C f ∧ CallF P w K mg base k f ks φ
def newI (x : Str) (φ : Fun2) (ds es : List D) (g : G) : Re D := (φ (.ref g.length :: ds) es (g ++ [.ins x []])).bind fun d g1 => match d with
  | .non => .ok (.ref g.length) g1
  | _ => .bad
section
variable {X : Cx} {W : WX} {k : Nat} {f C : Addr} {ks : List Str} {φ : Fun2} {x : Str} {p pos kpos : Pos} {e : Expr} {es : List Expr} {kws : List Keyword} {fr fk : Ev → G → Re (List D)}
theorem run_newI {pins : List (Addr × Obj)} {σ : L2.St} {H : Hp} {s : Shared} {Q : VK} {us ws : List Value} {vs zs : List V} {ι : Nat → Addr} {g : G} {ds es : List D} (M : Mk X.K C f) (hc : X.mg x = some (.ref C)) (F : CallF X.prog X.w X.K X.mg X.base k f ks φ) (hr : Room (k + 1) X.A) (tk : Takes X W)
    (I : Inv X pins σ H s) (r : Vals vs us) (rz : Vals zs ws) (hl : ws.length = ks.length) (rp : Rep X.K X.mg ι H g) (rd : RVs X.K ι g.length H ds vs) (rs : RVs X.K ι g.length H es zs) (h : Tc X.K X.mg (RV X.K) W σ H ι g (newI x φ ds es g) Q) :
    wpAny (model X.prog X.w) X.A (call (.ref C) us (ks.zip ws)) (EP X pins σ Q) X.xe s := by
  have I2 := Inv.made (C := C) I
  have n1 : H (s.heap.objs.size + 1) = none := I.hok.fresh (Nat.le_succ _)
  have n2 : H s.heap.objs.size = none := I.hok.fresh (Nat.le_refl _)
  have y := Nx.newI (x := s.heap.objs.size + 1) (dx := s.heap.objs.size) rp n1 n2 (Nat.ne_of_lt (Nat.lt_succ_self _)) hc
  have r1 : Vals (V.ref (s.heap.objs.size + 1) :: vs) (Value.ref (s.heap.objs.size + 1) :: us) := .cons rfl r
  have rself : RV X.K (ix ι g.length (s.heap.objs.size + 1)) (g ++ [O.ins x []]).length (upd (upd H s.heap.objs.size (.own (s.heap.objs.size + 1))) (s.heap.objs.size + 1) (.ins C s.heap.objs.size [])) (.ref g.length) (.ref (s.heap.objs.size + 1)) := ref_new
  have hsp : spK X.K X.mg φ (V.ref (s.heap.objs.size + 1) :: vs) zs (upd (upd H s.heap.objs.size (.own (s.heap.objs.size + 1))) (s.heap.objs.size + 1) (.ins C s.heap.objs.size [])) (fun v H3 => v = .non ∧ Q (.ref (s.heap.objs.size + 1)) H3) (WE W σ) := by
    refine ⟨_, _, .ref g.length :: ds, es, y.rep, .cons rself (rd.nx y), rs.nx y, ?_⟩
    have h1 := Tc.base y h
    unfold newI at h1
    cases e : φ (.ref g.length :: ds) es (g ++ [.ins x []]) with
    | ok d g1 =>
      rw [e] at h1
      intro ι' H' v y' rv
      cases rv with
      | non =>
        refine ⟨rfl, ?_⟩
        have z := h1 ι' H' (.ref (s.heap.objs.size + 1)) y'
        have hm : ι' g.length = s.heap.objs.size + 1 := by rw [y'.agr _ (by simp), ix_same]
        have q : RV X.K ι' g1.length H' (.ref g.length) (.ref (ι' g.length)) := .ref (Nat.lt_of_lt_of_le (by simp) y'.len)
        rw [hm] at q
        exact z q
      | _ => exact h1.elim
    | ex c fs g1 => rw [e] at h1; exact h1
    | bad => rw [e] at h1; exact h1
  refine wpAny_call (make_map (f := f) I.kIn M.makes M.init (beq_iff_eq.mp M.fn) (codeAny_mono (F _ X.stack _ _ (Value.ref (s.heap.objs.size + 1) :: us) ws _ _ _ (WE W σ) (hr.make C us (ks.zip ws))
    (I2.env0.make C us (ks.zip ws)) r1 rz hl hsp) fun r s' hq' => ?_))
  cases r with
  | error e => exact passAt tk σ pins _ _ e s' I2 hq'
  | ok fl =>
    cases fl with
    | ret u =>
      obtain ⟨v, H', I3, rv, ev, q3⟩ := I2.after hq'
      subst ev
      exact ⟨rv, ⟨V.ref (s.heap.objs.size + 1), H', I3, rfl, q3⟩⟩
    | next => exact False.elim hq'
    | brk => exact False.elim hq'
    | cont => exact False.elim hq'
def fMake (x : Str) (φ : Fun2) (fr fk : Ev → G → Re (List D)) : Ev → G → Re D := fCallK (newI x φ) fr fk
theorem fe_make0 (T : TabC X.prog X.w X.K X.mg X.base k x [] φ) (hr : Room (k + 1) X.A) (tk : Takes X W) (hg : Gl X x := by rfl) (hdb : (x == ("__debug__" : Str)) = false := by decide) : FE X W (.Call (.Name x p) [] [] pos) (fMake x φ fNil fNil) := by
  obtain ⟨C, f, hm, M, F⟩ := T.ex
  refine ⟨fun pins s σ H Q I ⟨ι, ρ, g, rp, re, h⟩ => ?_⟩
  refine wpAny_Call_Name_kw (ld_glob I hg hm ?_ hdb)
  exact PySem.W.callWith_K0 I.kIn M.kp (run_newI (us := []) (ws := []) M hm F hr tk I .nil .nil rfl rp .nil .nil h)
theorem fe_make (T : TabC X.prog X.w X.K X.mg X.base k x [] φ) (hr : Room (k + 1) X.A) (tk : Takes X W) (ha : FA X W (e :: es) fr) (hg : Gl X x := by rfl) (hdb : (x == ("__debug__" : Str)) = false := by decide)
    (he : starEach (e :: es) X.env = (false, eval e X.env) :: starEach es X.env := by rfl) (hpl : (backTo pos (starEach es X.env)).any (·.1) = false := by rfl) : FE X W (.Call (.Name x p) (e :: es) [] pos) (fMake x φ fr fNil) := by
  obtain ⟨C, f, hm, M, F⟩ := T.ex
  refine ⟨fun pins s σ H Q I ⟨ι, ρ, g, rp, re, h⟩ => ?_⟩
  refine wpAny_Call_Name_kw (ld_glob I hg hm ?_ hdb)
  have ha' := ha.run pos pins s σ H (fun vs H1 => ∃ ι1 g1 ds, Rep X.K X.mg ι1 H1 g1 ∧ RVs X.K ι1 g1.length H1 ds vs ∧ Tc X.K X.mg (RV X.K) W σ H1 ι1 g1 (newI x φ ds [] g1) Q) I ⟨ι, ρ, g, rp, re, h.bind fun ds g1 ι1 H1 vs y q k => ⟨ι1, g1, ds, y.rep, q, k⟩⟩
  refine PySem.W.callWith_K (h₀ := X.base) I.ok.mod.kin M.kp (thn ha' fun us s1 ⟨vs, H1, I1, r, ι1, g1, ds, rp1, q, k⟩ => ⟨I1.kIn, ?_⟩) he hpl
  exact run_newI (ws := []) M hm F hr tk I1 r .nil rfl rp1 q .nil k
theorem fe_makeK0 (T : TabC X.prog X.w X.K X.mg X.base k x ks φ) (hr : Room (k + 1) X.A) (tk : Takes X W) (hkw : FK X W kws ks.length fk) (hg : Gl X x := by rfl) (hdb : (x == ("__debug__" : Str)) = false := by decide)
    (hall : (backToKw pos (keywordEach kws X.env)).all (·.1.isSome) = true := by rfl) (hks : (backToKw pos (keywordEach kws X.env)).filterMap (·.1) = ks := by rfl)
    (hpl : ((backTo pos (starEach [] X.env)).any (·.1) || (backToKw pos (keywordEach kws X.env)).any (·.1.isNone)) = false := by rfl) : FE X W (.Call (.Name x p) [] kws pos) (fMake x φ fNil fk) := by
  obtain ⟨C, f, hm, M, F⟩ := T.ex
  refine ⟨fun pins s σ H Q I ⟨ι, ρ, g, rp, re, h⟩ => ?_⟩
  refine wpAny_Call_Name_kw (ld_glob I hg hm ?_ hdb)
  have h : Tc X.K X.mg (RV X.K) W σ H ι g ((fk ρ g).bind fun es g2 => newI x φ [] es g2) Q := h
  have hk' := hkw.1.run pos pins s σ H (fun zs H1 => zs.length = ks.length ∧ ∃ ι1 g1 es, Rep X.K X.mg ι1 H1 g1 ∧ RVs X.K ι1 g1.length H1 es zs ∧ Tc X.K X.mg (RV X.K) W σ H1 ι1 g1 (newI x φ [] es g1) Q) I ⟨ι, ρ, g, rp, re, by
    cases e1 : fk ρ g with
    | ok es' g2 =>
      rw [e1] at h
      exact fun ι2 H2 zs y2 q2 => ⟨by rw [q2.length]; exact hkw.2 _ _ _ _ e1, ι2, g2, es', y2.rep, q2, Tc.base y2 h⟩
    | ex c fs g2 => rw [e1] at h; exact h
    | bad => rw [e1] at h; exact h⟩
  refine PySem.W.callWith_KW0 (h₀ := X.base) I.ok.mod.kin M.kp hall (thn hk' fun ws s2 ⟨zs, H2, I2, rz, l2, ι1, g1, es, rp1, q, k⟩ => ⟨I2.kIn, ?_⟩) hpl
  rw [hks]
  exact run_newI (us := []) (vs := []) M hm F hr tk I2 .nil rz (by rw [← rz.length]; exact l2) rp1 .nil q k
end

/-! ### methods -/
structure TabM (P : Program) (w : World) (K : PySem.W.Frag) (mg : Str → Option Value) (base : Heap) (k : Nat) (c m : Str) (ks : List Str) (φ : Fun2) : Prop where
  ex : ∃ C f, mg c = some (.ref C) ∧ Cls K C ∧ Meth K C m f ∧ CallF P w K mg base k f ks φ
/-- a def reached through its class: C.m(x, ..) -/
structure TabN (P : Program) (w : World) (K : PySem.W.Frag) (mg : Str → Option Value) (base : Heap) (k : Nat) (c m : Str) (ks : List Str) (φ : Fun2) : Prop where
  ex : ∃ C f mc, mg c = some (.ref C) ∧ ClX.CRead K C mc ∧ PySem.W.findCls K (.ref C) mc m = some (.val (.ref f)) ∧ PySem.W.keepIn K (.ref f) = true ∧ CallF P w K mg base k f ks φ
/-- o.m(..) -/
def fMeth (c m : Str) (φ : Fun2) (fo : Ev → G → Re D) (fr : Ev → G → Re (List D)) : Ev → G → Re D := fun ρ g => (fo ρ g).bind fun d g1 => match insAt d g1 with
  | some (_, c', fs) => if c' = c ∧ fs.lookup m = none then (fr ρ g1).bind fun ds g2 => φ (d :: ds) [] g2 else .bad
  | none => .bad
section
variable {X : Cx} {W : WX} {k : Nat} {φ : Fun2} {c m : Str} {p pos apos : Pos} {o e : Expr} {es : List Expr} {fo : Ev → G → Re D} {fr : Ev → G → Re (List D)} {pl : Sem Bool}
theorem fe_meth (T : TabM X.prog X.w X.K X.mg X.base k c m [] φ) (hr : Room k X.A) (tk : Takes X W) (ho : FE X W o fo) (ha : FA X W (e :: es) fr)
    (hst : starEach (e :: es) X.env = (false, eval e X.env) :: starEach es X.env := by rfl) (hpl : (backTo pos (starEach es X.env)).any (·.1) = false := by rfl)
    (ht : eval (.Call (.Attribute o m apos) (e :: es) [] pos) X.env = (do
      let ov ← eval o X.env
      standAt apos.atName
      let (f, first) ← holding [ov] (getMethod ov m pl)
      callWith pos f first (backTo pos (starEach (e :: es) X.env)) (backToKw pos (keywordEach [] X.env))) := by rfl) : FE X W (.Call (.Attribute o m apos) (e :: es) [] pos) (fMeth c m φ fo fr) := by
  obtain ⟨C, f, hm, cl, mt, F⟩ := T.ex
  refine ⟨fun pins s σ H Q I ⟨ι, ρ, g, rp, re, h⟩ => ?_⟩
  have ho' := ho.run pins s σ H (fun v H1 => ∃ ι1 g1 n fs, Rep X.K X.mg ι1 H1 g1 ∧ REnv X.K ι1 g1.length H1 ρ σ ∧ RV X.K ι1 g1.length H1 (.ref n) v ∧ insAt (.ref n) g1 = some (n, c, fs) ∧ fs.lookup m = none ∧
    Tc X.K X.mg (RV X.K) W σ H1 ι1 g1 ((fr ρ g1).bind fun ds g2 => φ (.ref n :: ds) [] g2) Q) I ⟨ι, ρ, g, rp, re, h.bind fun d g1 ι1 H1 v y q k => by
      split at k
      · rename_i n c' fs e
        split at k
        · rename_i hh
          obtain ⟨ed, _⟩ := insAt_ok y.rep q e
          subst ed
          obtain ⟨rfl, hl⟩ := hh
          exact ⟨ι1, g1, n, fs, y.rep, re.nx y, q, e, hl, k⟩
        · exact k.elim
      · exact k.elim⟩
  refine PySem.W.methodCall_KW (pl := pl) (thn ho' fun u s1 ⟨x, H1, I1, rx, ι1, g1, n, fs, rp1, re1, q1, ei, hl, k1⟩ => ?_) ht
  obtain ⟨_, ev, eg, C', dx, fvs, hc, hA, hd, rf⟩ := insAt_ok rp1 q1 ei
  have eC : C' = C := by rw [hm] at hc; cases hc; rfl
  subst eC
  subst ev
  obtain rfl : u = Value.ref (ι1 n) := rx
  refine getmeth_ok I1 hA cl mt (rf.lookup_none hl) ?_
  have ha' := ha.run pos pins s1 σ H1 (fun vs H2 => spK X.K X.mg φ (.ref (ι1 n) :: vs) [] H2 Q (WE W σ)) I1 ⟨ι1, ρ, g1, rp1, re1, k1.bind fun ds g2 ι2 H2 vs y2 q2 k2 => ⟨ι2, g2, .ref n :: ds, [], y2.rep, .cons (q1.nx y2) q2, .nil, k2.cc⟩⟩
  refine PySem.W.callWith_K (first := [.ref (ι1 n)]) (h₀ := X.base) I.ok.mod.kin mt.kp (thn ha' fun us s2 ⟨vs, H2, I2, r, q2⟩ => ⟨I2.kIn, ?_⟩) hst hpl
  exact run_callF (us := .ref (ι1 n) :: us) (vs := .ref (ι1 n) :: vs) (ws := []) (zs := []) F hr tk I2 (.cons rfl r) .nil rfl q2
theorem fe_meth0 (T : TabM X.prog X.w X.K X.mg X.base k c m [] φ) (hr : Room k X.A) (tk : Takes X W) (ho : FE X W o fo)
    (ht : eval (.Call (.Attribute o m apos) [] [] pos) X.env = (do
      let ov ← eval o X.env
      standAt apos.atName
      let (f, first) ← holding [ov] (getMethod ov m pl)
      callWith pos f first (backTo pos (starEach [] X.env)) (backToKw pos (keywordEach [] X.env))) := by rfl) : FE X W (.Call (.Attribute o m apos) [] [] pos) (fMeth c m φ fo fNil) := by
  obtain ⟨C, f, hm, cl, mt, F⟩ := T.ex
  refine ⟨fun pins s σ H Q I ⟨ι, ρ, g, rp, re, h⟩ => ?_⟩
  have ho' := ho.run pins s σ H (fun v H1 => ∃ ι1 g1 n fs, Rep X.K X.mg ι1 H1 g1 ∧ RV X.K ι1 g1.length H1 (.ref n) v ∧ insAt (.ref n) g1 = some (n, c, fs) ∧ fs.lookup m = none ∧
    Tc X.K X.mg (RV X.K) W σ H1 ι1 g1 (φ [.ref n] [] g1) Q) I ⟨ι, ρ, g, rp, re, h.bind fun d g1 ι1 H1 v y q k => by
      split at k
      · rename_i n c' fs e
        split at k
        · rename_i hh
          obtain ⟨ed, _⟩ := insAt_ok y.rep q e
          subst ed
          obtain ⟨rfl, hl⟩ := hh
          exact ⟨ι1, g1, n, fs, y.rep, q, e, hl, k⟩
        · exact k.elim
      · exact k.elim⟩
  refine PySem.W.methodCall_KW (pl := pl) (thn ho' fun u s1 ⟨x, H1, I1, rx, ι1, g1, n, fs, rp1, q1, ei, hl, k1⟩ => ?_) ht
  obtain ⟨_, ev, eg, C', dx, fvs, hc, hA, hd, rf⟩ := insAt_ok rp1 q1 ei
  have eC : C' = C := by rw [hm] at hc; cases hc; rfl
  subst eC
  subst ev
  obtain rfl : u = Value.ref (ι1 n) := rx
  refine getmeth_ok I1 hA cl mt (rf.lookup_none hl) ?_
  refine PySem.W.callWith_K0 (first := [.ref (ι1 n)]) I1.kIn mt.kp ?_
  exact run_callF (us := [.ref (ι1 n)]) (vs := [.ref (ι1 n)]) (ws := []) (zs := []) F hr tk I1 (.cons rfl .nil) .nil rfl ⟨ι1, g1, [.ref n], [], rp1, .cons q1 .nil, .nil, k1.cc⟩
/-- C.m(x, ..), C a class's name -/
theorem fe_cmeth (T : TabN X.prog X.w X.K X.mg X.base k c m [] φ) (hr : Room k X.A) (tk : Takes X W) (ha : FA X W (e :: es) fr) (hg : Gl X c := by rfl) (hdb : (c == ("__debug__" : Str)) = false := by decide)
    (hst : starEach (e :: es) X.env = (false, eval e X.env) :: starEach es X.env := by rfl) (hpl : (backTo pos (starEach es X.env)).any (·.1) = false := by rfl)
    (ht : eval (.Call (.Attribute (.Name c p) m apos) (e :: es) [] pos) X.env = (do
      let ov ← eval (.Name c p) X.env
      standAt apos.atName
      let (f, first) ← holding [ov] (getMethod ov m pl)
      callWith pos f first (backTo pos (starEach (e :: es) X.env)) (backToKw pos (keywordEach [] X.env))) := by rfl) : FE X W (.Call (.Attribute (.Name c p) m apos) (e :: es) [] pos) (fCallF φ fr) := by
  obtain ⟨C, f, mc, hm, cr, fc, kf, F⟩ := T.ex
  refine ⟨fun pins s σ H Q I ⟨ι, ρ, g, rp, re, h⟩ => ?_⟩
  have ho : PE X (.Name c p) (tC (.ref C)) := pe_glob hg hm rfl hdb
  refine PySem.W.methodCall_KW (pl := pl) (thn (ho.run pins s σ H (fun x H1 => x = .ref C ∧ H1 = H) I ⟨rfl, rfl⟩) fun u s1 ⟨x, H1, I1, rx, ex, e2⟩ => ?_) ht
  subst ex e2
  obtain rfl : u = Value.ref C := rx
  refine PySem.W.method_cls I1.kIn cr.ga (PySem.W.cls_value I1.kIn cr.rd fc (handed_of (v := .ref f) rfl) ?_)
  have I2 := I1.tok (s1.toks + 1)
  have ha' := ha.run pos pins _ σ H1 (fun vs H1 => spK X.K X.mg φ vs [] H1 Q (WE W σ)) I2 ⟨ι, ρ, g, rp, re, h.bind fun ds g1 ι1 H1 vs y q k => ⟨ι1, g1, ds, [], y.rep, q, .nil, k.cc⟩⟩
  refine PySem.W.callWith_K (h₀ := X.base) I.ok.mod.kin kf (thn ha' fun us s1 ⟨vs, H1, I1, r, q⟩ => ⟨I1.kIn, ?_⟩) hst hpl
  exact run_callF (ws := []) (zs := []) F hr tk I1 r .nil rfl q
end
end Fc

set_option Elab.async false
set_option linter.all false
set_option maxRecDepth 100000
set_option maxHeartbeats 4000000
/-! Fu: dicts; a def with **kw called with keywords that it names. -/
namespace Fc
open PySem PySem.Spec PySem.Calls PyProof.Rows L2

/-! ### a def (.., *, k=d, **kw) -/
/-- t looks the names up in the dict at D, one behind another, and goes on as T -/
def KwTo {α : Type} (D : Addr) : List (Str × Value) → Sem α → Sem α → Prop
  | [], t, T => t = T
  | q :: l, t, T => ∃ (β γ : Type) (k1 : Option Value → Sem β) (k2 : β → Sem γ) (k3 : γ → Sem α) (a : β), t = ((nsGet D q.1 >>= k1) >>= k2) >>= k3 ∧ k1 (some q.2) = pure a ∧ KwTo D l (k2 a >>= k3) T
theorem KwTo.run {α : Type} {K : PySem.W.Frag} {M : Model} {A : Around} {D : Addr} {Q : α → Shared → Prop} {E : Value → Shared → Prop} {s : Shared} (X : K.In s.heap) : ∀ {l : List (Str × Value)} {t T : Sem α}, (∀ q ∈ l, PySem.W.nsIn K D q.1 = some (some q.2)) → KwTo D l t T → wpAny M A T Q E s → wpAny M A t Q E s
  | [], t, T, _, e, h => by
    have e : t = T := e
    rw [e]; exact h
  | q :: l, t, T, hl, e, h => by
    obtain ⟨β, γ, k1, k2, k3, a, e1, e2, e3⟩ := e
    have ih := KwTo.run X (fun p hp => hl p (List.mem_cons_of_mem _ hp)) e3 h
    rw [e1, bind_assoc, bind_assoc]
    refine wpAny_bind ((PySem.W.looks_nsIn X (hl q (List.mem_cons_self ..))).here ?_)
    rw [e2, pure_bind]
    exact ih
section
variable {P : Program} {w : World} {K : PySem.W.Frag} {mg : Str → Option Value} {base : Heap} {x qual : Str} {params : Arguments} {body : List Stmt} {scope : Scope} {kws : List (Str × V)} {f : Addr} {fd : FuncData}
theorem callF_rest {N ps ks : List Str} {pd : Str} {k n : Nat} {fb : Ev → G → Rs} (F : FunD K x qual params body scope [] kws f fd) (S : FnScope N (ps ++ [pd]) scope) (hk : kws ≠ []) (ms : List (Str × V)) (hms : ∀ q ∈ ms, q ∈ kws)
    (gv : {α : Type} → List α → List α → List α → List α) (mD : List D) (hmD : ∀ ι m H, RVs K ι m H mD (ms.map (·.2)))
    (hrel : ∀ {vs mz zs : List V} {us mv ws : List Value}, Vals vs us → Vals mz mv → Vals zs ws → Vals (gv vs mz zs) (gv us mv ws))
    (hrelD : ∀ ι m H {ds mz es : List D} {vs nz zs : List V}, RVs K ι m H ds vs → RVs K ι m H mz nz → RVs K ι m H es zs → RVs K ι m H (gv ds mz es) (gv vs nz zs))
    (hlen : ∀ {α : Type} (us mv ws : List α), us.length = n → mv.length = ms.length → ws.length = ks.length → (gv us mv ws).length = ps.length)
    (hbind : ∀ (D : Addr) (doc pm : Value) (an : Option Addr) (cdv ct : Value) (us mv ws : List Value), us.length = n → mv.length = ms.length → ws.length = ks.length →
      KwTo D ((ms.map (·.1)).zip mv) (bindArgs (PySem.W.fnOf x qual params body scope .none (.ref D) doc pm an cdv ct) ⟨us, ks.zip ws⟩) ((alloc ({ cls := .type "dict", data := .dict #[] } : Obj) : Sem Addr) >>= fun d => pure (ps.zip (gv us mv ws) ++ [(pd, Value.ref d)])))
    (hbody : ∀ (cdv : Value) (A : Around) (outer : List Env) (s : Shared) (H : Hp) (E : XK), Room k (A.deeper (envOfC qual scope s.heap.objs.size f cdv)) →
      FB (cxOf (L2.CX P w) P w K mg base N qual scope f cdv A outer s H E) (fun cls d _ H' => E cls d H') body fb) :
    CallF P w K mg base (k + 1) f ks (fun ds es g => if ds.length = n ∧ es.length = ks.length then runB fb (ini N.length (gv ds mD es ++ [.ref g.length])) (g ++ [.dct []]) else .bad) := by
  obtain ⟨oc, od, dV, kV, doc, pm, an, cdv, ct, osl, rfl, lk, hcd, hD, hK⟩ := F.ex
  rcases hD with ⟨_, rfl⟩ | ⟨e, _⟩
  · rcases hK with e | ⟨D0, rfl, hq⟩
    · exact absurd e hk
    · obtain ⟨mv, hl, rk, hks⟩ := kwd_vals (ms := ms) fun q hm => hq q (hms q hm)
      intro A outer s H us ws vs zs Q E hr e0 r rz hwl ⟨ι, g', ds, es, rp, rv, rw', h⟩
      dsimp only at h
      split at h
      · rename_i hd
        have l1 : us.length = n := by rw [← r.length, rv.length, hd.1]
        have r2 : Vals (gv vs (ms.map (·.2)) zs) (gv us mv ws) := hrel r rk rz
        have rD := hrelD ι _ H rv (hmD ι _ H) rw'
        have hn : H s.heap.objs.size = Option.none := e0.hok.fresh (Nat.le_refl _)
        have lg : (gv us mv ws).length = ps.length := hlen us mv ws l1 hl hwl
        refine StX.run_bnd lk hcd S hr e0 (G := fun xs H2 => ∃ p, H p = Option.none ∧ xs = gv vs (ms.map (·.2)) zs ++ [V.ref p] ∧ H2 = upd H p (.dK [])) (fun A' Ex Q' hQ => ?_) fun s2 H2 xs ⟨p, hp, ex, eH⟩ hr' => ?_
        · refine KwTo.run (e0.mod.kin.keeps fun b o e => (e0.bs b o e).1) hks (hbind D0 doc pm an cdv ct us mv ws l1 hl hwl) ?_
          refine wpAny_bind (wpAny_alloc (wpAny_pure ?_))
          have new := dk_empty (P := P) (w := w) (H := upd H s.heap.objs.size (.dK [])) s.heap (StX.env0_big e0)
          have un := StX.un_laid (fs := frs outer) (s := s) (o := ({ cls := .type "dict", data := .dict #[] } : Obj)) (u := .dK []) hn
          have z := hQ _ _ (gv vs (ms.map (·.2)) zs ++ [V.ref s.heap.objs.size]) (gv us mv ws ++ [Value.ref s.heap.objs.size]) (StX.env0_laid e0 new) un rfl (fun e s' => StX.cxUp outer s H _ _ E e s' un (fun b o q => Heap.get?_push_of_some _ q) rfl) (r2.append (.cons rfl .nil))
            (by rw [List.length_append, List.length_append, r2.length, lg] <;> rfl) ⟨_, hn, rfl, rfl⟩
          rw [List.zip_append lg.symm] at z
          exact z
        · subst ex eH
          have y := Nx.newD (mg := mg) rp hp .nil
          have z := ref_new (K := K) (ι := ι) (g := g') (o := .dct []) (p := p) (H := upd H p (.dK []))
          refine ⟨_, hbody cdv A outer s2 _ E hr', body_read y.rep (ini_env ((rD.nx y).append (.cons z .nil))) (Cc.base y h)⟩
      · exact h.elim
  · exact absurd rfl e
end

/-! ### dicts -/
def kD : Key → D
  | .inl i => .int i
  | .inr x => .str x
theorem kD_rv {K : PySem.W.Frag} {ι : Nat → Addr} {n : Nat} {H : Hp} (k : Key) : RV K ι n H (kD k) (kV k) := by
  cases k with
  | inl i => exact .int i
  | inr x => exact .str x
def dctAt (d : D) (g : G) : Option (List (Key × D)) := match d with
  | .ref m => match g[m]? with
    | some (.dct l) => some l
    | some (.fdc l) => some l
    | _ => none
  | _ => none
theorem dctAt_ok {K : PySem.W.Frag} {mg : Str → Option Value} {ι : Nat → Addr} {g : G} {H : Hp} {d : D} {v : V} {l : List (Key × D)} (rp : Rep K mg ι H g) (r : RV K ι g.length H d v) (h : dctAt d g = some l) : ∃ p kvs, v = .ref p ∧ Rd H p (.dK kvs) ∧ RKs K ι g.length H l kvs := by
  cases r with
  | ref hm =>
    simp only [dctAt] at h
    split at h
    · rename_i l' el
      obtain ⟨vs, ev, r⟩ := rp.obj _ _ el
      cases h
      exact ⟨_, vs, rfl, .inl ev, r⟩
    · rename_i l' el
      obtain ⟨ob, vs, ev, r⟩ := rp.obj _ _ el
      cases h
      exact ⟨_, vs, rfl, .inr ⟨ob, ev⟩, r⟩
    · cases h
  | _ => cases h
def fDct0 : Ev → G → Re D := fun _ g => .ok (.ref g.length) (g ++ [.dct []])
def oDict : OpN := fun as g => match as with
  | [d] => (match dctAt d g with | some l => .ok (.ref g.length) (g ++ [.dct l]) | none => .bad)
  | _ => .bad
def lenF (d : D) (g : G) : Option Nat := match d with
  | .ref m => match g[m]? with
    | some (.dct l) => some l.length
    | _ => none
  | _ => none
def OpN.or (o p : OpN) : OpN := fun as g => match o as g with
  | .ok d g' => .ok d g'
  | _ => p as g
theorem CallS.or {X : Cx} {f : Value} {o p : OpN} (h : CallS X f o) (k : CallS X f p) : CallS X f (o.or p) := by
  obtain ⟨r, hr, h⟩ := h
  obtain ⟨r', hr', k⟩ := k
  refine ⟨_, CallR.or hr hr', fun ι g H as xs Q rp ra q => ?_⟩
  unfold OpN.or at q
  split at q
  · rename_i e
    exact .inl (h ι g H as xs Q rp ra (by rw [e]; exact q))
  · exact .inr (k ι g H as xs Q rp ra q)
def oLenF : OpN := fun as g => match as with
  | [d] => (match lenF d g with | some n => .ok (.int (n : Int)) g | none => .bad)
  | _ => .bad
def oLenA : OpN := oLen.or oLenF
section
variable {X : Cx} {W : WX} {pos : Pos}
theorem fe_dct0 : FE X W (.Dict [] [] pos) fDct0 := PE.imp pe_dnewK fun σ H Q ⟨ι, ρ, g, rp, re, h⟩ p hp => h.ok (Nx.newD rp hp .nil) ref_new
theorem cs_dict : CallS X (.type "dict") oDict := ⟨_, call_dictD, fun ι g H as xs Q rp ra h => by
  unfold oDict at h
  split at h
  · obtain ⟨v, rfl, r⟩ := ra.one
    split at h
    · rename_i l e
      obtain ⟨p, kvs, rfl, hd, rk⟩ := dctAt_ok rp r e
      exact ⟨p, kvs, rfl, hd, fun q hq => h _ _ _ (Nx.newD rp hq rk) ref_new⟩
    · exact h.elim
  · exact h.elim⟩
theorem cs_lenF : CallS X (.builtin "len") oLenF := ⟨_, call_lenD, fun ι g H as xs Q rp ra h => by
  unfold oLenF at h
  split at h
  · obtain ⟨v, rfl, r⟩ := ra.one
    split at h
    · rename_i n e
      cases r with
      | ref hm =>
        simp only [lenF] at e
        split at e
        · rename_i l el
          cases e
          obtain ⟨vs, ev, r⟩ := rp.obj _ _ el
          exact ⟨_, vs, rfl, ev, by rw [r.length]; exact h.ok rp (.int _)⟩
        · cases e
      | _ => cases e
    · exact h.elim
  · exact h.elim⟩
theorem cs_lenA : CallS X (.builtin "len") oLenA := cs_len.or cs_lenF
end

/-! ### for k, v in d.items() -/
def itemsD (l : List (Key × D)) : List D := l.map fun kv => .tup [kD kv.1, kv.2]
theorem RKs.get {κ : Type} {K : PySem.W.Frag} {ι : Nat → Addr} {n : Nat} {H : Hp} : ∀ {ds : List (κ × D)} {vs : List (κ × V)} {i : Nat} {k : κ} {v : V}, RKs K ι n H ds vs → vs[i]? = some (k, v) → ∃ d, ds[i]? = some (k, d) ∧ RV K ι n H d v
  | _, _, _, _, _, .nil, e => by simp at e
  | _, _, 0, _, _, .cons r _, e => by simp at e; obtain ⟨rfl, rfl⟩ := e; exact ⟨_, rfl, r⟩
  | _, _, i + 1, _, _, .cons _ t, e => by
    obtain ⟨d, h1, h2⟩ := RKs.get (i := i) t (by simpa using e)
    exact ⟨d, by simpa using h1, h2⟩
/-- the lock put on, taken off -/
def lockG (m : Nat) (g : G) : Option G := match g[m]? with
  | some (.dct l) => some (g.set m (.fdc l))
  | _ => none
def unlockG (m : Nat) (g : G) : Option G := match g[m]? with
  | some (.fdc l) => some (g.set m (.dct l))
  | _ => none
def Rs.unlock (m : Nat) (r : Rs) : Rs := match r with
  | .nx ρ g => (match unlockG m g with | some g' => .nx ρ g' | none => .bad)
  | .bk ρ g => (match unlockG m g with | some g' => .bk ρ g' | none => .bad)
  | .ct ρ g => (match unlockG m g with | some g' => .ct ρ g' | none => .bad)
  | .rt d g => (match unlockG m g with | some g' => .rt d g' | none => .bad)
  | .ex c fs ρ g => .ex c fs ρ g
  | .bad => .bad
/-- the statement while the dict that sel tells is locked -/
def sLock (sel : Ev → G → Re D) (f : Ev → G → Rs) : Ev → G → Rs := fun ρ g => match sel ρ g with
  | .ok (.ref m) _ => (match lockG m g with
    | some g0 => (f ρ g0).unlock m
    | none => .bad)
  | _ => .bad
def fItems (fd : Ev → G → Re D) : Ev → G → Re (List D × Wt) := fun ρ g => (fd ρ g).bind fun d g1 => match d with
  | .ref m => (match g1[m]? with
    | some (.fdc l) => .ok (itemsD l, []) g1
    | _ => .bad)
  | _ => .bad
def fKeys (fd : Ev → G → Re D) : Ev → G → Re (List D × Wt) := fun ρ g => (fd ρ g).bind fun d g1 => match d with
  | .ref m => (match g1[m]? with
    | some (.fdc l) => .ok (l.map fun kv => kD kv.1, []) g1
    | _ => .bad)
  | _ => .bad
def sForItems (fd : Ev → G → Re D) (b : Bd) (body : Ev → G → Rs) : Ev → G → Rs := sLock fd (sFor (fItems fd) b body)
section
variable {K : PySem.W.Frag} {mg : Str → Option Value} {ι ι1 ι2 : Nat → Addr} {g g0 g1 g2 : G} {H H1 H2 : Hp}
theorem lock_nx {m : Nat} (rp : Rep K mg ι H g) (h : lockG m g = some g0) : m < g.length ∧ ∃ kvs l, g[m]? = some (.dct l) ∧ H (ι m) = some (.dK kvs) ∧ ∀ od, Nx K mg ι g H ι g0 (upd H (ι m) (.frz od (.dK kvs))) := by
  unfold lockG at h
  split at h
  · rename_i l el
    cases h
    obtain ⟨kvs, ev, r⟩ := rp.obj _ _ el
    refine ⟨(List.getElem?_eq_some_iff.mp el).1, kvs, l, el, ev, fun od => ?_⟩
    have pr : Pres H (L2.upd H (ι m) (.frz od (.dK kvs))) := Pres.mut ev (fun _ z => nomatch z) (fun _ _ z => nomatch z)
    exact .upd rp el pr ⟨od, kvs, upd_same, r.mono (fun _ _ => rfl) (Nat.le_refl _) fun _ _ h => pr.sq h⟩
  · cases h
/-- the way back: from the world ahead of the lock to the one behind it -/
theorem unlock_nx {m : Nat} {od : Obj} {kvs : List (Key × V)} (rp : Rep K mg ι H g) (hd : H (ι m) = some (.dK kvs)) (hm : m < g.length) (y : Nx K mg ι g (upd H (ι m) (.frz od (.dK kvs))) ι2 g2 H2) (hH : H2 (ι m) = some (.frz od (.dK kvs))) (h : unlockG m g2 = some g1) :
    Nx K mg ι g H ι2 g1 (upd H2 (ι m) (.dK kvs)) := by
  unfold unlockG at h
  split at h
  · rename_i l el
    cases h
    have em : ι2 m = ι m := y.agr m hm
    obtain ⟨ob, kv2, ev, r⟩ := y.rep.obj _ _ el
    rw [em, hH] at ev
    cases ev
    have h2 : ∀ a xs, SqT K H2 a xs → SqT K (upd H2 (ι m) (.dK kvs)) a xs := fun a xs q => by
      rcases q with (q | ⟨o, q⟩) | q
      · exact .inl (.inl (by rw [upd_ne (fun z => by rw [z, hH] at q; cases q)]; exact q))
      · exact .inl (.inr ⟨o, by rw [upd_ne (fun z => by rw [z, hH] at q; cases q)]; exact q⟩)
      · exact .inr q
    refine ⟨⟨fun k ob q => ?_, fun a b ha hb => ?_⟩, by rw [List.length_set]; exact y.len, y.agr, ⟨fun a xs q => ?_, fun a o u q => ?_⟩⟩
    · rw [List.length_set]
      by_cases hk : m = k
      · subst hk
        rw [List.getElem?_set_self (Nat.lt_of_lt_of_le hm y.len)] at q
        cases q
        rw [em]
        exact ⟨kvs, upd_same, r.mono (fun _ _ => rfl) (Nat.le_refl _) h2⟩
      · rw [List.getElem?_set_ne hk] at q
        have hk' := (List.getElem?_eq_some_iff.mp q).1
        have ro := y.rep.obj k ob q
        have hne : ι2 k ≠ ι m := fun z => hk (y.rep.inj m k (Nat.lt_of_lt_of_le hm y.len) hk' (by rw [em, z]))
        cases ob with
        | lst l => obtain ⟨vs, e, r⟩ := ro; exact ⟨vs, by rw [upd_ne hne]; exact e, r.mono (fun _ _ => rfl) (Nat.le_refl _) h2⟩
        | frz l => obtain ⟨ob, vs, e, r⟩ := ro; exact ⟨ob, vs, by rw [upd_ne hne]; exact e, r.mono (fun _ _ => rfl) (Nat.le_refl _) h2⟩
        | dct l => obtain ⟨vs, e, r⟩ := ro; exact ⟨vs, by rw [upd_ne hne]; exact e, r.mono (fun _ _ => rfl) (Nat.le_refl _) h2⟩
        | fdc l => obtain ⟨ob, vs, e, r⟩ := ro; exact ⟨ob, vs, by rw [upd_ne hne]; exact e, r.mono (fun _ _ => rfl) (Nat.le_refl _) h2⟩
        | ins c fs =>
          obtain ⟨C, dx, fvs, ec, e, ed, r⟩ := ro
          exact ⟨C, dx, fvs, ec, by rw [upd_ne hne]; exact e, by rw [upd_ne (fun z => by rw [z, hH] at ed; cases ed)]; exact ed, r.mono (fun _ _ => rfl) (Nat.le_refl _) h2⟩
    · rw [List.length_set] at ha hb
      exact y.rep.inj a b ha hb
    · have ne : a ≠ ι m := fun z => by rw [z, hd] at q; cases q
      rw [upd_ne ne]
      exact y.prs.tup a xs (by rw [upd_ne ne]; exact q)
    · have ne : a ≠ ι m := fun z => by rw [z, hd] at q; cases q
      rw [upd_ne ne]
      exact y.prs.frz a o u (by rw [upd_ne ne]; exact q)
  · cases h
end
section
variable {X : Cx} {W : WX} {st : Stmt} {f : Ev → G → Rs} {pos cpos apos tpos : Pos} {e : Expr} {elts : List Expr} {kk : Nat} {fd : Ev → G → Re D} {b : Bd} {body : List Stmt} {fb : Ev → G → Rs} {sl : List Nat}
theorem fs_lock (sel : Ev → G → Re D) (h : FS X W st f) : FS X W st (sLock sel f) := by
  refine PS.imp (ps_lock h) fun Z σ H ⟨ι, ρ, g, rp, re, h⟩ => ?_
  unfold sLock at h
  split at h
  · rename_i m _ _
    split at h
    · rename_i g0 e0
      obtain ⟨hm, kvs, l, el, hd, y⟩ := lock_nx rp e0
      refine ⟨ι m, .dK kvs, hd, by simp [Mut], fun od => ⟨ι, ρ, g0, (y od).rep, re.nx (y od), ?_⟩⟩
      have hL : upd H (ι m) (.frz od (.dK kvs)) (ι m) = some (.frz od (.dK kvs)) := upd_same
      have len0 : g0.length = g.length := by
        unfold lockG at e0
        rw [el] at e0
        cases e0
        exact List.length_set ..
      have key : ∀ {ι' g' H' g1}, Nx X.K X.mg ι g0 (upd H (ι m) (.frz od (.dK kvs))) ι' g' H' → unlockG m g' = some g1 → H' (ι m) = some (.frz od (.dK kvs)) ∧ Nx X.K X.mg ι g H ι' g1 (upd H' (ι m) (.dK kvs)) := fun x eu => by
        have hH := x.prs.frz _ _ _ hL
        exact ⟨hH, unlock_nx rp hd hm ⟨x.rep, by rw [← len0]; exact x.len, fun k hk => x.agr k (by rw [len0]; exact hk), x.prs⟩ hH eu⟩
      have up : ∀ {ι' g' H' g1}, Nx X.K X.mg ι g0 (upd H (ι m) (.frz od (.dK kvs))) ι' g' H' → unlockG m g' = some g1 → g1.length = g'.length ∧ ∀ a xs, SqT X.K H' a xs → SqT X.K (upd H' (ι m) (.dK kvs)) a xs := fun x eu => by
        have hH := x.prs.frz _ _ _ hL
        constructor
        · unfold unlockG at eu
          split at eu
          · cases eu; exact List.length_set ..
          · cases eu
        · intro a xs q
          rcases q with (q | ⟨o, q⟩) | q
          · exact .inl (.inl (by rw [upd_ne (fun z => by rw [z, hH] at q; cases q)]; exact q))
          · exact .inl (.inr ⟨o, by rw [upd_ne (fun z => by rw [z, hH] at q; cases q)]; exact q⟩)
          · exact .inr q
      cases er : f ρ g0 with
      | nx ρ' g' =>
        rw [er] at h
        simp only [Rs.unlock] at h
        split at h
        · rename_i g1 eu
          intro ι' H' σ' x r'
          obtain ⟨h1, h2⟩ := key x eu
          obtain ⟨l1, s1⟩ := up x eu
          exact ⟨h1, h ι' _ σ' h2 ⟨r'.len, fun i d e => by obtain ⟨v, ev, q⟩ := r'.get i d e; exact ⟨v, ev, q.mono (fun _ _ => rfl) (Nat.le_of_eq l1.symm) s1⟩⟩⟩
        · exact h.elim
      | bk ρ' g' =>
        rw [er] at h
        simp only [Rs.unlock] at h
        split at h
        · rename_i g1 eu
          intro ι' H' σ' x r'
          obtain ⟨h1, h2⟩ := key x eu
          obtain ⟨l1, s1⟩ := up x eu
          exact ⟨h1, h ι' _ σ' h2 ⟨r'.len, fun i d e => by obtain ⟨v, ev, q⟩ := r'.get i d e; exact ⟨v, ev, q.mono (fun _ _ => rfl) (Nat.le_of_eq l1.symm) s1⟩⟩⟩
        · exact h.elim
      | ct ρ' g' =>
        rw [er] at h
        simp only [Rs.unlock] at h
        split at h
        · rename_i g1 eu
          intro ι' H' σ' x r'
          obtain ⟨h1, h2⟩ := key x eu
          obtain ⟨l1, s1⟩ := up x eu
          exact ⟨h1, h ι' _ σ' h2 ⟨r'.len, fun i d e => by obtain ⟨v, ev, q⟩ := r'.get i d e; exact ⟨v, ev, q.mono (fun _ _ => rfl) (Nat.le_of_eq l1.symm) s1⟩⟩⟩
        · exact h.elim
      | rt d g' =>
        rw [er] at h
        simp only [Rs.unlock] at h
        split at h
        · rename_i g1 eu
          intro ι' H' v x r'
          obtain ⟨h1, h2⟩ := key x eu
          obtain ⟨l1, s1⟩ := up x eu
          exact ⟨h1, h ι' _ v h2 (r'.mono (fun _ _ => rfl) (Nat.le_of_eq l1.symm) s1)⟩
        · exact h.elim
      | ex c fs ρ' g' =>
        rw [er] at h
        exact Sc.base (W := W) (Z := Z) (r := .ex c fs ρ' g') (y od) h
      | bad => rw [er] at h; exact h
    · exact h.elim
  · exact h.elim
theorem fi_items (he : FE X W e fd) (hbase : attributeBase e "items" X.env (eval e X.env) = eval e X.env := by rfl) (hline : (apos.endLine == cpos.line) = true := by rfl) : FI X W (.Tuple elts kk tpos) (.Call (.Attribute e "items" apos) [] [] cpos) (fItems fd) := by
  refine PI.imp (pi_items he hbase hline) fun σ H R ⟨ι, ρ, g, rp, re, h⟩ => ⟨ι, ρ, g, rp, re, Ic.bind h fun d g1 ι1 H1 v y q k => ?_⟩
  split at k
  · rename_i m
    split at k
    · rename_i l el
      cases q with
      | ref hm =>
        obtain ⟨ob, kvs, ev, r⟩ := y.rep.obj _ _ el
        refine ⟨_, ob, kvs, rfl, ev, k ι1 H1 _ (.refl y.rep) fun i ι2 g2 H2 y2 _ => ?_⟩
        have r2 := r.nx y2
        have hl := r.length
        have eH := y2.prs.frz _ _ _ ev
        refine ⟨fun d hd => ⟨⟨eH, ?_⟩, fun x H' ⟨T, k, v, ek, ex, hT, eH'⟩ => ?_⟩, fun z => ⟨eH, ?_⟩⟩
        · have := (List.getElem?_eq_some_iff.mp hd).1
          simp only [itemsD, List.length_map] at this
          omega
        · subst ex eH'
          obtain ⟨d', ed, rd⟩ := r2.get ek
          have e2 : d = .tup [kD k, d'] := by
            unfold itemsD at hd
            rw [List.getElem?_map, ed] at hd
            exact (Option.some.inj hd).symm
          subst e2
          have y3 := Nx.newT (vs := [kV k, v]) y2.rep hT
          exact ⟨ι2, y3, .tup (SqT.of upd_same) (.cons (kD_rv k) (.cons (rd.nx y3) .nil))⟩
        · simp only [itemsD, List.length_map] at z
          omega
    · exact k.elim
  · exact k.elim
theorem fi_keys {tg : Expr} (he : FE X W e fd) : FI X W tg e (fKeys fd) := by
  refine PI.imp (pi_keys he) fun σ H R ⟨ι, ρ, g, rp, re, h⟩ => ⟨ι, ρ, g, rp, re, Ic.bind h fun d g1 ι1 H1 v y q k => ?_⟩
  split at k
  · rename_i m
    split at k
    · rename_i l el
      cases q with
      | ref hm =>
        obtain ⟨ob, kvs, ev, r⟩ := y.rep.obj _ _ el
        refine ⟨_, ob, rfl, .inl ⟨kvs, ev, k ι1 H1 _ (.refl y.rep) fun i ι2 g2 H2 y2 _ => ?_⟩⟩
        have r2 := r.nx y2
        have hl := r.length
        have eH := y2.prs.frz _ _ _ ev
        refine ⟨fun d hd => ⟨⟨eH, ?_⟩, fun x H' yy => ?_⟩, fun z => ⟨eH, ?_⟩⟩
        · have := (List.getElem?_eq_some_iff.mp hd).1
          simp only [List.length_map] at this
          omega
        · obtain ⟨eH', k, v, ek, ex⟩ := yy
          subst ex eH'
          obtain ⟨d', ed, rd⟩ := r2.get ek
          have e2 : d = kD k := by
            rw [List.getElem?_map, ed] at hd
            exact (Option.some.inj hd).symm
          subst e2
          exact ⟨ι2, .refl y2.rep, kD_rv k⟩
        · simp only [List.length_map] at z
          omega
    · exact k.elim
  · exact k.elim
theorem fs_forItems (hp : PassesOwn (model X.prog X.w) X.A X.env X.xe) (hc : X.calm = true) (he : FE X W e fd) (hg : FG X (.Tuple elts kk tpos) sl b) (hb : FB X W body fb) (hbase : attributeBase e "items" X.env (eval e X.env) = eval e X.env := by rfl) (hline : (apos.endLine == cpos.line) = true := by rfl)
    (hs : ∀ x, foldedSetIterable (.Call (.Attribute e "items" apos) [] [] cpos) X.env x = pure x := by intro _; rfl) : FS X W (.For (.Tuple elts kk tpos) (.Call (.Attribute e "items" apos) [] [] cpos) body [] pos) (sForItems fd b fb) :=
  fs_lock fd (fs_for hp hc (fi_items he hbase hline) hg hb hs)
end
end Fc

set_option Elab.async false
set_option linter.all false
set_option maxRecDepth 100000
set_option maxHeartbeats 4000000
/-! Fv: what the printed walks use besides. -/
namespace Fc
open PySem PySem.Spec PySem.Calls PyProof.Rows L2

/-- a constant of the module's top -/
def GlD (K : PySem.W.Frag) (mg : Str → Option Value) (x : Str) (d : D) : Prop := ∃ u v, mg x = some u ∧ RelV v u ∧ ∀ ι n H, RV K ι n H d v
theorem fe_glD {X : Cx} {W : WX} {x : Str} {pos : Pos} {d : D} (h : GlD X.K X.mg x d) (hg : Gl X x := by rfl) (hd : (x == ("__debug__" : Str)) = false := by decide) : FE X W (.Name x pos) (fC d) := by
  obtain ⟨u, v, hm, r, rd⟩ := h
  exact fe_gl hm r rd hg hd
/-- C(..) one level up -/
def TabK (P : Program) (w : World) (K : PySem.W.Frag) (mg : Str → Option Value) (base : Heap) (k : Nat) (x : Str) (ks : List Str) (ψ : Fun2) : Prop :=
  (∀ ds es g, ψ ds es g = .bad) ∨ ∃ j φ, k = j + 1 ∧ ψ = newI x φ ∧ TabC P w K mg base j x ks φ
theorem fe_mk0 {X : Cx} {W : WX} {k : Nat} {x : Str} {p pos : Pos} {ψ : Fun2} (T : TabK X.prog X.w X.K X.mg X.base k x [] ψ) (hr : Room k X.A) (tk : Takes X W) (hg : Gl X x := by rfl) (hdb : (x == ("__debug__" : Str)) = false := by decide) : FE X W (.Call (.Name x p) [] [] pos) (fCallK ψ fNil fNil) := by
  rcases T with h | ⟨j, φ, rfl, rfl, T⟩
  · refine ⟨fun pins s σ H Q I ⟨ι, ρ, g, rp, re, q⟩ => ?_⟩
    have q : Tc X.K X.mg (RV X.K) W σ H ι g (ψ [] [] g) Q := q
    rw [h] at q
    exact q.elim
  · exact fe_make0 T hr tk hg hdb
theorem fe_getKT {X : Cx} {W : WX} {x : Str} {p apos cpos : Pos} {e : Expr} {f : Ev → G → Re D} {tab : Str → Option D} (T : ∃ a, X.mg x = some (.ref a) ∧ KTab X.K X.w a tab) (he : FE X W e f) (hg : Gl X x := by rfl) (hd : (x == ("__debug__" : Str)) = false := by decide)
    (m : M1 X (.Name x p) "get" apos e cpos := by exact ⟨rfl, rfl, rfl, rfl⟩) : FE X W (.Call (.Attribute (.Name x p) "get" apos) [e] [] cpos) (fGetK tab f) := by
  obtain ⟨a, hm, T⟩ := T
  exact fe_getK T hm he hg hd m
theorem vals_pick {xs : List V} {us : List Value} (r : Vals xs us) (i : Nat) : Vals ((xs.drop i).take 1) ((us.drop i).take 1) := vals_take (vals_drop r i) 1
theorem RVs.pick {K : PySem.W.Frag} {ι : Nat → Addr} {n : Nat} {H : Hp} {ds : List D} {vs : List V} (r : RVs K ι n H ds vs) (i : Nat) : RVs K ι n H ((ds.drop i).take 1) ((vs.drop i).take 1) := (r.drop i).take 1
theorem CallF.weak {P : Program} {w : World} {K : PySem.W.Frag} {mg : Str → Option Value} {base : Heap} {k : Nat} {f : Addr} {ks : List Str} {φ φ' : Fun2} (h : CallF P w K mg base k f ks φ) (k' : ∀ ds es g, φ' ds es g = φ ds es g ∨ φ' ds es g = .bad) : CallF P w K mg base k f ks φ' :=
  fun A outer s H us ws vs zs Q E hr e0 r rz hl ⟨ι, g, ds, es, rp, rv, rw', q⟩ => by
    rcases k' ds es g with e | e
    · exact h A outer s H us ws vs zs Q E hr e0 r rz hl ⟨ι, g, ds, es, rp, rv, rw', e ▸ q⟩
    · rw [e] at q; exact q.elim
section
variable {K : PySem.W.Frag} {x qual : Str} {params : Arguments} {body : List Stmt} {scope : Scope} {kws : List (Str × V)} {f : Addr} {fd : FuncData} {ps : List Str}
theorem _root_.L2.FunD.kbindsN (F : FunD K x qual params body scope [] kws f fd) (n : Nat) (ks : List Str) (g : {α : Type} → List α → List α → List α)
    (hrel : ∀ {vs zs : List V} {us ws : List Value}, Vals vs us → Vals zs ws → Vals (g vs zs) (g us ws))
    (h : ∀ (kV doc pm : Value) (an : Option Addr) (cdv ct : Value) (us ws : List Value), us.length = n → ws.length = ks.length → bindArgs (PySem.W.fnOf x qual params body scope .none kV doc pm an cdv ct) ⟨us, ks.zip ws⟩ = pure (ps.zip (g us ws))) : KBn K fd ps n ks (fun us ws => g us ws) (fun vs zs => g vs zs) := by
  obtain ⟨oc, od, dV, kV, doc, pm, an, cdv, ct, osl, rfl, lk, hcd, hD, hK⟩ := F.ex
  rcases hD with ⟨_, rfl⟩ | ⟨e, _⟩
  · exact ⟨fun s us ws X l1 l2 => .of_eq (h kV doc pm an cdv ct us ws l1 l2), fun r1 r2 => hrel r1 r2⟩
  · exact absurd rfl e
end
theorem kwc_nil {α : Type} {D : Addr} {t : Sem α} {r : α} (h : t = pure r) : KwChain D [] t r := h
theorem kwto_nil {α : Type} {D : Addr} {t T : Sem α} (h : t = T) : KwTo D [] t T := h
end Fc

set_option Elab.async false
set_option linter.all false
set_option maxRecDepth 100000
set_option maxHeartbeats 4000000
/-! Fh: what the top has written, read off the written part by one look. -/
namespace Fc
open PySem PySem.Spec PySem.Calls PyProof.Rows L2

def noList (K : PySem.W.Frag) : Bool := K.all fun p => match p.2.cls with
  | .type c => !decide (c = "list")
  | _ => true
theorem noList_ok {K : PySem.W.Frag} (h : noList K = true) {a : Addr} {o : Obj} (e : K.lookup a = some o) : o.cls ≠ .type "list" := by
  have go : ∀ {K : PySem.W.Frag}, noList K = true → K.lookup a = some o → o.cls ≠ .type "list" := by
    intro K
    induction K with
    | nil => intro _ e; cases e
    | cons p r ih =>
      intro h e
      obtain ⟨b, ob⟩ := p
      obtain ⟨h1, h2⟩ := Bool.and_eq_true_iff.mp (show ((match ob.cls with | .type c => !decide (c = "list") | _ => true) && noList r) = true from h)
      unfold List.lookup at e
      cases q : a == b with
      | true =>
        rw [q] at e
        cases e
        intro z
        rw [z] at h1
        simp at h1
      | false => rw [q] at e; exact ih h2 e
  exact go h e
/-- the script: a list that nothing changes -/
theorem frz_of {K : PySem.W.Frag} {H : Hp} {a : Addr} {xs : List V} (nl : noList K = true) (hO : Only H) (h : SqL K H a xs) : ∃ o, H a = some (.frz o (.lst xs)) := by
  rcases h with (h | h) | ⟨o, its, n, e, c, _⟩
  · rcases hO a with z | ⟨o, ys, z⟩
    · rw [z] at h; cases h
    · rw [z] at h; cases h
  · exact h
  · exact absurd c (noList_ok nl e)
theorem rep0 {K : PySem.W.Frag} {mg : Str → Option Value} {H : Hp} {a : Addr} {o : Obj} {ns : List Int} (h : H a = some (.frz o (.lst (ns.map V.int)))) : Rep K mg (fun _ => a) H [.frz (ns.map D.int)] := by
  refine ⟨fun m ob e => ?_, fun m k hm hk _ => ?_⟩
  · cases m with
    | zero =>
      cases e
      refine ⟨o, _, h, ?_⟩
      clear h
      induction ns with
      | nil => exact .nil
      | cons n ns ih => exact .cons (.int n) ih
    | succ m => simp at e
  · simp only [List.length_singleton] at hm hk
    omega

inductive Fb where
  | tup (x : Str) (vs : List He.Dv)
  | tab (x : Str) (l : List (Str × Str))
  | own (x : Str)
  | kit (x : Str) (T : String) (b : Bool)
  | cread (x : Str)
  | cfun (x m : Str)
  | same (x y : Str)
def rowsB : List (Str × Str) → List DictEntry → Bool
  | [], [] => true
  | kv :: l, e :: es => (match e.key, e.val with
    | .str a _, .str b _ => decide (a = kv.1) && decide (b = kv.2)
    | _, _ => false) && rowsB l es
  | _, _ => false
def tabB (K : PySem.W.Frag) (x : Str) (l : List (Str × Str)) : Bool := !decide (He.ga K x = sysModules) && (match K.lookup (He.ga K x) with
  | some ⟨.type c, none, .dict es _, sl⟩ => decide (c = "dict") && (decide (sl.toList = []) && rowsB l es.toList)
  | _ => false)
def hashB (K : PySem.W.Frag) (x : Str) : List Int := match K.lookup (He.ga K x) with
  | some ⟨_, _, .dict es _, _⟩ => es.toList.map (·.hash)
  | _ => []
def Fb.ok (K : PySem.W.Frag) : Fb → Bool
  | .tup x vs => He.tupB K x vs
  | .tab x l => tabB K x l
  | .own x => He.eqO (PySem.W.findIn K (.ref (He.ga K x)) "__class__") (some (some (.builtin "object.__class__"))) && (He.eqO (PySem.W.specialIn K (.builtin "object.__class__") "__get__") (some (some (.builtin "getset_descriptor.__get__"))) &&
      (decide (PySem.W.takesIn K (.builtin "object.__class__") = some true) && decide (PySem.W.mroIn K (He.ga K x) (.type "object") = some true)))
  | .kit x T b => decide (PySem.W.kitOne K (.ref (He.ga K x)) (.type T) = some b)
  | .cread x => PySem.W.readsIn K (He.ga K x) (.type "type") && He.eqO (PySem.W.specialIn K (.ref (He.ga K x)) "__getattribute__") (some (some (.builtin "type.__getattribute__")))
  | .cfun x m => (match PySem.W.findCls K (.ref (He.ga K x)) (.type "type") m with
    | some (.val (.ref f)) => decide (f = He.fAd K (x, some m))
    | _ => false)
  | .same x y => decide (He.ga K x = He.ga K y)
theorem fb_at {fb : List Fb} {K : PySem.W.Frag} (c : fb.all (·.ok K) = true) (i : Nat) {f : Fb} (h : fb[i]? = some f := by rfl) : f.ok K = true := List.all_eq_true.mp c f (List.mem_of_getElem? h)
section
variable {K : PySem.W.Frag} {h : Heap} {mg : Str → Option Value} {w : World}
theorem ba' {a b : Bool} (h : (a && b) = true) : a = true ∧ b = true := Bool.and_eq_true_iff.mp h
theorem own_ok {x : Str} (c0 : (He.Fa.cls x).ok K = true) (c : (Fb.own x).ok K = true) : OwnC K (He.ga K x) := by
  obtain ⟨c1, c⟩ := ba' c
  obtain ⟨c2, c⟩ := ba' c
  obtain ⟨c3, c4⟩ := ba' c
  exact ⟨He.cls_ok c0, He.eqO_ok c1, He.eqO_ok c2, of_decide_eq_true c3, of_decide_eq_true c4⟩
theorem cread_ok {x : Str} (c : (Fb.cread x).ok K = true) : ClX.CRead K (He.ga K x) (.type "type") := by
  obtain ⟨c1, c2⟩ := ba' c
  exact ⟨c1, He.eqO_ok c2⟩
theorem cfun_ok {x m : Str} (c : (Fb.cfun x m).ok K = true) : PySem.W.findCls K (.ref (He.ga K x)) (.type "type") m = some (.val (.ref (He.fAd K (x, some m)))) := by
  have c2 : (match PySem.W.findCls K (.ref (He.ga K x)) (.type "type") m with
    | some (.val (.ref f)) => decide (f = He.fAd K (x, some m))
    | _ => false) = true := c
  split at c2
  · rename_i f e
    rw [e, of_decide_eq_true c2]
  · cases c2
theorem glI {x : Str} {i : Int} (X : K.In h) (G : h.Ns mainGlobals mg) (c : (He.Fa.int x i).ok K = true) : GlD K mg x (.int i) := by
  obtain ⟨t, e⟩ := He.int_ok X G c
  exact ⟨_, .int i, e, ⟨t, rfl⟩, fun _ _ _ => .int i⟩
theorem glS {x : Str} {z : Str} (X : K.In h) (G : h.Ns mainGlobals mg) (c : (He.Fa.str x z).ok K = true) : GlD K mg x (.str z) := by
  obtain ⟨t, e⟩ := He.str_ok X G c
  exact ⟨_, .str z, e, ⟨t, rfl⟩, fun _ _ _ => .str z⟩
theorem glT {x : Str} {vs : List He.Dv} {ds : List D} (X : K.In h) (G : h.Ns mainGlobals mg) (c0 : (He.Fa.glo x).ok K = true) (c : (Fb.tup x vs).ok K = true) (hd : ∀ ι n H, RVs K ι n H ds (vs.map (He.Dv.v K))) : GlD K mg x (.tup ds) :=
  ⟨_, .ref (He.ga K x), He.glo_ok X G c0, rfl, fun ι n H => .tup (He.tupB_ok c H) (hd ι n H)⟩
theorem rows_find {z : Str} : ∀ {l : List (Str × Str)} {es : List DictEntry}, rowsB l es = true → es.any (·.refKey) = false ∧ (match l.lookup z, es.find? (·.key.isStr z) with
    | some v, some e => ∃ t, e.val = .str v t
    | none, none => True
    | _, _ => False)
  | [], [], _ => ⟨rfl, trivial⟩
  | [], _ :: _, h => by cases h
  | _ :: _, [], h => by cases h
  | kv :: l, e :: es, h => by
    obtain ⟨h1, h2⟩ := ba' (show ((match e.key, e.val with
      | .str a _, .str b _ => decide (a = kv.1) && decide (b = kv.2)
      | _, _ => false) && rowsB l es) = true from h)
    obtain ⟨ih1, ih2⟩ := rows_find (z := z) h2
    split at h1
    · rename_i a ta b tb ek ev
      obtain ⟨e1, e2⟩ := ba' h1
      have e1 := of_decide_eq_true e1
      have e2 := of_decide_eq_true e2
      subst e1 e2
      refine ⟨?_, ?_⟩
      · rw [List.any_cons, ih1]
        have : e.refKey = false := by unfold DictEntry.refKey; rw [ek]
        rw [this]; rfl
      · have q : e.key.isStr z = (kv.1 == z) := by rw [ek]; rfl
        unfold List.lookup
        rw [List.find?_cons, q]
        by_cases hz : z = kv.1
        · subst hz
          rw [beq_self_eq_true]
          exact ⟨tb, ev⟩
        · rw [show (z == kv.1) = false from by simpa using hz, show (kv.1 == z) = false from by simpa using fun q : kv.1 = z => hz q.symm]
          exact ih2
    · cases h1
theorem rows_lit {P : Params} : ∀ {l : List (Str × Str)} {es : List DictEntry}, rowsB l es = true → es.map (·.hash) = l.map (fun kv => PyData.keyHash P kv.1) → PySem.W.KeysLit P es
  | [], [], _, _ => trivial
  | [], _ :: _, h, _ => by cases h
  | _ :: _, [], h, _ => by cases h
  | kv :: l, e :: es, h, hh => by
    obtain ⟨h1, h2⟩ := ba' (show ((match e.key, e.val with
      | .str a _, .str b _ => decide (a = kv.1) && decide (b = kv.2)
      | _, _ => false) && rowsB l es) = true from h)
    have hh' : e.hash :: es.map (·.hash) = PyData.keyHash P kv.1 :: l.map (fun kv => PyData.keyHash P kv.1) := hh
    injection hh' with q1 q2
    split at h1
    · rename_i a ta b tb ek ev
      obtain ⟨e1, e2⟩ := ba' h1
      have e1 := of_decide_eq_true e1
      exact ⟨⟨kv.1, ta, by rw [← e1]; exact ek, q1⟩, rows_lit h2 q2⟩
    · cases h1
theorem tab_ok {x : Str} {l : List (Str × Str)} (c : (Fb.tab x l).ok K = true) (hh : hashB K x = l.map fun kv => PyData.keyHash w.params kv.1) : KTab K w (He.ga K x) (fun z => (l.map fun kv => (kv.1, D.str kv.2)).lookup z) := by
  obtain ⟨c1, c2⟩ := ba' (show tabB K x l = true from c)
  unfold hashB at hh
  split at c2
  · rename_i cc es n sl q
    obtain ⟨d1, d2⟩ := ba' c2
    obtain ⟨d3, d4⟩ := ba' d2
    have d1 := of_decide_eq_true d1
    have d3 : sl = #[] := Array.toList_inj.mp (of_decide_eq_true d3)
    subst d1 d3
    rw [q] at hh
    refine ⟨by simpa using c1, ⟨es, n, q, rows_lit d4 hh⟩, fun z => ?_⟩
    obtain ⟨r1, r2⟩ := rows_find (z := z) d4
    have lk : (l.map fun kv => (kv.1, D.str kv.2)).lookup z = (l.lookup z).map D.str := by
      clear c c2 hh d4 r1 r2 d2
      induction l with
      | nil => rfl
      | cons kv l ih =>
        rw [List.map_cons]
        unfold List.lookup
        cases z == kv.1 with
        | true => rfl
        | false => exact ih
    unfold PySem.W.nsIn
    rw [q]
    dsimp only
    rw [lk]
    cases e1 : l.lookup z with
    | none =>
      cases e2 : es.toList.find? (·.key.isStr z) with
      | none => rw [r1]; exact ⟨none, rfl, trivial⟩
      | some e => rw [e1, e2] at r2; exact r2.elim
    | some v =>
      cases e2 : es.toList.find? (·.key.isStr z) with
      | none => rw [e1, e2] at r2; exact r2.elim
      | some e =>
        rw [e1, e2] at r2
        obtain ⟨t, ht⟩ := r2
        exact ⟨some e.val, rfl, .str v, ⟨t, ht⟩, fun _ _ _ => .str v⟩
  · cases c2
end
end Fc

set_option Elab.async false
set_option linter.all false
set_option maxRecDepth 100000
set_option maxHeartbeats 4000000
/-! Fw: what is asked of an outcome: the plain logic. -/
namespace Fc
open PySem PySem.Spec PyProof.Rows L2

def Re.P {α : Type} (r : Re α) (Q : α → G → Prop) : Prop := match r with
  | .ok a g => Q a g
  | _ => False
def Rs.P (r : Rs) (N : Ev → G → Prop) (R : D → G → Prop) : Prop := match r with
  | .nx ρ g => N ρ g
  | .rt d g => R d g
  | _ => False
section
variable {α β : Type} {r : Re α} {Q Q' : α → G → Prop} {k : α → G → Re β} {S : β → G → Prop}
theorem P_ok {a : α} {g : G} : (Re.ok a g).P Q = Q a g := rfl
theorem P_bad : (Re.bad : Re α).P Q = False := rfl
theorem P_bind : (r.bind k).P S = r.P fun a g => (k a g).P S := by cases r <;> rfl
theorem P_ite {p : Prop} [Decidable p] {a : α} {g : G} : (if p then Re.ok a g else .bad).P Q = (p ∧ Q a g) := by
  by_cases h : p
  · rw [if_pos h]; exact propext ⟨fun q => ⟨h, q⟩, fun q => q.2⟩
  · rw [if_neg h]; exact propext ⟨fun q => q.elim, fun q => (h q.1).elim⟩
theorem P_oite {p : Prop} [Decidable p] {a : α} {g : G} {r : Re α} (hr : r = .bad) : Re.P (match (if p then Re.ok a g else .bad) with | .ok d g' => .ok d g' | _ => r) Q = (p ∧ Q a g) := by
  by_cases h : p
  · rw [if_pos h]; exact propext ⟨fun q => ⟨h, q⟩, fun q => q.2⟩
  · rw [if_neg h, hr]; exact propext ⟨fun q => q.elim, fun q => (h q.1).elim⟩
theorem P_noEx : (noEx r).P Q = r.P Q := by cases r <;> rfl
theorem Re.P.mono (h : r.P Q) (k : ∀ a g, Q a g → Q' a g) : r.P Q' := by
  cases r with
  | ok a g => exact k a g h
  | ex c fs g => exact h.elim
  | bad => exact h.elim
theorem Re.P.to (h : r.P Q) : ∃ a g, r = .ok a g ∧ Q a g := by
  cases r with
  | ok a g => exact ⟨a, g, rfl, h⟩
  | ex c fs g => exact h.elim
  | bad => exact h.elim
theorem P_of {a : α} {g : G} (e : r = .ok a g) (q : Q a g) : r.P Q := by rw [e]; exact q
end
section
variable {ρ : Ev} {g : G} {Q : D → G → Prop} {QL : List D → G → Prop} {QB : Bool → G → Prop} {fa fb fc : Ev → G → Re D} {fr fk : Ev → G → Re (List D)} {ft fu : Ev → G → Re Bool} {o o' : Op2}
theorem P_var {i : Nat} : (fVar i ρ g).P Q = (match ρ[i]? with | some (some d) => Q d g | _ => False) := by
  unfold fVar
  cases h : ρ[i]? with
  | none => rfl
  | some x => cases x <;> rfl
theorem P_C {d : D} : (fC d ρ g).P Q = Q d g := rfl
theorem P_bin : (fBin o fa fb ρ g).P Q = (fa ρ g).P fun a g1 => (fb ρ g1).P fun b g2 => (o a b g2).P Q := by
  unfold fBin; simp only [P_bind, P_noEx]
theorem P_un {o : Op1} : (fUn o fa ρ g).P Q = (fa ρ g).P fun a g1 => (o a g1).P Q := by
  unfold fUn; simp only [P_bind, P_noEx]
theorem P_nil : (fNil ρ g).P QL = QL [] g := rfl
theorem P_cons : (fCons fa fr ρ g).P QL = (fa ρ g).P fun a g1 => (fr ρ g1).P fun r g2 => QL (a :: r) g2 := by
  unfold fCons; simp only [P_bind, P_ok]
theorem P_tup : (fTup fr ρ g).P Q = (fr ρ g).P fun r g1 => r.length ≤ sizeLine ∧ Q (.tup r) g1 := by
  unfold fTup; rw [P_bind]; congr 1; funext r g1
  by_cases h : r.length ≤ sizeLine
  · simp only [h, if_true, P_ok, true_and]
  · simp only [h, if_false, P_bad, false_and]
theorem P_lst : (fLst fr ρ g).P Q = (fr ρ g).P fun r g1 => r.length ≤ sizeLine ∧ Q (.ref g1.length) (g1 ++ [.lst r]) := by
  unfold fLst; rw [P_bind]; congr 1; funext r g1
  by_cases h : r.length ≤ sizeLine
  · simp only [h, if_true, P_ok, true_and]
  · simp only [h, if_false, P_bad, false_and]
theorem P_call {o : OpN} : (fCall o fr ρ g).P Q = (fr ρ g).P fun r g1 => (o r g1).P Q := by
  unfold fCall; simp only [P_bind, P_noEx]
theorem P_callBK {o : List D → List D → G → Re D} : (fCallBK o fr fk ρ g).P Q = (fr ρ g).P fun r g1 => (fk ρ g1).P fun e g2 => (o r e g2).P Q := by
  unfold fCallBK; simp only [P_bind, P_noEx]
theorem P_callF {φ : Fun2} : (fCallF φ fr ρ g).P Q = (fr ρ g).P fun r g1 => (φ r [] g1).P Q := by
  unfold fCallF; simp only [P_bind]
theorem P_callK {φ : Fun2} : (fCallK φ fr fk ρ g).P Q = (fr ρ g).P fun r g1 => (fk ρ g1).P fun e g2 => (φ r e g2).P Q := by
  unfold fCallK; simp only [P_bind]
theorem P_chain : (fChain o o' fa fb fc ρ g).P Q = (fa ρ g).P fun a g1 => (fb ρ g1).P fun b g2 => (o a b g2).P fun k g3 => match k with
    | .bl true => (fc ρ g3).P fun c g4 => (o' b c g4).P Q
    | .bl false => Q (.bl false) g3
    | _ => False := by
  unfold fChain; simp only [P_bind, P_noEx]
  congr 1; funext a g1; congr 1; funext b g2; congr 1; funext k g3
  split <;> simp only [P_bind, P_noEx, P_ok, P_bad]
theorem P_test : (fTest fa ρ g).P QB = (fa ρ g).P fun d g1 => match d with | .bl b => QB b g1 | _ => False := by
  unfold fTest; rw [P_bind]; congr 1; funext d g1; cases d <;> rfl
theorem P_tru : (fTru fa ρ g).P QB = (fa ρ g).P fun d g1 => match truD d g1 with | some b => QB b g1 | none => False := by
  unfold fTru; rw [P_bind]; congr 1; funext d g1; generalize truD d g1 = z; cases z <;> rfl
theorem P_notT : (fNotT ft ρ g).P QB = (ft ρ g).P fun b g1 => QB (!b) g1 := by
  unfold fNotT; simp only [P_bind, P_ok]
theorem P_andT : (fAndT ft fu ρ g).P QB = (ft ρ g).P fun b g1 => if b = true then (fu ρ g1).P QB else QB false g1 := by
  unfold fAndT; rw [P_bind]; congr 1; funext b g1; cases b <;> rfl
theorem P_orT : (fOrT ft fu ρ g).P QB = (ft ρ g).P fun b g1 => if b = true then QB true g1 else (fu ρ g1).P QB := by
  unfold fOrT; rw [P_bind]; congr 1; funext b g1; cases b <;> rfl
theorem P_ifE : (fIfE ft fa fb ρ g).P Q = (ft ρ g).P fun b g1 => if b = true then (fa ρ g1).P Q else (fb ρ g1).P Q := by
  unfold fIfE; rw [P_bind]; congr 1; funext b g1; cases b <;> rfl
theorem P_and : (fAnd fa fb ρ g).P Q = (fa ρ g).P fun d g1 => match d with | .bl b => (if b = true then (fb ρ g1).P Q else Q (.bl false) g1) | _ => False := by
  unfold fAnd; rw [P_bind]; congr 1; funext d g1
  cases d with
  | bl b => cases b <;> rfl
  | _ => rfl
theorem P_or : (fOr fa fb ρ g).P Q = (fa ρ g).P fun d g1 => match d with | .bl b => (if b = true then Q (.bl true) g1 else (fb ρ g1).P Q) | _ => False := by
  unfold fOr; rw [P_bind]; congr 1; funext d g1
  cases d with
  | bl b => cases b <;> rfl
  | _ => rfl
theorem P_not : (fNot fa ρ g).P Q = (fa ρ g).P fun d g1 => match d with | .bl b => Q (.bl (!b)) g1 | _ => False := by
  unfold fNot; rw [P_bind]; congr 1; funext d g1; cases d <;> rfl
def isiM (T : String) (own : Str → Option Bool) (d : D) (g : G) (Q : D → G → Prop) : Prop := match tyD d g with
  | some t => (match kitB t T with | some b => Q (.bl b) g | none => False)
  | none => (match (ownD d g).bind own with | some b => Q (.bl b) g | none => False)
theorem P_isi {T : String} {own : Str → Option Bool} : (fIsi T own fa ρ g).P Q = (fa ρ g).P fun d g1 => isiM T own d g1 Q := by
  unfold fIsi; rw [P_bind]; congr 1; funext d g1
  unfold isiM
  generalize (ownD d g1).bind own = u
  generalize tyD d g1 = z
  cases z with
  | none => cases u <;> rfl
  | some t => dsimp only; generalize kitB t T = v; cases v <;> rfl
theorem P_sl {fl fh : Option (Ev → G → Re D)} : (fSl fa fl fh ρ g).P Q = (fa ρ g).P fun d g1 => (fPart fl ρ g1).P fun lo g2 => (fPart fh ρ g2).P fun hi g3 => (oSl d lo hi g3).P Q := by
  unfold fSl; simp only [P_bind]
theorem P_part0 {QO : Option Int → G → Prop} : (fPart none ρ g).P QO = QO none g := rfl
theorem P_part1 {QO : Option Int → G → Prop} : (fPart (some fa) ρ g).P QO = (fa ρ g).P fun d g1 => match d with | .int i => QO (some i) g1 | _ => False := by
  unfold fPart; simp only [P_bind]; congr 1; funext d g1; cases d <;> rfl
theorem P_rev : (fRev fa ρ g).P Q = (fa ρ g).P fun d g1 => (oRev d g1).P Q := by
  unfold fRev; simp only [P_bind]
theorem P_getK {tab : Str → Option D} : (fGetK tab fa ρ g).P Q = (fa ρ g).P fun d g1 => match d with | .str x => (match tab x with | some d => Q d g1 | none => Q .non g1) | _ => False := by
  unfold fGetK; rw [P_bind]; congr 1; funext d g1
  cases d with
  | str x => dsimp only; generalize tab x = z; cases z <;> rfl
  | _ => rfl
theorem P_fld {own : Str → Bool} {f : Str} : (fFld own f fa ρ g).P Q = (fa ρ g).P fun d g1 => match insAt d g1 with
    | some (_, c, fs) => own c = true ∧ (match fs.lookup f with | some x => Q x g1 | none => False)
    | none => False := by
  unfold fFld; rw [P_bind]; congr 1; funext d g1
  generalize insAt d g1 = z
  cases z with
  | none => rfl
  | some t =>
    obtain ⟨m, c, fs⟩ := t
    dsimp only
    by_cases h : own c = true
    · rw [if_pos h]
      generalize fs.lookup f = u
      cases u with
      | none => exact propext ⟨fun q => q.elim, fun q => q.2.elim⟩
      | some x => exact propext ⟨fun q => ⟨h, q⟩, fun q => q.2⟩
    · rw [if_neg h]
      exact propext ⟨fun q => q.elim, fun q => (h q.1).elim⟩
theorem P_dct0 : (fDct0 ρ g).P Q = Q (.ref g.length) (g ++ [.dct []]) := rfl
end

/-! ### statements -/
section
variable {ρ : Ev} {g : G} {N : Ev → G → Prop} {R : D → G → Prop} {a b : Ev → G → Rs} {f h k : Ev → G → Re D} {c : Ev → G → Re Bool}
theorem S_st {α : Type} {r : Re α} {k : α → G → Rs} : (r.st ρ k).P N R = r.P fun x g => (k x g).P N R := by cases r <;> rfl
theorem S_seq : (sSeq a b ρ g).P N R = (a ρ g).P (fun ρ' g' => (b ρ' g').P N R) R := by
  unfold sSeq
  cases a ρ g <;> rfl
theorem S_nil : (sNil ρ g).P N R = N ρ g := rfl
theorem S_set {i : Nat} : (sSet i f ρ g).P N R = (f ρ g).P fun d g' => N (ρ.set i (some d)) g' := by unfold sSet; rw [S_st]; rfl
theorem S_drop : (sDrop f ρ g).P N R = (f ρ g).P fun _ g' => N ρ g' := by unfold sDrop; rw [S_st]; rfl
theorem S_ret : (sRet f ρ g).P N R = (f ρ g).P R := by unfold sRet; rw [S_st]; rfl
theorem S_retN : (sRetN ρ g).P N R = R .non g := rfl
theorem S_if : (sIf c a b ρ g).P N R = (c ρ g).P fun x g' => if x = true then (a ρ g').P N R else (b ρ g').P N R := by
  unfold sIf; rw [S_st]; congr 1; funext x g'; cases x <;> rfl
theorem S_par {i j : Nat} : (sPar i j f h ρ g).P N R = (f ρ g).P fun d g1 => (h ρ g1).P fun e g2 => N ((ρ.set i (some d)).set j (some e)) g2 := by
  unfold sPar; simp only [S_st]; rfl
theorem S_par3 {i j l : Nat} : (sPar3 i j l f h k ρ g).P N R = (f ρ g).P fun d g1 => (h ρ g1).P fun e g2 => (k ρ g2).P fun x g3 => N (((ρ.set i (some d)).set j (some e)).set l (some x)) g3 := by
  unfold sPar3; simp only [S_st]; rfl
theorem S_asg {bd : Bd} : (sAsg f bd ρ g).P N R = (f ρ g).P fun d g1 => match bd d ρ g1 with | some ρ' => N ρ' g1 | none => False := by
  unfold sAsg; rw [S_st]; congr 1; funext d g1; cases bd d ρ g1 <;> rfl
theorem S_sub {o : D → D → D → G → Option G} : (sSub f h k o ρ g).P N R = (f ρ g).P fun d g1 => (h ρ g1).P fun a g2 => (k ρ g2).P fun b g3 => match o a b d g3 with | some g4 => N ρ g4 | none => False := by
  unfold sSub; simp only [S_st]; congr 1; funext d g1; congr 1; funext a g2; congr 1; funext b g3; cases o a b d g3 <;> rfl
theorem S_fld {own : Str → Bool} {x : Str} : (sFldS own x f h ρ g).P N R = (f ρ g).P fun y g1 => (h ρ g1).P fun d g2 => match insAt d g2 with
    | some (m, c, fs) => (own c = true ∧ fs.length < 1000) ∧ N ρ (g2.set m (.ins c (putD x y fs)))
    | none => False := by
  unfold sFldS; simp only [S_st]; congr 1; funext y g1; congr 1; funext d g2
  generalize insAt d g2 = z
  cases z with
  | none => rfl
  | some t =>
    obtain ⟨m, c, fs⟩ := t
    dsimp only
    by_cases hh : own c = true ∧ fs.length < 1000
    · rw [if_pos hh]; exact (propext ⟨fun q => ⟨hh, q⟩, fun q => q.2⟩)
    · rw [if_neg hh]; exact (propext ⟨fun q => q.elim, fun q => (hh q.1).elim⟩)
theorem S_star {n i : Nat} {cc : List D → Ev → G → Option Ev} : (sStar n i f cc ρ g).P N R = (f ρ g).P fun d g1 => match d with
  | .tup l => (i < n ∧ n ≤ l.length + 1) ∧ (match cc (l.take i ++ [.ref g1.length] ++ (l.drop i).drop (l.length + 1 - n)) ρ (g1 ++ [.lst ((l.drop i).take (l.length + 1 - n))]) with
    | some ρ' => N ρ' (g1 ++ [.lst ((l.drop i).take (l.length + 1 - n))])
    | none => False)
  | _ => False := by
  unfold sStar; rw [S_st]; congr 1; funext d g1
  cases d with
  | tup l =>
    dsimp only
    by_cases hh : i < n ∧ n ≤ l.length + 1
    · rw [if_pos hh]
      generalize cc _ ρ _ = z
      cases z with
      | none => exact propext ⟨fun q => q.elim, fun q => q.2.elim⟩
      | some ρ' => exact (propext ⟨fun q => ⟨hh, q⟩, fun q => q.2⟩)
    · rw [if_neg hh]; exact (propext ⟨fun q => q.elim, fun q => (hh q.1).elim⟩)
  | _ => rfl
theorem S_for {it : Ev → G → Re (List D × Wt)} {bd : Bd} : (sFor it bd a ρ g).P N R = (it ρ g).P fun p g1 => (runFor bd a p.2 p.1 ρ g1).P N R := by
  unfold sFor; rw [S_st]
theorem Rs.P.mono {r : Rs} {N' : Ev → G → Prop} {R' : D → G → Prop} (h : r.P N R) (hn : ∀ ρ g, N ρ g → N' ρ g) (hr : ∀ d g, R d g → R' d g) : r.P N' R' := by
  cases r with
  | nx ρ g => exact hn _ _ h
  | rt d g => exact hr _ _ h
  | _ => exact h.elim
theorem P_runB {f : Ev → G → Rs} {Q : D → G → Prop} (h : (f ρ g).P (fun _ g' => Q .non g') Q) : (runB f ρ g).P Q := by
  unfold runB
  cases e : f ρ g <;> rw [e] at h <;> first | exact h | exact h.elim
/-- a loop by what holds ahead of its i-th turn -/
theorem S_run {bd : Bd} {w : Wt} (items : List D) (I : Nat → Ev → G → Prop) (h0 : I 0 ρ g)
    (hs : ∀ i d ρ g, items[i]? = some d → I i ρ g → wOk w g = true ∧ ∃ ρ1, bd d ρ g = some ρ1 ∧ (a ρ1 g).P (I (i + 1)) R)
    (he : ∀ ρ g, I items.length ρ g → wOk w g = true ∧ N ρ g) : (runFor bd a w items ρ g).P N R := by
  have go : ∀ (k i : Nat) (ρ : Ev) (g : G), items.length - i = k → i ≤ items.length → I i ρ g → (runFor bd a w (items.drop i) ρ g).P N R := by
    intro k
    induction k with
    | zero =>
      intro i ρ g hk hi hI
      have e : i = items.length := by omega
      subst e
      rw [List.drop_length]
      obtain ⟨h1, h2⟩ := he ρ g hI
      unfold runFor
      rw [if_pos h1]
      exact h2
    | succ k ih =>
      intro i ρ g hk hi hI
      have hlt : i < items.length := by omega
      rw [List.drop_eq_getElem_cons hlt]
      obtain ⟨h1, ρ1, h2, h3⟩ := hs i items[i] ρ g (by simp [hlt]) hI
      unfold runFor
      rw [if_pos h1, h2]
      dsimp only
      cases e : a ρ1 g with
      | nx ρ' g' => rw [e] at h3; exact ih (i + 1) ρ' g' (by omega) hlt h3
      | rt d g' => rw [e] at h3; exact h3
      | bk ρ' g' => rw [e] at h3; exact h3.elim
      | ct ρ' g' => rw [e] at h3; exact h3.elim
      | ex c fs ρ' g' => rw [e] at h3; exact h3.elim
      | bad => rw [e] at h3; exact h3.elim
  exact go _ 0 ρ g rfl (Nat.zero_le _) h0
end
section
variable {ρ : Ev} {g : G} {Q : D → G → Prop} {QI : List D × Wt → G → Prop} {fa fb : Ev → G → Re D} {it : Ev → G → Re (List D × Wt)} {bd : Bd} {ft : Ev → G → Re Bool} {fe : Ev → G → Re D} {vs : List Nat}
theorem P_src : (fSrc fa ρ g).P QI = (fa ρ g).P fun d g1 => match srcD d g1 with | some p => QI p g1 | none => False := by
  unfold fSrc; rw [P_bind]; congr 1; funext d g1; generalize srcD d g1 = z; cases z <;> rfl
theorem P_enum : (fEnum fa ρ g).P QI = (fa ρ g).P fun d g1 => match srcD d g1 with | some p => QI (enumD 0 p.1, p.2) g1 | none => False := by
  unfold fEnum; rw [P_bind, P_src]; first | rfl | (congr 1; funext d g1; cases srcD d g1 <;> rfl)
theorem P_lc : (fLc it bd ft fe vs ρ g).P Q = (it ρ g).P fun p g1 => (goLc bd ft fe p.2 g1.length (wipeE ρ vs) p.1 (g1 ++ [.lst []])).P fun _ g2 => Q (.ref g1.length) g2 := by
  unfold fLc; simp only [P_bind, P_ok]
theorem P_go {w : Wt} {L : Nat} {QU : Unit → G → Prop} (items : List D) (I : Nat → List D → G → Prop) (hL : g[L]? = some (.lst [])) (h0 : I 0 [] g)
    (hs : ∀ i d acc g, items[i]? = some d → g[L]? = some (.lst acc) → I i acc g → wOk w g = true ∧ acc.length < sizeLine ∧ ∃ ρ1, bd d ρ g = some ρ1 ∧ (ft ρ1 g).P fun k g2 => if k = true then
      (fe ρ1 g2).P fun y g3 => g3[L]? = some (.lst acc) ∧ I (i + 1) (acc ++ [y]) (g3.set L (.lst (acc ++ [y]))) else g2[L]? = some (.lst acc) ∧ I (i + 1) acc g2)
    (he : ∀ acc g, g[L]? = some (.lst acc) → I items.length acc g → wOk w g = true ∧ QU () g) : (goLc bd ft fe w L ρ items g).P QU := by
  have go : ∀ (k i : Nat) (acc : List D) (g : G), items.length - i = k → i ≤ items.length → g[L]? = some (.lst acc) → I i acc g → (goLc bd ft fe w L ρ (items.drop i) g).P QU := by
    intro k
    induction k with
    | zero =>
      intro i acc g hk hi hL hI
      have e : i = items.length := by omega
      subst e
      rw [List.drop_length]
      obtain ⟨h1, h2⟩ := he acc g hL hI
      unfold goLc
      rw [if_pos h1]
      exact h2
    | succ k ih =>
      intro i acc g hk hi hL hI
      have hlt : i < items.length := by omega
      rw [List.drop_eq_getElem_cons hlt]
      obtain ⟨h1, hz, ρ1, h2, h3⟩ := hs i items[i] acc g (by simp [hlt]) hL hI
      unfold goLc
      rw [if_pos h1, h2]
      dsimp only
      rw [P_bind, P_noEx]
      refine h3.mono fun b g2 h4 => ?_
      cases b with
      | false =>
        rw [if_neg Bool.false_ne_true] at h4 ⊢
        exact ih (i + 1) acc g2 (by omega) hlt h4.1 h4.2
      | true =>
        rw [if_pos rfl] at h4 ⊢
        rw [P_bind, P_noEx]
        refine h4.mono fun y g3 h5 => ?_
        rw [h5.1]
        dsimp only
        rw [if_pos hz]
        have hg : L < g3.length := (List.getElem?_eq_some_iff.mp h5.1).1
        exact ih (i + 1) (acc ++ [y]) _ (by omega) hlt (by rw [List.getElem?_set_self hg]) h5.2
  exact go _ 0 [] g rfl (Nat.zero_le _) hL h0
end

/-! ### operators at values -/
section
variable {g : G} {Q : D → G → Prop} {i j : Int} {x y : Str} {l l2 : List D} {p q : Bool}
theorem V_add : (oAdd (.int i) (.int j) g).P Q = Q (.int (i + j)) g := rfl
theorem V_addS : (oAdd (.str x) (.str y) g).P Q = (x.length + y.length ≤ sizeLine ∧ Q (.str (x ++ y)) g) := by
  by_cases h : x.length + y.length ≤ sizeLine
  · have e : oAdd (.str x) (.str y) g = .ok (D.str (x ++ y)) g := by
      show (match (if x.length + y.length ≤ sizeLine then Re.ok (D.str (x ++ y)) g else .bad) with | .ok d g' => Re.ok d g' | _ => _) = _
      rw [if_pos h]
    rw [e]
    exact propext ⟨fun q => ⟨h, q⟩, fun q => q.2⟩
  · have e : oAdd (.str x) (.str y) g = .bad := by
      show (match (if x.length + y.length ≤ sizeLine then Re.ok (D.str (x ++ y)) g else .bad) with | .ok d g' => Re.ok d g' | _ => _) = _
      rw [if_neg h]
      rfl
    rw [e]
    exact propext ⟨fun q => q.elim, fun q => (h q.1).elim⟩
theorem V_addT : (oAdd (.tup l) (.tup l2) g).P Q = (l.length + l2.length ≤ sizeLine ∧ Q (.tup (l ++ l2)) g) := by
  by_cases h : l.length + l2.length ≤ sizeLine
  · have e : oAdd (.tup l) (.tup l2) g = .ok (D.tup (l ++ l2)) g := by
      show (match (if l.length + l2.length ≤ sizeLine then Re.ok (D.tup (l ++ l2)) g else .bad) with | .ok d g' => Re.ok d g' | _ => _) = _
      rw [if_pos h]
    rw [e]
    exact propext ⟨fun q => ⟨h, q⟩, fun q => q.2⟩
  · have e : oAdd (.tup l) (.tup l2) g = .bad := by
      show (match (if l.length + l2.length ≤ sizeLine then Re.ok (D.tup (l ++ l2)) g else .bad) with | .ok d g' => Re.ok d g' | _ => _) = _
      rw [if_neg h]
      rfl
    rw [e]
    exact propext ⟨fun q => q.elim, fun q => (h q.1).elim⟩
theorem V_addL {m k : Nat} (h1 : g[m]? = some (.lst l)) (h2 : g[k]? = some (.lst l2)) : (oAdd (.ref m) (.ref k) g).P Q = (l.length + l2.length ≤ sizeLine ∧ Q (.ref g.length) (g ++ [.lst (l ++ l2)])) := by
  have e : oAdd (.ref m) (.ref k) g = (if l.length + l2.length ≤ sizeLine then Re.ok (D.ref g.length) (g ++ [O.lst (l ++ l2)]) else .bad) := by
    show (match g[m]?, g[k]? with
      | some (.lst x), some (.lst y) => if x.length + y.length ≤ sizeLine then Re.ok (D.ref g.length) (g ++ [O.lst (x ++ y)]) else .bad
      | _, _ => .bad) = _
    rw [h1, h2]
  rw [e]
  exact P_ite
theorem V_sub : (oSub (.int i) (.int j) g).P Q = Q (.int (i - j)) g := rfl
theorem V_mul : (oMul (.int i) (.int j) g).P Q = (((-(2 ^ 64) < i ∧ i < 2 ^ 64) ∨ (-(2 ^ 64) < j ∧ j < 2 ^ 64)) ∧ Q (.int (i * j)) g) := by
  by_cases h : (-(2 ^ 64) < i ∧ i < 2 ^ 64) ∨ (-(2 ^ 64) < j ∧ j < 2 ^ 64)
  · have e : oMul (.int i) (.int j) g = .ok (D.int (i * j)) g := by
      show (match (if (-(2 ^ 64) < i ∧ i < 2 ^ 64) ∨ (-(2 ^ 64) < j ∧ j < 2 ^ 64) then Re.ok (D.int (i * j)) g else .bad) with | .ok d g' => Re.ok d g' | _ => _) = _
      rw [if_pos h]
    rw [e]
    exact propext ⟨fun q => ⟨h, q⟩, fun q => q.2⟩
  · have e : oMul (.int i) (.int j) g = .bad := by
      show (match (if (-(2 ^ 64) < i ∧ i < 2 ^ 64) ∨ (-(2 ^ 64) < j ∧ j < 2 ^ 64) then Re.ok (D.int (i * j)) g else .bad) with | .ok d g' => Re.ok d g' | _ => _) = _
      rw [if_neg h]
      rfl
    rw [e]
    exact propext ⟨fun q => q.elim, fun q => (h q.1).elim⟩
theorem V_mulT {k : Int} : (oMul (.tup l) (.int k) g).P Q = ((l ≠ [] ∧ 2 ≤ k ∧ k ≤ 1000 ∧ l.length ≤ 1000) ∧ Q (.tup (List.replicate k.toNat l).flatten) g) := by
  by_cases h : l ≠ [] ∧ 2 ≤ k ∧ k ≤ 1000 ∧ l.length ≤ 1000
  · have e : oMul (.tup l) (.int k) g = .ok (D.tup (List.replicate k.toNat l).flatten) g := by
      show (match (if l ≠ [] ∧ 2 ≤ k ∧ k ≤ 1000 ∧ l.length ≤ 1000 then Re.ok (D.tup (List.replicate k.toNat l).flatten) g else .bad) with | .ok d g' => Re.ok d g' | _ => _) = _
      rw [if_pos h]
    rw [e]
    exact propext ⟨fun q => ⟨h, q⟩, fun q => q.2⟩
  · have e : oMul (.tup l) (.int k) g = .bad := by
      show (match (if l ≠ [] ∧ 2 ≤ k ∧ k ≤ 1000 ∧ l.length ≤ 1000 then Re.ok (D.tup (List.replicate k.toNat l).flatten) g else .bad) with | .ok d g' => Re.ok d g' | _ => _) = _
      rw [if_neg h]
      rfl
    rw [e]
    exact propext ⟨fun q => q.elim, fun q => (h q.1).elim⟩
theorem V_mod : (oMod (.int i) (.int j) g).P Q = (0 < j ∧ Q (.int (i % j)) g) := P_ite
theorem V_div : (oDiv (.int i) (.int j) g).P Q = ((0 < j ∧ j < 1073741824) ∧ Q (.int (i / j)) g) := P_ite
theorem V_pow : (oPow (.int i) (.int j) g).P Q = ((0 ≤ j ∧ j ≤ 1000000 ∧ i.natAbs < 2 ^ 64) ∧ Q (.int (i ^ j.toNat)) g) := P_ite
theorem V_neg : (oNeg (.int i) g).P Q = Q (.int (-i)) g := rfl
theorem V_lt : (oLt (.int i) (.int j) g).P Q = Q (.bl (decide (i < j))) g := rfl
theorem V_le : (oLe (.int i) (.int j) g).P Q = Q (.bl (decide (i ≤ j))) g := rfl
theorem V_gt : (oGt (.int i) (.int j) g).P Q = Q (.bl (decide (j < i))) g := rfl
theorem V_ge : (oGe (.int i) (.int j) g).P Q = Q (.bl (decide (j ≤ i))) g := rfl
theorem V_eqI : (oEq (.int i) (.int j) g).P Q = Q (.bl (decide (i = j))) g := rfl
theorem V_eqS : (oEq (.str x) (.str y) g).P Q = Q (.bl (decide (x = y))) g := rfl
theorem V_eqB : (oEq (.bl p) (.bl q) g).P Q = Q (.bl (decide (p = q))) g := rfl
theorem V_neI : (oNe (.int i) (.int j) g).P Q = Q (.bl (!decide (i = j))) g := rfl
theorem V_neS : (oNe (.str x) (.str y) g).P Q = Q (.bl (!decide (x = y))) g := rfl
theorem V_neB : (oNe (.bl p) (.bl q) g).P Q = Q (.bl (!decide (p = q))) g := rfl
theorem V_eqE : (oEq (.tup l) (.tup []) g).P Q = Q (.bl l.isEmpty) g := rfl
theorem V_inS : (oIn (.str x) (.str y) g).P Q = Q (.bl (inS x y)) g := rfl
theorem V_ixT : (oIx (.tup l) (.int i) g).P Q = (match atI l i with | some d => Q d g | none => False) := by
  show Re.P (match atI l i with | some d => Re.ok d g | none => .bad) Q = _
  cases atI l i <;> rfl
theorem V_ixL {m : Nat} (h : g[m]? = some (.lst l)) : (oIx (.ref m) (.int i) g).P Q = (match atI l i with | some d => Q d g | none => False) := by
  show Re.P (match g[m]? with
    | some (.lst l) => (match atI l i with | some d => Re.ok d g | none => .bad)
    | some (.frz l) => (match atI l i with | some d => Re.ok d g | none => .bad)
    | _ => .bad) Q = _
  rw [h]
  dsimp only
  cases atI l i <;> rfl
theorem V_ixF {m : Nat} (h : g[m]? = some (.frz l)) : (oIx (.ref m) (.int i) g).P Q = (match atI l i with | some d => Q d g | none => False) := by
  show Re.P (match g[m]? with
    | some (.lst l) => (match atI l i with | some d => Re.ok d g | none => .bad)
    | some (.frz l) => (match atI l i with | some d => Re.ok d g | none => .bad)
    | _ => .bad) Q = _
  rw [h]
  dsimp only
  cases atI l i <;> rfl
theorem V_ixS {i : Int} : (oIx (.str x) (.int i) g).P Q = (match atI x.cps.toList i with | some c => (x.length ≤ sizeLine ∧ Q (.str ⟨#[c]⟩) g) | none => False) := by
  show Re.P (match atI x.cps.toList i with | some c => if x.length ≤ sizeLine then Re.ok (D.str ⟨#[c]⟩) g else .bad | none => .bad) Q = _
  cases atI x.cps.toList i with
  | none => rfl
  | some c =>
    exact P_ite
theorem V_setL {m : Nat} {c : D} (h : g[m]? = some (.lst l)) : setL (.ref m) (.int i) c g = (match ixN l.length i with | some j => some (g.set m (.lst (l.set j c))) | none => none) := by
  show (match g[m]? with
    | some (.lst l) => (match ixN l.length i with | some j => some (g.set m (.lst (l.set j c))) | none => none)
    | _ => none) = _
  rw [h]
end
end Fc

set_option Elab.async false
set_option linter.all false
set_option maxRecDepth 100000
set_option maxHeartbeats 4000000
/-! Fx: worlds that grow, the bag of draws, comprehensions told. -/
namespace Fc
open PySem PySem.Spec PyProof.Rows L2

/-- nothing old changes -/
structure Gro (g g' : G) : Prop where
  len : g.length ≤ g'.length
  old : ∀ i, i < g.length → g'[i]? = g[i]?
theorem Gro.refl (g : G) : Gro g g := ⟨Nat.le_refl _, fun _ _ => rfl⟩
theorem Gro.trans {g g1 g2 : G} (a : Gro g g1) (b : Gro g1 g2) : Gro g g2 := ⟨Nat.le_trans a.len b.len, fun i h => (b.old i (Nat.lt_of_lt_of_le h a.len)).trans (a.old i h)⟩
theorem Gro.app (g l : G) : Gro g (g ++ l) := ⟨by simp, fun i h => List.getElem?_append_left h⟩
theorem Gro.at {i : Nat} {g g' : G} {o : O} (e : Gro g g') (q : g[i]? = some o) : g'[i]? = some o := by
  rw [e.old i (List.getElem?_eq_some_iff.mp q).1]; exact q
theorem Gro.set {g g' : G} (a : Gro g g') {m : Nat} (h : g.length ≤ m) (o : O) : Gro g (g'.set m o) := ⟨by rw [List.length_set]; exact a.len, fun i hi => by
  rw [List.getElem?_set_ne (by omega)]; exact a.old i hi⟩
/-- nothing old changes but m -/
structure Evo (m : Nat) (g g' : G) : Prop where
  len : g.length ≤ g'.length
  old : ∀ i, i ≠ m → i < g.length → g'[i]? = g[i]?
theorem Evo.refl (m : Nat) (g : G) : Evo m g g := ⟨Nat.le_refl _, fun _ _ _ => rfl⟩
theorem Evo.trans {m : Nat} {g g1 g2 : G} (a : Evo m g g1) (b : Evo m g1 g2) : Evo m g g2 := ⟨Nat.le_trans a.len b.len, fun i h1 h2 => (b.old i h1 (Nat.lt_of_lt_of_le h2 a.len)).trans (a.old i h1 h2)⟩
theorem Evo.app (m : Nat) (g l : G) : Evo m g (g ++ l) := ⟨by simp, fun i _ h => List.getElem?_append_left h⟩
theorem Evo.set (m : Nat) (g : G) (o : O) : Evo m g (g.set m o) := ⟨by simp, fun i h _ => List.getElem?_set_ne (Ne.symm h)⟩
theorem Evo.setNew {m k : Nat} {g g' : G} (a : Evo m g g') (h : g.length ≤ k) (o : O) : Evo m g (g'.set k o) := ⟨by rw [List.length_set]; exact a.len, fun i h1 hi => by
  rw [List.getElem?_set_ne (by omega)]; exact a.old i h1 hi⟩
theorem Evo.at {m i : Nat} {g g' : G} {o : O} (e : Evo m g g') (h : i ≠ m) (q : g[i]? = some o) : g'[i]? = some o := by
  rw [e.old i h (List.getElem?_eq_some_iff.mp q).1]; exact q
theorem Gro.evo {g g' : G} (a : Gro g g') (m : Nat) : Evo m g g' := ⟨a.len, fun i _ h => a.old i h⟩
theorem at_app {g l : G} {i : Nat} {o : O} (q : g[i]? = some o) : (g ++ l)[i]? = some o := by
  rw [List.getElem?_append_left (List.getElem?_eq_some_iff.mp q).1]; exact q
theorem at_new {g : G} {o : O} : (g ++ [o])[g.length]? = some o := by simp
theorem at_set {g : G} {i : Nat} {o o' : O} (q : g[i]? = some o) : (g.set i o')[i]? = some o' := List.getElem?_set_self (List.getElem?_eq_some_iff.mp q).1
theorem at_ne {g : G} {i j : Nat} {o o' : O} (h : j ≠ i) (q : g[j]? = some o) : (g.set i o')[j]? = some o := by rw [List.getElem?_set_ne (Ne.symm h)]; exact q
theorem lt_at {g : G} {i : Nat} {o : O} (q : g[i]? = some o) : i < g.length := (List.getElem?_eq_some_iff.mp q).1
/-- the bag at m: three numbers, at most n draws from it -/
def Bag (g : G) (m n : Nat) : Prop := ∃ a b c : Int, g[m]? = some (.lst [.int a, .int b, .int c]) ∧ 0 ≤ a ∧ 0 ≤ b ∧ b < 2147483647 ∧ 0 ≤ c ∧ c ≤ n
theorem Bag.lt {g : G} {m n : Nat} (b : Bag g m n) : m < g.length := by
  obtain ⟨_, _, _, e, _⟩ := b
  exact (List.getElem?_eq_some_iff.mp e).1
theorem Bag.gro {g g' : G} {m n : Nat} (b : Bag g m n) (h : Gro g g') : Bag g' m n := by
  obtain ⟨x, y, z, e, r⟩ := b
  exact ⟨x, y, z, h.at e, r⟩
theorem Bag.app {g l : G} {m n : Nat} (b : Bag g m n) : Bag (g ++ l) m n := b.gro (.app g l)
theorem Bag.set {g : G} {m n k : Nat} {o : O} (b : Bag g m n) (h : m ≠ k) : Bag (g.set k o) m n := by
  obtain ⟨x, y, z, e, r⟩ := b
  exact ⟨x, y, z, at_ne h e, r⟩
theorem Bag.mono {g : G} {m n n' : Nat} (b : Bag g m n) (h : n ≤ n') : Bag g m n' := by
  obtain ⟨x, y, z, e, h1, h2, h3, h4, h5⟩ := b
  exact ⟨x, y, z, e, h1, h2, h3, h4, by omega⟩
/-- lists stay lists, houses houses -/
def Ob (g : G) (i : Nat) : Prop := (∃ l, g[i]? = some (.lst l)) ∨ ∃ fs, g[i]? = some (.ins "House" fs)
def Kd (g g' : G) : Prop := ∀ i, Ob g i → Ob g' i
theorem Kd.refl (g : G) : Kd g g := fun _ h => h
theorem Kd.trans {g g1 g2 : G} (a : Kd g g1) (b : Kd g1 g2) : Kd g g2 := fun i h => b i (a i h)
theorem Gro.kd {g g' : G} (a : Gro g g') : Kd g g' := fun i h => h.elim (fun ⟨l, e⟩ => .inl ⟨l, a.at e⟩) fun ⟨fs, e⟩ => .inr ⟨fs, a.at e⟩
theorem Evo.kd {m n : Nat} {g g' : G} (a : Evo m g g') (b : Bag g' m n) : Kd g g' := fun i h => by
  by_cases hi : i = m
  · subst hi
    obtain ⟨x, y, z, e, _⟩ := b
    exact .inl ⟨_, e⟩
  · exact h.elim (fun ⟨l, e⟩ => .inl ⟨l, a.at hi e⟩) fun ⟨fs, e⟩ => .inr ⟨fs, a.at hi e⟩
theorem kd_set {g : G} {k : Nat} {l : List D} : Kd g (g.set k (.lst l)) := fun i h => by
  by_cases hi : i = k
  · subst hi
    have hl : i < g.length := h.elim (fun ⟨l, e⟩ => lt_at e) fun ⟨fs, e⟩ => lt_at e
    exact .inl ⟨l, by rw [List.getElem?_set_self hl]⟩
  · exact h.elim (fun ⟨l, e⟩ => .inl ⟨l, at_ne hi e⟩) fun ⟨fs, e⟩ => .inr ⟨fs, at_ne hi e⟩
theorem at3_0 {α : Type} {x y z : α} : atI [x, y, z] 0 = some x := rfl
theorem at3_1 {α : Type} {x y z : α} : atI [x, y, z] 1 = some y := rfl
theorem at3_2 {α : Type} {x y z : α} : atI [x, y, z] 2 = some z := rfl
theorem ix3_0 {α : Type} {x y z : α} : ixN [x, y, z].length 0 = some 0 := rfl
theorem ix3_1 {α : Type} {x y z : α} : ixN [x, y, z].length 1 = some 1 := rfl
theorem ix3_2 {α : Type} {x y z : α} : ixN [x, y, z].length 2 = some 2 := rfl
theorem ixN_nat {n k : Nat} (h : k < n) : ixN n (k : Int) = some k := by
  unfold ixN
  rw [if_pos (by omega), if_pos (by omega), Int.toNat_natCast]
section
variable {ρ : Ev} {g : G} {Q : D → G → Prop} {it : Ev → G → Re (List D × Wt)} {bd : Bd} {ft : Ev → G → Re Bool} {fe : Ev → G → Re D} {vs : List Nat}
theorem P_yes {QB : Bool → G → Prop} : (fYes ρ g).P QB = QB true g := rfl
/-- [f(d) for d in items if c(d)], nothing old is changed -/
theorem lc_pure (items : List D) (w : Wt) (f : D → D) (c : D → Bool) (hit : (it ρ g).P fun p g1 => p = (items, w) ∧ g1 = g) (hw : ∀ g', Gro g g' → wOk w g' = true) (hlen : items.length ≤ sizeLine)
    (hs : ∀ d, d ∈ items → ∀ g', Gro g g' → ∃ ρ1, bd d (wipeE ρ vs) g' = some ρ1 ∧ (ft ρ1 g').P fun k g2 => k = c d ∧ Gro g' g2 ∧ (c d = true → (fe ρ1 g2).P fun y g3 => y = f d ∧ Gro g2 g3))
    (hQ : ∀ g', Gro g g' → g'[g.length]? = some (.lst ((items.filter c).map f)) → Q (.ref g.length) g') : (fLc it bd ft fe vs ρ g).P Q := by
  rw [P_lc]
  refine hit.mono fun p g1 ⟨e1, e2⟩ => ?_
  subst e1 e2
  dsimp only
  refine P_go items (fun i acc g' => Gro g1 g' ∧ acc = ((items.take i).filter c).map f) at_new ⟨.app _ _, rfl⟩ (fun i d acc g' hd hL ⟨hg, ha⟩ => ?_) (fun acc g' hL ⟨hg, ha⟩ => ⟨hw g' hg, ?_⟩)
  · have hi := (List.getElem?_eq_some_iff.mp hd).1
    have hm : d ∈ items := List.mem_of_getElem? hd
    have tk : items.take (i + 1) = items.take i ++ [d] := by rw [List.take_add_one, hd]; rfl
    obtain ⟨ρ1, h1, h2⟩ := hs d hm g' hg
    refine ⟨hw g' hg, ?_, ρ1, h1, h2.mono fun k g2 ⟨e, hg2, h3⟩ => ?_⟩
    · have hl : acc.length ≤ i := by
        rw [ha, List.length_map]
        exact Nat.le_trans (List.length_filter_le _ _) (by rw [List.length_take]; omega)
      omega
    · subst e
      cases hc : c d with
      | false =>
        rw [if_neg (by simp)]
        refine ⟨hg2.at hL, hg.trans hg2, ?_⟩
        rw [tk, List.filter_append, ha]
        simp [hc]
      | true =>
        rw [if_pos rfl]
        refine (h3 hc).mono fun y g3 ⟨ey, hg3⟩ => ⟨hg3.at (hg2.at hL), (hg.trans (hg2.trans hg3)).set (Nat.le_refl _) _, ?_⟩
        rw [tk, List.filter_append, ha, ey]
        simp [hc]
  · rw [List.take_length] at ha
    rw [ha] at hL
    exact hQ g' hg hL
/-- [e for d in items], each with draws from the bag -/
theorem lc_bag (items : List D) (m n k : Nat) (R : G → D → Prop) (hR : ∀ {g1 g2 : G} {d : D}, Kd g1 g2 → R g1 d → R g2 d) (hb : Bag g m n) (hit : (it ρ g).P fun p g1 => p = (items, []) ∧ g1 = g) (hlen : items.length ≤ sizeLine)
    (hs : ∀ i d, items[i]? = some d → ∀ g', Evo m g g' → Kd g g' → Bag g' m (n + i * k) → ∃ ρ1, bd d (wipeE ρ vs) g' = some ρ1 ∧ (fe ρ1 g').P fun y g3 => R g3 y ∧ Bag g3 m (n + (i + 1) * k) ∧ Evo m g' g3)
    (hQ : ∀ g' ys, Evo m g g' → Kd g g' → Bag g' m (n + items.length * k) → g'[g.length]? = some (.lst ys) → ys.length = items.length → (∀ y ∈ ys, R g' y) → Q (.ref g.length) g') : (fLc it bd fYes fe vs ρ g).P Q := by
  rw [P_lc]
  refine hit.mono fun p g1 ⟨e1, e2⟩ => ?_
  subst e1 e2
  dsimp only
  have hml := hb.lt
  refine P_go items (fun i acc g' => Evo m g1 g' ∧ Kd g1 g' ∧ Bag g' m (n + i * k) ∧ acc.length = i ∧ ∀ y ∈ acc, R g' y) at_new ⟨.app _ _ _, (Gro.app _ _).kd, by rw [Nat.zero_mul]; exact hb.app, rfl, fun y hy => absurd hy (by simp)⟩ (fun i d acc g' hd hL ⟨he, hk, hbg, hl, ha⟩ => ?_) (fun acc g' hL ⟨he, hk, hbg, hl, ha⟩ => ⟨rfl, hQ g' acc he hk hbg hL hl ha⟩)
  have hi := (List.getElem?_eq_some_iff.mp hd).1
  obtain ⟨ρ1, h1, h2⟩ := hs i d hd g' he hk hbg
  refine ⟨rfl, by omega, ρ1, h1, ?_⟩
  rw [P_yes, if_pos rfl]
  refine h2.mono fun y g3 ⟨hy, hb3, he3⟩ => ?_
  have k3 : Kd g' g3 := he3.kd hb3
  have hL3 : g3[g1.length]? = some (.lst acc) := he3.at (by omega) hL
  refine ⟨hL3, (he.trans he3).setNew (Nat.le_refl _) _, (hk.trans k3).trans kd_set, hb3.set (by omega), by simp [hl], fun z hz => ?_⟩
  rcases List.mem_append.mp hz with q | q
  · exact hR (k3.trans kd_set) (ha z q)
  · rw [List.mem_singleton.mp q]
    exact hR kd_set hy
end
/-- an item by a place in range -/
theorem atI_in {α : Type} {l : List α} {i : Int} (h0 : 0 ≤ i) (h1 : i < l.length) : ∃ d, atI l i = some d ∧ d ∈ l := by
  obtain ⟨k, rfl⟩ := Int.eq_ofNat_of_zero_le h0
  have hk : k < l.length := by omega
  refine ⟨l[k], ?_, List.getElem_mem hk⟩
  unfold atI
  rw [ixN_nat hk]
  simp [hk]
theorem sz {n : Nat} (h : n ≤ 1000) : n ≤ sizeLine := by rw [sizeLine_eq]; omega
section
variable {ρ : Ev} {g : G} {QI : List D × Wt → G → Prop} {fa fb : Ev → G → Re D}
theorem P_rng1 : (fRng1 fa ρ g).P QI = (fa ρ g).P fun d g1 => match d with | .int j => (-(2 ^ 62) ≤ j ∧ j < 2 ^ 62) ∧ QI (rngD 0 j.toNat, []) g1 | _ => False := by
  unfold fRng1; rw [P_bind]; congr 1; funext d g1
  cases d with
  | int j => exact P_ite
  | _ => rfl
theorem P_rng2 : (fRng2 fa fb ρ g).P QI = (fa ρ g).P fun d g1 => (fb ρ g1).P fun e g2 => match d, e with | .int i, .int j => (-(2 ^ 62) ≤ i ∧ i < 2 ^ 62 ∧ -(2 ^ 62) ≤ j ∧ j < 2 ^ 62) ∧ QI (rngD i (j - i).toNat, []) g2 | _, _ => False := by
  unfold fRng2; rw [P_bind]; congr 1; funext d g1; rw [P_bind]; congr 1; funext e g2
  cases d with
  | int i => cases e with
    | int j => exact P_ite
    | _ => rfl
  | _ => rfl
theorem P_zip : (fZip fa fb ρ g).P QI = (fa ρ g).P fun d g1 => (fb ρ g1).P fun e g2 => match srcD d g2, srcD e g2 with | some p, some q => QI (zipD p.1 q.1, p.2 ++ q.2) g2 | _, _ => False := by
  unfold fZip; rw [P_bind]; congr 1; funext d g1; rw [P_bind]; congr 1; funext e g2
  generalize srcD d g2 = a
  generalize srcD e g2 = b
  cases a <;> cases b <;> rfl
end
theorem rng_get {lo : Int} {n i : Nat} {d : D} (h : (rngD lo n)[i]? = some d) : i < n ∧ d = .int (lo + (i : Int)) := by
  unfold rngD at h
  rw [List.getElem?_map] at h
  by_cases hi : i < n
  · rw [List.getElem?_range hi] at h
    exact ⟨hi, (Option.some.inj h).symm⟩
  · rw [List.getElem?_eq_none_iff.mpr (by simpa using hi)] at h
    cases h
theorem rng_len {lo : Int} {n : Nat} : (rngD lo n).length = n := by simp [rngD]
theorem ite_and {c1 c2 A R : Prop} [Decidable c1] [Decidable c2] (h1 : c1 → c2 → A) (h2 : R) : if c1 then (if c2 then A else R) else R := by
  by_cases a : c1
  · rw [if_pos a]
    by_cases b : c2
    · rw [if_pos b]; exact h1 a b
    · rw [if_neg b]; exact h2
  · rw [if_neg a]; exact h2
theorem ite_one {c A R : Prop} [Decidable c] (h1 : c → A) (h2 : ¬ c → R) : if c then A else R := by
  by_cases a : c
  · rw [if_pos a]; exact h1 a
  · rw [if_neg a]; exact h2 a
section
variable {g : G} {Q : D → G → Prop} {l : List D} {m k : Nat} {x : Str}
theorem V_neL0 (h1 : g[m]? = some (.lst l)) (h2 : g[k]? = some (.lst [])) : (oNe (.ref m) (.ref k) g).P Q = Q (.bl (!l.isEmpty)) g := by
  have e : eqE (.ref m) (.ref k) g = some l.isEmpty := by
    show (match g[m]?, g[k]? with
      | some (.lst l), some (.lst l2) => lenE l l2
      | _, _ => none) = _
    rw [h1, h2]
    cases l <;> rfl
  unfold oNe neA
  rw [show sclD (.ref m) (.ref k) = none from rfl]
  dsimp only
  rw [e]
  rfl
theorem V_lenL (h : g[m]? = some (.lst l)) : (oLenA [.ref m] g).P Q = Q (.int (l.length : Int)) g := by
  have e : oLen [.ref m] g = .ok (.int (l.length : Int)) g := by
    show (match (match g[m]? with
      | some (.lst l) => some l.length
      | some (.frz l) => some l.length
      | _ => none) with | some n => Re.ok (D.int (n : Int)) g | none => .bad) = _
    rw [h]
  unfold oLenA OpN.or
  rw [e]
  rfl
theorem V_lenF (h : g[m]? = some (.frz l)) : (oLenA [.ref m] g).P Q = Q (.int (l.length : Int)) g := by
  have e : oLen [.ref m] g = .ok (.int (l.length : Int)) g := by
    show (match (match g[m]? with
      | some (.lst l) => some l.length
      | some (.frz l) => some l.length
      | _ => none) with | some n => Re.ok (D.int (n : Int)) g | none => .bad) = _
    rw [h]
  unfold oLenA OpN.or
  rw [e]
  rfl
theorem V_lenT : (oLenA [.tup l] g).P Q = Q (.int (l.length : Int)) g := rfl
theorem V_lenS (h : x.length ≤ sizeLine) : (oLenA [.str x] g).P Q = Q (.int (x.length : Int)) g := by
  have e : oLen [.str x] g = .ok (.int (x.length : Int)) g := by
    show (match (if x.length ≤ sizeLine then some x.length else none) with | some n => Re.ok (D.int (n : Int)) g | none => .bad) = _
    rw [if_pos h]
  unfold oLenA OpN.or
  rw [e]
  rfl
theorem V_tupleL (h : g[m]? = some (.lst l)) : (oTuple [.ref m] g).P Q = Q (.tup l) g := by
  have e : seqAt (.ref m) g = some l := by
    show (match g[m]? with
      | some (.lst l) => some l
      | some (.frz l) => some l
      | _ => none) = _
    rw [h]
  unfold oTuple
  dsimp only
  rw [e]
  rfl
theorem V_listL (h : g[m]? = some (.lst l)) : (oList [.ref m] g).P Q = Q (.ref g.length) (g ++ [.lst l]) := by
  have e : seqAt (.ref m) g = some l := by
    show (match g[m]? with
      | some (.lst l) => some l
      | some (.frz l) => some l
      | _ => none) = _
    rw [h]
  unfold oList
  dsimp only
  rw [e]
  rfl
theorem V_listT : (oList [.tup l] g).P Q = Q (.ref g.length) (g ++ [.lst l]) := rfl
theorem srcL (h : g[m]? = some (.lst l)) : srcD (.ref m) g = some (l, [(m, l)]) := by
  show (match g[m]? with
    | some (.lst l) => some (l, [(m, l)])
    | some (.frz l) => some (l, [(m, l)])
    | _ => none) = _
  rw [h]
theorem wok1 (h : g[m]? = some (.lst l)) : wOk [(m, l)] g = true := by
  unfold wOk
  rw [List.all_cons, List.all_nil, Bool.and_true]
  dsimp only
  rw [h]
  exact D.eqbs_rfl l
end
end Fc

set_option Elab.async false
set_option linter.all false
set_option maxRecDepth 100000
set_option maxHeartbeats 4000000
namespace Fc
open PySem PySem.Spec PySem.Calls PyProof.Rows L2
def top (i : Nat) : Stmt := PySem.Challenge.pw_finestcells_k02_bodies_known.main.body.getD i (.Pass ⟨0, 0, 0, 0⟩)
structure Ph where
  f_called_names_1 : Fun2
  f_is_base_1 : Fun2
  f_is_body_0_thing : Fun2
  f_is_body_1_base : Fun2
  f_is_expression_2 : Fun2
  f_is_integer_1 : Fun2
  f_is_item_5 : Fun2
  f_is_name_bodies_1 : Fun2
  f_is_number_2 : Fun2
  f_is_operand_2 : Fun2
  f_is_row_4 : Fun2
  f_is_variable_1 : Fun2
  f_slots_of_0_body : Fun2
  f_slots_of_1 : Fun2
  f_v_law_any_2 : Fun2
  f_v_law_bag_2 : Fun2
  f_v_law_body_4 : Fun2
  f_v_law_edges_1 : Fun2
  f_v_law_expression_2 : Fun2
  f_v_law_is_body_2 : Fun2
  f_v_law_is_expression_2 : Fun2
  f_v_law_is_name_1 : Fun2
  f_v_law_is_operand_2 : Fun2
  f_v_law_is_row_4 : Fun2
  f_v_law_is_slot_1 : Fun2
  f_v_law_is_variable_1 : Fun2
  f_v_law_is_whole_1 : Fun2
  f_v_law_operand_2 : Fun2
  f_v_law_row_5 : Fun2
  f_v_law_slots_1 : Fun2
  f_v_law_spoilt_3 : Fun2
  f_v_law_take_2 : Fun2
  m_House_0 : Fun2
  c_Parts_init_4 : Fun2
  im_House_0 : Fun2
  law : Fun2
def Ph.nil : Ph := ⟨fun _ _ _ => .bad, fun _ _ _ => .bad, fun _ _ _ => .bad, fun _ _ _ => .bad, fun _ _ _ => .bad, fun _ _ _ => .bad, fun _ _ _ => .bad, fun _ _ _ => .bad, fun _ _ _ => .bad, fun _ _ _ => .bad, fun _ _ _ => .bad, fun _ _ _ => .bad, fun _ _ _ => .bad, fun _ _ _ => .bad, fun _ _ _ => .bad, fun _ _ _ => .bad, fun _ _ _ => .bad, fun _ _ _ => .bad, fun _ _ _ => .bad, fun _ _ _ => .bad, fun _ _ _ => .bad, fun _ _ _ => .bad, fun _ _ _ => .bad, fun _ _ _ => .bad, fun _ _ _ => .bad, fun _ _ _ => .bad, fun _ _ _ => .bad, fun _ _ _ => .bad, fun _ _ _ => .bad, fun _ _ _ => .bad, fun _ _ _ => .bad, fun _ _ _ => .bad, fun _ _ _ => .bad, fun _ _ _ => .bad, fun _ _ _ => .bad, fun _ _ _ => .bad⟩
def c_BASES : D := .tup [.int 2, .int 3]
def c_LETTERS : D := .str "abcdefghijklmnopqrstuvwxyz"
def c_MOST_CALLS : D := .int 1
def c_MOST_CELLS : D := .int 5
def c_MOST_LETTERS : D := .int 8
def c_MOST_ROWS : D := .int 6
def c_MOST_SLOTS : D := .int 3
def c_SIGNS : D := .tup [.str "+", .str "-", .str "*"]
def c_VARIABLES : D := .tup [.str "x", .str "y"]
def tabL_FORMS : List (Str × D) := [("set", .str "ve"), ("get", .str "vs"), ("put", .str "se"), ("if", .str "eer"), ("say", .str "e"), ("call", .str "nev"), ("end", .str "e")]
def tab_FORMS (x : Str) : Option D := tabL_FORMS.lookup x
theorem bt_abs : bootBuiltins "abs" = some (.builtin "abs") := by decide +kernel
theorem bt_all : bootBuiltins "all" = some (.builtin "all") := by decide +kernel
theorem bt_bool : bootBuiltins "bool" = some (.type "bool") := by decide +kernel
theorem bt_dict : bootBuiltins "dict" = some (.type "dict") := by decide +kernel
theorem bt_int : bootBuiltins "int" = some (.type "int") := by decide +kernel
theorem bt_len : bootBuiltins "len" = some (.builtin "len") := by decide +kernel
theorem bt_list : bootBuiltins "list" = some (.type "list") := by decide +kernel
theorem bt_max : bootBuiltins "max" = some (.builtin "max") := by decide +kernel
theorem bt_min : bootBuiltins "min" = some (.builtin "min") := by decide +kernel
theorem bt_str : bootBuiltins "str" = some (.type "str") := by decide +kernel
theorem bt_tuple : bootBuiltins "tuple" = some (.type "tuple") := by decide +kernel
def ownI (c : Str) : Option Bool := if c = "House" then some false else none
def ownC (c : Str) : Bool := decide (c = "House")
structure Fx (K : PySem.W.Frag) (w : World) (mg : Str → Option Value) : Prop where
  d_law : ∃ f fd, mg "law" = some (.ref f) ∧ FunD K "law" "law" (defArgs (top 60)) (defBody (top 60)) (defScope (top 60)) [] [] f fd
  d_v_law_bag : ∃ f fd, mg "_law_bag" = some (.ref f) ∧ FunD K "_law_bag" "_law_bag" (defArgs (top 42)) (defBody (top 42)) (defScope (top 42)) [] [] f fd
  d_v_law_take : ∃ f fd, mg "_law_take" = some (.ref f) ∧ FunD K "_law_take" "_law_take" (defArgs (top 43)) (defBody (top 43)) (defScope (top 43)) [] [] f fd
  d_v_law_body : ∃ f fd, mg "_law_body" = some (.ref f) ∧ FunD K "_law_body" "_law_body" (defArgs (top 47)) (defBody (top 47)) (defScope (top 47)) [] [] f fd
  d_slots_of : ∃ f fd, mg "slots_of" = some (.ref f) ∧ FunD K "slots_of" "slots_of" (defArgs (top 23)) (defBody (top 23)) (defScope (top 23)) [] [] f fd
  d_v_law_slots : ∃ f fd, mg "_law_slots" = some (.ref f) ∧ FunD K "_law_slots" "_law_slots" (defArgs (top 59)) (defBody (top 59)) (defScope (top 59)) [] [] f fd
  d_v_law_edges : ∃ f fd, mg "_law_edges" = some (.ref f) ∧ FunD K "_law_edges" "_law_edges" (defArgs (top 58)) (defBody (top 58)) (defScope (top 58)) [] [] f fd
  d_v_law_any : ∃ f fd, mg "_law_any" = some (.ref f) ∧ FunD K "_law_any" "_law_any" (defArgs (top 48)) (defBody (top 48)) (defScope (top 48)) [] [] f fd
  d_v_law_spoilt : ∃ f fd, mg "_law_spoilt" = some (.ref f) ∧ FunD K "_law_spoilt" "_law_spoilt" (defArgs (top 49)) (defBody (top 49)) (defScope (top 49)) [] [] f fd
  d_is_body : ∃ f fd, mg "is_body" = some (.ref f) ∧ FunD K "is_body" "is_body" (defArgs (top 22)) (defBody (top 22)) (defScope (top 22)) [] [("base", .int 2)] f fd
  d_v_law_is_body : ∃ f fd, mg "_law_is_body" = some (.ref f) ∧ FunD K "_law_is_body" "_law_is_body" (defArgs (top 57)) (defBody (top 57)) (defScope (top 57)) [] [] f fd
  d_is_base : ∃ f fd, mg "is_base" = some (.ref f) ∧ FunD K "is_base" "is_base" (defArgs (top 12)) (defBody (top 12)) (defScope (top 12)) [] [] f fd
  d_is_name : ∃ f fd, mg "is_name" = some (.ref f) ∧ FunD K "is_name" "is_name" (defArgs (top 14)) (defBody (top 14)) (defScope (top 14)) [] [] f fd
  d_is_number : ∃ f fd, mg "is_number" = some (.ref f) ∧ FunD K "is_number" "is_number" (defArgs (top 13)) (defBody (top 13)) (defScope (top 13)) [] [] f fd
  d_v_law_row : ∃ f fd, mg "_law_row" = some (.ref f) ∧ FunD K "_law_row" "_law_row" (defArgs (top 46)) (defBody (top 46)) (defScope (top 46)) [] [] f fd
  d_v_law_expression : ∃ f fd, mg "_law_expression" = some (.ref f) ∧ FunD K "_law_expression" "_law_expression" (defArgs (top 45)) (defBody (top 45)) (defScope (top 45)) [] [] f fd
  d_is_row : ∃ f fd, mg "is_row" = some (.ref f) ∧ FunD K "is_row" "is_row" (defArgs (top 20)) (defBody (top 20)) (defScope (top 20)) [] [] f fd
  d_called_names : ∃ f fd, mg "called_names" = some (.ref f) ∧ FunD K "called_names" "called_names" (defArgs (top 21)) (defBody (top 21)) (defScope (top 21)) [] [] f fd
  d_v_law_is_row : ∃ f fd, mg "_law_is_row" = some (.ref f) ∧ FunD K "_law_is_row" "_law_is_row" (defArgs (top 56)) (defBody (top 56)) (defScope (top 56)) [] [] f fd
  d_is_integer : ∃ f fd, mg "is_integer" = some (.ref f) ∧ FunD K "is_integer" "is_integer" (defArgs (top 11)) (defBody (top 11)) (defScope (top 11)) [] [] f fd
  d_v_law_operand : ∃ f fd, mg "_law_operand" = some (.ref f) ∧ FunD K "_law_operand" "_law_operand" (defArgs (top 44)) (defBody (top 44)) (defScope (top 44)) [] [] f fd
  d_is_item : ∃ f fd, mg "is_item" = some (.ref f) ∧ FunD K "is_item" "is_item" (defArgs (top 19)) (defBody (top 19)) (defScope (top 19)) [] [] f fd
  d_v_law_is_expression : ∃ f fd, mg "_law_is_expression" = some (.ref f) ∧ FunD K "_law_is_expression" "_law_is_expression" (defArgs (top 52)) (defBody (top 52)) (defScope (top 52)) [] [] f fd
  d_v_law_is_variable : ∃ f fd, mg "_law_is_variable" = some (.ref f) ∧ FunD K "_law_is_variable" "_law_is_variable" (defArgs (top 55)) (defBody (top 55)) (defScope (top 55)) [] [] f fd
  d_v_law_is_slot : ∃ f fd, mg "_law_is_slot" = some (.ref f) ∧ FunD K "_law_is_slot" "_law_is_slot" (defArgs (top 54)) (defBody (top 54)) (defScope (top 54)) [] [] f fd
  d_v_law_is_name : ∃ f fd, mg "_law_is_name" = some (.ref f) ∧ FunD K "_law_is_name" "_law_is_name" (defArgs (top 53)) (defBody (top 53)) (defScope (top 53)) [] [] f fd
  d_v_law_is_whole : ∃ f fd, mg "_law_is_whole" = some (.ref f) ∧ FunD K "_law_is_whole" "_law_is_whole" (defArgs (top 50)) (defBody (top 50)) (defScope (top 50)) [] [] f fd
  d_is_variable : ∃ f fd, mg "is_variable" = some (.ref f) ∧ FunD K "is_variable" "is_variable" (defArgs (top 16)) (defBody (top 16)) (defScope (top 16)) [] [] f fd
  d_is_expression : ∃ f fd, mg "is_expression" = some (.ref f) ∧ FunD K "is_expression" "is_expression" (defArgs (top 18)) (defBody (top 18)) (defScope (top 18)) [] [] f fd
  d_v_law_is_operand : ∃ f fd, mg "_law_is_operand" = some (.ref f) ∧ FunD K "_law_is_operand" "_law_is_operand" (defArgs (top 51)) (defBody (top 51)) (defScope (top 51)) [] [] f fd
  d_is_operand : ∃ f fd, mg "is_operand" = some (.ref f) ∧ FunD K "is_operand" "is_operand" (defArgs (top 17)) (defBody (top 17)) (defScope (top 17)) [] [] f fd
  l_is_name_bodies : mg "is_name_bodies" = mg "is_name"
  g_BASES : GlD K mg "BASES" c_BASES
  g_LETTERS : GlD K mg "LETTERS" c_LETTERS
  g_MOST_CALLS : GlD K mg "MOST_CALLS" c_MOST_CALLS
  g_MOST_CELLS : GlD K mg "MOST_CELLS" c_MOST_CELLS
  g_MOST_LETTERS : GlD K mg "MOST_LETTERS" c_MOST_LETTERS
  g_MOST_ROWS : GlD K mg "MOST_ROWS" c_MOST_ROWS
  g_MOST_SLOTS : GlD K mg "MOST_SLOTS" c_MOST_SLOTS
  g_SIGNS : GlD K mg "SIGNS" c_SIGNS
  g_VARIABLES : GlD K mg "VARIABLES" c_VARIABLES
  tb_FORMS : ∃ a, mg "FORMS" = some (.ref a) ∧ KTab K w a tab_FORMS
  n_abs : mg "abs" = none
  n_all : mg "all" = none
  n_bool : mg "bool" = none
  n_dict : mg "dict" = none
  n_enumerate : mg "enumerate" = none
  n_int : mg "int" = none
  n_isinstance : mg "isinstance" = none
  n_len : mg "len" = none
  n_list : mg "list" = none
  n_max : mg "max" = none
  n_min : mg "min" = none
  n_range : mg "range" = none
  n_str : mg "str" = none
  n_tuple : mg "tuple" = none
  n_zip : mg "zip" = none
  i_bool : ∀ c C b, ownI c = some b → mg c = some (.ref C) → OwnC K C ∧ PySem.W.kitOne K (.ref C) (.type "bool") = some b
  i_int : ∀ c C b, ownI c = some b → mg c = some (.ref C) → OwnC K C ∧ PySem.W.kitOne K (.ref C) (.type "int") = some b
  i_str : ∀ c C b, ownI c = some b → mg c = some (.ref C) → OwnC K C ∧ PySem.W.kitOne K (.ref C) (.type "str") = some b
  i_tuple : ∀ c C b, ownI c = some b → mg c = some (.ref C) → OwnC K C ∧ PySem.W.kitOne K (.ref C) (.type "tuple") = some b
  a_base : ∀ c C, ownC c = true → mg c = some (.ref C) → Cls K C ∧ NoAttr K C "base"
  a_made : ∀ c C, ownC c = true → mg c = some (.ref C) → Cls K C ∧ NoAttr K C "made"
  a_numbers : ∀ c C, ownC c = true → mg c = some (.ref C) → Cls K C ∧ NoAttr K C "numbers"
  a_past : ∀ c C, ownC c = true → mg c = some (.ref C) → Cls K C ∧ NoAttr K C "past"
  k_House : ∃ C f fd, mg "House" = some (.ref C) ∧ Mk K C f ∧ FunD K "__init__" "House.__init__" (defArgs (inClass (top 40) 1)) (defBody (inClass (top 40) 1)) (defScope (inClass (top 40) 1)) [] [("base", .int 2)] f fd
  q_c_Parts_init_4 : ∃ C f mc fd, mg "Parts" = some (.ref C) ∧ ClX.CRead K C mc ∧ PySem.W.findCls K (.ref C) mc "__init__" = some (.val (.ref f)) ∧ PySem.W.keepIn K (.ref f) = true ∧ FunD K "__init__" "Parts.__init__" (defArgs (inClass (top 26) 0)) (defBody (inClass (top 26) 0)) (defScope (inClass (top 26) 0)) [] [] f fd
structure Bun (P : Program) (w : World) (K : PySem.W.Frag) (mg : Str → Option Value) (base : Heap) (k : Nat) (F : Ph) : Prop where
  f_called_names_1 : TabF P w K mg base k "called_names" [] F.f_called_names_1
  f_is_base_1 : TabF P w K mg base k "is_base" [] F.f_is_base_1
  f_is_body_0_thing : TabF P w K mg base k "is_body" ["thing"] F.f_is_body_0_thing
  f_is_body_1_base : TabF P w K mg base k "is_body" ["base"] F.f_is_body_1_base
  f_is_expression_2 : TabF P w K mg base k "is_expression" [] F.f_is_expression_2
  f_is_integer_1 : TabF P w K mg base k "is_integer" [] F.f_is_integer_1
  f_is_item_5 : TabF P w K mg base k "is_item" [] F.f_is_item_5
  f_is_name_bodies_1 : TabF P w K mg base k "is_name_bodies" [] F.f_is_name_bodies_1
  f_is_number_2 : TabF P w K mg base k "is_number" [] F.f_is_number_2
  f_is_operand_2 : TabF P w K mg base k "is_operand" [] F.f_is_operand_2
  f_is_row_4 : TabF P w K mg base k "is_row" [] F.f_is_row_4
  f_is_variable_1 : TabF P w K mg base k "is_variable" [] F.f_is_variable_1
  f_slots_of_0_body : TabF P w K mg base k "slots_of" ["body"] F.f_slots_of_0_body
  f_slots_of_1 : TabF P w K mg base k "slots_of" [] F.f_slots_of_1
  f_v_law_any_2 : TabF P w K mg base k "_law_any" [] F.f_v_law_any_2
  f_v_law_bag_2 : TabF P w K mg base k "_law_bag" [] F.f_v_law_bag_2
  f_v_law_body_4 : TabF P w K mg base k "_law_body" [] F.f_v_law_body_4
  f_v_law_edges_1 : TabF P w K mg base k "_law_edges" [] F.f_v_law_edges_1
  f_v_law_expression_2 : TabF P w K mg base k "_law_expression" [] F.f_v_law_expression_2
  f_v_law_is_body_2 : TabF P w K mg base k "_law_is_body" [] F.f_v_law_is_body_2
  f_v_law_is_expression_2 : TabF P w K mg base k "_law_is_expression" [] F.f_v_law_is_expression_2
  f_v_law_is_name_1 : TabF P w K mg base k "_law_is_name" [] F.f_v_law_is_name_1
  f_v_law_is_operand_2 : TabF P w K mg base k "_law_is_operand" [] F.f_v_law_is_operand_2
  f_v_law_is_row_4 : TabF P w K mg base k "_law_is_row" [] F.f_v_law_is_row_4
  f_v_law_is_slot_1 : TabF P w K mg base k "_law_is_slot" [] F.f_v_law_is_slot_1
  f_v_law_is_variable_1 : TabF P w K mg base k "_law_is_variable" [] F.f_v_law_is_variable_1
  f_v_law_is_whole_1 : TabF P w K mg base k "_law_is_whole" [] F.f_v_law_is_whole_1
  f_v_law_operand_2 : TabF P w K mg base k "_law_operand" [] F.f_v_law_operand_2
  f_v_law_row_5 : TabF P w K mg base k "_law_row" [] F.f_v_law_row_5
  f_v_law_slots_1 : TabF P w K mg base k "_law_slots" [] F.f_v_law_slots_1
  f_v_law_spoilt_3 : TabF P w K mg base k "_law_spoilt" [] F.f_v_law_spoilt_3
  f_v_law_take_2 : TabF P w K mg base k "_law_take" [] F.f_v_law_take_2
  m_House_0 : TabK P w K mg base k "House" [] F.m_House_0
  im_House_0 : TabC P w K mg base k "House" [] F.im_House_0
  c_Parts_init_4 : TabN P w K mg base k "Parts" "__init__" [] F.c_Parts_init_4
def N_law : List Str := ["_law_script", "_law_k", "_law_bag_here", "_law_mod", "_law_objects", "_law_some", "_law_things", "_law_item", "_law_told", "_law_turn", "_law_rows"]
def dn_law (F : Ph) : Ev → G → Rs := sSeq (sFor (fRng1 (fCall oMax2 (fCons (fC (.int 3)) (fCons (fCall oMin2 (fCons (fC (.int 10)) (fCons (fCall oLenA (fCons (fVar 0) (fNil))) (fNil)))) (fNil))))) (bNm 1) (sSeq (sSet 2 (fCallF F.f_v_law_bag_2 (fCons (fVar 0) (fCons (fVar 1) (fNil))))) (sSeq (sAsg (fTup (fCons (fBin oAdd (fC (.int 2)) (fCallF F.f_v_law_take_2 (fCons (fVar 2) (fCons (fC (.int 2)) (fNil))))) (fCons (fLst (fCons (fCallK F.m_House_0 fNil fNil) (fNil))) (fNil)))) (bTup 2 (bCons (bNm 3) (bCons (bNm 4) (bNil))))) (sSeq (sSet 5 (fLc (fRng1 (fC (.int 4))) (bNm 9) (fYes) (fCallF F.f_v_law_body_4 (fCons (fVar 2) (fCons (fVar 3) (fCons (fC (.int 3)) (fCons (fLst (fCons (fC (.str "f")) (fCons (fC (.str "g")) (fNil)))) (fNil)))))) (([("_law_turn", 9)] : List (Str × Nat)).map (·.2)))) (sSeq (sIf (fOrT (fTest (fBin oNe (fLc (fSrc (fVar 5)) (bNm 10) (fYes) (fCallF F.f_slots_of_1 (fCons (fVar 10) (fNil))) (([("_law_rows", 10)] : List (Str × Nat)).map (·.2))) (fLc (fSrc (fVar 5)) (bNm 10) (fYes) (fCallF F.f_v_law_slots_1 (fCons (fVar 10) (fNil))) (([("_law_rows", 10)] : List (Str × Nat)).map (·.2))))) (fTest (fBin oNe (fCallK F.f_slots_of_0_body fNil (fCons (fTup (fNil)) (fNil))) (fC (.int 0))))) (sRet (fC (.bl false))) (sNil)) (sSeq (sSet 6 (fBin oAdd (fBin oAdd (fVar 5) (fCallF F.f_v_law_edges_1 (fCons (fVar 3) (fNil)))) (fLst (fCons (fCall oList (fCons (fBin oIx (fVar 5) (fC (.int 0))) (fNil))) (fCons (fC .non) (fCons (fCallF F.f_v_law_any_2 (fCons (fVar 2) (fCons (fVar 4) (fNil)))) (fNil))))))) (sSeq (sSet 6 (fBin oAdd (fVar 6) (fLc (fRng1 (fC (.int 12))) (bNm 9) (fYes) (fCallF F.f_v_law_spoilt_3 (fCons (fVar 2) (fCons (fBin oIx (fVar 5) (fBin oMod (fVar 9) (fC (.int 4)))) (fCons (fVar 4) (fNil))))) (([("_law_turn", 9)] : List (Str × Nat)).map (·.2))))) (sFor (fSrc (fVar 6)) (bNm 7) (sSeq (sSet 8 (fCallK F.f_is_body_1_base (fCons (fVar 7) (fNil)) (fCons (fVar 3) (fNil)))) (sSeq (sIf (fOrT (fNotT (fTest (fIsi "bool" ownI (fVar 8)))) (fTest (fBin oNe (fVar 8) (fCallF F.f_v_law_is_body_2 (fCons (fVar 7) (fCons (fVar 3) (fNil))))))) (sRet (fC (.bl false))) (sNil)) (sIf (fTest (fBin oNe (fCallK F.f_is_body_0_thing fNil (fCons (fVar 7) (fNil))) (fCallF F.f_v_law_is_body_2 (fCons (fVar 7) (fCons (fC (.int 2)) (fNil)))))) (sRet (fC (.bl false))) (sNil)))))))))))) (sRet (fC (.bl true)))
theorem sc_law : FnScope N_law ["_law_script"] (defScope (top 60)) := ⟨rfl, rfl, rfl, by decide +kernel, rfl, by decide +kernel, by decide +kernel⟩
def N_v_law_bag : List Str := ["_law_script", "_law_at", "_law_cell", "_law_digits"]
def dn_v_law_bag (F : Ph) : Ev → G → Rs := sSeq (sSet 2 (fIfE (fTest (fBin oLt (fVar 1) (fCall oLenA (fCons (fVar 0) (fNil))))) (fBin oIx (fVar 0) (fVar 1)) (fC (.int 0)))) (sSeq (sSet 3 (fIfE (fTest (fBin oGe (fCall oAbs (fCons (fVar 2) (fNil))) (fBin oPow (fC (.int 10)) (fC (.int 18))))) (fCall oAbs (fCons (fVar 2) (fNil))) (fC (.int 0)))) (sRet (fLst (fCons (fVar 3) (fCons (fBin oMod (fBin oPow (fBin oAdd (fBin oAdd (fBin oMod (fVar 2) (fC (.int 2147483647))) (fBin oMul (fC (.int 7121)) (fVar 1))) (fC (.int 11))) (fC (.int 3))) (fC (.int 2147483629))) (fCons (fC (.int 0)) (fNil)))))))
theorem sc_v_law_bag : FnScope N_v_law_bag ["_law_script", "_law_at"] (defScope (top 42)) := ⟨rfl, rfl, rfl, by decide +kernel, rfl, by decide +kernel, by decide +kernel⟩
def N_House_init : List Str := ["self", "base", "cells", "name", "number"]
def dn_House_init (F : Ph) : Ev → G → Rs := sSeq (sIf (fNotT (fTest (fCallF F.f_is_base_1 (fCons (fVar 1) (fNil))))) (sBad) (sNil)) (sSeq (sForItems (fVar 2) (bTup 2 (bCons (bNm 3) (bCons (bNm 4) (bNil)))) (sSeq (sIf (fNotT (fTest (fCallF F.f_is_name_bodies_1 (fCons (fVar 3) (fNil))))) (sBad) (sNil)) (sIf (fNotT (fTest (fCallF F.f_is_number_2 (fCons (fVar 4) (fCons (fVar 1) (fNil)))))) (sBad) (sNil)))) (sSeq (sIf (fTest (fBin oGt (fCall oLenA (fCons (fVar 2) (fNil))) (fC c_MOST_CELLS))) (sBad) (sNil)) (sSeq (sDrop (fCallF F.c_Parts_init_4 (fCons (fVar 0) (fCons (fVar 1) (fCons (fCall oDict (fCons (fVar 2) (fNil))) (fCons (fDct0) (fNil))))))) (sFldS ownC "past" (fLst (fNil)) (fVar 0)))))
theorem sc_House_init : FnScope N_House_init ["self", "base", "cells"] (defScope (inClass (top 40) 1)) := ⟨rfl, rfl, rfl, by decide +kernel, rfl, by decide +kernel, by decide +kernel⟩
def N_v_law_take : List Str := ["_law_bag_here", "_law_many", "_law_digit"]
def dn_v_law_take (F : Ph) : Ev → G → Rs := sSeq (sIf (fTest (fBin oGt (fBin oIx (fVar 0) (fC (.int 0))) (fC (.int 0)))) (sSeq (sSet 2 (fBin oMod (fBin oIx (fVar 0) (fC (.int 0))) (fVar 1))) (sSeq (sSub (fBin oDiv (fBin oIx (fVar 0) (fC (.int 0))) (fVar 1)) (fVar 0) (fC (.int 0)) setL) (sRet (fVar 2)))) (sNil)) (sSeq (sSub (fBin oAdd (fBin oIx (fVar 0) (fC (.int 2))) (fC (.int 1))) (fVar 0) (fC (.int 2)) setL) (sSeq (sSub (fBin oMod (fBin oAdd (fBin oAdd (fBin oMul (fBin oIx (fVar 0) (fC (.int 1))) (fC (.int 48271))) (fBin oMul (fBin oMul (fC (.int 6607)) (fBin oIx (fVar 0) (fC (.int 2)))) (fBin oIx (fVar 0) (fC (.int 2))))) (fC (.int 5))) (fC (.int 2147483647))) (fVar 0) (fC (.int 1)) setL) (sRet (fBin oMod (fBin oMod (fBin oPow (fBin oDiv (fBin oIx (fVar 0) (fC (.int 1))) (fC (.int 16))) (fC (.int 3))) (fC (.int 2147483587))) (fVar 1)))))
theorem sc_v_law_take : FnScope N_v_law_take ["_law_bag_here", "_law_many"] (defScope (top 43)) := ⟨rfl, rfl, rfl, by decide +kernel, rfl, by decide +kernel, by decide +kernel⟩
def N_v_law_body : List Str := ["_law_bag_here", "_law_mod", "_law_slots_here", "_law_earlier", "_law_count", "_law_rows", "_law_name", "_law_one", "_law_at"]
def dn_v_law_body (F : Ph) : Ev → G → Rs := sSeq (sSet 4 (fCallF F.f_v_law_take_2 (fCons (fVar 0) (fCons (fC (.int 7)) (fNil))))) (sSeq (sSet 5 (fLc (fRng1 (fVar 4)) (bNm 8) (fYes) (fCallF F.f_v_law_row_5 (fCons (fVar 0) (fCons (fVar 1) (fCons (fVar 2) (fCons (fVar 8) (fCons (fVar 4) (fNil))))))) (([("_law_at", 8)] : List (Str × Nat)).map (·.2)))) (sSeq (sIf (fAndT (fTest (fBin oNe (fVar 5) (fLst (fNil)))) (fAndT (fTest (fBin oNe (fVar 3) (fLst (fNil)))) (fTest (fBin oEq (fCallF F.f_v_law_take_2 (fCons (fVar 0) (fCons (fC (.int 3)) (fNil)))) (fC (.int 0)))))) (sSeq (sPar 6 7 (fBin oIx (fVar 3) (fCallF F.f_v_law_take_2 (fCons (fVar 0) (fCons (fCall oLenA (fCons (fVar 3) (fNil))) (fNil))))) (fCallF F.f_v_law_expression_2 (fCons (fVar 0) (fCons (fVar 1) (fNil))))) (sSub (fTup (fCons (fC (.str "call")) (fCons (fVar 6) (fCons (fVar 7) (fCons (fBin oIx (fC (.str "xy")) (fCallF F.f_v_law_take_2 (fCons (fVar 0) (fCons (fC (.int 2)) (fNil))))) (fNil)))))) (fVar 5) (fCallF F.f_v_law_take_2 (fCons (fVar 0) (fCons (fVar 4) (fNil)))) setL)) (sNil)) (sRet (fCall oTuple (fCons (fVar 5) (fNil))))))
theorem sc_v_law_body : FnScope N_v_law_body ["_law_bag_here", "_law_mod", "_law_slots_here", "_law_earlier"] (defScope (top 47)) := ⟨rfl, rfl, rfl, by decide +kernel, rfl, by decide +kernel, by decide +kernel⟩
def N_slots_of : List Str := ["body", "slots", "row"]
def dn_slots_of (F : Ph) : Ev → G → Rs := sSeq (sSet 1 (fBin oAdd (fLc (fSrc (fVar 0)) (bNm 2) (fTest (fBin oEq (fBin oIx (fVar 2) (fC (.int 0))) (fC (.str "get")))) (fBin oIx (fVar 2) (fC (.int 2))) (([("row", 2)] : List (Str × Nat)).map (·.2))) (fLc (fSrc (fVar 0)) (bNm 2) (fTest (fBin oEq (fBin oIx (fVar 2) (fC (.int 0))) (fC (.str "put")))) (fBin oIx (fVar 2) (fC (.int 1))) (([("row", 2)] : List (Str × Nat)).map (·.2))))) (sRet (fBin oAdd (fC (.int 1)) (fCallBK oMaxDf (fCons (fVar 1) (fNil)) (fCons (fUn oNeg (fC (.int 1))) (fNil)))))
theorem sc_slots_of : FnScope N_slots_of ["body"] (defScope (top 23)) := ⟨rfl, rfl, rfl, by decide +kernel, rfl, by decide +kernel, by decide +kernel⟩
def N_v_law_slots : List Str := ["_law_rows", "_law_slots_here", "_law_row_here"]
def dn_v_law_slots (F : Ph) : Ev → G → Rs := sSeq (sSet 1 (fBin oAdd (fLc (fSrc (fVar 0)) (bNm 2) (fTest (fBin oEq (fBin oIx (fVar 2) (fC (.int 0))) (fC (.str "get")))) (fBin oIx (fVar 2) (fC (.int 2))) (([("_law_row_here", 2)] : List (Str × Nat)).map (·.2))) (fLc (fSrc (fVar 0)) (bNm 2) (fTest (fBin oEq (fBin oIx (fVar 2) (fC (.int 0))) (fC (.str "put")))) (fBin oIx (fVar 2) (fC (.int 1))) (([("_law_row_here", 2)] : List (Str × Nat)).map (·.2))))) (sRet (fBin oAdd (fCall oMaxL (fCons (fBin oAdd (fVar 1) (fLst (fCons (fUn oNeg (fC (.int 1))) (fNil)))) (fNil))) (fC (.int 1))))
theorem sc_v_law_slots : FnScope N_v_law_slots ["_law_rows"] (defScope (top 59)) := ⟨rfl, rfl, rfl, by decide +kernel, rfl, by decide +kernel, by decide +kernel⟩
def N_v_law_edges : List Str := ["_law_mod", "_law_rows", "_law_found", "_law_row_here"]
def dn_v_law_edges (F : Ph) : Ev → G → Rs := sSeq (sSet 1 (fLst (fCons (fTup (fCons (fC (.str "set")) (fCons (fC (.str "x")) (fCons (fVar 0) (fNil))))) (fCons (fTup (fCons (fC (.str "set")) (fCons (fC (.str "x")) (fCons (fBin oSub (fVar 0) (fC (.int 1))) (fNil))))) (fCons (fTup (fCons (fC (.str "set")) (fCons (fC (.str "z")) (fCons (fC (.int 0)) (fNil))))) (fCons (fTup (fCons (fC (.str "get")) (fCons (fC (.str "y")) (fCons (fC (.int 2)) (fNil))))) (fCons (fTup (fCons (fC (.str "get")) (fCons (fC (.str "y")) (fCons (fC (.int 3)) (fNil))))) (fCons (fTup (fCons (fC (.str "put")) (fCons (fUn oNeg (fC (.int 1))) (fCons (fC (.int 0)) (fNil))))) (fNil))))))))) (sSeq (sSet 1 (fBin oAdd (fVar 1) (fLst (fCons (fTup (fCons (fC (.str "put")) (fCons (fC (.int 2)) (fCons (fTup (fCons (fC (.str "*")) (fCons (fC (.str "x")) (fCons (fBin oSub (fVar 0) (fC (.int 1))) (fNil))))) (fNil))))) (fCons (fTup (fCons (fC (.str "put")) (fCons (fC (.int 2)) (fCons (fTup (fCons (fC (.str "*")) (fCons (fC (.str "x")) (fCons (fVar 0) (fNil))))) (fNil))))) (fCons (fTup (fCons (fC (.str "say")) (fCons (fTup (fCons (fC (.str "/")) (fCons (fC (.str "x")) (fCons (fC (.str "y")) (fNil))))) (fNil)))) (fCons (fTup (fCons (fC (.str "say")) (fNil))) (fNil)))))))) (sSeq (sSet 1 (fBin oAdd (fVar 1) (fLst (fCons (fTup (fCons (fC (.str "if")) (fCons (fC (.str "x")) (fCons (fC (.str "y")) (fCons (fC (.int 0)) (fNil)))))) (fCons (fTup (fCons (fC (.str "if")) (fCons (fC (.str "x")) (fCons (fC (.str "y")) (fCons (fC (.int 1)) (fNil)))))) (fCons (fTup (fCons (fC (.str "if")) (fCons (fC (.str "x")) (fCons (fC (.str "y")) (fCons (fC (.int 2)) (fNil)))))) (fCons (fTup (fCons (fC (.str "if")) (fCons (fC (.str "x")) (fCons (fC (.str "y")) (fCons (fC (.int 3)) (fNil)))))) (fCons (fTup (fCons (fC (.str "end")) (fCons (fC (.bl true)) (fNil)))) (fNil))))))))) (sSeq (sSet 1 (fBin oAdd (fVar 1) (fLst (fCons (fTup (fCons (fC (.str "if")) (fCons (fC (.str "x")) (fCons (fC (.str "y")) (fCons (fC (.bl true)) (fNil)))))) (fCons (fTup (fCons (fC (.str "call")) (fCons (fC (.str "abcdefgh")) (fCons (fC (.int 0)) (fCons (fC (.str "x")) (fNil)))))) (fCons (fTup (fCons (fC (.str "call")) (fCons (fC (.str "abcdefghi")) (fCons (fC (.int 0)) (fCons (fC (.str "x")) (fNil)))))) (fNil))))))) (sSeq (sSet 1 (fBin oAdd (fVar 1) (fLst (fCons (fTup (fCons (fC (.str "call")) (fCons (fC (.str "")) (fCons (fC (.int 0)) (fCons (fC (.str "x")) (fNil)))))) (fCons (fTup (fCons (fC (.str "call")) (fCons (fC (.str "f")) (fCons (fC (.int 0)) (fCons (fC (.int 0)) (fNil)))))) (fCons (fTup (fCons (fC (.str "call")) (fCons (fC (.str "f")) (fCons (fC (.str "x")) (fNil))))) (fCons (fTup (fCons (fC (.str "get")) (fCons (fC (.str "x")) (fCons (fC (.bl true)) (fNil))))) (fNil)))))))) (sSeq (sSet 1 (fBin oAdd (fVar 1) (fLst (fCons (fTup (fCons (fC (.str "end")) (fCons (fTup (fCons (fC (.str "+")) (fCons (fC (.str "x")) (fNil)))) (fNil)))) (fCons (fTup (fCons (fC (.str "end")) (fCons (fTup (fCons (fC (.str "+")) (fCons (fTup (fCons (fC (.str "x")) (fNil))) (fCons (fC (.int 0)) (fNil))))) (fNil)))) (fNil)))))) (sSeq (sSet 2 (fBin oAdd (fLc (fSrc (fVar 1)) (bNm 3) (fYes) (fTup (fCons (fVar 3) (fCons (fTup (fCons (fC (.str "end")) (fCons (fC (.str "x")) (fNil)))) (fNil)))) (([("_law_row_here", 3)] : List (Str × Nat)).map (·.2))) (fLst (fCons (fBin oMul (fTup (fCons (fTup (fCons (fC (.str "call")) (fCons (fC (.str "f")) (fCons (fC (.int 0)) (fCons (fC (.str "x")) (fNil)))))) (fNil))) (fC (.int 2))) (fCons (fTup (fNil)) (fNil)))))) (sRet (fBin oAdd (fVar 2) (fLst (fCons (fBin oMul (fTup (fCons (fTup (fCons (fC (.str "say")) (fCons (fC (.int 0)) (fNil)))) (fNil))) (fC (.int 6))) (fCons (fBin oMul (fTup (fCons (fTup (fCons (fC (.str "say")) (fCons (fC (.int 0)) (fNil)))) (fNil))) (fC (.int 7))) (fNil))))))))))))
theorem sc_v_law_edges : FnScope N_v_law_edges ["_law_mod"] (defScope (top 58)) := ⟨rfl, rfl, rfl, by decide +kernel, rfl, by decide +kernel, by decide +kernel⟩
def N_v_law_any : List Str := ["_law_bag_here", "_law_objects", "_law_some", "_law_one"]
def dn_v_law_any (F : Ph) : Ev → G → Rs := sSeq (sSet 2 (fLst (fCons (fC .non) (fCons (fC (.bl true)) (fCons (fC (.bl false)) (fCons (fC (.int 0)) (fCons (fC (.int 1)) (fCons (fUn oNeg (fC (.int 1))) (fCons (fC (.int 2)) (fCons (fC (.int 3)) (fCons (fBin oPow (fC (.int 10)) (fC (.int 59))) (fCons (fC (.str "")) (fCons (fC (.str "a")) (fCons (fC (.str "x")) (fCons (fC (.str "y")) (fCons (fC (.str "A")) (fCons (fLst (fNil)) (fCons (fTup (fNil)) (fCons (fLst (fCons (fC (.int 0)) (fNil))) (fCons (fTup (fCons (fC (.str "end")) (fCons (fC (.int 0)) (fNil)))) (fCons (fTup (fCons (fTup (fCons (fC (.str "end")) (fCons (fC (.int 0)) (fNil)))) (fNil))) (fNil)))))))))))))))))))))) (sSeq (sSet 2 (fBin oAdd (fBin oAdd (fBin oAdd (fVar 2) (fLst (fCons (fTup (fCons (fC (.str "a")) (fCons (fC (.int 0)) (fNil)))) (fCons (fTup (fCons (fC (.str "get")) (fCons (fC (.str "x")) (fCons (fC (.int 0)) (fNil))))) (fCons (fLst (fCons (fC (.str "x")) (fNil))) (fCons (fTup (fCons (fC .non) (fCons (fLst (fCons (fC (.int 1)) (fNil))) (fNil)))) (fNil))))))) (fVar 1)) (fLc (fSrc (fVar 1)) (bNm 3) (fYes) (fTup (fCons (fVar 3) (fNil))) (([("_law_one", 3)] : List (Str × Nat)).map (·.2))))) (sRet (fBin oIx (fVar 2) (fCallF F.f_v_law_take_2 (fCons (fVar 0) (fCons (fCall oLenA (fCons (fVar 2) (fNil))) (fNil)))))))
theorem sc_v_law_any : FnScope N_v_law_any ["_law_bag_here", "_law_objects"] (defScope (top 48)) := ⟨rfl, rfl, rfl, by decide +kernel, rfl, by decide +kernel, by decide +kernel⟩
def N_v_law_spoilt : List Str := ["_law_bag_here", "_law_item", "_law_objects", "_law_way", "_law_at"]
def dn_v_law_spoilt (F : Ph) : Ev → G → Rs := sSeq (sIf (fOrT (fNotT (fTest (fIsi "tuple" ownI (fVar 1)))) (fOrT (fTest (fBin oEq (fVar 1) (fTup (fNil)))) (fTest (fBin oEq (fCallF F.f_v_law_take_2 (fCons (fVar 0) (fCons (fC (.int 6)) (fNil)))) (fC (.int 0)))))) (sSeq (sSet 3 (fCallF F.f_v_law_take_2 (fCons (fVar 0) (fCons (fC (.int 4)) (fNil))))) (sSeq (sIf (fAndT (fTest (fBin oEq (fVar 3) (fC (.int 0)))) (fTest (fIsi "int" ownI (fVar 1)))) (sRet (fBin oIx (fTup (fCons (fBin oAdd (fVar 1) (fC (.int 1))) (fCons (fBin oSub (fVar 1) (fC (.int 1))) (fCons (fCall oBool (fCons (fVar 1) (fNil))) (fCons (fBin oAdd (fVar 1) (fC (.int 7))) (fNil)))))) (fCallF F.f_v_law_take_2 (fCons (fVar 0) (fCons (fC (.int 4)) (fNil)))))) (sNil)) (sSeq (sIf (fAndT (fTest (fBin oEq (fVar 3) (fC (.int 1)))) (fTest (fIsi "str" ownI (fVar 1)))) (sRet (fBin oIx (fTup (fCons (fBin oAdd (fVar 1) (fC (.str "a"))) (fCons (fSl (fVar 1) none (some (fUn oNeg (fC (.int 1))))) (fCons (fC (.str "set")) (fCons (fC (.str "put")) (fCons (fC (.str "get")) (fCons (fC (.str "x")) (fCons (fC (.str "call")) (fCons (fC (.str "A")) (fNil)))))))))) (fCallF F.f_v_law_take_2 (fCons (fVar 0) (fCons (fC (.int 8)) (fNil)))))) (sNil)) (sRet (fCallF F.f_v_law_any_2 (fCons (fVar 0) (fCons (fVar 2) (fNil)))))))) (sNil)) (sSeq (sPar 3 4 (fCallF F.f_v_law_take_2 (fCons (fVar 0) (fCons (fC (.int 8)) (fNil)))) (fCallF F.f_v_law_take_2 (fCons (fVar 0) (fCons (fCall oLenA (fCons (fVar 1) (fNil))) (fNil))))) (sSeq (sIf (fTest (fBin oEq (fVar 3) (fC (.int 0)))) (sRet (fBin oAdd (fSl (fVar 1) none (some (fVar 4))) (fSl (fVar 1) (some (fBin oAdd (fVar 4) (fC (.int 1)))) none))) (sNil)) (sSeq (sIf (fTest (fBin oEq (fVar 3) (fC (.int 1)))) (sRet (fBin oAdd (fBin oAdd (fSl (fVar 1) none (some (fVar 4))) (fTup (fCons (fBin oIx (fVar 1) (fVar 4)) (fNil)))) (fSl (fVar 1) (some (fVar 4)) none))) (sNil)) (sSeq (sIf (fTest (fBin oEq (fVar 3) (fC (.int 2)))) (sRet (fBin oIx (fLst (fCons (fCall oList (fCons (fVar 1) (fNil))) (fCons (fRev (fVar 1)) (fCons (fBin oAdd (fVar 1) (fTup (fCons (fCallF F.f_v_law_any_2 (fCons (fVar 0) (fCons (fVar 2) (fNil)))) (fNil)))) (fNil))))) (fCallF F.f_v_law_take_2 (fCons (fVar 0) (fCons (fC (.int 3)) (fNil)))))) (sNil)) (sSeq (sIf (fTest (fBin oEq (fVar 3) (fC (.int 3)))) (sRet (fBin oAdd (fBin oAdd (fSl (fVar 1) none (some (fVar 4))) (fTup (fCons (fBin oIx (fVar 1) (fBin oSub (fVar 4) (fC (.int 1)))) (fNil)))) (fSl (fVar 1) (some (fBin oAdd (fVar 4) (fC (.int 1)))) none))) (sNil)) (sRet (fBin oAdd (fBin oAdd (fSl (fVar 1) none (some (fVar 4))) (fTup (fCons (fCallF F.f_v_law_spoilt_3 (fCons (fVar 0) (fCons (fBin oIx (fVar 1) (fVar 4)) (fCons (fVar 2) (fNil))))) (fNil)))) (fSl (fVar 1) (some (fBin oAdd (fVar 4) (fC (.int 1)))) none))))))))
theorem sc_v_law_spoilt : FnScope N_v_law_spoilt ["_law_bag_here", "_law_item", "_law_objects"] (defScope (top 49)) := ⟨rfl, rfl, rfl, by decide +kernel, rfl, by decide +kernel, by decide +kernel⟩
def N_is_body : List Str := ["thing", "base", "at", "row"]
def dn_is_body (F : Ph) : Ev → G → Rs := sSeq (sIf (fOrT (fNotT (fTest (fIsi "tuple" ownI (fVar 0)))) (fTest (fBin oGt (fCall oLenA (fCons (fVar 0) (fNil))) (fC c_MOST_ROWS)))) (sRet (fC (.bl false))) (sNil)) (sSeq (sIf (fNotT (fTest (fCall oAll (fCons (fLc (fEnum (fVar 0)) (bTup 2 (bCons (bNm 2) (bCons (bNm 3) (bNil)))) (fYes) (fCallF F.f_is_row_4 (fCons (fVar 3) (fCons (fVar 1) (fCons (fVar 2) (fCons (fCall oLenA (fCons (fVar 0) (fNil))) (fNil)))))) (([("at", 2), ("row", 3)] : List (Str × Nat)).map (·.2))) (fNil))))) (sRet (fC (.bl false))) (sNil)) (sRet (fBin oLe (fCall oLenA (fCons (fCallF F.f_called_names_1 (fCons (fVar 0) (fNil))) (fNil))) (fC c_MOST_CALLS))))
theorem sc_is_body : FnScope N_is_body ["thing", "base"] (defScope (top 22)) := ⟨rfl, rfl, rfl, by decide +kernel, rfl, by decide +kernel, by decide +kernel⟩
def N_v_law_is_body : List Str := ["_law_item", "_law_mod", "_law_at", "_law_row_here"]
def dn_v_law_is_body (F : Ph) : Ev → G → Rs := sSeq (sIf (fOrT (fNotT (fTest (fIsi "tuple" ownI (fVar 0)))) (fTest (fBin oGt (fCall oLenA (fCons (fVar 0) (fNil))) (fC (.int 6))))) (sRet (fC (.bl false))) (sNil)) (sSeq (sIf (fNotT (fTest (fCall oAll (fCons (fLc (fEnum (fVar 0)) (bTup 2 (bCons (bNm 2) (bCons (bNm 3) (bNil)))) (fYes) (fCallF F.f_v_law_is_row_4 (fCons (fVar 3) (fCons (fVar 1) (fCons (fVar 2) (fCons (fCall oLenA (fCons (fVar 0) (fNil))) (fNil)))))) (([("_law_at", 2), ("_law_row_here", 3)] : List (Str × Nat)).map (·.2))) (fNil))))) (sRet (fC (.bl false))) (sNil)) (sRet (fBin oLt (fCall oLenA (fCons (fLc (fSrc (fVar 0)) (bNm 3) (fTest (fBin oEq (fBin oIx (fVar 3) (fC (.int 0))) (fC (.str "call")))) (fVar 3) (([("_law_row_here", 3)] : List (Str × Nat)).map (·.2))) (fNil))) (fC (.int 2)))))
theorem sc_v_law_is_body : FnScope N_v_law_is_body ["_law_item", "_law_mod"] (defScope (top 57)) := ⟨rfl, rfl, rfl, by decide +kernel, rfl, by decide +kernel, by decide +kernel⟩
def N_is_base : List Str := ["thing"]
def dn_is_base (F : Ph) : Ev → G → Rs := sRet (fAnd (fCallF F.f_is_integer_1 (fCons (fVar 0) (fNil))) (fBin oIn (fVar 0) (fC c_BASES)))
theorem sc_is_base : FnScope N_is_base ["thing"] (defScope (top 12)) := ⟨rfl, rfl, rfl, by decide +kernel, rfl, by decide +kernel, by decide +kernel⟩
def N_is_name : List Str := ["thing", "sign"]
def dn_is_name (F : Ph) : Ev → G → Rs := sRet (fAnd (fIsi "str" ownI (fVar 0)) (fAnd (fChain oLe oLe (fC (.int 1)) (fCall oLenA (fCons (fVar 0) (fNil))) (fC c_MOST_LETTERS)) (fCall oAll (fCons (fLc (fSrc (fVar 0)) (bNm 1) (fYes) (fBin oIn (fVar 1) (fC c_LETTERS)) (([("sign", 1)] : List (Str × Nat)).map (·.2))) (fNil)))))
theorem sc_is_name : FnScope N_is_name ["thing"] (defScope (top 14)) := ⟨rfl, rfl, rfl, by decide +kernel, rfl, by decide +kernel, by decide +kernel⟩
def N_is_number : List Str := ["thing", "base"]
def dn_is_number (F : Ph) : Ev → G → Rs := sRet (fAnd (fCallF F.f_is_integer_1 (fCons (fVar 0) (fNil))) (fChain oLe oLt (fC (.int 0)) (fVar 0) (fVar 1)))
theorem sc_is_number : FnScope N_is_number ["thing", "base"] (defScope (top 13)) := ⟨rfl, rfl, rfl, by decide +kernel, rfl, by decide +kernel, by decide +kernel⟩
def N_Parts_init : List Str := ["self", "base", "numbers", "made"]
def dn_Parts_init (F : Ph) : Ev → G → Rs := sSeq (sFldS ownC "base" (fVar 1) (fVar 0)) (sSeq (sFldS ownC "numbers" (fVar 2) (fVar 0)) (sFldS ownC "made" (fVar 3) (fVar 0)))
theorem sc_Parts_init : FnScope N_Parts_init ["self", "base", "numbers", "made"] (defScope (inClass (top 26) 0)) := ⟨rfl, rfl, rfl, by decide +kernel, rfl, by decide +kernel, by decide +kernel⟩
def N_v_law_row : List Str := ["_law_bag_here", "_law_mod", "_law_slots_here", "_law_at", "_law_count", "_law_one", "_law_other", "_law_variable", "_law_way"]
def dn_v_law_row (F : Ph) : Ev → G → Rs := sSeq (sPar 5 6 (fCallF F.f_v_law_expression_2 (fCons (fVar 0) (fCons (fVar 1) (fNil)))) (fCallF F.f_v_law_expression_2 (fCons (fVar 0) (fCons (fVar 1) (fNil))))) (sSeq (sPar 7 8 (fBin oIx (fC (.str "xy")) (fCallF F.f_v_law_take_2 (fCons (fVar 0) (fCons (fC (.int 2)) (fNil))))) (fCallF F.f_v_law_take_2 (fCons (fVar 0) (fCons (fC (.int 10)) (fNil))))) (sSeq (sIf (fAndT (fTest (fBin oLt (fVar 8) (fC (.int 3)))) (fTest (fBin oGt (fVar 2) (fC (.int 0))))) (sRet (fTup (fCons (fC (.str "get")) (fCons (fVar 7) (fCons (fCallF F.f_v_law_take_2 (fCons (fVar 0) (fCons (fVar 2) (fNil)))) (fNil)))))) (sNil)) (sSeq (sIf (fAndT (fTest (fBin oLt (fVar 8) (fC (.int 6)))) (fTest (fBin oGt (fVar 2) (fC (.int 0))))) (sRet (fTup (fCons (fC (.str "put")) (fCons (fCallF F.f_v_law_take_2 (fCons (fVar 0) (fCons (fVar 2) (fNil)))) (fCons (fVar 5) (fNil)))))) (sNil)) (sSeq (sIf (fTest (fBin oLt (fVar 8) (fC (.int 7)))) (sRet (fTup (fCons (fC (.str "set")) (fCons (fVar 7) (fCons (fVar 5) (fNil)))))) (sNil)) (sSeq (sIf (fTest (fBin oEq (fVar 8) (fC (.int 7)))) (sRet (fTup (fCons (fC (.str "if")) (fCons (fVar 5) (fCons (fVar 6) (fCons (fBin oAdd (fBin oAdd (fVar 3) (fC (.int 1))) (fCallF F.f_v_law_take_2 (fCons (fVar 0) (fCons (fBin oSub (fVar 4) (fVar 3)) (fNil))))) (fNil))))))) (sNil)) (sRet (fIfE (fTest (fBin oEq (fVar 8) (fC (.int 8)))) (fTup (fCons (fC (.str "say")) (fCons (fVar 5) (fNil)))) (fTup (fCons (fC (.str "end")) (fCons (fVar 5) (fNil)))))))))))
theorem sc_v_law_row : FnScope N_v_law_row ["_law_bag_here", "_law_mod", "_law_slots_here", "_law_at", "_law_count"] (defScope (top 46)) := ⟨rfl, rfl, rfl, by decide +kernel, rfl, by decide +kernel, by decide +kernel⟩
def N_v_law_expression : List Str := ["_law_bag_here", "_law_mod", "_law_left"]
def dn_v_law_expression (F : Ph) : Ev → G → Rs := sSeq (sSet 2 (fCallF F.f_v_law_operand_2 (fCons (fVar 0) (fCons (fVar 1) (fNil))))) (sSeq (sIf (fTest (fBin oGt (fCallF F.f_v_law_take_2 (fCons (fVar 0) (fCons (fC (.int 3)) (fNil)))) (fC (.int 0)))) (sRet (fVar 2)) (sNil)) (sRet (fTup (fCons (fBin oIx (fC (.str "+-*")) (fCallF F.f_v_law_take_2 (fCons (fVar 0) (fCons (fC (.int 3)) (fNil))))) (fCons (fVar 2) (fCons (fCallF F.f_v_law_operand_2 (fCons (fVar 0) (fCons (fVar 1) (fNil)))) (fNil)))))))
theorem sc_v_law_expression : FnScope N_v_law_expression ["_law_bag_here", "_law_mod"] (defScope (top 45)) := ⟨rfl, rfl, rfl, by decide +kernel, rfl, by decide +kernel, by decide +kernel⟩
def N_is_row : List Str := ["thing", "base", "at", "count", "word", "items", "form", "sort", "item"]
def dn_is_row (F : Ph) : Ev → G → Rs := sSeq (sIf (fOrT (fNotT (fTest (fIsi "tuple" ownI (fVar 0)))) (fOrT (fTest (fBin oEq (fVar 0) (fTup (fNil)))) (fNotT (fTest (fIsi "str" ownI (fBin oIx (fVar 0) (fC (.int 0)))))))) (sRet (fC (.bl false))) (sNil)) (sSeq (sStar 2 1 (fVar 0) (bCons (bNm 4) (bCons (bNm 5) (bNil)))) (sSeq (sSet 6 (fGetK tab_FORMS (fVar 4))) (sSeq (sIf (fOrT (fTest (fBin oIsN (fVar 6) (fC .non))) (fTest (fBin oNe (fCall oLenA (fCons (fVar 6) (fNil))) (fCall oLenA (fCons (fVar 5) (fNil)))))) (sRet (fC (.bl false))) (sNil)) (sRet (fCall oAll (fCons (fLc (fZip (fVar 6) (fVar 5)) (bTup 2 (bCons (bNm 7) (bCons (bNm 8) (bNil)))) (fYes) (fCallF F.f_is_item_5 (fCons (fVar 7) (fCons (fVar 8) (fCons (fVar 1) (fCons (fVar 2) (fCons (fVar 3) (fNil))))))) (([("sort", 7), ("item", 8)] : List (Str × Nat)).map (·.2))) (fNil)))))))
theorem sc_is_row : FnScope N_is_row ["thing", "base", "at", "count"] (defScope (top 20)) := ⟨rfl, rfl, rfl, by decide +kernel, rfl, by decide +kernel, by decide +kernel⟩
def N_called_names : List Str := ["body", "row"]
def dn_called_names (F : Ph) : Ev → G → Rs := sRet (fLc (fSrc (fVar 0)) (bNm 1) (fTest (fBin oEq (fBin oIx (fVar 1) (fC (.int 0))) (fC (.str "call")))) (fBin oIx (fVar 1) (fC (.int 1))) (([("row", 1)] : List (Str × Nat)).map (·.2)))
theorem sc_called_names : FnScope N_called_names ["body"] (defScope (top 21)) := ⟨rfl, rfl, rfl, by decide +kernel, rfl, by decide +kernel, by decide +kernel⟩
def N_v_law_is_row : List Str := ["_law_item", "_law_mod", "_law_at", "_law_count", "_law_word", "_law_many"]
def dn_v_law_is_row (F : Ph) : Ev → G → Rs := sSeq (sIf (fOrT (fNotT (fTest (fIsi "tuple" ownI (fVar 0)))) (fOrT (fTest (fBin oLt (fCall oLenA (fCons (fVar 0) (fNil))) (fC (.int 2)))) (fNotT (fTest (fIsi "str" ownI (fBin oIx (fVar 0) (fC (.int 0)))))))) (sRet (fC (.bl false))) (sNil)) (sSeq (sPar 4 5 (fBin oIx (fVar 0) (fC (.int 0))) (fCall oLenA (fCons (fVar 0) (fNil)))) (sSeq (sIf (fTest (fBin oIn (fVar 4) (fTup (fCons (fC (.str "say")) (fCons (fC (.str "end")) (fNil)))))) (sRet (fAnd (fBin oEq (fVar 5) (fC (.int 2))) (fCallF F.f_v_law_is_expression_2 (fCons (fBin oIx (fVar 0) (fC (.int 1))) (fCons (fVar 1) (fNil)))))) (sNil)) (sSeq (sIf (fTest (fBin oEq (fVar 4) (fC (.str "set")))) (sRet (fAnd (fBin oEq (fVar 5) (fC (.int 3))) (fAnd (fCallF F.f_v_law_is_variable_1 (fCons (fBin oIx (fVar 0) (fC (.int 1))) (fNil))) (fCallF F.f_v_law_is_expression_2 (fCons (fBin oIx (fVar 0) (fC (.int 2))) (fCons (fVar 1) (fNil))))))) (sNil)) (sSeq (sIf (fTest (fBin oEq (fVar 4) (fC (.str "get")))) (sRet (fAnd (fBin oEq (fVar 5) (fC (.int 3))) (fAnd (fCallF F.f_v_law_is_variable_1 (fCons (fBin oIx (fVar 0) (fC (.int 1))) (fNil))) (fCallF F.f_v_law_is_slot_1 (fCons (fBin oIx (fVar 0) (fC (.int 2))) (fNil)))))) (sNil)) (sSeq (sIf (fTest (fBin oEq (fVar 4) (fC (.str "put")))) (sRet (fAnd (fBin oEq (fVar 5) (fC (.int 3))) (fAnd (fCallF F.f_v_law_is_slot_1 (fCons (fBin oIx (fVar 0) (fC (.int 1))) (fNil))) (fCallF F.f_v_law_is_expression_2 (fCons (fBin oIx (fVar 0) (fC (.int 2))) (fCons (fVar 1) (fNil))))))) (sNil)) (sSeq (sIf (fTest (fBin oNe (fVar 5) (fC (.int 4)))) (sRet (fC (.bl false))) (sNil)) (sSeq (sIf (fTest (fBin oEq (fVar 4) (fC (.str "call")))) (sRet (fAnd (fCallF F.f_v_law_is_name_1 (fCons (fBin oIx (fVar 0) (fC (.int 1))) (fNil))) (fAnd (fCallF F.f_v_law_is_expression_2 (fCons (fBin oIx (fVar 0) (fC (.int 2))) (fCons (fVar 1) (fNil)))) (fCallF F.f_v_law_is_variable_1 (fCons (fBin oIx (fVar 0) (fC (.int 3))) (fNil)))))) (sNil)) (sSeq (sIf (fOrT (fTest (fBin oNe (fVar 4) (fC (.str "if")))) (fOrT (fNotT (fTest (fCallF F.f_v_law_is_expression_2 (fCons (fBin oIx (fVar 0) (fC (.int 1))) (fCons (fVar 1) (fNil)))))) (fNotT (fTest (fCallF F.f_v_law_is_expression_2 (fCons (fBin oIx (fVar 0) (fC (.int 2))) (fCons (fVar 1) (fNil)))))))) (sRet (fC (.bl false))) (sNil)) (sRet (fAnd (fCallF F.f_v_law_is_whole_1 (fCons (fBin oIx (fVar 0) (fC (.int 3))) (fNil))) (fChain oLt oLe (fVar 2) (fBin oIx (fVar 0) (fC (.int 3))) (fVar 3))))))))))))
theorem sc_v_law_is_row : FnScope N_v_law_is_row ["_law_item", "_law_mod", "_law_at", "_law_count"] (defScope (top 56)) := ⟨rfl, rfl, rfl, by decide +kernel, rfl, by decide +kernel, by decide +kernel⟩
def N_is_integer : List Str := ["thing"]
def dn_is_integer (F : Ph) : Ev → G → Rs := sRet (fAnd (fIsi "int" ownI (fVar 0)) (fNot (fIsi "bool" ownI (fVar 0))))
theorem sc_is_integer : FnScope N_is_integer ["thing"] (defScope (top 11)) := ⟨rfl, rfl, rfl, by decide +kernel, rfl, by decide +kernel, by decide +kernel⟩
def N_v_law_operand : List Str := ["_law_bag_here", "_law_mod"]
def dn_v_law_operand (F : Ph) : Ev → G → Rs := sRet (fBin oIx (fLst (fCons (fC (.str "x")) (fCons (fC (.str "y")) (fCons (fC (.str "x")) (fCons (fCallF F.f_v_law_take_2 (fCons (fVar 0) (fCons (fVar 1) (fNil)))) (fNil)))))) (fCallF F.f_v_law_take_2 (fCons (fVar 0) (fCons (fC (.int 4)) (fNil)))))
theorem sc_v_law_operand : FnScope N_v_law_operand ["_law_bag_here", "_law_mod"] (defScope (top 44)) := ⟨rfl, rfl, rfl, by decide +kernel, rfl, by decide +kernel, by decide +kernel⟩
def N_is_item : List Str := ["sort", "thing", "base", "at", "count"]
def dn_is_item (F : Ph) : Ev → G → Rs := sSeq (sIf (fTest (fBin oEq (fVar 0) (fC (.str "v")))) (sRet (fCallF F.f_is_variable_1 (fCons (fVar 1) (fNil)))) (sNil)) (sSeq (sIf (fTest (fBin oEq (fVar 0) (fC (.str "s")))) (sRet (fCallF F.f_is_number_2 (fCons (fVar 1) (fCons (fC c_MOST_SLOTS) (fNil))))) (sNil)) (sSeq (sIf (fTest (fBin oEq (fVar 0) (fC (.str "e")))) (sRet (fCallF F.f_is_expression_2 (fCons (fVar 1) (fCons (fVar 2) (fNil))))) (sNil)) (sSeq (sIf (fTest (fBin oEq (fVar 0) (fC (.str "n")))) (sRet (fCallF F.f_is_name_bodies_1 (fCons (fVar 1) (fNil)))) (sNil)) (sRet (fAnd (fCallF F.f_is_integer_1 (fCons (fVar 1) (fNil))) (fChain oLt oLe (fVar 3) (fVar 1) (fVar 4)))))))
theorem sc_is_item : FnScope N_is_item ["sort", "thing", "base", "at", "count"] (defScope (top 19)) := ⟨rfl, rfl, rfl, by decide +kernel, rfl, by decide +kernel, by decide +kernel⟩
def N_v_law_is_expression : List Str := ["_law_item", "_law_mod"]
def dn_v_law_is_expression (F : Ph) : Ev → G → Rs := sSeq (sIf (fNotT (fTest (fIsi "tuple" ownI (fVar 0)))) (sRet (fCallF F.f_v_law_is_operand_2 (fCons (fVar 0) (fCons (fVar 1) (fNil))))) (sNil)) (sSeq (sIf (fOrT (fTest (fBin oNe (fCall oLenA (fCons (fVar 0) (fNil))) (fC (.int 3)))) (fOrT (fNotT (fTest (fIsi "str" ownI (fBin oIx (fVar 0) (fC (.int 0)))))) (fTest (fBin oNotIn (fBin oIx (fVar 0) (fC (.int 0))) (fTup (fCons (fC (.str "+")) (fCons (fC (.str "-")) (fCons (fC (.str "*")) (fNil))))))))) (sRet (fC (.bl false))) (sNil)) (sRet (fAnd (fCallF F.f_v_law_is_operand_2 (fCons (fBin oIx (fVar 0) (fC (.int 1))) (fCons (fVar 1) (fNil)))) (fCallF F.f_v_law_is_operand_2 (fCons (fBin oIx (fVar 0) (fC (.int 2))) (fCons (fVar 1) (fNil)))))))
theorem sc_v_law_is_expression : FnScope N_v_law_is_expression ["_law_item", "_law_mod"] (defScope (top 52)) := ⟨rfl, rfl, rfl, by decide +kernel, rfl, by decide +kernel, by decide +kernel⟩
def N_v_law_is_variable : List Str := ["_law_item"]
def dn_v_law_is_variable (F : Ph) : Ev → G → Rs := sRet (fAnd (fIsi "str" ownI (fVar 0)) (fBin oIn (fVar 0) (fTup (fCons (fC (.str "x")) (fCons (fC (.str "y")) (fNil))))))
theorem sc_v_law_is_variable : FnScope N_v_law_is_variable ["_law_item"] (defScope (top 55)) := ⟨rfl, rfl, rfl, by decide +kernel, rfl, by decide +kernel, by decide +kernel⟩
def N_v_law_is_slot : List Str := ["_law_item"]
def dn_v_law_is_slot (F : Ph) : Ev → G → Rs := sRet (fAnd (fCallF F.f_v_law_is_whole_1 (fCons (fVar 0) (fNil))) (fChain oLe oLt (fC (.int 0)) (fVar 0) (fC (.int 3))))
theorem sc_v_law_is_slot : FnScope N_v_law_is_slot ["_law_item"] (defScope (top 54)) := ⟨rfl, rfl, rfl, by decide +kernel, rfl, by decide +kernel, by decide +kernel⟩
def N_v_law_is_name : List Str := ["_law_item", "_law_letters", "_law_sign"]
def dn_v_law_is_name (F : Ph) : Ev → G → Rs := sSeq (sSet 1 (fC (.str "abcdefghijklmnopqrstuvwxyz"))) (sRet (fAnd (fIsi "str" ownI (fVar 0)) (fAnd (fChain oLe oLe (fC (.int 1)) (fCall oLenA (fCons (fVar 0) (fNil))) (fC (.int 8))) (fCall oAll (fCons (fLc (fSrc (fVar 0)) (bNm 2) (fYes) (fBin oIn (fVar 2) (fVar 1)) (([("_law_sign", 2)] : List (Str × Nat)).map (·.2))) (fNil))))))
theorem sc_v_law_is_name : FnScope N_v_law_is_name ["_law_item"] (defScope (top 53)) := ⟨rfl, rfl, rfl, by decide +kernel, rfl, by decide +kernel, by decide +kernel⟩
def N_v_law_is_whole : List Str := ["_law_item"]
def dn_v_law_is_whole (F : Ph) : Ev → G → Rs := sRet (fAnd (fIsi "int" ownI (fVar 0)) (fNot (fIsi "bool" ownI (fVar 0))))
theorem sc_v_law_is_whole : FnScope N_v_law_is_whole ["_law_item"] (defScope (top 50)) := ⟨rfl, rfl, rfl, by decide +kernel, rfl, by decide +kernel, by decide +kernel⟩
def N_is_variable : List Str := ["thing"]
def dn_is_variable (F : Ph) : Ev → G → Rs := sRet (fAnd (fIsi "str" ownI (fVar 0)) (fBin oIn (fVar 0) (fC c_VARIABLES)))
theorem sc_is_variable : FnScope N_is_variable ["thing"] (defScope (top 16)) := ⟨rfl, rfl, rfl, by decide +kernel, rfl, by decide +kernel, by decide +kernel⟩
def N_is_expression : List Str := ["thing", "base"]
def dn_is_expression (F : Ph) : Ev → G → Rs := sSeq (sIf (fNotT (fTest (fIsi "tuple" ownI (fVar 0)))) (sRet (fCallF F.f_is_operand_2 (fCons (fVar 0) (fCons (fVar 1) (fNil))))) (sNil)) (sSeq (sIf (fOrT (fTest (fBin oNe (fCall oLenA (fCons (fVar 0) (fNil))) (fC (.int 3)))) (fOrT (fNotT (fTest (fIsi "str" ownI (fBin oIx (fVar 0) (fC (.int 0)))))) (fTest (fBin oNotIn (fBin oIx (fVar 0) (fC (.int 0))) (fC c_SIGNS))))) (sRet (fC (.bl false))) (sNil)) (sRet (fAnd (fCallF F.f_is_operand_2 (fCons (fBin oIx (fVar 0) (fC (.int 1))) (fCons (fVar 1) (fNil)))) (fCallF F.f_is_operand_2 (fCons (fBin oIx (fVar 0) (fC (.int 2))) (fCons (fVar 1) (fNil)))))))
theorem sc_is_expression : FnScope N_is_expression ["thing", "base"] (defScope (top 18)) := ⟨rfl, rfl, rfl, by decide +kernel, rfl, by decide +kernel, by decide +kernel⟩
def N_v_law_is_operand : List Str := ["_law_item", "_law_mod"]
def dn_v_law_is_operand (F : Ph) : Ev → G → Rs := sRet (fOr (fAnd (fCallF F.f_v_law_is_whole_1 (fCons (fVar 0) (fNil))) (fChain oLe oLt (fC (.int 0)) (fVar 0) (fVar 1))) (fAnd (fIsi "str" ownI (fVar 0)) (fBin oIn (fVar 0) (fTup (fCons (fC (.str "x")) (fCons (fC (.str "y")) (fNil)))))))
theorem sc_v_law_is_operand : FnScope N_v_law_is_operand ["_law_item", "_law_mod"] (defScope (top 51)) := ⟨rfl, rfl, rfl, by decide +kernel, rfl, by decide +kernel, by decide +kernel⟩
def N_is_operand : List Str := ["thing", "base"]
def dn_is_operand (F : Ph) : Ev → G → Rs := sRet (fOr (fCallF F.f_is_number_2 (fCons (fVar 0) (fCons (fVar 1) (fNil)))) (fCallF F.f_is_variable_1 (fCons (fVar 0) (fNil))))
theorem sc_is_operand : FnScope N_is_operand ["thing", "base"] (defScope (top 17)) := ⟨rfl, rfl, rfl, by decide +kernel, rfl, by decide +kernel, by decide +kernel⟩
section
variable {P : Program} {w : World} {K : PySem.W.Frag} {mg : Str → Option Value} {base : Heap} {k : Nat} {F : Ph}
theorem b_law (T : Fx K w mg) (B : Bun P w K mg base k F) (f : Addr) (cdv : Value) (A : Around) (outer : List Env) (s : Shared) (H : Hp) (E : XK) (hr : Room k (A.deeper (envOfC "law" (defScope (top 60)) s.heap.objs.size f cdv))) :
    FB (cxOf (L2.CX P w) P w K mg base N_law "law" (defScope (top 60)) f cdv A outer s H E) (fun cls d _ H' => E cls d H') (defBody (top 60)) (dn_law F) := by
  have sc := sc_law
  have hu : (A.deeper (envOfC "law" (defScope (top 60)) s.heap.objs.size f cdv)).units + 64 < cLine := by
    have h := hr.un
    omega
  have tk : Takes (cxOf (L2.CX P w) P w K mg base N_law "law" (defScope (top 60)) f cdv A outer s H E) (fun cls d _ H' => E cls d H') := takes_of rfl rfl rfl rfl
  unfold dn_law
  exact (fb_cons (fs_for (passes_of rfl) rfl (fi_rng1 T.n_range (fe_callB (cs_max2 rfl) T.n_max bt_max (fa_cons fe_int (fa_cons (fe_callB (cs_min2 rfl) T.n_min bt_min (fa_cons fe_int (fa_cons (fe_callB cs_lenA T.n_len bt_len (fa_cons (fe_var 0) fa_nil)) fa_nil))) fa_nil)))) (fg_nm 1 sc.nd (Or.inl rfl)) (fb_cons (fs_set 2 sc.nd (Or.inr rfl) (fe_call B.f_v_law_bag_2 hr tk (fa_cons (fe_var 0) (fa_cons (fe_var 1) fa_nil))))
  (fb_cons (fs_asg (fe_tup (fa_cons (fe_bin os_add fe_int (fe_call B.f_v_law_take_2 hr tk (fa_cons (fe_var 2) (fa_cons fe_int fa_nil)))) (fa_cons (fe_lst (fa_cons (fe_mk0 B.m_House_0 hr tk) fa_nil)) fa_nil))) (fg_tup 2 (fgs_cons (fg_nm 3 sc.nd (Or.inr rfl)) (fgs_cons (fg_nm 4 sc.nd (Or.inr rfl)) fgs_nil))))
  (fb_cons (fs_set 5 sc.nd (Or.inr rfl) (fe_lc [("_law_turn", 9)] rfl sc.nd (fi_rng1 T.n_range fe_int) (blkOk_by (by kernel_rfl)) (fun _ _ _ _ _ => (fg_nm 9 sc.nd (Or.inl rfl))) (fun _ _ _ _ _ => fts_nil) (fun _ _ _ _ _ => (fe_call B.f_v_law_body_4 hr takes0 (fa_cons (fe_var 2) (fa_cons (fe_var 3) (fa_cons fe_int (fa_cons (fe_lst (fa_cons fe_str (fa_cons fe_str fa_nil))) fa_nil))))))))
  (fb_cons (fs_if (ft_w (fw_or (ft_cmp (os_ne hu) (fe_lc [("_law_rows", 10)] rfl sc.nd (fi_any (fe_var 5)) (blkOk_by (by kernel_rfl)) (fun _ _ _ _ _ => (fg_nm 10 sc.nd (Or.inl rfl))) (fun _ _ _ _ _ => fts_nil) (fun _ _ _ _ _ => (fe_call B.f_slots_of_1 hr takes0 (fa_cons (fe_var 10) fa_nil)))) (fe_lc [("_law_rows", 10)] rfl sc.nd (fi_any (fe_var 5)) (blkOk_by (by kernel_rfl)) (fun _ _ _ _ _ => (fg_nm 10 sc.nd (Or.inl rfl))) (fun _ _ _ _ _ => fts_nil) (fun _ _ _ _ _ => (fe_call B.f_v_law_slots_1 hr takes0 (fa_cons (fe_var 10) fa_nil))))) (fw_or1 (ft_cmp (os_ne hu) (fe_callK0 B.f_slots_of_0_body hr tk (fk_cons (fe_tup fa_nil) fk_nil)) fe_int)))) (fb_one (fs_ret fe_bl)) fb_nil)
  (fb_cons (fs_set 6 sc.nd (Or.inl rfl) (fe_bin os_add (fe_bin os_add (fe_var 5) (fe_call B.f_v_law_edges_1 hr tk (fa_cons (fe_var 3) fa_nil))) (fe_lst (fa_cons (fe_callTy cs_list T.n_list bt_list (fa_cons (fe_ix xs_ix (fe_var 5) fe_int) fa_nil)) (fa_cons fe_non (fa_cons (fe_call B.f_v_law_any_2 hr tk (fa_cons (fe_var 2) (fa_cons (fe_var 4) fa_nil))) fa_nil))))))
  (fb_cons (fs_set 6 sc.nd (Or.inl rfl) (fe_bin os_add (fe_var 6) (fe_lc [("_law_turn", 9)] rfl sc.nd (fi_rng1 T.n_range fe_int) (blkOk_by (by kernel_rfl)) (fun _ _ _ _ _ => (fg_nm 9 sc.nd (Or.inl rfl))) (fun _ _ _ _ _ => fts_nil) (fun _ _ _ _ _ => (fe_call B.f_v_law_spoilt_3 hr takes0 (fa_cons (fe_var 2) (fa_cons (fe_ix xs_ix (fe_var 5) (fe_bin os_mod (fe_var 9) fe_int)) (fa_cons (fe_var 4) fa_nil))))))))
  (fb_one (fs_for (passes_of rfl) rfl (fi_any (fe_var 6)) (fg_nm 7 sc.nd (Or.inl rfl)) (fb_cons (fs_set 8 sc.nd (Or.inl rfl) (fe_callK B.f_is_body_1_base hr tk (fa_cons (fe_var 7) fa_nil) (fk_cons (fe_var 3) fk_nil)))
  (fb_cons (fs_if (ft_w (fw_or (ft_not (ft_val (fe_isi "bool" ownI (fe_var 8) T.n_isinstance T.n_bool bt_bool (T.i_bool)))) (fw_or1 (ft_cmp (os_ne hu) (fe_var 8) (fe_call B.f_v_law_is_body_2 hr tk (fa_cons (fe_var 7) (fa_cons (fe_var 3) fa_nil))))))) (fb_one (fs_ret fe_bl)) fb_nil)
  (fb_one (fs_if (ft_cmp (os_ne hu) (fe_callK0 B.f_is_body_0_thing hr tk (fk_cons (fe_var 7) fk_nil)) (fe_call B.f_v_law_is_body_2 hr tk (fa_cons (fe_var 7) (fa_cons fe_int fa_nil)))) (fb_one (fs_ret fe_bl)) fb_nil)))))))))))))
  (fb_one (fs_ret fe_bl)))
theorem b_v_law_bag (T : Fx K w mg) (B : Bun P w K mg base k F) (f : Addr) (cdv : Value) (A : Around) (outer : List Env) (s : Shared) (H : Hp) (E : XK) (hr : Room k (A.deeper (envOfC "_law_bag" (defScope (top 42)) s.heap.objs.size f cdv))) :
    FB (cxOf (L2.CX P w) P w K mg base N_v_law_bag "_law_bag" (defScope (top 42)) f cdv A outer s H E) (fun cls d _ H' => E cls d H') (defBody (top 42)) (dn_v_law_bag F) := by
  have sc := sc_v_law_bag
  have hu : (A.deeper (envOfC "_law_bag" (defScope (top 42)) s.heap.objs.size f cdv)).units + 64 < cLine := by
    have h := hr.un
    omega
  have tk : Takes (cxOf (L2.CX P w) P w K mg base N_v_law_bag "_law_bag" (defScope (top 42)) f cdv A outer s H E) (fun cls d _ H' => E cls d H') := takes_of rfl rfl rfl rfl
  unfold dn_v_law_bag
  exact (fb_cons (fs_set 2 sc.nd (Or.inl rfl) (fe_if (ft_cmp os_lt (fe_var 1) (fe_callB cs_lenA T.n_len bt_len (fa_cons (fe_var 0) fa_nil))) (fe_ix xs_ix (fe_var 0) (fe_var 1)) fe_int))
  (fb_cons (fs_set 3 sc.nd (Or.inl rfl) (fe_if (ft_cmp os_ge (fe_callB cs_abs T.n_abs bt_abs (fa_cons (fe_var 2) fa_nil)) (fe_bin os_pow fe_int fe_int)) (fe_callB cs_abs T.n_abs bt_abs (fa_cons (fe_var 2) fa_nil)) fe_int))
  (fb_one (fs_ret (fe_lst (fa_cons (fe_var 3) (fa_cons (fe_bin os_mod (fe_bin os_pow (fe_bin os_add (fe_bin os_add (fe_bin os_mod (fe_var 2) fe_int) (fe_bin os_mul fe_int (fe_var 1))) fe_int) fe_int) fe_int) (fa_cons fe_int fa_nil))))))))
theorem b_House_init (T : Fx K w mg) (B : Bun P w K mg base k F) (f : Addr) (cdv : Value) (A : Around) (outer : List Env) (s : Shared) (H : Hp) (E : XK) (hr : Room k (A.deeper (envOfC "House.__init__" (defScope (inClass (top 40) 1)) s.heap.objs.size f cdv))) :
    FB (cxOf (L2.CX P w) P w K mg base N_House_init "House.__init__" (defScope (inClass (top 40) 1)) f cdv A outer s H E) (fun cls d _ H' => E cls d H') (defBody (inClass (top 40) 1)) (dn_House_init F) := by
  have sc := sc_House_init
  have hu : (A.deeper (envOfC "House.__init__" (defScope (inClass (top 40) 1)) s.heap.objs.size f cdv)).units + 64 < cLine := by
    have h := hr.un
    omega
  have tk : Takes (cxOf (L2.CX P w) P w K mg base N_House_init "House.__init__" (defScope (inClass (top 40) 1)) f cdv A outer s H E) (fun cls d _ H' => E cls d H') := takes_of rfl rfl rfl rfl
  unfold dn_House_init
  exact (fb_cons (fs_if (ft_not (ft_val (fe_call B.f_is_base_1 hr tk (fa_cons (fe_var 1) fa_nil)))) (fb_one fs_bad) fb_nil)
  (fb_cons (fs_forItems (passes_of rfl) rfl (fe_var 2) (fg_tup 2 (fgs_cons (fg_nm 3 sc.nd (Or.inl rfl)) (fgs_cons (fg_nm 4 sc.nd (Or.inl rfl)) fgs_nil))) (fb_cons (fs_if (ft_not (ft_val (fe_call B.f_is_name_bodies_1 hr tk (fa_cons (fe_var 3) fa_nil)))) (fb_one fs_bad) fb_nil)
  (fb_one (fs_if (ft_not (ft_val (fe_call B.f_is_number_2 hr tk (fa_cons (fe_var 4) (fa_cons (fe_var 1) fa_nil))))) (fb_one fs_bad) fb_nil))))
  (fb_cons (fs_if (ft_cmp os_gt (fe_callB cs_lenA T.n_len bt_len (fa_cons (fe_var 2) fa_nil)) (fe_glD T.g_MOST_CELLS)) (fb_one fs_bad) fb_nil)
  (fb_cons (fs_expr (fe_cmeth B.c_Parts_init_4 hr tk (fa_cons (fe_var 0) (fa_cons (fe_var 1) (fa_cons (fe_callTy cs_dict T.n_dict bt_dict (fa_cons (fe_var 2) fa_nil)) (fa_cons fe_dct0 fa_nil))))))
  (fb_one (fs_fld ownC T.a_past (fe_lst fa_nil) (fe_var 0)))))))
theorem b_v_law_take (T : Fx K w mg) (B : Bun P w K mg base k F) (f : Addr) (cdv : Value) (A : Around) (outer : List Env) (s : Shared) (H : Hp) (E : XK) (hr : Room k (A.deeper (envOfC "_law_take" (defScope (top 43)) s.heap.objs.size f cdv))) :
    FB (cxOf (L2.CX P w) P w K mg base N_v_law_take "_law_take" (defScope (top 43)) f cdv A outer s H E) (fun cls d _ H' => E cls d H') (defBody (top 43)) (dn_v_law_take F) := by
  have sc := sc_v_law_take
  have hu : (A.deeper (envOfC "_law_take" (defScope (top 43)) s.heap.objs.size f cdv)).units + 64 < cLine := by
    have h := hr.un
    omega
  have tk : Takes (cxOf (L2.CX P w) P w K mg base N_v_law_take "_law_take" (defScope (top 43)) f cdv A outer s H E) (fun cls d _ H' => E cls d H') := takes_of rfl rfl rfl rfl
  unfold dn_v_law_take
  exact (fb_cons (fs_if (ft_cmp os_gt (fe_ix xs_ix (fe_var 0) fe_int) fe_int) (fb_cons (fs_set 2 sc.nd (Or.inl rfl) (fe_bin os_mod (fe_ix xs_ix (fe_var 0) fe_int) (fe_var 1)))
  (fb_cons (fs_sub st_list (fe_bin os_div (fe_ix xs_ix (fe_var 0) fe_int) (fe_var 1)) (fe_var 0) fe_int)
  (fb_one (fs_ret (fe_var 2))))) fb_nil)
  (fb_cons (fs_sub st_list (fe_bin os_add (fe_ix xs_ix (fe_var 0) fe_int) fe_int) (fe_var 0) fe_int)
  (fb_cons (fs_sub st_list (fe_bin os_mod (fe_bin os_add (fe_bin os_add (fe_bin os_mul (fe_ix xs_ix (fe_var 0) fe_int) fe_int) (fe_bin os_mul (fe_bin os_mul fe_int (fe_ix xs_ix (fe_var 0) fe_int)) (fe_ix xs_ix (fe_var 0) fe_int))) fe_int) fe_int) (fe_var 0) fe_int)
  (fb_one (fs_ret (fe_bin os_mod (fe_bin os_mod (fe_bin os_pow (fe_bin os_div (fe_ix xs_ix (fe_var 0) fe_int) fe_int) fe_int) fe_int) (fe_var 1)))))))
theorem b_v_law_body (T : Fx K w mg) (B : Bun P w K mg base k F) (f : Addr) (cdv : Value) (A : Around) (outer : List Env) (s : Shared) (H : Hp) (E : XK) (hr : Room k (A.deeper (envOfC "_law_body" (defScope (top 47)) s.heap.objs.size f cdv))) :
    FB (cxOf (L2.CX P w) P w K mg base N_v_law_body "_law_body" (defScope (top 47)) f cdv A outer s H E) (fun cls d _ H' => E cls d H') (defBody (top 47)) (dn_v_law_body F) := by
  have sc := sc_v_law_body
  have hu : (A.deeper (envOfC "_law_body" (defScope (top 47)) s.heap.objs.size f cdv)).units + 64 < cLine := by
    have h := hr.un
    omega
  have tk : Takes (cxOf (L2.CX P w) P w K mg base N_v_law_body "_law_body" (defScope (top 47)) f cdv A outer s H E) (fun cls d _ H' => E cls d H') := takes_of rfl rfl rfl rfl
  unfold dn_v_law_body
  exact (fb_cons (fs_set 4 sc.nd (Or.inr rfl) (fe_call B.f_v_law_take_2 hr tk (fa_cons (fe_var 0) (fa_cons fe_int fa_nil))))
  (fb_cons (fs_setLc 5 [("_law_at", 8)] rfl sc.nd rfl (fi_rng1 T.n_range (fe_var 4)) (blkOk_by (by kernel_rfl)) (fun _ _ _ _ _ => (fg_nm 8 sc.nd (Or.inl rfl))) (fun _ _ _ _ _ => fts_nil) (fun _ _ _ _ _ => (fe_call B.f_v_law_row_5 hr takes0 (fa_cons (fe_var 0) (fa_cons (fe_var 1) (fa_cons (fe_var 2) (fa_cons (fe_var 8) (fa_cons (fe_var 4) fa_nil))))))))
  (fb_cons (fs_if (ft_w (fw_and (ft_cmp (os_ne hu) (fe_var 5) (fe_lst fa_nil)) (fw_and (ft_cmp (os_ne hu) (fe_var 3) (fe_lst fa_nil)) (fw_and1 (ft_cmp (os_eq hu) (fe_call B.f_v_law_take_2 hr tk (fa_cons (fe_var 0) (fa_cons fe_int fa_nil))) fe_int))))) (fb_cons (fs_par 6 7 rfl sc.nd rfl rfl (fe_ix xs_ix (fe_var 3) (fe_call B.f_v_law_take_2 hr tk (fa_cons (fe_var 0) (fa_cons (fe_callB cs_lenA T.n_len bt_len (fa_cons (fe_var 3) fa_nil)) fa_nil)))) (fe_call B.f_v_law_expression_2 hr tk (fa_cons (fe_var 0) (fa_cons (fe_var 1) fa_nil))))
  (fb_one (fs_sub st_list (fe_tup (fa_cons fe_str (fa_cons (fe_var 6) (fa_cons (fe_var 7) (fa_cons (fe_ix xs_ix fe_str (fe_call B.f_v_law_take_2 hr tk (fa_cons (fe_var 0) (fa_cons fe_int fa_nil)))) fa_nil))))) (fe_var 5) (fe_call B.f_v_law_take_2 hr tk (fa_cons (fe_var 0) (fa_cons (fe_var 4) fa_nil)))))) fb_nil)
  (fb_one (fs_ret (fe_callTy cs_tuple T.n_tuple bt_tuple (fa_cons (fe_var 5) fa_nil)))))))
theorem b_slots_of (T : Fx K w mg) (B : Bun P w K mg base k F) (f : Addr) (cdv : Value) (A : Around) (outer : List Env) (s : Shared) (H : Hp) (E : XK) (hr : Room k (A.deeper (envOfC "slots_of" (defScope (top 23)) s.heap.objs.size f cdv))) :
    FB (cxOf (L2.CX P w) P w K mg base N_slots_of "slots_of" (defScope (top 23)) f cdv A outer s H E) (fun cls d _ H' => E cls d H') (defBody (top 23)) (dn_slots_of F) := by
  have sc := sc_slots_of
  have hu : (A.deeper (envOfC "slots_of" (defScope (top 23)) s.heap.objs.size f cdv)).units + 64 < cLine := by
    have h := hr.un
    omega
  have tk : Takes (cxOf (L2.CX P w) P w K mg base N_slots_of "slots_of" (defScope (top 23)) f cdv A outer s H E) (fun cls d _ H' => E cls d H') := takes_of rfl rfl rfl rfl
  unfold dn_slots_of
  exact (fb_cons (fs_set 1 sc.nd (Or.inl rfl) (fe_bin os_add (fe_lc [("row", 2)] rfl sc.nd (fi_any (fe_var 0)) (blkOk_by (by kernel_rfl)) (fun _ _ _ _ _ => (fg_nm 2 sc.nd (Or.inl rfl))) (fun _ _ _ _ _ => (fts_one (ft_cmp (os_eq hu) (fe_ix xs_ix (fe_var 2) fe_int) fe_str))) (fun _ _ _ _ _ => (fe_ix xs_ix (fe_var 2) fe_int))) (fe_lc [("row", 2)] rfl sc.nd (fi_any (fe_var 0)) (blkOk_by (by kernel_rfl)) (fun _ _ _ _ _ => (fg_nm 2 sc.nd (Or.inl rfl))) (fun _ _ _ _ _ => (fts_one (ft_cmp (os_eq hu) (fe_ix xs_ix (fe_var 2) fe_int) fe_str))) (fun _ _ _ _ _ => (fe_ix xs_ix (fe_var 2) fe_int)))))
  (fb_one (fs_ret (fe_bin os_add fe_int (fe_maxDf rfl T.n_max (fa_cons (fe_var 1) fa_nil) (fk_cons (fe_un us_neg fe_int) fk_nil))))))
theorem b_v_law_slots (T : Fx K w mg) (B : Bun P w K mg base k F) (f : Addr) (cdv : Value) (A : Around) (outer : List Env) (s : Shared) (H : Hp) (E : XK) (hr : Room k (A.deeper (envOfC "_law_slots" (defScope (top 59)) s.heap.objs.size f cdv))) :
    FB (cxOf (L2.CX P w) P w K mg base N_v_law_slots "_law_slots" (defScope (top 59)) f cdv A outer s H E) (fun cls d _ H' => E cls d H') (defBody (top 59)) (dn_v_law_slots F) := by
  have sc := sc_v_law_slots
  have hu : (A.deeper (envOfC "_law_slots" (defScope (top 59)) s.heap.objs.size f cdv)).units + 64 < cLine := by
    have h := hr.un
    omega
  have tk : Takes (cxOf (L2.CX P w) P w K mg base N_v_law_slots "_law_slots" (defScope (top 59)) f cdv A outer s H E) (fun cls d _ H' => E cls d H') := takes_of rfl rfl rfl rfl
  unfold dn_v_law_slots
  exact (fb_cons (fs_set 1 sc.nd (Or.inl rfl) (fe_bin os_add (fe_lc [("_law_row_here", 2)] rfl sc.nd (fi_any (fe_var 0)) (blkOk_by (by kernel_rfl)) (fun _ _ _ _ _ => (fg_nm 2 sc.nd (Or.inl rfl))) (fun _ _ _ _ _ => (fts_one (ft_cmp (os_eq hu) (fe_ix xs_ix (fe_var 2) fe_int) fe_str))) (fun _ _ _ _ _ => (fe_ix xs_ix (fe_var 2) fe_int))) (fe_lc [("_law_row_here", 2)] rfl sc.nd (fi_any (fe_var 0)) (blkOk_by (by kernel_rfl)) (fun _ _ _ _ _ => (fg_nm 2 sc.nd (Or.inl rfl))) (fun _ _ _ _ _ => (fts_one (ft_cmp (os_eq hu) (fe_ix xs_ix (fe_var 2) fe_int) fe_str))) (fun _ _ _ _ _ => (fe_ix xs_ix (fe_var 2) fe_int)))))
  (fb_one (fs_ret (fe_bin os_add (fe_callB (cs_maxL rfl) T.n_max bt_max (fa_cons (fe_bin os_add (fe_var 1) (fe_lst (fa_cons (fe_un us_neg fe_int) fa_nil))) fa_nil)) fe_int))))
theorem b_v_law_edges (T : Fx K w mg) (B : Bun P w K mg base k F) (f : Addr) (cdv : Value) (A : Around) (outer : List Env) (s : Shared) (H : Hp) (E : XK) (hr : Room k (A.deeper (envOfC "_law_edges" (defScope (top 58)) s.heap.objs.size f cdv))) :
    FB (cxOf (L2.CX P w) P w K mg base N_v_law_edges "_law_edges" (defScope (top 58)) f cdv A outer s H E) (fun cls d _ H' => E cls d H') (defBody (top 58)) (dn_v_law_edges F) := by
  have sc := sc_v_law_edges
  have hu : (A.deeper (envOfC "_law_edges" (defScope (top 58)) s.heap.objs.size f cdv)).units + 64 < cLine := by
    have h := hr.un
    omega
  have tk : Takes (cxOf (L2.CX P w) P w K mg base N_v_law_edges "_law_edges" (defScope (top 58)) f cdv A outer s H E) (fun cls d _ H' => E cls d H') := takes_of rfl rfl rfl rfl
  unfold dn_v_law_edges
  exact (fb_cons (fs_set 1 sc.nd (Or.inl rfl) (fe_lst (fa_cons (fe_tup (fa_cons fe_str (fa_cons fe_str (fa_cons (fe_var 0) fa_nil)))) (fa_cons (fe_tup (fa_cons fe_str (fa_cons fe_str (fa_cons (fe_bin os_sub (fe_var 0) fe_int) fa_nil)))) (fa_cons (fe_tup (fa_cons fe_str (fa_cons fe_str (fa_cons fe_int fa_nil)))) (fa_cons (fe_tup (fa_cons fe_str (fa_cons fe_str (fa_cons fe_int fa_nil)))) (fa_cons (fe_tup (fa_cons fe_str (fa_cons fe_str (fa_cons fe_int fa_nil)))) (fa_cons (fe_tup (fa_cons fe_str (fa_cons (fe_un us_neg fe_int) (fa_cons fe_int fa_nil)))) fa_nil))))))))
  (fb_cons (fs_set 1 sc.nd (Or.inl rfl) (fe_bin os_add (fe_var 1) (fe_lst (fa_cons (fe_tup (fa_cons fe_str (fa_cons fe_int (fa_cons (fe_tup (fa_cons fe_str (fa_cons fe_str (fa_cons (fe_bin os_sub (fe_var 0) fe_int) fa_nil)))) fa_nil)))) (fa_cons (fe_tup (fa_cons fe_str (fa_cons fe_int (fa_cons (fe_tup (fa_cons fe_str (fa_cons fe_str (fa_cons (fe_var 0) fa_nil)))) fa_nil)))) (fa_cons (fe_tup (fa_cons fe_str (fa_cons (fe_tup (fa_cons fe_str (fa_cons fe_str (fa_cons fe_str fa_nil)))) fa_nil))) (fa_cons (fe_tup (fa_cons fe_str fa_nil)) fa_nil)))))))
  (fb_cons (fs_set 1 sc.nd (Or.inl rfl) (fe_bin os_add (fe_var 1) (fe_lst (fa_cons (fe_tup (fa_cons fe_str (fa_cons fe_str (fa_cons fe_str (fa_cons fe_int fa_nil))))) (fa_cons (fe_tup (fa_cons fe_str (fa_cons fe_str (fa_cons fe_str (fa_cons fe_int fa_nil))))) (fa_cons (fe_tup (fa_cons fe_str (fa_cons fe_str (fa_cons fe_str (fa_cons fe_int fa_nil))))) (fa_cons (fe_tup (fa_cons fe_str (fa_cons fe_str (fa_cons fe_str (fa_cons fe_int fa_nil))))) (fa_cons (fe_tup (fa_cons fe_str (fa_cons fe_bl fa_nil))) fa_nil))))))))
  (fb_cons (fs_set 1 sc.nd (Or.inl rfl) (fe_bin os_add (fe_var 1) (fe_lst (fa_cons (fe_tup (fa_cons fe_str (fa_cons fe_str (fa_cons fe_str (fa_cons fe_bl fa_nil))))) (fa_cons (fe_tup (fa_cons fe_str (fa_cons fe_str (fa_cons fe_int (fa_cons fe_str fa_nil))))) (fa_cons (fe_tup (fa_cons fe_str (fa_cons fe_str (fa_cons fe_int (fa_cons fe_str fa_nil))))) fa_nil))))))
  (fb_cons (fs_set 1 sc.nd (Or.inl rfl) (fe_bin os_add (fe_var 1) (fe_lst (fa_cons (fe_tup (fa_cons fe_str (fa_cons fe_str (fa_cons fe_int (fa_cons fe_str fa_nil))))) (fa_cons (fe_tup (fa_cons fe_str (fa_cons fe_str (fa_cons fe_int (fa_cons fe_int fa_nil))))) (fa_cons (fe_tup (fa_cons fe_str (fa_cons fe_str (fa_cons fe_str fa_nil)))) (fa_cons (fe_tup (fa_cons fe_str (fa_cons fe_str (fa_cons fe_bl fa_nil)))) fa_nil)))))))
  (fb_cons (fs_set 1 sc.nd (Or.inl rfl) (fe_bin os_add (fe_var 1) (fe_lst (fa_cons (fe_tup (fa_cons fe_str (fa_cons (fe_tup (fa_cons fe_str (fa_cons fe_str fa_nil))) fa_nil))) (fa_cons (fe_tup (fa_cons fe_str (fa_cons (fe_tup (fa_cons fe_str (fa_cons (fe_tup (fa_cons fe_str fa_nil)) (fa_cons fe_int fa_nil)))) fa_nil))) fa_nil)))))
  (fb_cons (fs_set 2 sc.nd (Or.inl rfl) (fe_bin os_add (fe_lc [("_law_row_here", 3)] rfl sc.nd (fi_any (fe_var 1)) (blkOk_by (by kernel_rfl)) (fun _ _ _ _ _ => (fg_nm 3 sc.nd (Or.inl rfl))) (fun _ _ _ _ _ => fts_nil) (fun _ _ _ _ _ => (fe_tup (fa_cons (fe_var 3) (fa_cons (fe_tup (fa_cons fe_str (fa_cons fe_str fa_nil))) fa_nil))))) (fe_lst (fa_cons (fe_bin os_mul (fe_tup (fa_cons (fe_tup (fa_cons fe_str (fa_cons fe_str (fa_cons fe_int (fa_cons fe_str fa_nil))))) fa_nil)) fe_int) (fa_cons (fe_tup fa_nil) fa_nil)))))
  (fb_one (fs_ret (fe_bin os_add (fe_var 2) (fe_lst (fa_cons (fe_bin os_mul (fe_tup (fa_cons (fe_tup (fa_cons fe_str (fa_cons fe_int fa_nil))) fa_nil)) fe_int) (fa_cons (fe_bin os_mul (fe_tup (fa_cons (fe_tup (fa_cons fe_str (fa_cons fe_int fa_nil))) fa_nil)) fe_int) fa_nil)))))))))))))
theorem b_v_law_any (T : Fx K w mg) (B : Bun P w K mg base k F) (f : Addr) (cdv : Value) (A : Around) (outer : List Env) (s : Shared) (H : Hp) (E : XK) (hr : Room k (A.deeper (envOfC "_law_any" (defScope (top 48)) s.heap.objs.size f cdv))) :
    FB (cxOf (L2.CX P w) P w K mg base N_v_law_any "_law_any" (defScope (top 48)) f cdv A outer s H E) (fun cls d _ H' => E cls d H') (defBody (top 48)) (dn_v_law_any F) := by
  have sc := sc_v_law_any
  have hu : (A.deeper (envOfC "_law_any" (defScope (top 48)) s.heap.objs.size f cdv)).units + 64 < cLine := by
    have h := hr.un
    omega
  have tk : Takes (cxOf (L2.CX P w) P w K mg base N_v_law_any "_law_any" (defScope (top 48)) f cdv A outer s H E) (fun cls d _ H' => E cls d H') := takes_of rfl rfl rfl rfl
  unfold dn_v_law_any
  exact (fb_cons (fs_set 2 sc.nd (Or.inl rfl) (fe_lst (fa_cons fe_non (fa_cons fe_bl (fa_cons fe_bl (fa_cons fe_int (fa_cons fe_int (fa_cons (fe_un us_neg fe_int) (fa_cons fe_int (fa_cons fe_int (fa_cons (fe_bin os_pow fe_int fe_int) (fa_cons fe_str (fa_cons fe_str (fa_cons fe_str (fa_cons fe_str (fa_cons fe_str (fa_cons (fe_lst fa_nil) (fa_cons (fe_tup fa_nil) (fa_cons (fe_lst (fa_cons fe_int fa_nil)) (fa_cons (fe_tup (fa_cons fe_str (fa_cons fe_int fa_nil))) (fa_cons (fe_tup (fa_cons (fe_tup (fa_cons fe_str (fa_cons fe_int fa_nil))) fa_nil)) fa_nil)))))))))))))))))))))
  (fb_cons (fs_set 2 sc.nd (Or.inl rfl) (fe_bin os_add (fe_bin os_add (fe_bin os_add (fe_var 2) (fe_lst (fa_cons (fe_tup (fa_cons fe_str (fa_cons fe_int fa_nil))) (fa_cons (fe_tup (fa_cons fe_str (fa_cons fe_str (fa_cons fe_int fa_nil)))) (fa_cons (fe_lst (fa_cons fe_str fa_nil)) (fa_cons (fe_tup (fa_cons fe_non (fa_cons (fe_lst (fa_cons fe_int fa_nil)) fa_nil))) fa_nil)))))) (fe_var 1)) (fe_lc [("_law_one", 3)] rfl sc.nd (fi_any (fe_var 1)) (blkOk_by (by kernel_rfl)) (fun _ _ _ _ _ => (fg_nm 3 sc.nd (Or.inl rfl))) (fun _ _ _ _ _ => fts_nil) (fun _ _ _ _ _ => (fe_tup (fa_cons (fe_var 3) fa_nil))))))
  (fb_one (fs_ret (fe_ix xs_ix (fe_var 2) (fe_call B.f_v_law_take_2 hr tk (fa_cons (fe_var 0) (fa_cons (fe_callB cs_lenA T.n_len bt_len (fa_cons (fe_var 2) fa_nil)) fa_nil))))))))
theorem b_v_law_spoilt (T : Fx K w mg) (B : Bun P w K mg base k F) (f : Addr) (cdv : Value) (A : Around) (outer : List Env) (s : Shared) (H : Hp) (E : XK) (hr : Room k (A.deeper (envOfC "_law_spoilt" (defScope (top 49)) s.heap.objs.size f cdv))) :
    FB (cxOf (L2.CX P w) P w K mg base N_v_law_spoilt "_law_spoilt" (defScope (top 49)) f cdv A outer s H E) (fun cls d _ H' => E cls d H') (defBody (top 49)) (dn_v_law_spoilt F) := by
  have sc := sc_v_law_spoilt
  have hu : (A.deeper (envOfC "_law_spoilt" (defScope (top 49)) s.heap.objs.size f cdv)).units + 64 < cLine := by
    have h := hr.un
    omega
  have tk : Takes (cxOf (L2.CX P w) P w K mg base N_v_law_spoilt "_law_spoilt" (defScope (top 49)) f cdv A outer s H E) (fun cls d _ H' => E cls d H') := takes_of rfl rfl rfl rfl
  unfold dn_v_law_spoilt
  exact (fb_cons (fs_if (ft_w (fw_or (ft_not (ft_val (fe_isi "tuple" ownI (fe_var 1) T.n_isinstance T.n_tuple bt_tuple (T.i_tuple)))) (fw_or (ft_cmp (os_eq hu) (fe_var 1) (fe_tup fa_nil)) (fw_or1 (ft_cmp (os_eq hu) (fe_call B.f_v_law_take_2 hr tk (fa_cons (fe_var 0) (fa_cons fe_int fa_nil))) fe_int))))) (fb_cons (fs_set 3 sc.nd (Or.inl rfl) (fe_call B.f_v_law_take_2 hr tk (fa_cons (fe_var 0) (fa_cons fe_int fa_nil))))
  (fb_cons (fs_if (ft_w (fw_and (ft_cmp (os_eq hu) (fe_var 3) fe_int) (fw_and1 (ft_val (fe_isi "int" ownI (fe_var 1) T.n_isinstance T.n_int bt_int (T.i_int)))))) (fb_one (fs_ret (fe_ix xs_ix (fe_tup (fa_cons (fe_bin os_add (fe_var 1) fe_int) (fa_cons (fe_bin os_sub (fe_var 1) fe_int) (fa_cons (fe_callTy cs_bool T.n_bool bt_bool (fa_cons (fe_var 1) fa_nil)) (fa_cons (fe_bin os_add (fe_var 1) fe_int) fa_nil))))) (fe_call B.f_v_law_take_2 hr tk (fa_cons (fe_var 0) (fa_cons fe_int fa_nil)))))) fb_nil)
  (fb_cons (fs_if (ft_w (fw_and (ft_cmp (os_eq hu) (fe_var 3) fe_int) (fw_and1 (ft_val (fe_isi "str" ownI (fe_var 1) T.n_isinstance T.n_str bt_str (T.i_str)))))) (fb_one (fs_ret (fe_ix xs_ix (fe_tup (fa_cons (fe_bin os_add (fe_var 1) fe_str) (fa_cons (fe_sl (fe_var 1) fp_none (fp_some (fe_un us_neg fe_int))) (fa_cons fe_str (fa_cons fe_str (fa_cons fe_str (fa_cons fe_str (fa_cons fe_str (fa_cons fe_str fa_nil))))))))) (fe_call B.f_v_law_take_2 hr tk (fa_cons (fe_var 0) (fa_cons fe_int fa_nil)))))) fb_nil)
  (fb_one (fs_ret (fe_call B.f_v_law_any_2 hr tk (fa_cons (fe_var 0) (fa_cons (fe_var 2) fa_nil)))))))) fb_nil)
  (fb_cons (fs_par 3 4 rfl sc.nd rfl rfl (fe_call B.f_v_law_take_2 hr tk (fa_cons (fe_var 0) (fa_cons fe_int fa_nil))) (fe_call B.f_v_law_take_2 hr tk (fa_cons (fe_var 0) (fa_cons (fe_callB cs_lenA T.n_len bt_len (fa_cons (fe_var 1) fa_nil)) fa_nil))))
  (fb_cons (fs_if (ft_cmp (os_eq hu) (fe_var 3) fe_int) (fb_one (fs_ret (fe_bin os_add (fe_sl (fe_var 1) fp_none (fp_some (fe_var 4))) (fe_sl (fe_var 1) (fp_some (fe_bin os_add (fe_var 4) fe_int)) fp_none)))) fb_nil)
  (fb_cons (fs_if (ft_cmp (os_eq hu) (fe_var 3) fe_int) (fb_one (fs_ret (fe_bin os_add (fe_bin os_add (fe_sl (fe_var 1) fp_none (fp_some (fe_var 4))) (fe_tup (fa_cons (fe_ix xs_ix (fe_var 1) (fe_var 4)) fa_nil))) (fe_sl (fe_var 1) (fp_some (fe_var 4)) fp_none)))) fb_nil)
  (fb_cons (fs_if (ft_cmp (os_eq hu) (fe_var 3) fe_int) (fb_one (fs_ret (fe_ix xs_ix (fe_lst (fa_cons (fe_callTy cs_list T.n_list bt_list (fa_cons (fe_var 1) fa_nil)) (fa_cons (fe_rev (fe_var 1)) (fa_cons (fe_bin os_add (fe_var 1) (fe_tup (fa_cons (fe_call B.f_v_law_any_2 hr tk (fa_cons (fe_var 0) (fa_cons (fe_var 2) fa_nil))) fa_nil))) fa_nil)))) (fe_call B.f_v_law_take_2 hr tk (fa_cons (fe_var 0) (fa_cons fe_int fa_nil)))))) fb_nil)
  (fb_cons (fs_if (ft_cmp (os_eq hu) (fe_var 3) fe_int) (fb_one (fs_ret (fe_bin os_add (fe_bin os_add (fe_sl (fe_var 1) fp_none (fp_some (fe_var 4))) (fe_tup (fa_cons (fe_ix xs_ix (fe_var 1) (fe_bin os_sub (fe_var 4) fe_int)) fa_nil))) (fe_sl (fe_var 1) (fp_some (fe_bin os_add (fe_var 4) fe_int)) fp_none)))) fb_nil)
  (fb_one (fs_ret (fe_bin os_add (fe_bin os_add (fe_sl (fe_var 1) fp_none (fp_some (fe_var 4))) (fe_tup (fa_cons (fe_call B.f_v_law_spoilt_3 hr tk (fa_cons (fe_var 0) (fa_cons (fe_ix xs_ix (fe_var 1) (fe_var 4)) (fa_cons (fe_var 2) fa_nil)))) fa_nil))) (fe_sl (fe_var 1) (fp_some (fe_bin os_add (fe_var 4) fe_int)) fp_none))))))))))
theorem b_is_body (T : Fx K w mg) (B : Bun P w K mg base k F) (f : Addr) (cdv : Value) (A : Around) (outer : List Env) (s : Shared) (H : Hp) (E : XK) (hr : Room k (A.deeper (envOfC "is_body" (defScope (top 22)) s.heap.objs.size f cdv))) :
    FB (cxOf (L2.CX P w) P w K mg base N_is_body "is_body" (defScope (top 22)) f cdv A outer s H E) (fun cls d _ H' => E cls d H') (defBody (top 22)) (dn_is_body F) := by
  have sc := sc_is_body
  have hu : (A.deeper (envOfC "is_body" (defScope (top 22)) s.heap.objs.size f cdv)).units + 64 < cLine := by
    have h := hr.un
    omega
  have tk : Takes (cxOf (L2.CX P w) P w K mg base N_is_body "is_body" (defScope (top 22)) f cdv A outer s H E) (fun cls d _ H' => E cls d H') := takes_of rfl rfl rfl rfl
  unfold dn_is_body
  exact (fb_cons (fs_if (ft_w (fw_or (ft_not (ft_val (fe_isi "tuple" ownI (fe_var 0) T.n_isinstance T.n_tuple bt_tuple (T.i_tuple)))) (fw_or1 (ft_cmp os_gt (fe_callB cs_lenA T.n_len bt_len (fa_cons (fe_var 0) fa_nil)) (fe_glD T.g_MOST_ROWS))))) (fb_one (fs_ret fe_bl)) fb_nil)
  (fb_cons (fs_if (ft_not (ft_val (fe_callB (cs_all rfl) T.n_all bt_all (fa_cons (fe_lc [("at", 2), ("row", 3)] rfl sc.nd (fi_enum T.n_enumerate (fe_var 0)) (blkOk_by (by kernel_rfl)) (fun _ _ _ _ _ => (fg_tup 2 (fgs_cons (fg_nm 2 sc.nd (Or.inl rfl)) (fgs_cons (fg_nm 3 sc.nd (Or.inl rfl)) fgs_nil)))) (fun _ _ _ _ _ => fts_nil) (fun _ _ _ _ _ => (fe_call B.f_is_row_4 hr takes0 (fa_cons (fe_var 3) (fa_cons (fe_var 1) (fa_cons (fe_var 2) (fa_cons (fe_callB cs_lenA T.n_len bt_len (fa_cons (fe_var 0) fa_nil)) fa_nil))))))) fa_nil)))) (fb_one (fs_ret fe_bl)) fb_nil)
  (fb_one (fs_ret (fe_cmp os_le (fe_callB cs_lenA T.n_len bt_len (fa_cons (fe_call B.f_called_names_1 hr tk (fa_cons (fe_var 0) fa_nil)) fa_nil)) (fe_glD T.g_MOST_CALLS))))))
theorem b_v_law_is_body (T : Fx K w mg) (B : Bun P w K mg base k F) (f : Addr) (cdv : Value) (A : Around) (outer : List Env) (s : Shared) (H : Hp) (E : XK) (hr : Room k (A.deeper (envOfC "_law_is_body" (defScope (top 57)) s.heap.objs.size f cdv))) :
    FB (cxOf (L2.CX P w) P w K mg base N_v_law_is_body "_law_is_body" (defScope (top 57)) f cdv A outer s H E) (fun cls d _ H' => E cls d H') (defBody (top 57)) (dn_v_law_is_body F) := by
  have sc := sc_v_law_is_body
  have hu : (A.deeper (envOfC "_law_is_body" (defScope (top 57)) s.heap.objs.size f cdv)).units + 64 < cLine := by
    have h := hr.un
    omega
  have tk : Takes (cxOf (L2.CX P w) P w K mg base N_v_law_is_body "_law_is_body" (defScope (top 57)) f cdv A outer s H E) (fun cls d _ H' => E cls d H') := takes_of rfl rfl rfl rfl
  unfold dn_v_law_is_body
  exact (fb_cons (fs_if (ft_w (fw_or (ft_not (ft_val (fe_isi "tuple" ownI (fe_var 0) T.n_isinstance T.n_tuple bt_tuple (T.i_tuple)))) (fw_or1 (ft_cmp os_gt (fe_callB cs_lenA T.n_len bt_len (fa_cons (fe_var 0) fa_nil)) fe_int)))) (fb_one (fs_ret fe_bl)) fb_nil)
  (fb_cons (fs_if (ft_not (ft_val (fe_callB (cs_all rfl) T.n_all bt_all (fa_cons (fe_lc [("_law_at", 2), ("_law_row_here", 3)] rfl sc.nd (fi_enum T.n_enumerate (fe_var 0)) (blkOk_by (by kernel_rfl)) (fun _ _ _ _ _ => (fg_tup 2 (fgs_cons (fg_nm 2 sc.nd (Or.inl rfl)) (fgs_cons (fg_nm 3 sc.nd (Or.inl rfl)) fgs_nil)))) (fun _ _ _ _ _ => fts_nil) (fun _ _ _ _ _ => (fe_call B.f_v_law_is_row_4 hr takes0 (fa_cons (fe_var 3) (fa_cons (fe_var 1) (fa_cons (fe_var 2) (fa_cons (fe_callB cs_lenA T.n_len bt_len (fa_cons (fe_var 0) fa_nil)) fa_nil))))))) fa_nil)))) (fb_one (fs_ret fe_bl)) fb_nil)
  (fb_one (fs_ret (fe_cmp os_lt (fe_callB cs_lenA T.n_len bt_len (fa_cons (fe_lc [("_law_row_here", 3)] rfl sc.nd (fi_any (fe_var 0)) (blkOk_by (by kernel_rfl)) (fun _ _ _ _ _ => (fg_nm 3 sc.nd (Or.inl rfl))) (fun _ _ _ _ _ => (fts_one (ft_cmp (os_eq hu) (fe_ix xs_ix (fe_var 3) fe_int) fe_str))) (fun _ _ _ _ _ => (fe_var 3))) fa_nil)) fe_int)))))
theorem b_is_base (T : Fx K w mg) (B : Bun P w K mg base k F) (f : Addr) (cdv : Value) (A : Around) (outer : List Env) (s : Shared) (H : Hp) (E : XK) (hr : Room k (A.deeper (envOfC "is_base" (defScope (top 12)) s.heap.objs.size f cdv))) :
    FB (cxOf (L2.CX P w) P w K mg base N_is_base "is_base" (defScope (top 12)) f cdv A outer s H E) (fun cls d _ H' => E cls d H') (defBody (top 12)) (dn_is_base F) := by
  have sc := sc_is_base
  have hu : (A.deeper (envOfC "is_base" (defScope (top 12)) s.heap.objs.size f cdv)).units + 64 < cLine := by
    have h := hr.un
    omega
  have tk : Takes (cxOf (L2.CX P w) P w K mg base N_is_base "is_base" (defScope (top 12)) f cdv A outer s H E) (fun cls d _ H' => E cls d H') := takes_of rfl rfl rfl rfl
  unfold dn_is_base
  exact (fb_one (fs_ret (fe_and (fe_call B.f_is_integer_1 hr tk (fa_cons (fe_var 0) fa_nil)) (fe_one (fe_cmp os_in (fe_var 0) (fe_glD T.g_BASES))))))
theorem b_is_name (T : Fx K w mg) (B : Bun P w K mg base k F) (f : Addr) (cdv : Value) (A : Around) (outer : List Env) (s : Shared) (H : Hp) (E : XK) (hr : Room k (A.deeper (envOfC "is_name" (defScope (top 14)) s.heap.objs.size f cdv))) :
    FB (cxOf (L2.CX P w) P w K mg base N_is_name "is_name" (defScope (top 14)) f cdv A outer s H E) (fun cls d _ H' => E cls d H') (defBody (top 14)) (dn_is_name F) := by
  have sc := sc_is_name
  have hu : (A.deeper (envOfC "is_name" (defScope (top 14)) s.heap.objs.size f cdv)).units + 64 < cLine := by
    have h := hr.un
    omega
  have tk : Takes (cxOf (L2.CX P w) P w K mg base N_is_name "is_name" (defScope (top 14)) f cdv A outer s H E) (fun cls d _ H' => E cls d H') := takes_of rfl rfl rfl rfl
  unfold dn_is_name
  exact (fb_one (fs_ret (fe_and (fe_isi "str" ownI (fe_var 0) T.n_isinstance T.n_str bt_str (T.i_str)) (fe_and (fe_chain os_le os_le fe_int (fe_callB cs_lenA T.n_len bt_len (fa_cons (fe_var 0) fa_nil)) (fe_glD T.g_MOST_LETTERS)) (fe_one (fe_callB (cs_all rfl) T.n_all bt_all (fa_cons (fe_lc [("sign", 1)] rfl sc.nd (fi_any (fe_var 0)) (blkOk_by (by kernel_rfl)) (fun _ _ _ _ _ => (fg_nm 1 sc.nd (Or.inl rfl))) (fun _ _ _ _ _ => fts_nil) (fun _ _ _ _ _ => (fe_cmp os_in (fe_var 1) (fe_glD T.g_LETTERS)))) fa_nil)))))))
theorem b_is_number (T : Fx K w mg) (B : Bun P w K mg base k F) (f : Addr) (cdv : Value) (A : Around) (outer : List Env) (s : Shared) (H : Hp) (E : XK) (hr : Room k (A.deeper (envOfC "is_number" (defScope (top 13)) s.heap.objs.size f cdv))) :
    FB (cxOf (L2.CX P w) P w K mg base N_is_number "is_number" (defScope (top 13)) f cdv A outer s H E) (fun cls d _ H' => E cls d H') (defBody (top 13)) (dn_is_number F) := by
  have sc := sc_is_number
  have hu : (A.deeper (envOfC "is_number" (defScope (top 13)) s.heap.objs.size f cdv)).units + 64 < cLine := by
    have h := hr.un
    omega
  have tk : Takes (cxOf (L2.CX P w) P w K mg base N_is_number "is_number" (defScope (top 13)) f cdv A outer s H E) (fun cls d _ H' => E cls d H') := takes_of rfl rfl rfl rfl
  unfold dn_is_number
  exact (fb_one (fs_ret (fe_and (fe_call B.f_is_integer_1 hr tk (fa_cons (fe_var 0) fa_nil)) (fe_one (fe_chain os_le os_lt fe_int (fe_var 0) (fe_var 1))))))
theorem b_Parts_init (T : Fx K w mg) (B : Bun P w K mg base k F) (f : Addr) (cdv : Value) (A : Around) (outer : List Env) (s : Shared) (H : Hp) (E : XK) (hr : Room k (A.deeper (envOfC "Parts.__init__" (defScope (inClass (top 26) 0)) s.heap.objs.size f cdv))) :
    FB (cxOf (L2.CX P w) P w K mg base N_Parts_init "Parts.__init__" (defScope (inClass (top 26) 0)) f cdv A outer s H E) (fun cls d _ H' => E cls d H') (defBody (inClass (top 26) 0)) (dn_Parts_init F) := by
  have sc := sc_Parts_init
  have hu : (A.deeper (envOfC "Parts.__init__" (defScope (inClass (top 26) 0)) s.heap.objs.size f cdv)).units + 64 < cLine := by
    have h := hr.un
    omega
  have tk : Takes (cxOf (L2.CX P w) P w K mg base N_Parts_init "Parts.__init__" (defScope (inClass (top 26) 0)) f cdv A outer s H E) (fun cls d _ H' => E cls d H') := takes_of rfl rfl rfl rfl
  unfold dn_Parts_init
  exact (fb_cons (fs_fld ownC T.a_base (fe_var 1) (fe_var 0))
  (fb_cons (fs_fld ownC T.a_numbers (fe_var 2) (fe_var 0))
  (fb_one (fs_fld ownC T.a_made (fe_var 3) (fe_var 0)))))
theorem b_v_law_row (T : Fx K w mg) (B : Bun P w K mg base k F) (f : Addr) (cdv : Value) (A : Around) (outer : List Env) (s : Shared) (H : Hp) (E : XK) (hr : Room k (A.deeper (envOfC "_law_row" (defScope (top 46)) s.heap.objs.size f cdv))) :
    FB (cxOf (L2.CX P w) P w K mg base N_v_law_row "_law_row" (defScope (top 46)) f cdv A outer s H E) (fun cls d _ H' => E cls d H') (defBody (top 46)) (dn_v_law_row F) := by
  have sc := sc_v_law_row
  have hu : (A.deeper (envOfC "_law_row" (defScope (top 46)) s.heap.objs.size f cdv)).units + 64 < cLine := by
    have h := hr.un
    omega
  have tk : Takes (cxOf (L2.CX P w) P w K mg base N_v_law_row "_law_row" (defScope (top 46)) f cdv A outer s H E) (fun cls d _ H' => E cls d H') := takes_of rfl rfl rfl rfl
  unfold dn_v_law_row
  exact (fb_cons (fs_par 5 6 rfl sc.nd rfl rfl (fe_call B.f_v_law_expression_2 hr tk (fa_cons (fe_var 0) (fa_cons (fe_var 1) fa_nil))) (fe_call B.f_v_law_expression_2 hr tk (fa_cons (fe_var 0) (fa_cons (fe_var 1) fa_nil))))
  (fb_cons (fs_par 7 8 rfl sc.nd rfl rfl (fe_ix xs_ix fe_str (fe_call B.f_v_law_take_2 hr tk (fa_cons (fe_var 0) (fa_cons fe_int fa_nil)))) (fe_call B.f_v_law_take_2 hr tk (fa_cons (fe_var 0) (fa_cons fe_int fa_nil))))
  (fb_cons (fs_if (ft_w (fw_and (ft_cmp os_lt (fe_var 8) fe_int) (fw_and1 (ft_cmp os_gt (fe_var 2) fe_int)))) (fb_one (fs_ret (fe_tup (fa_cons fe_str (fa_cons (fe_var 7) (fa_cons (fe_call B.f_v_law_take_2 hr tk (fa_cons (fe_var 0) (fa_cons (fe_var 2) fa_nil))) fa_nil)))))) fb_nil)
  (fb_cons (fs_if (ft_w (fw_and (ft_cmp os_lt (fe_var 8) fe_int) (fw_and1 (ft_cmp os_gt (fe_var 2) fe_int)))) (fb_one (fs_ret (fe_tup (fa_cons fe_str (fa_cons (fe_call B.f_v_law_take_2 hr tk (fa_cons (fe_var 0) (fa_cons (fe_var 2) fa_nil))) (fa_cons (fe_var 5) fa_nil)))))) fb_nil)
  (fb_cons (fs_if (ft_cmp os_lt (fe_var 8) fe_int) (fb_one (fs_ret (fe_tup (fa_cons fe_str (fa_cons (fe_var 7) (fa_cons (fe_var 5) fa_nil)))))) fb_nil)
  (fb_cons (fs_if (ft_cmp (os_eq hu) (fe_var 8) fe_int) (fb_one (fs_ret (fe_tup (fa_cons fe_str (fa_cons (fe_var 5) (fa_cons (fe_var 6) (fa_cons (fe_bin os_add (fe_bin os_add (fe_var 3) fe_int) (fe_call B.f_v_law_take_2 hr tk (fa_cons (fe_var 0) (fa_cons (fe_bin os_sub (fe_var 4) (fe_var 3)) fa_nil)))) fa_nil))))))) fb_nil)
  (fb_one (fs_ret (fe_if (ft_cmp (os_eq hu) (fe_var 8) fe_int) (fe_tup (fa_cons fe_str (fa_cons (fe_var 5) fa_nil))) (fe_tup (fa_cons fe_str (fa_cons (fe_var 5) fa_nil))))))))))))
theorem b_v_law_expression (T : Fx K w mg) (B : Bun P w K mg base k F) (f : Addr) (cdv : Value) (A : Around) (outer : List Env) (s : Shared) (H : Hp) (E : XK) (hr : Room k (A.deeper (envOfC "_law_expression" (defScope (top 45)) s.heap.objs.size f cdv))) :
    FB (cxOf (L2.CX P w) P w K mg base N_v_law_expression "_law_expression" (defScope (top 45)) f cdv A outer s H E) (fun cls d _ H' => E cls d H') (defBody (top 45)) (dn_v_law_expression F) := by
  have sc := sc_v_law_expression
  have hu : (A.deeper (envOfC "_law_expression" (defScope (top 45)) s.heap.objs.size f cdv)).units + 64 < cLine := by
    have h := hr.un
    omega
  have tk : Takes (cxOf (L2.CX P w) P w K mg base N_v_law_expression "_law_expression" (defScope (top 45)) f cdv A outer s H E) (fun cls d _ H' => E cls d H') := takes_of rfl rfl rfl rfl
  unfold dn_v_law_expression
  exact (fb_cons (fs_set 2 sc.nd (Or.inl rfl) (fe_call B.f_v_law_operand_2 hr tk (fa_cons (fe_var 0) (fa_cons (fe_var 1) fa_nil))))
  (fb_cons (fs_if (ft_cmp os_gt (fe_call B.f_v_law_take_2 hr tk (fa_cons (fe_var 0) (fa_cons fe_int fa_nil))) fe_int) (fb_one (fs_ret (fe_var 2))) fb_nil)
  (fb_one (fs_ret (fe_tup (fa_cons (fe_ix xs_ix fe_str (fe_call B.f_v_law_take_2 hr tk (fa_cons (fe_var 0) (fa_cons fe_int fa_nil)))) (fa_cons (fe_var 2) (fa_cons (fe_call B.f_v_law_operand_2 hr tk (fa_cons (fe_var 0) (fa_cons (fe_var 1) fa_nil))) fa_nil))))))))
theorem b_is_row (T : Fx K w mg) (B : Bun P w K mg base k F) (f : Addr) (cdv : Value) (A : Around) (outer : List Env) (s : Shared) (H : Hp) (E : XK) (hr : Room k (A.deeper (envOfC "is_row" (defScope (top 20)) s.heap.objs.size f cdv))) :
    FB (cxOf (L2.CX P w) P w K mg base N_is_row "is_row" (defScope (top 20)) f cdv A outer s H E) (fun cls d _ H' => E cls d H') (defBody (top 20)) (dn_is_row F) := by
  have sc := sc_is_row
  have hu : (A.deeper (envOfC "is_row" (defScope (top 20)) s.heap.objs.size f cdv)).units + 64 < cLine := by
    have h := hr.un
    omega
  have tk : Takes (cxOf (L2.CX P w) P w K mg base N_is_row "is_row" (defScope (top 20)) f cdv A outer s H E) (fun cls d _ H' => E cls d H') := takes_of rfl rfl rfl rfl
  unfold dn_is_row
  exact (fb_cons (fs_if (ft_w (fw_or (ft_not (ft_val (fe_isi "tuple" ownI (fe_var 0) T.n_isinstance T.n_tuple bt_tuple (T.i_tuple)))) (fw_or (ft_cmp (os_eq hu) (fe_var 0) (fe_tup fa_nil)) (fw_or1 (ft_not (ft_val (fe_isi "str" ownI (fe_ix xs_ix (fe_var 0) fe_int) T.n_isinstance T.n_str bt_str (T.i_str)))))))) (fb_one (fs_ret fe_bl)) fb_nil)
  (fb_cons (fs_star 2 1 _ rfl (fe_var 0) (fgs_cons (fg_nm 4 sc.nd (Or.inl rfl)) (fgs_cons (fg_nm 5 sc.nd (Or.inl rfl)) fgs_nil)))
  (fb_cons (fs_set 6 sc.nd (Or.inl rfl) (fe_getKT T.tb_FORMS (fe_var 4)))
  (fb_cons (fs_if (ft_w (fw_or (ft_cmp os_isN (fe_var 6) fe_non) (fw_or1 (ft_cmp (os_ne hu) (fe_callB cs_lenA T.n_len bt_len (fa_cons (fe_var 6) fa_nil)) (fe_callB cs_lenA T.n_len bt_len (fa_cons (fe_var 5) fa_nil)))))) (fb_one (fs_ret fe_bl)) fb_nil)
  (fb_one (fs_ret (fe_callB (cs_all rfl) T.n_all bt_all (fa_cons (fe_lc [("sort", 7), ("item", 8)] rfl sc.nd (fi_zip T.n_zip (fe_var 6) (fe_var 5)) (blkOk_by (by kernel_rfl)) (fun _ _ _ _ _ => (fg_tup 2 (fgs_cons (fg_nm 7 sc.nd (Or.inl rfl)) (fgs_cons (fg_nm 8 sc.nd (Or.inl rfl)) fgs_nil)))) (fun _ _ _ _ _ => fts_nil) (fun _ _ _ _ _ => (fe_call B.f_is_item_5 hr takes0 (fa_cons (fe_var 7) (fa_cons (fe_var 8) (fa_cons (fe_var 1) (fa_cons (fe_var 2) (fa_cons (fe_var 3) fa_nil)))))))) fa_nil))))))))
theorem b_called_names (T : Fx K w mg) (B : Bun P w K mg base k F) (f : Addr) (cdv : Value) (A : Around) (outer : List Env) (s : Shared) (H : Hp) (E : XK) (hr : Room k (A.deeper (envOfC "called_names" (defScope (top 21)) s.heap.objs.size f cdv))) :
    FB (cxOf (L2.CX P w) P w K mg base N_called_names "called_names" (defScope (top 21)) f cdv A outer s H E) (fun cls d _ H' => E cls d H') (defBody (top 21)) (dn_called_names F) := by
  have sc := sc_called_names
  have hu : (A.deeper (envOfC "called_names" (defScope (top 21)) s.heap.objs.size f cdv)).units + 64 < cLine := by
    have h := hr.un
    omega
  have tk : Takes (cxOf (L2.CX P w) P w K mg base N_called_names "called_names" (defScope (top 21)) f cdv A outer s H E) (fun cls d _ H' => E cls d H') := takes_of rfl rfl rfl rfl
  unfold dn_called_names
  exact (fb_one (fs_ret (fe_lc [("row", 1)] rfl sc.nd (fi_any (fe_var 0)) (blkOk_by (by kernel_rfl)) (fun _ _ _ _ _ => (fg_nm 1 sc.nd (Or.inl rfl))) (fun _ _ _ _ _ => (fts_one (ft_cmp (os_eq hu) (fe_ix xs_ix (fe_var 1) fe_int) fe_str))) (fun _ _ _ _ _ => (fe_ix xs_ix (fe_var 1) fe_int)))))
theorem b_v_law_is_row (T : Fx K w mg) (B : Bun P w K mg base k F) (f : Addr) (cdv : Value) (A : Around) (outer : List Env) (s : Shared) (H : Hp) (E : XK) (hr : Room k (A.deeper (envOfC "_law_is_row" (defScope (top 56)) s.heap.objs.size f cdv))) :
    FB (cxOf (L2.CX P w) P w K mg base N_v_law_is_row "_law_is_row" (defScope (top 56)) f cdv A outer s H E) (fun cls d _ H' => E cls d H') (defBody (top 56)) (dn_v_law_is_row F) := by
  have sc := sc_v_law_is_row
  have hu : (A.deeper (envOfC "_law_is_row" (defScope (top 56)) s.heap.objs.size f cdv)).units + 64 < cLine := by
    have h := hr.un
    omega
  have tk : Takes (cxOf (L2.CX P w) P w K mg base N_v_law_is_row "_law_is_row" (defScope (top 56)) f cdv A outer s H E) (fun cls d _ H' => E cls d H') := takes_of rfl rfl rfl rfl
  unfold dn_v_law_is_row
  exact (fb_cons (fs_if (ft_w (fw_or (ft_not (ft_val (fe_isi "tuple" ownI (fe_var 0) T.n_isinstance T.n_tuple bt_tuple (T.i_tuple)))) (fw_or (ft_cmp os_lt (fe_callB cs_lenA T.n_len bt_len (fa_cons (fe_var 0) fa_nil)) fe_int) (fw_or1 (ft_not (ft_val (fe_isi "str" ownI (fe_ix xs_ix (fe_var 0) fe_int) T.n_isinstance T.n_str bt_str (T.i_str)))))))) (fb_one (fs_ret fe_bl)) fb_nil)
  (fb_cons (fs_par 4 5 rfl sc.nd rfl rfl (fe_ix xs_ix (fe_var 0) fe_int) (fe_callB cs_lenA T.n_len bt_len (fa_cons (fe_var 0) fa_nil)))
  (fb_cons (fs_if (ft_cmp os_in (fe_var 4) (fe_tup (fa_cons fe_str (fa_cons fe_str fa_nil)))) (fb_one (fs_ret (fe_and (fe_cmp (os_eq hu) (fe_var 5) fe_int) (fe_one (fe_call B.f_v_law_is_expression_2 hr tk (fa_cons (fe_ix xs_ix (fe_var 0) fe_int) (fa_cons (fe_var 1) fa_nil))))))) fb_nil)
  (fb_cons (fs_if (ft_cmp (os_eq hu) (fe_var 4) fe_str) (fb_one (fs_ret (fe_and (fe_cmp (os_eq hu) (fe_var 5) fe_int) (fe_and (fe_call B.f_v_law_is_variable_1 hr tk (fa_cons (fe_ix xs_ix (fe_var 0) fe_int) fa_nil)) (fe_one (fe_call B.f_v_law_is_expression_2 hr tk (fa_cons (fe_ix xs_ix (fe_var 0) fe_int) (fa_cons (fe_var 1) fa_nil)))))))) fb_nil)
  (fb_cons (fs_if (ft_cmp (os_eq hu) (fe_var 4) fe_str) (fb_one (fs_ret (fe_and (fe_cmp (os_eq hu) (fe_var 5) fe_int) (fe_and (fe_call B.f_v_law_is_variable_1 hr tk (fa_cons (fe_ix xs_ix (fe_var 0) fe_int) fa_nil)) (fe_one (fe_call B.f_v_law_is_slot_1 hr tk (fa_cons (fe_ix xs_ix (fe_var 0) fe_int) fa_nil))))))) fb_nil)
  (fb_cons (fs_if (ft_cmp (os_eq hu) (fe_var 4) fe_str) (fb_one (fs_ret (fe_and (fe_cmp (os_eq hu) (fe_var 5) fe_int) (fe_and (fe_call B.f_v_law_is_slot_1 hr tk (fa_cons (fe_ix xs_ix (fe_var 0) fe_int) fa_nil)) (fe_one (fe_call B.f_v_law_is_expression_2 hr tk (fa_cons (fe_ix xs_ix (fe_var 0) fe_int) (fa_cons (fe_var 1) fa_nil)))))))) fb_nil)
  (fb_cons (fs_if (ft_cmp (os_ne hu) (fe_var 5) fe_int) (fb_one (fs_ret fe_bl)) fb_nil)
  (fb_cons (fs_if (ft_cmp (os_eq hu) (fe_var 4) fe_str) (fb_one (fs_ret (fe_and (fe_call B.f_v_law_is_name_1 hr tk (fa_cons (fe_ix xs_ix (fe_var 0) fe_int) fa_nil)) (fe_and (fe_call B.f_v_law_is_expression_2 hr tk (fa_cons (fe_ix xs_ix (fe_var 0) fe_int) (fa_cons (fe_var 1) fa_nil))) (fe_one (fe_call B.f_v_law_is_variable_1 hr tk (fa_cons (fe_ix xs_ix (fe_var 0) fe_int) fa_nil))))))) fb_nil)
  (fb_cons (fs_if (ft_w (fw_or (ft_cmp (os_ne hu) (fe_var 4) fe_str) (fw_or (ft_not (ft_val (fe_call B.f_v_law_is_expression_2 hr tk (fa_cons (fe_ix xs_ix (fe_var 0) fe_int) (fa_cons (fe_var 1) fa_nil))))) (fw_or1 (ft_not (ft_val (fe_call B.f_v_law_is_expression_2 hr tk (fa_cons (fe_ix xs_ix (fe_var 0) fe_int) (fa_cons (fe_var 1) fa_nil))))))))) (fb_one (fs_ret fe_bl)) fb_nil)
  (fb_one (fs_ret (fe_and (fe_call B.f_v_law_is_whole_1 hr tk (fa_cons (fe_ix xs_ix (fe_var 0) fe_int) fa_nil)) (fe_one (fe_chain os_lt os_le (fe_var 2) (fe_ix xs_ix (fe_var 0) fe_int) (fe_var 3)))))))))))))))
theorem b_is_integer (T : Fx K w mg) (B : Bun P w K mg base k F) (f : Addr) (cdv : Value) (A : Around) (outer : List Env) (s : Shared) (H : Hp) (E : XK) (hr : Room k (A.deeper (envOfC "is_integer" (defScope (top 11)) s.heap.objs.size f cdv))) :
    FB (cxOf (L2.CX P w) P w K mg base N_is_integer "is_integer" (defScope (top 11)) f cdv A outer s H E) (fun cls d _ H' => E cls d H') (defBody (top 11)) (dn_is_integer F) := by
  have sc := sc_is_integer
  have hu : (A.deeper (envOfC "is_integer" (defScope (top 11)) s.heap.objs.size f cdv)).units + 64 < cLine := by
    have h := hr.un
    omega
  have tk : Takes (cxOf (L2.CX P w) P w K mg base N_is_integer "is_integer" (defScope (top 11)) f cdv A outer s H E) (fun cls d _ H' => E cls d H') := takes_of rfl rfl rfl rfl
  unfold dn_is_integer
  exact (fb_one (fs_ret (fe_and (fe_isi "int" ownI (fe_var 0) T.n_isinstance T.n_int bt_int (T.i_int)) (fe_one (fe_not (fe_isi "bool" ownI (fe_var 0) T.n_isinstance T.n_bool bt_bool (T.i_bool)))))))
theorem b_v_law_operand (T : Fx K w mg) (B : Bun P w K mg base k F) (f : Addr) (cdv : Value) (A : Around) (outer : List Env) (s : Shared) (H : Hp) (E : XK) (hr : Room k (A.deeper (envOfC "_law_operand" (defScope (top 44)) s.heap.objs.size f cdv))) :
    FB (cxOf (L2.CX P w) P w K mg base N_v_law_operand "_law_operand" (defScope (top 44)) f cdv A outer s H E) (fun cls d _ H' => E cls d H') (defBody (top 44)) (dn_v_law_operand F) := by
  have sc := sc_v_law_operand
  have hu : (A.deeper (envOfC "_law_operand" (defScope (top 44)) s.heap.objs.size f cdv)).units + 64 < cLine := by
    have h := hr.un
    omega
  have tk : Takes (cxOf (L2.CX P w) P w K mg base N_v_law_operand "_law_operand" (defScope (top 44)) f cdv A outer s H E) (fun cls d _ H' => E cls d H') := takes_of rfl rfl rfl rfl
  unfold dn_v_law_operand
  exact (fb_one (fs_ret (fe_ix xs_ix (fe_lst (fa_cons fe_str (fa_cons fe_str (fa_cons fe_str (fa_cons (fe_call B.f_v_law_take_2 hr tk (fa_cons (fe_var 0) (fa_cons (fe_var 1) fa_nil))) fa_nil))))) (fe_call B.f_v_law_take_2 hr tk (fa_cons (fe_var 0) (fa_cons fe_int fa_nil))))))
theorem b_is_item (T : Fx K w mg) (B : Bun P w K mg base k F) (f : Addr) (cdv : Value) (A : Around) (outer : List Env) (s : Shared) (H : Hp) (E : XK) (hr : Room k (A.deeper (envOfC "is_item" (defScope (top 19)) s.heap.objs.size f cdv))) :
    FB (cxOf (L2.CX P w) P w K mg base N_is_item "is_item" (defScope (top 19)) f cdv A outer s H E) (fun cls d _ H' => E cls d H') (defBody (top 19)) (dn_is_item F) := by
  have sc := sc_is_item
  have hu : (A.deeper (envOfC "is_item" (defScope (top 19)) s.heap.objs.size f cdv)).units + 64 < cLine := by
    have h := hr.un
    omega
  have tk : Takes (cxOf (L2.CX P w) P w K mg base N_is_item "is_item" (defScope (top 19)) f cdv A outer s H E) (fun cls d _ H' => E cls d H') := takes_of rfl rfl rfl rfl
  unfold dn_is_item
  exact (fb_cons (fs_if (ft_cmp (os_eq hu) (fe_var 0) fe_str) (fb_one (fs_ret (fe_call B.f_is_variable_1 hr tk (fa_cons (fe_var 1) fa_nil)))) fb_nil)
  (fb_cons (fs_if (ft_cmp (os_eq hu) (fe_var 0) fe_str) (fb_one (fs_ret (fe_call B.f_is_number_2 hr tk (fa_cons (fe_var 1) (fa_cons (fe_glD T.g_MOST_SLOTS) fa_nil))))) fb_nil)
  (fb_cons (fs_if (ft_cmp (os_eq hu) (fe_var 0) fe_str) (fb_one (fs_ret (fe_call B.f_is_expression_2 hr tk (fa_cons (fe_var 1) (fa_cons (fe_var 2) fa_nil))))) fb_nil)
  (fb_cons (fs_if (ft_cmp (os_eq hu) (fe_var 0) fe_str) (fb_one (fs_ret (fe_call B.f_is_name_bodies_1 hr tk (fa_cons (fe_var 1) fa_nil)))) fb_nil)
  (fb_one (fs_ret (fe_and (fe_call B.f_is_integer_1 hr tk (fa_cons (fe_var 1) fa_nil)) (fe_one (fe_chain os_lt os_le (fe_var 3) (fe_var 1) (fe_var 4))))))))))
theorem b_v_law_is_expression (T : Fx K w mg) (B : Bun P w K mg base k F) (f : Addr) (cdv : Value) (A : Around) (outer : List Env) (s : Shared) (H : Hp) (E : XK) (hr : Room k (A.deeper (envOfC "_law_is_expression" (defScope (top 52)) s.heap.objs.size f cdv))) :
    FB (cxOf (L2.CX P w) P w K mg base N_v_law_is_expression "_law_is_expression" (defScope (top 52)) f cdv A outer s H E) (fun cls d _ H' => E cls d H') (defBody (top 52)) (dn_v_law_is_expression F) := by
  have sc := sc_v_law_is_expression
  have hu : (A.deeper (envOfC "_law_is_expression" (defScope (top 52)) s.heap.objs.size f cdv)).units + 64 < cLine := by
    have h := hr.un
    omega
  have tk : Takes (cxOf (L2.CX P w) P w K mg base N_v_law_is_expression "_law_is_expression" (defScope (top 52)) f cdv A outer s H E) (fun cls d _ H' => E cls d H') := takes_of rfl rfl rfl rfl
  unfold dn_v_law_is_expression
  exact (fb_cons (fs_if (ft_not (ft_val (fe_isi "tuple" ownI (fe_var 0) T.n_isinstance T.n_tuple bt_tuple (T.i_tuple)))) (fb_one (fs_ret (fe_call B.f_v_law_is_operand_2 hr tk (fa_cons (fe_var 0) (fa_cons (fe_var 1) fa_nil))))) fb_nil)
  (fb_cons (fs_if (ft_w (fw_or (ft_cmp (os_ne hu) (fe_callB cs_lenA T.n_len bt_len (fa_cons (fe_var 0) fa_nil)) fe_int) (fw_or (ft_not (ft_val (fe_isi "str" ownI (fe_ix xs_ix (fe_var 0) fe_int) T.n_isinstance T.n_str bt_str (T.i_str)))) (fw_or1 (ft_cmp os_notIn (fe_ix xs_ix (fe_var 0) fe_int) (fe_tup (fa_cons fe_str (fa_cons fe_str (fa_cons fe_str fa_nil))))))))) (fb_one (fs_ret fe_bl)) fb_nil)
  (fb_one (fs_ret (fe_and (fe_call B.f_v_law_is_operand_2 hr tk (fa_cons (fe_ix xs_ix (fe_var 0) fe_int) (fa_cons (fe_var 1) fa_nil))) (fe_one (fe_call B.f_v_law_is_operand_2 hr tk (fa_cons (fe_ix xs_ix (fe_var 0) fe_int) (fa_cons (fe_var 1) fa_nil)))))))))
theorem b_v_law_is_variable (T : Fx K w mg) (B : Bun P w K mg base k F) (f : Addr) (cdv : Value) (A : Around) (outer : List Env) (s : Shared) (H : Hp) (E : XK) (hr : Room k (A.deeper (envOfC "_law_is_variable" (defScope (top 55)) s.heap.objs.size f cdv))) :
    FB (cxOf (L2.CX P w) P w K mg base N_v_law_is_variable "_law_is_variable" (defScope (top 55)) f cdv A outer s H E) (fun cls d _ H' => E cls d H') (defBody (top 55)) (dn_v_law_is_variable F) := by
  have sc := sc_v_law_is_variable
  have hu : (A.deeper (envOfC "_law_is_variable" (defScope (top 55)) s.heap.objs.size f cdv)).units + 64 < cLine := by
    have h := hr.un
    omega
  have tk : Takes (cxOf (L2.CX P w) P w K mg base N_v_law_is_variable "_law_is_variable" (defScope (top 55)) f cdv A outer s H E) (fun cls d _ H' => E cls d H') := takes_of rfl rfl rfl rfl
  unfold dn_v_law_is_variable
  exact (fb_one (fs_ret (fe_and (fe_isi "str" ownI (fe_var 0) T.n_isinstance T.n_str bt_str (T.i_str)) (fe_one (fe_cmp os_in (fe_var 0) (fe_tup (fa_cons fe_str (fa_cons fe_str fa_nil))))))))
theorem b_v_law_is_slot (T : Fx K w mg) (B : Bun P w K mg base k F) (f : Addr) (cdv : Value) (A : Around) (outer : List Env) (s : Shared) (H : Hp) (E : XK) (hr : Room k (A.deeper (envOfC "_law_is_slot" (defScope (top 54)) s.heap.objs.size f cdv))) :
    FB (cxOf (L2.CX P w) P w K mg base N_v_law_is_slot "_law_is_slot" (defScope (top 54)) f cdv A outer s H E) (fun cls d _ H' => E cls d H') (defBody (top 54)) (dn_v_law_is_slot F) := by
  have sc := sc_v_law_is_slot
  have hu : (A.deeper (envOfC "_law_is_slot" (defScope (top 54)) s.heap.objs.size f cdv)).units + 64 < cLine := by
    have h := hr.un
    omega
  have tk : Takes (cxOf (L2.CX P w) P w K mg base N_v_law_is_slot "_law_is_slot" (defScope (top 54)) f cdv A outer s H E) (fun cls d _ H' => E cls d H') := takes_of rfl rfl rfl rfl
  unfold dn_v_law_is_slot
  exact (fb_one (fs_ret (fe_and (fe_call B.f_v_law_is_whole_1 hr tk (fa_cons (fe_var 0) fa_nil)) (fe_one (fe_chain os_le os_lt fe_int (fe_var 0) fe_int)))))
theorem b_v_law_is_name (T : Fx K w mg) (B : Bun P w K mg base k F) (f : Addr) (cdv : Value) (A : Around) (outer : List Env) (s : Shared) (H : Hp) (E : XK) (hr : Room k (A.deeper (envOfC "_law_is_name" (defScope (top 53)) s.heap.objs.size f cdv))) :
    FB (cxOf (L2.CX P w) P w K mg base N_v_law_is_name "_law_is_name" (defScope (top 53)) f cdv A outer s H E) (fun cls d _ H' => E cls d H') (defBody (top 53)) (dn_v_law_is_name F) := by
  have sc := sc_v_law_is_name
  have hu : (A.deeper (envOfC "_law_is_name" (defScope (top 53)) s.heap.objs.size f cdv)).units + 64 < cLine := by
    have h := hr.un
    omega
  have tk : Takes (cxOf (L2.CX P w) P w K mg base N_v_law_is_name "_law_is_name" (defScope (top 53)) f cdv A outer s H E) (fun cls d _ H' => E cls d H') := takes_of rfl rfl rfl rfl
  unfold dn_v_law_is_name
  exact (fb_cons (fs_set 1 sc.nd (Or.inr rfl) fe_str)
  (fb_one (fs_ret (fe_and (fe_isi "str" ownI (fe_var 0) T.n_isinstance T.n_str bt_str (T.i_str)) (fe_and (fe_chain os_le os_le fe_int (fe_callB cs_lenA T.n_len bt_len (fa_cons (fe_var 0) fa_nil)) fe_int) (fe_one (fe_callB (cs_all rfl) T.n_all bt_all (fa_cons (fe_lc [("_law_sign", 2)] rfl sc.nd (fi_any (fe_var 0)) (blkOk_by (by kernel_rfl)) (fun _ _ _ _ _ => (fg_nm 2 sc.nd (Or.inl rfl))) (fun _ _ _ _ _ => fts_nil) (fun _ _ _ _ _ => (fe_cmp os_in (fe_var 2) (fe_var 1)))) fa_nil))))))))
theorem b_v_law_is_whole (T : Fx K w mg) (B : Bun P w K mg base k F) (f : Addr) (cdv : Value) (A : Around) (outer : List Env) (s : Shared) (H : Hp) (E : XK) (hr : Room k (A.deeper (envOfC "_law_is_whole" (defScope (top 50)) s.heap.objs.size f cdv))) :
    FB (cxOf (L2.CX P w) P w K mg base N_v_law_is_whole "_law_is_whole" (defScope (top 50)) f cdv A outer s H E) (fun cls d _ H' => E cls d H') (defBody (top 50)) (dn_v_law_is_whole F) := by
  have sc := sc_v_law_is_whole
  have hu : (A.deeper (envOfC "_law_is_whole" (defScope (top 50)) s.heap.objs.size f cdv)).units + 64 < cLine := by
    have h := hr.un
    omega
  have tk : Takes (cxOf (L2.CX P w) P w K mg base N_v_law_is_whole "_law_is_whole" (defScope (top 50)) f cdv A outer s H E) (fun cls d _ H' => E cls d H') := takes_of rfl rfl rfl rfl
  unfold dn_v_law_is_whole
  exact (fb_one (fs_ret (fe_and (fe_isi "int" ownI (fe_var 0) T.n_isinstance T.n_int bt_int (T.i_int)) (fe_one (fe_not (fe_isi "bool" ownI (fe_var 0) T.n_isinstance T.n_bool bt_bool (T.i_bool)))))))
theorem b_is_variable (T : Fx K w mg) (B : Bun P w K mg base k F) (f : Addr) (cdv : Value) (A : Around) (outer : List Env) (s : Shared) (H : Hp) (E : XK) (hr : Room k (A.deeper (envOfC "is_variable" (defScope (top 16)) s.heap.objs.size f cdv))) :
    FB (cxOf (L2.CX P w) P w K mg base N_is_variable "is_variable" (defScope (top 16)) f cdv A outer s H E) (fun cls d _ H' => E cls d H') (defBody (top 16)) (dn_is_variable F) := by
  have sc := sc_is_variable
  have hu : (A.deeper (envOfC "is_variable" (defScope (top 16)) s.heap.objs.size f cdv)).units + 64 < cLine := by
    have h := hr.un
    omega
  have tk : Takes (cxOf (L2.CX P w) P w K mg base N_is_variable "is_variable" (defScope (top 16)) f cdv A outer s H E) (fun cls d _ H' => E cls d H') := takes_of rfl rfl rfl rfl
  unfold dn_is_variable
  exact (fb_one (fs_ret (fe_and (fe_isi "str" ownI (fe_var 0) T.n_isinstance T.n_str bt_str (T.i_str)) (fe_one (fe_cmp os_in (fe_var 0) (fe_glD T.g_VARIABLES))))))
theorem b_is_expression (T : Fx K w mg) (B : Bun P w K mg base k F) (f : Addr) (cdv : Value) (A : Around) (outer : List Env) (s : Shared) (H : Hp) (E : XK) (hr : Room k (A.deeper (envOfC "is_expression" (defScope (top 18)) s.heap.objs.size f cdv))) :
    FB (cxOf (L2.CX P w) P w K mg base N_is_expression "is_expression" (defScope (top 18)) f cdv A outer s H E) (fun cls d _ H' => E cls d H') (defBody (top 18)) (dn_is_expression F) := by
  have sc := sc_is_expression
  have hu : (A.deeper (envOfC "is_expression" (defScope (top 18)) s.heap.objs.size f cdv)).units + 64 < cLine := by
    have h := hr.un
    omega
  have tk : Takes (cxOf (L2.CX P w) P w K mg base N_is_expression "is_expression" (defScope (top 18)) f cdv A outer s H E) (fun cls d _ H' => E cls d H') := takes_of rfl rfl rfl rfl
  unfold dn_is_expression
  exact (fb_cons (fs_if (ft_not (ft_val (fe_isi "tuple" ownI (fe_var 0) T.n_isinstance T.n_tuple bt_tuple (T.i_tuple)))) (fb_one (fs_ret (fe_call B.f_is_operand_2 hr tk (fa_cons (fe_var 0) (fa_cons (fe_var 1) fa_nil))))) fb_nil)
  (fb_cons (fs_if (ft_w (fw_or (ft_cmp (os_ne hu) (fe_callB cs_lenA T.n_len bt_len (fa_cons (fe_var 0) fa_nil)) fe_int) (fw_or (ft_not (ft_val (fe_isi "str" ownI (fe_ix xs_ix (fe_var 0) fe_int) T.n_isinstance T.n_str bt_str (T.i_str)))) (fw_or1 (ft_cmp os_notIn (fe_ix xs_ix (fe_var 0) fe_int) (fe_glD T.g_SIGNS)))))) (fb_one (fs_ret fe_bl)) fb_nil)
  (fb_one (fs_ret (fe_and (fe_call B.f_is_operand_2 hr tk (fa_cons (fe_ix xs_ix (fe_var 0) fe_int) (fa_cons (fe_var 1) fa_nil))) (fe_one (fe_call B.f_is_operand_2 hr tk (fa_cons (fe_ix xs_ix (fe_var 0) fe_int) (fa_cons (fe_var 1) fa_nil)))))))))
theorem b_v_law_is_operand (T : Fx K w mg) (B : Bun P w K mg base k F) (f : Addr) (cdv : Value) (A : Around) (outer : List Env) (s : Shared) (H : Hp) (E : XK) (hr : Room k (A.deeper (envOfC "_law_is_operand" (defScope (top 51)) s.heap.objs.size f cdv))) :
    FB (cxOf (L2.CX P w) P w K mg base N_v_law_is_operand "_law_is_operand" (defScope (top 51)) f cdv A outer s H E) (fun cls d _ H' => E cls d H') (defBody (top 51)) (dn_v_law_is_operand F) := by
  have sc := sc_v_law_is_operand
  have hu : (A.deeper (envOfC "_law_is_operand" (defScope (top 51)) s.heap.objs.size f cdv)).units + 64 < cLine := by
    have h := hr.un
    omega
  have tk : Takes (cxOf (L2.CX P w) P w K mg base N_v_law_is_operand "_law_is_operand" (defScope (top 51)) f cdv A outer s H E) (fun cls d _ H' => E cls d H') := takes_of rfl rfl rfl rfl
  unfold dn_v_law_is_operand
  exact (fb_one (fs_ret (fe_or (fe_and (fe_call B.f_v_law_is_whole_1 hr tk (fa_cons (fe_var 0) fa_nil)) (fe_one (fe_chain os_le os_lt fe_int (fe_var 0) (fe_var 1)))) (fe_one (fe_and (fe_isi "str" ownI (fe_var 0) T.n_isinstance T.n_str bt_str (T.i_str)) (fe_one (fe_cmp os_in (fe_var 0) (fe_tup (fa_cons fe_str (fa_cons fe_str fa_nil))))))))))
theorem b_is_operand (T : Fx K w mg) (B : Bun P w K mg base k F) (f : Addr) (cdv : Value) (A : Around) (outer : List Env) (s : Shared) (H : Hp) (E : XK) (hr : Room k (A.deeper (envOfC "is_operand" (defScope (top 17)) s.heap.objs.size f cdv))) :
    FB (cxOf (L2.CX P w) P w K mg base N_is_operand "is_operand" (defScope (top 17)) f cdv A outer s H E) (fun cls d _ H' => E cls d H') (defBody (top 17)) (dn_is_operand F) := by
  have sc := sc_is_operand
  have hu : (A.deeper (envOfC "is_operand" (defScope (top 17)) s.heap.objs.size f cdv)).units + 64 < cLine := by
    have h := hr.un
    omega
  have tk : Takes (cxOf (L2.CX P w) P w K mg base N_is_operand "is_operand" (defScope (top 17)) f cdv A outer s H E) (fun cls d _ H' => E cls d H') := takes_of rfl rfl rfl rfl
  unfold dn_is_operand
  exact (fb_one (fs_ret (fe_or (fe_call B.f_is_number_2 hr tk (fa_cons (fe_var 0) (fa_cons (fe_var 1) fa_nil))) (fe_one (fe_call B.f_is_variable_1 hr tk (fa_cons (fe_var 0) fa_nil))))))
end
def Ph.up (F : Ph) : Ph where
  f_called_names_1 := fun ds es g => match ds, es with | [a0], [] => runB (dn_called_names F) (ini 2 [a0]) g | _, _ => .bad
  f_is_base_1 := fun ds es g => match ds, es with | [a0], [] => runB (dn_is_base F) (ini 1 [a0]) g | _, _ => .bad
  f_is_body_0_thing := fun ds es g => match ds, es with | [], [e0] => runB (dn_is_body F) (ini 4 [e0, (.int 2 : D)]) g | _, _ => .bad
  f_is_body_1_base := fun ds es g => match ds, es with | [a0], [e0] => runB (dn_is_body F) (ini 4 [a0, e0]) g | _, _ => .bad
  f_is_expression_2 := fun ds es g => match ds, es with | [a0, a1], [] => runB (dn_is_expression F) (ini 2 [a0, a1]) g | _, _ => .bad
  f_is_integer_1 := fun ds es g => match ds, es with | [a0], [] => runB (dn_is_integer F) (ini 1 [a0]) g | _, _ => .bad
  f_is_item_5 := fun ds es g => match ds, es with | [a0, a1, a2, a3, a4], [] => runB (dn_is_item F) (ini 5 [a0, a1, a2, a3, a4]) g | _, _ => .bad
  f_is_name_bodies_1 := fun ds es g => match ds, es with | [a0], [] => runB (dn_is_name F) (ini 2 [a0]) g | _, _ => .bad
  f_is_number_2 := fun ds es g => match ds, es with | [a0, a1], [] => runB (dn_is_number F) (ini 2 [a0, a1]) g | _, _ => .bad
  f_is_operand_2 := fun ds es g => match ds, es with | [a0, a1], [] => runB (dn_is_operand F) (ini 2 [a0, a1]) g | _, _ => .bad
  f_is_row_4 := fun ds es g => match ds, es with | [a0, a1, a2, a3], [] => runB (dn_is_row F) (ini 9 [a0, a1, a2, a3]) g | _, _ => .bad
  f_is_variable_1 := fun ds es g => match ds, es with | [a0], [] => runB (dn_is_variable F) (ini 1 [a0]) g | _, _ => .bad
  f_slots_of_0_body := fun ds es g => match ds, es with | [], [e0] => runB (dn_slots_of F) (ini 3 [e0]) g | _, _ => .bad
  f_slots_of_1 := fun ds es g => match ds, es with | [a0], [] => runB (dn_slots_of F) (ini 3 [a0]) g | _, _ => .bad
  f_v_law_any_2 := fun ds es g => match ds, es with | [a0, a1], [] => runB (dn_v_law_any F) (ini 4 [a0, a1]) g | _, _ => .bad
  f_v_law_bag_2 := fun ds es g => match ds, es with | [a0, a1], [] => runB (dn_v_law_bag F) (ini 4 [a0, a1]) g | _, _ => .bad
  f_v_law_body_4 := fun ds es g => match ds, es with | [a0, a1, a2, a3], [] => runB (dn_v_law_body F) (ini 9 [a0, a1, a2, a3]) g | _, _ => .bad
  f_v_law_edges_1 := fun ds es g => match ds, es with | [a0], [] => runB (dn_v_law_edges F) (ini 4 [a0]) g | _, _ => .bad
  f_v_law_expression_2 := fun ds es g => match ds, es with | [a0, a1], [] => runB (dn_v_law_expression F) (ini 3 [a0, a1]) g | _, _ => .bad
  f_v_law_is_body_2 := fun ds es g => match ds, es with | [a0, a1], [] => runB (dn_v_law_is_body F) (ini 4 [a0, a1]) g | _, _ => .bad
  f_v_law_is_expression_2 := fun ds es g => match ds, es with | [a0, a1], [] => runB (dn_v_law_is_expression F) (ini 2 [a0, a1]) g | _, _ => .bad
  f_v_law_is_name_1 := fun ds es g => match ds, es with | [a0], [] => runB (dn_v_law_is_name F) (ini 3 [a0]) g | _, _ => .bad
  f_v_law_is_operand_2 := fun ds es g => match ds, es with | [a0, a1], [] => runB (dn_v_law_is_operand F) (ini 2 [a0, a1]) g | _, _ => .bad
  f_v_law_is_row_4 := fun ds es g => match ds, es with | [a0, a1, a2, a3], [] => runB (dn_v_law_is_row F) (ini 6 [a0, a1, a2, a3]) g | _, _ => .bad
  f_v_law_is_slot_1 := fun ds es g => match ds, es with | [a0], [] => runB (dn_v_law_is_slot F) (ini 1 [a0]) g | _, _ => .bad
  f_v_law_is_variable_1 := fun ds es g => match ds, es with | [a0], [] => runB (dn_v_law_is_variable F) (ini 1 [a0]) g | _, _ => .bad
  f_v_law_is_whole_1 := fun ds es g => match ds, es with | [a0], [] => runB (dn_v_law_is_whole F) (ini 1 [a0]) g | _, _ => .bad
  f_v_law_operand_2 := fun ds es g => match ds, es with | [a0, a1], [] => runB (dn_v_law_operand F) (ini 2 [a0, a1]) g | _, _ => .bad
  f_v_law_row_5 := fun ds es g => match ds, es with | [a0, a1, a2, a3, a4], [] => runB (dn_v_law_row F) (ini 9 [a0, a1, a2, a3, a4]) g | _, _ => .bad
  f_v_law_slots_1 := fun ds es g => match ds, es with | [a0], [] => runB (dn_v_law_slots F) (ini 3 [a0]) g | _, _ => .bad
  f_v_law_spoilt_3 := fun ds es g => match ds, es with | [a0, a1, a2], [] => runB (dn_v_law_spoilt F) (ini 5 [a0, a1, a2]) g | _, _ => .bad
  f_v_law_take_2 := fun ds es g => match ds, es with | [a0, a1], [] => runB (dn_v_law_take F) (ini 3 [a0, a1]) g | _, _ => .bad
  m_House_0 := newI "House" F.im_House_0
  im_House_0 := fun ds es g => match ds, es with | [a0], [] => runB (dn_House_init F) (ini 5 [a0, (.int 2 : D), .ref g.length]) (g ++ [.dct []]) | _, _ => .bad
  c_Parts_init_4 := fun ds es g => match ds, es with | [a0, a1, a2, a3], [] => runB (dn_Parts_init F) (ini 4 [a0, a1, a2, a3]) g | _, _ => .bad
  law := fun ds es g => match ds, es with | [a0], [] => runB (dn_law F) (ini 11 [a0]) g | _, _ => .bad
def ph : Nat → Ph
  | 0 => Ph.nil
  | n + 1 => (ph n).up
section
variable {P : Program} {w : World} {K : PySem.W.Frag} {mg : Str → Option Value} {base : Heap} {k : Nat} {F : Ph}
theorem bun0 (T : Fx K w mg) : Bun P w K mg base 0 Ph.nil where
  f_called_names_1 := by
    obtain ⟨f, fd, hm, FD⟩ := T.d_called_names
    exact ⟨f, hm, FD.kp, callF_bad⟩
  f_is_base_1 := by
    obtain ⟨f, fd, hm, FD⟩ := T.d_is_base
    exact ⟨f, hm, FD.kp, callF_bad⟩
  f_is_body_0_thing := by
    obtain ⟨f, fd, hm, FD⟩ := T.d_is_body
    exact ⟨f, hm, FD.kp, callF_bad⟩
  f_is_body_1_base := by
    obtain ⟨f, fd, hm, FD⟩ := T.d_is_body
    exact ⟨f, hm, FD.kp, callF_bad⟩
  f_is_expression_2 := by
    obtain ⟨f, fd, hm, FD⟩ := T.d_is_expression
    exact ⟨f, hm, FD.kp, callF_bad⟩
  f_is_integer_1 := by
    obtain ⟨f, fd, hm, FD⟩ := T.d_is_integer
    exact ⟨f, hm, FD.kp, callF_bad⟩
  f_is_item_5 := by
    obtain ⟨f, fd, hm, FD⟩ := T.d_is_item
    exact ⟨f, hm, FD.kp, callF_bad⟩
  f_is_name_bodies_1 := by
    obtain ⟨f, fd, hm, FD⟩ := T.d_is_name
    exact ⟨f, T.l_is_name_bodies.trans hm, FD.kp, callF_bad⟩
  f_is_number_2 := by
    obtain ⟨f, fd, hm, FD⟩ := T.d_is_number
    exact ⟨f, hm, FD.kp, callF_bad⟩
  f_is_operand_2 := by
    obtain ⟨f, fd, hm, FD⟩ := T.d_is_operand
    exact ⟨f, hm, FD.kp, callF_bad⟩
  f_is_row_4 := by
    obtain ⟨f, fd, hm, FD⟩ := T.d_is_row
    exact ⟨f, hm, FD.kp, callF_bad⟩
  f_is_variable_1 := by
    obtain ⟨f, fd, hm, FD⟩ := T.d_is_variable
    exact ⟨f, hm, FD.kp, callF_bad⟩
  f_slots_of_0_body := by
    obtain ⟨f, fd, hm, FD⟩ := T.d_slots_of
    exact ⟨f, hm, FD.kp, callF_bad⟩
  f_slots_of_1 := by
    obtain ⟨f, fd, hm, FD⟩ := T.d_slots_of
    exact ⟨f, hm, FD.kp, callF_bad⟩
  f_v_law_any_2 := by
    obtain ⟨f, fd, hm, FD⟩ := T.d_v_law_any
    exact ⟨f, hm, FD.kp, callF_bad⟩
  f_v_law_bag_2 := by
    obtain ⟨f, fd, hm, FD⟩ := T.d_v_law_bag
    exact ⟨f, hm, FD.kp, callF_bad⟩
  f_v_law_body_4 := by
    obtain ⟨f, fd, hm, FD⟩ := T.d_v_law_body
    exact ⟨f, hm, FD.kp, callF_bad⟩
  f_v_law_edges_1 := by
    obtain ⟨f, fd, hm, FD⟩ := T.d_v_law_edges
    exact ⟨f, hm, FD.kp, callF_bad⟩
  f_v_law_expression_2 := by
    obtain ⟨f, fd, hm, FD⟩ := T.d_v_law_expression
    exact ⟨f, hm, FD.kp, callF_bad⟩
  f_v_law_is_body_2 := by
    obtain ⟨f, fd, hm, FD⟩ := T.d_v_law_is_body
    exact ⟨f, hm, FD.kp, callF_bad⟩
  f_v_law_is_expression_2 := by
    obtain ⟨f, fd, hm, FD⟩ := T.d_v_law_is_expression
    exact ⟨f, hm, FD.kp, callF_bad⟩
  f_v_law_is_name_1 := by
    obtain ⟨f, fd, hm, FD⟩ := T.d_v_law_is_name
    exact ⟨f, hm, FD.kp, callF_bad⟩
  f_v_law_is_operand_2 := by
    obtain ⟨f, fd, hm, FD⟩ := T.d_v_law_is_operand
    exact ⟨f, hm, FD.kp, callF_bad⟩
  f_v_law_is_row_4 := by
    obtain ⟨f, fd, hm, FD⟩ := T.d_v_law_is_row
    exact ⟨f, hm, FD.kp, callF_bad⟩
  f_v_law_is_slot_1 := by
    obtain ⟨f, fd, hm, FD⟩ := T.d_v_law_is_slot
    exact ⟨f, hm, FD.kp, callF_bad⟩
  f_v_law_is_variable_1 := by
    obtain ⟨f, fd, hm, FD⟩ := T.d_v_law_is_variable
    exact ⟨f, hm, FD.kp, callF_bad⟩
  f_v_law_is_whole_1 := by
    obtain ⟨f, fd, hm, FD⟩ := T.d_v_law_is_whole
    exact ⟨f, hm, FD.kp, callF_bad⟩
  f_v_law_operand_2 := by
    obtain ⟨f, fd, hm, FD⟩ := T.d_v_law_operand
    exact ⟨f, hm, FD.kp, callF_bad⟩
  f_v_law_row_5 := by
    obtain ⟨f, fd, hm, FD⟩ := T.d_v_law_row
    exact ⟨f, hm, FD.kp, callF_bad⟩
  f_v_law_slots_1 := by
    obtain ⟨f, fd, hm, FD⟩ := T.d_v_law_slots
    exact ⟨f, hm, FD.kp, callF_bad⟩
  f_v_law_spoilt_3 := by
    obtain ⟨f, fd, hm, FD⟩ := T.d_v_law_spoilt
    exact ⟨f, hm, FD.kp, callF_bad⟩
  f_v_law_take_2 := by
    obtain ⟨f, fd, hm, FD⟩ := T.d_v_law_take
    exact ⟨f, hm, FD.kp, callF_bad⟩
  m_House_0 := .inl fun _ _ _ => rfl
  im_House_0 := by
    obtain ⟨C, f, fd, hm, M, FD⟩ := T.k_House
    exact ⟨C, f, hm, M, callF_bad⟩
  c_Parts_init_4 := by
    obtain ⟨C, f, mc, fd, hm, cr, fc, kf, FD⟩ := T.q_c_Parts_init_4
    exact ⟨C, f, mc, hm, cr, fc, kf, callF_bad⟩
theorem up_f_called_names_1 (T : Fx K w mg) (B : Bun P w K mg base k F) : TabF P w K mg base (k + 1) "called_names" [] F.up.f_called_names_1 := by
  obtain ⟨f, fd, hm, FD⟩ := T.d_called_names
  refine ⟨f, hm, FD.kp, ?_⟩
  exact CallF.weak (callF_pos (fun_ok FD sc_called_names (fun cdv A outer s H E hr => b_called_names T B _ cdv A outer s H E hr)) (FD.bindsN fun _ _ _ _ _ _ us hl => match us, hl with | [_], _ => rfl)) (fun ds es g => by
      dsimp only [Ph.up]
      split
      · exact .inl rfl
      · exact .inr rfl)
theorem up_f_is_base_1 (T : Fx K w mg) (B : Bun P w K mg base k F) : TabF P w K mg base (k + 1) "is_base" [] F.up.f_is_base_1 := by
  obtain ⟨f, fd, hm, FD⟩ := T.d_is_base
  refine ⟨f, hm, FD.kp, ?_⟩
  exact CallF.weak (callF_pos (fun_ok FD sc_is_base (fun cdv A outer s H E hr => b_is_base T B _ cdv A outer s H E hr)) (FD.bindsN fun _ _ _ _ _ _ us hl => match us, hl with | [_], _ => rfl)) (fun ds es g => by
      dsimp only [Ph.up]
      split
      · exact .inl rfl
      · exact .inr rfl)
theorem up_f_is_body_0_thing (T : Fx K w mg) (B : Bun P w K mg base k F) : TabF P w K mg base (k + 1) "is_body" ["thing"] F.up.f_is_body_0_thing := by
  obtain ⟨f, fd, hm, FD⟩ := T.d_is_body
  refine ⟨f, hm, FD.kp, ?_⟩
  exact by
    obtain ⟨mv, kb⟩ := FD.kbinds0 (ps := ["thing", "base"]) 0 ["thing"] [("base", .int 2)] (fun us mv ws => ((ws.drop 0).take 1 ++ ((mv.drop 0).take 1 ++ []))) (by simp) (by simp) (fun r1 r2 r3 => ((vals_pick r3 0).append ((vals_pick r2 0).append .nil))) fun _ _ _ _ _ _ us mv ws l1 l2 l3 => match us, l1, mv, l2, ws, l3 with | [], _, [_], _, [_], _ => ⟨_, _, _, _, _, _, rfl, rfl, (kwc_nil rfl)⟩
    exact CallF.weak (callF_arr (n := 0) (ks := ["thing"]) (fun_ok FD sc_is_body (fun cdv A outer s H E hr => b_is_body T B _ cdv A outer s H E hr)) kb (fun us ws => ((ws.drop 0).take 1 ++ ((([(.int 2 : D)] : List D).drop 0).take 1 ++ []))) (fun _ _ _ _ _ _ _ r1 r3 _ _ => ((RVs.pick r3 0).append ((RVs.pick (show RVs _ _ _ _ [(.int 2 : D)] _ from (.cons (.int _) .nil)) 0).append .nil))) (fun ds es l1 l2 => match ds, l1, es, l2 with | [], _, [_], _ => rfl)) (fun ds es g => by
      dsimp only [Ph.up]
      split
      · exact .inl rfl
      · exact .inr rfl)
theorem up_f_is_body_1_base (T : Fx K w mg) (B : Bun P w K mg base k F) : TabF P w K mg base (k + 1) "is_body" ["base"] F.up.f_is_body_1_base := by
  obtain ⟨f, fd, hm, FD⟩ := T.d_is_body
  refine ⟨f, hm, FD.kp, ?_⟩
  exact CallF.weak (callF_arr (n := 1) (ks := ["base"]) (fun_ok FD sc_is_body (fun cdv A outer s H E hr => b_is_body T B _ cdv A outer s H E hr)) (FD.kbindsN 1 ["base"] (fun us ws => ((us.drop 0).take 1 ++ ((ws.drop 0).take 1 ++ []))) (fun r1 r2 => ((vals_pick r1 0).append ((vals_pick r2 0).append .nil))) fun _ _ _ _ _ _ us ws l1 l2 => match us, l1, ws, l2 with | [_], _, [_], _ => rfl)
      (fun us ws => ((us.drop 0).take 1 ++ ((ws.drop 0).take 1 ++ []))) (fun _ _ _ _ _ _ _ r1 r2 _ _ => ((RVs.pick r1 0).append ((RVs.pick r2 0).append .nil))) (fun ds es l1 l2 => match ds, l1, es, l2 with | [_], _, [_], _ => rfl)) (fun ds es g => by
      dsimp only [Ph.up]
      split
      · exact .inl rfl
      · exact .inr rfl)
theorem up_f_is_expression_2 (T : Fx K w mg) (B : Bun P w K mg base k F) : TabF P w K mg base (k + 1) "is_expression" [] F.up.f_is_expression_2 := by
  obtain ⟨f, fd, hm, FD⟩ := T.d_is_expression
  refine ⟨f, hm, FD.kp, ?_⟩
  exact CallF.weak (callF_pos (fun_ok FD sc_is_expression (fun cdv A outer s H E hr => b_is_expression T B _ cdv A outer s H E hr)) (FD.bindsN fun _ _ _ _ _ _ us hl => match us, hl with | [_, _], _ => rfl)) (fun ds es g => by
      dsimp only [Ph.up]
      split
      · exact .inl rfl
      · exact .inr rfl)
theorem up_f_is_integer_1 (T : Fx K w mg) (B : Bun P w K mg base k F) : TabF P w K mg base (k + 1) "is_integer" [] F.up.f_is_integer_1 := by
  obtain ⟨f, fd, hm, FD⟩ := T.d_is_integer
  refine ⟨f, hm, FD.kp, ?_⟩
  exact CallF.weak (callF_pos (fun_ok FD sc_is_integer (fun cdv A outer s H E hr => b_is_integer T B _ cdv A outer s H E hr)) (FD.bindsN fun _ _ _ _ _ _ us hl => match us, hl with | [_], _ => rfl)) (fun ds es g => by
      dsimp only [Ph.up]
      split
      · exact .inl rfl
      · exact .inr rfl)
theorem up_f_is_item_5 (T : Fx K w mg) (B : Bun P w K mg base k F) : TabF P w K mg base (k + 1) "is_item" [] F.up.f_is_item_5 := by
  obtain ⟨f, fd, hm, FD⟩ := T.d_is_item
  refine ⟨f, hm, FD.kp, ?_⟩
  exact CallF.weak (callF_pos (fun_ok FD sc_is_item (fun cdv A outer s H E hr => b_is_item T B _ cdv A outer s H E hr)) (FD.bindsN fun _ _ _ _ _ _ us hl => match us, hl with | [_, _, _, _, _], _ => rfl)) (fun ds es g => by
      dsimp only [Ph.up]
      split
      · exact .inl rfl
      · exact .inr rfl)
theorem up_f_is_name_bodies_1 (T : Fx K w mg) (B : Bun P w K mg base k F) : TabF P w K mg base (k + 1) "is_name_bodies" [] F.up.f_is_name_bodies_1 := by
  obtain ⟨f, fd, hm, FD⟩ := T.d_is_name
  refine ⟨f, T.l_is_name_bodies.trans hm, FD.kp, ?_⟩
  exact CallF.weak (callF_pos (fun_ok FD sc_is_name (fun cdv A outer s H E hr => b_is_name T B _ cdv A outer s H E hr)) (FD.bindsN fun _ _ _ _ _ _ us hl => match us, hl with | [_], _ => rfl)) (fun ds es g => by
      dsimp only [Ph.up]
      split
      · exact .inl rfl
      · exact .inr rfl)
theorem up_f_is_number_2 (T : Fx K w mg) (B : Bun P w K mg base k F) : TabF P w K mg base (k + 1) "is_number" [] F.up.f_is_number_2 := by
  obtain ⟨f, fd, hm, FD⟩ := T.d_is_number
  refine ⟨f, hm, FD.kp, ?_⟩
  exact CallF.weak (callF_pos (fun_ok FD sc_is_number (fun cdv A outer s H E hr => b_is_number T B _ cdv A outer s H E hr)) (FD.bindsN fun _ _ _ _ _ _ us hl => match us, hl with | [_, _], _ => rfl)) (fun ds es g => by
      dsimp only [Ph.up]
      split
      · exact .inl rfl
      · exact .inr rfl)
theorem up_f_is_operand_2 (T : Fx K w mg) (B : Bun P w K mg base k F) : TabF P w K mg base (k + 1) "is_operand" [] F.up.f_is_operand_2 := by
  obtain ⟨f, fd, hm, FD⟩ := T.d_is_operand
  refine ⟨f, hm, FD.kp, ?_⟩
  exact CallF.weak (callF_pos (fun_ok FD sc_is_operand (fun cdv A outer s H E hr => b_is_operand T B _ cdv A outer s H E hr)) (FD.bindsN fun _ _ _ _ _ _ us hl => match us, hl with | [_, _], _ => rfl)) (fun ds es g => by
      dsimp only [Ph.up]
      split
      · exact .inl rfl
      · exact .inr rfl)
theorem up_f_is_row_4 (T : Fx K w mg) (B : Bun P w K mg base k F) : TabF P w K mg base (k + 1) "is_row" [] F.up.f_is_row_4 := by
  obtain ⟨f, fd, hm, FD⟩ := T.d_is_row
  refine ⟨f, hm, FD.kp, ?_⟩
  exact CallF.weak (callF_pos (fun_ok FD sc_is_row (fun cdv A outer s H E hr => b_is_row T B _ cdv A outer s H E hr)) (FD.bindsN fun _ _ _ _ _ _ us hl => match us, hl with | [_, _, _, _], _ => rfl)) (fun ds es g => by
      dsimp only [Ph.up]
      split
      · exact .inl rfl
      · exact .inr rfl)
theorem up_f_is_variable_1 (T : Fx K w mg) (B : Bun P w K mg base k F) : TabF P w K mg base (k + 1) "is_variable" [] F.up.f_is_variable_1 := by
  obtain ⟨f, fd, hm, FD⟩ := T.d_is_variable
  refine ⟨f, hm, FD.kp, ?_⟩
  exact CallF.weak (callF_pos (fun_ok FD sc_is_variable (fun cdv A outer s H E hr => b_is_variable T B _ cdv A outer s H E hr)) (FD.bindsN fun _ _ _ _ _ _ us hl => match us, hl with | [_], _ => rfl)) (fun ds es g => by
      dsimp only [Ph.up]
      split
      · exact .inl rfl
      · exact .inr rfl)
theorem up_f_slots_of_0_body (T : Fx K w mg) (B : Bun P w K mg base k F) : TabF P w K mg base (k + 1) "slots_of" ["body"] F.up.f_slots_of_0_body := by
  obtain ⟨f, fd, hm, FD⟩ := T.d_slots_of
  refine ⟨f, hm, FD.kp, ?_⟩
  exact CallF.weak (callF_arr (n := 0) (ks := ["body"]) (fun_ok FD sc_slots_of (fun cdv A outer s H E hr => b_slots_of T B _ cdv A outer s H E hr)) (FD.kbindsN 0 ["body"] (fun us ws => ((ws.drop 0).take 1 ++ [])) (fun r1 r2 => ((vals_pick r2 0).append .nil)) fun _ _ _ _ _ _ us ws l1 l2 => match us, l1, ws, l2 with | [], _, [_], _ => rfl)
      (fun us ws => ((ws.drop 0).take 1 ++ [])) (fun _ _ _ _ _ _ _ r1 r2 _ _ => ((RVs.pick r2 0).append .nil)) (fun ds es l1 l2 => match ds, l1, es, l2 with | [], _, [_], _ => rfl)) (fun ds es g => by
      dsimp only [Ph.up]
      split
      · exact .inl rfl
      · exact .inr rfl)
theorem up_f_slots_of_1 (T : Fx K w mg) (B : Bun P w K mg base k F) : TabF P w K mg base (k + 1) "slots_of" [] F.up.f_slots_of_1 := by
  obtain ⟨f, fd, hm, FD⟩ := T.d_slots_of
  refine ⟨f, hm, FD.kp, ?_⟩
  exact CallF.weak (callF_pos (fun_ok FD sc_slots_of (fun cdv A outer s H E hr => b_slots_of T B _ cdv A outer s H E hr)) (FD.bindsN fun _ _ _ _ _ _ us hl => match us, hl with | [_], _ => rfl)) (fun ds es g => by
      dsimp only [Ph.up]
      split
      · exact .inl rfl
      · exact .inr rfl)
theorem up_f_v_law_any_2 (T : Fx K w mg) (B : Bun P w K mg base k F) : TabF P w K mg base (k + 1) "_law_any" [] F.up.f_v_law_any_2 := by
  obtain ⟨f, fd, hm, FD⟩ := T.d_v_law_any
  refine ⟨f, hm, FD.kp, ?_⟩
  exact CallF.weak (callF_pos (fun_ok FD sc_v_law_any (fun cdv A outer s H E hr => b_v_law_any T B _ cdv A outer s H E hr)) (FD.bindsN fun _ _ _ _ _ _ us hl => match us, hl with | [_, _], _ => rfl)) (fun ds es g => by
      dsimp only [Ph.up]
      split
      · exact .inl rfl
      · exact .inr rfl)
theorem up_f_v_law_bag_2 (T : Fx K w mg) (B : Bun P w K mg base k F) : TabF P w K mg base (k + 1) "_law_bag" [] F.up.f_v_law_bag_2 := by
  obtain ⟨f, fd, hm, FD⟩ := T.d_v_law_bag
  refine ⟨f, hm, FD.kp, ?_⟩
  exact CallF.weak (callF_pos (fun_ok FD sc_v_law_bag (fun cdv A outer s H E hr => b_v_law_bag T B _ cdv A outer s H E hr)) (FD.bindsN fun _ _ _ _ _ _ us hl => match us, hl with | [_, _], _ => rfl)) (fun ds es g => by
      dsimp only [Ph.up]
      split
      · exact .inl rfl
      · exact .inr rfl)
theorem up_f_v_law_body_4 (T : Fx K w mg) (B : Bun P w K mg base k F) : TabF P w K mg base (k + 1) "_law_body" [] F.up.f_v_law_body_4 := by
  obtain ⟨f, fd, hm, FD⟩ := T.d_v_law_body
  refine ⟨f, hm, FD.kp, ?_⟩
  exact CallF.weak (callF_pos (fun_ok FD sc_v_law_body (fun cdv A outer s H E hr => b_v_law_body T B _ cdv A outer s H E hr)) (FD.bindsN fun _ _ _ _ _ _ us hl => match us, hl with | [_, _, _, _], _ => rfl)) (fun ds es g => by
      dsimp only [Ph.up]
      split
      · exact .inl rfl
      · exact .inr rfl)
theorem up_f_v_law_edges_1 (T : Fx K w mg) (B : Bun P w K mg base k F) : TabF P w K mg base (k + 1) "_law_edges" [] F.up.f_v_law_edges_1 := by
  obtain ⟨f, fd, hm, FD⟩ := T.d_v_law_edges
  refine ⟨f, hm, FD.kp, ?_⟩
  exact CallF.weak (callF_pos (fun_ok FD sc_v_law_edges (fun cdv A outer s H E hr => b_v_law_edges T B _ cdv A outer s H E hr)) (FD.bindsN fun _ _ _ _ _ _ us hl => match us, hl with | [_], _ => rfl)) (fun ds es g => by
      dsimp only [Ph.up]
      split
      · exact .inl rfl
      · exact .inr rfl)
theorem up_f_v_law_expression_2 (T : Fx K w mg) (B : Bun P w K mg base k F) : TabF P w K mg base (k + 1) "_law_expression" [] F.up.f_v_law_expression_2 := by
  obtain ⟨f, fd, hm, FD⟩ := T.d_v_law_expression
  refine ⟨f, hm, FD.kp, ?_⟩
  exact CallF.weak (callF_pos (fun_ok FD sc_v_law_expression (fun cdv A outer s H E hr => b_v_law_expression T B _ cdv A outer s H E hr)) (FD.bindsN fun _ _ _ _ _ _ us hl => match us, hl with | [_, _], _ => rfl)) (fun ds es g => by
      dsimp only [Ph.up]
      split
      · exact .inl rfl
      · exact .inr rfl)
theorem up_f_v_law_is_body_2 (T : Fx K w mg) (B : Bun P w K mg base k F) : TabF P w K mg base (k + 1) "_law_is_body" [] F.up.f_v_law_is_body_2 := by
  obtain ⟨f, fd, hm, FD⟩ := T.d_v_law_is_body
  refine ⟨f, hm, FD.kp, ?_⟩
  exact CallF.weak (callF_pos (fun_ok FD sc_v_law_is_body (fun cdv A outer s H E hr => b_v_law_is_body T B _ cdv A outer s H E hr)) (FD.bindsN fun _ _ _ _ _ _ us hl => match us, hl with | [_, _], _ => rfl)) (fun ds es g => by
      dsimp only [Ph.up]
      split
      · exact .inl rfl
      · exact .inr rfl)
theorem up_f_v_law_is_expression_2 (T : Fx K w mg) (B : Bun P w K mg base k F) : TabF P w K mg base (k + 1) "_law_is_expression" [] F.up.f_v_law_is_expression_2 := by
  obtain ⟨f, fd, hm, FD⟩ := T.d_v_law_is_expression
  refine ⟨f, hm, FD.kp, ?_⟩
  exact CallF.weak (callF_pos (fun_ok FD sc_v_law_is_expression (fun cdv A outer s H E hr => b_v_law_is_expression T B _ cdv A outer s H E hr)) (FD.bindsN fun _ _ _ _ _ _ us hl => match us, hl with | [_, _], _ => rfl)) (fun ds es g => by
      dsimp only [Ph.up]
      split
      · exact .inl rfl
      · exact .inr rfl)
theorem up_f_v_law_is_name_1 (T : Fx K w mg) (B : Bun P w K mg base k F) : TabF P w K mg base (k + 1) "_law_is_name" [] F.up.f_v_law_is_name_1 := by
  obtain ⟨f, fd, hm, FD⟩ := T.d_v_law_is_name
  refine ⟨f, hm, FD.kp, ?_⟩
  exact CallF.weak (callF_pos (fun_ok FD sc_v_law_is_name (fun cdv A outer s H E hr => b_v_law_is_name T B _ cdv A outer s H E hr)) (FD.bindsN fun _ _ _ _ _ _ us hl => match us, hl with | [_], _ => rfl)) (fun ds es g => by
      dsimp only [Ph.up]
      split
      · exact .inl rfl
      · exact .inr rfl)
theorem up_f_v_law_is_operand_2 (T : Fx K w mg) (B : Bun P w K mg base k F) : TabF P w K mg base (k + 1) "_law_is_operand" [] F.up.f_v_law_is_operand_2 := by
  obtain ⟨f, fd, hm, FD⟩ := T.d_v_law_is_operand
  refine ⟨f, hm, FD.kp, ?_⟩
  exact CallF.weak (callF_pos (fun_ok FD sc_v_law_is_operand (fun cdv A outer s H E hr => b_v_law_is_operand T B _ cdv A outer s H E hr)) (FD.bindsN fun _ _ _ _ _ _ us hl => match us, hl with | [_, _], _ => rfl)) (fun ds es g => by
      dsimp only [Ph.up]
      split
      · exact .inl rfl
      · exact .inr rfl)
theorem up_f_v_law_is_row_4 (T : Fx K w mg) (B : Bun P w K mg base k F) : TabF P w K mg base (k + 1) "_law_is_row" [] F.up.f_v_law_is_row_4 := by
  obtain ⟨f, fd, hm, FD⟩ := T.d_v_law_is_row
  refine ⟨f, hm, FD.kp, ?_⟩
  exact CallF.weak (callF_pos (fun_ok FD sc_v_law_is_row (fun cdv A outer s H E hr => b_v_law_is_row T B _ cdv A outer s H E hr)) (FD.bindsN fun _ _ _ _ _ _ us hl => match us, hl with | [_, _, _, _], _ => rfl)) (fun ds es g => by
      dsimp only [Ph.up]
      split
      · exact .inl rfl
      · exact .inr rfl)
theorem up_f_v_law_is_slot_1 (T : Fx K w mg) (B : Bun P w K mg base k F) : TabF P w K mg base (k + 1) "_law_is_slot" [] F.up.f_v_law_is_slot_1 := by
  obtain ⟨f, fd, hm, FD⟩ := T.d_v_law_is_slot
  refine ⟨f, hm, FD.kp, ?_⟩
  exact CallF.weak (callF_pos (fun_ok FD sc_v_law_is_slot (fun cdv A outer s H E hr => b_v_law_is_slot T B _ cdv A outer s H E hr)) (FD.bindsN fun _ _ _ _ _ _ us hl => match us, hl with | [_], _ => rfl)) (fun ds es g => by
      dsimp only [Ph.up]
      split
      · exact .inl rfl
      · exact .inr rfl)
theorem up_f_v_law_is_variable_1 (T : Fx K w mg) (B : Bun P w K mg base k F) : TabF P w K mg base (k + 1) "_law_is_variable" [] F.up.f_v_law_is_variable_1 := by
  obtain ⟨f, fd, hm, FD⟩ := T.d_v_law_is_variable
  refine ⟨f, hm, FD.kp, ?_⟩
  exact CallF.weak (callF_pos (fun_ok FD sc_v_law_is_variable (fun cdv A outer s H E hr => b_v_law_is_variable T B _ cdv A outer s H E hr)) (FD.bindsN fun _ _ _ _ _ _ us hl => match us, hl with | [_], _ => rfl)) (fun ds es g => by
      dsimp only [Ph.up]
      split
      · exact .inl rfl
      · exact .inr rfl)
theorem up_f_v_law_is_whole_1 (T : Fx K w mg) (B : Bun P w K mg base k F) : TabF P w K mg base (k + 1) "_law_is_whole" [] F.up.f_v_law_is_whole_1 := by
  obtain ⟨f, fd, hm, FD⟩ := T.d_v_law_is_whole
  refine ⟨f, hm, FD.kp, ?_⟩
  exact CallF.weak (callF_pos (fun_ok FD sc_v_law_is_whole (fun cdv A outer s H E hr => b_v_law_is_whole T B _ cdv A outer s H E hr)) (FD.bindsN fun _ _ _ _ _ _ us hl => match us, hl with | [_], _ => rfl)) (fun ds es g => by
      dsimp only [Ph.up]
      split
      · exact .inl rfl
      · exact .inr rfl)
theorem up_f_v_law_operand_2 (T : Fx K w mg) (B : Bun P w K mg base k F) : TabF P w K mg base (k + 1) "_law_operand" [] F.up.f_v_law_operand_2 := by
  obtain ⟨f, fd, hm, FD⟩ := T.d_v_law_operand
  refine ⟨f, hm, FD.kp, ?_⟩
  exact CallF.weak (callF_pos (fun_ok FD sc_v_law_operand (fun cdv A outer s H E hr => b_v_law_operand T B _ cdv A outer s H E hr)) (FD.bindsN fun _ _ _ _ _ _ us hl => match us, hl with | [_, _], _ => rfl)) (fun ds es g => by
      dsimp only [Ph.up]
      split
      · exact .inl rfl
      · exact .inr rfl)
theorem up_f_v_law_row_5 (T : Fx K w mg) (B : Bun P w K mg base k F) : TabF P w K mg base (k + 1) "_law_row" [] F.up.f_v_law_row_5 := by
  obtain ⟨f, fd, hm, FD⟩ := T.d_v_law_row
  refine ⟨f, hm, FD.kp, ?_⟩
  exact CallF.weak (callF_pos (fun_ok FD sc_v_law_row (fun cdv A outer s H E hr => b_v_law_row T B _ cdv A outer s H E hr)) (FD.bindsN fun _ _ _ _ _ _ us hl => match us, hl with | [_, _, _, _, _], _ => rfl)) (fun ds es g => by
      dsimp only [Ph.up]
      split
      · exact .inl rfl
      · exact .inr rfl)
theorem up_f_v_law_slots_1 (T : Fx K w mg) (B : Bun P w K mg base k F) : TabF P w K mg base (k + 1) "_law_slots" [] F.up.f_v_law_slots_1 := by
  obtain ⟨f, fd, hm, FD⟩ := T.d_v_law_slots
  refine ⟨f, hm, FD.kp, ?_⟩
  exact CallF.weak (callF_pos (fun_ok FD sc_v_law_slots (fun cdv A outer s H E hr => b_v_law_slots T B _ cdv A outer s H E hr)) (FD.bindsN fun _ _ _ _ _ _ us hl => match us, hl with | [_], _ => rfl)) (fun ds es g => by
      dsimp only [Ph.up]
      split
      · exact .inl rfl
      · exact .inr rfl)
theorem up_f_v_law_spoilt_3 (T : Fx K w mg) (B : Bun P w K mg base k F) : TabF P w K mg base (k + 1) "_law_spoilt" [] F.up.f_v_law_spoilt_3 := by
  obtain ⟨f, fd, hm, FD⟩ := T.d_v_law_spoilt
  refine ⟨f, hm, FD.kp, ?_⟩
  exact CallF.weak (callF_pos (fun_ok FD sc_v_law_spoilt (fun cdv A outer s H E hr => b_v_law_spoilt T B _ cdv A outer s H E hr)) (FD.bindsN fun _ _ _ _ _ _ us hl => match us, hl with | [_, _, _], _ => rfl)) (fun ds es g => by
      dsimp only [Ph.up]
      split
      · exact .inl rfl
      · exact .inr rfl)
theorem up_f_v_law_take_2 (T : Fx K w mg) (B : Bun P w K mg base k F) : TabF P w K mg base (k + 1) "_law_take" [] F.up.f_v_law_take_2 := by
  obtain ⟨f, fd, hm, FD⟩ := T.d_v_law_take
  refine ⟨f, hm, FD.kp, ?_⟩
  exact CallF.weak (callF_pos (fun_ok FD sc_v_law_take (fun cdv A outer s H E hr => b_v_law_take T B _ cdv A outer s H E hr)) (FD.bindsN fun _ _ _ _ _ _ us hl => match us, hl with | [_, _], _ => rfl)) (fun ds es g => by
      dsimp only [Ph.up]
      split
      · exact .inl rfl
      · exact .inr rfl)
theorem up_im_House_0 (T : Fx K w mg) (B : Bun P w K mg base k F) : TabC P w K mg base (k + 1) "House" [] F.up.im_House_0 := by
  obtain ⟨C, f, fd, hm, M, FD⟩ := T.k_House
  refine ⟨C, f, hm, M, ?_⟩
  exact CallF.weak (callF_rest (n := 1) (ks := []) (ps := ["self", "base"]) FD sc_House_init (by simp) [("base", .int 2)] (by simp) (fun us mv ws => ((us.drop 0).take 1 ++ ((mv.drop 0).take 1 ++ []))) [.int 2] (fun _ _ _ => (.cons (.int _) .nil))
      (fun r1 r2 r3 => ((vals_pick r1 0).append ((vals_pick r2 0).append .nil))) (fun _ _ _ _ _ _ _ _ _ r1 r2 r3 => ((RVs.pick r1 0).append ((RVs.pick r2 0).append .nil)))
      (fun us mv ws l1 l2 l3 => match us, l1, mv, l2, ws, l3 with | [_], _, [_], _, [], _ => rfl)
      (fun D doc pm an cdv ct us mv ws l1 l2 l3 => match us, l1, mv, l2, ws, l3 with | [_], _, [_], _, [], _ => ⟨_, _, _, _, _, _, rfl, rfl, (kwto_nil rfl)⟩)
      (fun cdv A outer s H E hr => b_House_init T B _ cdv A outer s H E hr)) (fun ds es g => by
      dsimp only [Ph.up]
      split
      · exact .inl rfl
      · exact .inr rfl)
theorem up_c_Parts_init_4 (T : Fx K w mg) (B : Bun P w K mg base k F) : TabN P w K mg base (k + 1) "Parts" "__init__" [] F.up.c_Parts_init_4 := by
  obtain ⟨C, f, mc, fd, hm, cr, fc, kf, FD⟩ := T.q_c_Parts_init_4
  refine ⟨C, f, mc, hm, cr, fc, kf, ?_⟩
  exact CallF.weak (callF_pos (fun_ok FD sc_Parts_init (fun cdv A outer s H E hr => b_Parts_init T B _ cdv A outer s H E hr)) (FD.bindsN fun _ _ _ _ _ _ us hl => match us, hl with | [_, _, _, _], _ => rfl)) (fun ds es g => by
      dsimp only [Ph.up]
      split
      · exact .inl rfl
      · exact .inr rfl)
theorem up_law (T : Fx K w mg) (B : Bun P w K mg base k F) : ∃ f fd, mg "law" = some (.ref f) ∧ FunD K "law" "law" (defArgs (top 60)) (defBody (top 60)) (defScope (top 60)) [] [] f fd ∧ FnOk P w K mg base (L2.CX P w) (k + 1) f fd ["_law_script"] (spF K mg 1 fun ds g => runB (dn_law F) (ini N_law.length ds) g) := by
  obtain ⟨f, fd, hm, FD⟩ := T.d_law
  exact ⟨f, fd, hm, FD, fun_ok FD sc_law (fun cdv A outer s H E hr => b_law T B _ cdv A outer s H E hr)⟩
theorem bun (T : Fx K w mg) : ∀ k, Bun P w K mg base k (ph k)
  | 0 => bun0 T
  | k + 1 => by
    have B := bun T k
    exact { f_called_names_1 := up_f_called_names_1 T B, f_is_base_1 := up_f_is_base_1 T B, f_is_body_0_thing := up_f_is_body_0_thing T B, f_is_body_1_base := up_f_is_body_1_base T B, f_is_expression_2 := up_f_is_expression_2 T B, f_is_integer_1 := up_f_is_integer_1 T B, f_is_item_5 := up_f_is_item_5 T B, f_is_name_bodies_1 := up_f_is_name_bodies_1 T B, f_is_number_2 := up_f_is_number_2 T B, f_is_operand_2 := up_f_is_operand_2 T B, f_is_row_4 := up_f_is_row_4 T B, f_is_variable_1 := up_f_is_variable_1 T B, f_slots_of_0_body := up_f_slots_of_0_body T B, f_slots_of_1 := up_f_slots_of_1 T B, f_v_law_any_2 := up_f_v_law_any_2 T B, f_v_law_bag_2 := up_f_v_law_bag_2 T B, f_v_law_body_4 := up_f_v_law_body_4 T B, f_v_law_edges_1 := up_f_v_law_edges_1 T B, f_v_law_expression_2 := up_f_v_law_expression_2 T B, f_v_law_is_body_2 := up_f_v_law_is_body_2 T B, f_v_law_is_expression_2 := up_f_v_law_is_expression_2 T B, f_v_law_is_name_1 := up_f_v_law_is_name_1 T B, f_v_law_is_operand_2 := up_f_v_law_is_operand_2 T B, f_v_law_is_row_4 := up_f_v_law_is_row_4 T B, f_v_law_is_slot_1 := up_f_v_law_is_slot_1 T B, f_v_law_is_variable_1 := up_f_v_law_is_variable_1 T B, f_v_law_is_whole_1 := up_f_v_law_is_whole_1 T B, f_v_law_operand_2 := up_f_v_law_operand_2 T B, f_v_law_row_5 := up_f_v_law_row_5 T B, f_v_law_slots_1 := up_f_v_law_slots_1 T B, f_v_law_spoilt_3 := up_f_v_law_spoilt_3 T B, f_v_law_take_2 := up_f_v_law_take_2 T B, m_House_0 := .inr ⟨k, _, rfl, rfl, B.im_House_0⟩, im_House_0 := up_im_House_0 T B, c_Parts_init_4 := up_c_Parts_init_4 T B }
end
def fns : List He.DefD := [⟨("law", none), "law", "law", defArgs (top 60), defBody (top 60), defScope (top 60), [], []⟩,
 ⟨("_law_bag", none), "_law_bag", "_law_bag", defArgs (top 42), defBody (top 42), defScope (top 42), [], []⟩,
 ⟨("House", some "__init__"), "__init__", "House.__init__", defArgs (inClass (top 40) 1), defBody (inClass (top 40) 1), defScope (inClass (top 40) 1), [], [("base", .int 2)]⟩,
 ⟨("_law_take", none), "_law_take", "_law_take", defArgs (top 43), defBody (top 43), defScope (top 43), [], []⟩,
 ⟨("_law_body", none), "_law_body", "_law_body", defArgs (top 47), defBody (top 47), defScope (top 47), [], []⟩,
 ⟨("slots_of", none), "slots_of", "slots_of", defArgs (top 23), defBody (top 23), defScope (top 23), [], []⟩,
 ⟨("_law_slots", none), "_law_slots", "_law_slots", defArgs (top 59), defBody (top 59), defScope (top 59), [], []⟩,
 ⟨("_law_edges", none), "_law_edges", "_law_edges", defArgs (top 58), defBody (top 58), defScope (top 58), [], []⟩,
 ⟨("_law_any", none), "_law_any", "_law_any", defArgs (top 48), defBody (top 48), defScope (top 48), [], []⟩,
 ⟨("_law_spoilt", none), "_law_spoilt", "_law_spoilt", defArgs (top 49), defBody (top 49), defScope (top 49), [], []⟩,
 ⟨("is_body", none), "is_body", "is_body", defArgs (top 22), defBody (top 22), defScope (top 22), [], [("base", .int 2)]⟩,
 ⟨("_law_is_body", none), "_law_is_body", "_law_is_body", defArgs (top 57), defBody (top 57), defScope (top 57), [], []⟩,
 ⟨("is_base", none), "is_base", "is_base", defArgs (top 12), defBody (top 12), defScope (top 12), [], []⟩,
 ⟨("is_name", none), "is_name", "is_name", defArgs (top 14), defBody (top 14), defScope (top 14), [], []⟩,
 ⟨("is_number", none), "is_number", "is_number", defArgs (top 13), defBody (top 13), defScope (top 13), [], []⟩,
 ⟨("Parts", some "__init__"), "__init__", "Parts.__init__", defArgs (inClass (top 26) 0), defBody (inClass (top 26) 0), defScope (inClass (top 26) 0), [], []⟩,
 ⟨("_law_row", none), "_law_row", "_law_row", defArgs (top 46), defBody (top 46), defScope (top 46), [], []⟩,
 ⟨("_law_expression", none), "_law_expression", "_law_expression", defArgs (top 45), defBody (top 45), defScope (top 45), [], []⟩,
 ⟨("is_row", none), "is_row", "is_row", defArgs (top 20), defBody (top 20), defScope (top 20), [], []⟩,
 ⟨("called_names", none), "called_names", "called_names", defArgs (top 21), defBody (top 21), defScope (top 21), [], []⟩,
 ⟨("_law_is_row", none), "_law_is_row", "_law_is_row", defArgs (top 56), defBody (top 56), defScope (top 56), [], []⟩,
 ⟨("is_integer", none), "is_integer", "is_integer", defArgs (top 11), defBody (top 11), defScope (top 11), [], []⟩,
 ⟨("_law_operand", none), "_law_operand", "_law_operand", defArgs (top 44), defBody (top 44), defScope (top 44), [], []⟩,
 ⟨("is_item", none), "is_item", "is_item", defArgs (top 19), defBody (top 19), defScope (top 19), [], []⟩,
 ⟨("_law_is_expression", none), "_law_is_expression", "_law_is_expression", defArgs (top 52), defBody (top 52), defScope (top 52), [], []⟩,
 ⟨("_law_is_variable", none), "_law_is_variable", "_law_is_variable", defArgs (top 55), defBody (top 55), defScope (top 55), [], []⟩,
 ⟨("_law_is_slot", none), "_law_is_slot", "_law_is_slot", defArgs (top 54), defBody (top 54), defScope (top 54), [], []⟩,
 ⟨("_law_is_name", none), "_law_is_name", "_law_is_name", defArgs (top 53), defBody (top 53), defScope (top 53), [], []⟩,
 ⟨("_law_is_whole", none), "_law_is_whole", "_law_is_whole", defArgs (top 50), defBody (top 50), defScope (top 50), [], []⟩,
 ⟨("is_variable", none), "is_variable", "is_variable", defArgs (top 16), defBody (top 16), defScope (top 16), [], []⟩,
 ⟨("is_expression", none), "is_expression", "is_expression", defArgs (top 18), defBody (top 18), defScope (top 18), [], []⟩,
 ⟨("_law_is_operand", none), "_law_is_operand", "_law_is_operand", defArgs (top 51), defBody (top 51), defScope (top 51), [], []⟩,
 ⟨("is_operand", none), "is_operand", "is_operand", defArgs (top 17), defBody (top 17), defScope (top 17), [], []⟩]
def fas : List He.Fa := [.glo "law", .glo "_law_bag", .glo "_law_take", .glo "_law_body", .glo "slots_of", .glo "_law_slots", .glo "_law_edges", .glo "_law_any", .glo "_law_spoilt", .glo "is_body", .glo "_law_is_body", .glo "is_base", .glo "is_name", .glo "is_number", .glo "_law_row", .glo "_law_expression", .glo "is_row", .glo "called_names", .glo "_law_is_row", .glo "is_integer", .glo "_law_operand", .glo "is_item", .glo "_law_is_expression", .glo "_law_is_variable", .glo "_law_is_slot", .glo "_law_is_name", .glo "_law_is_whole", .glo "is_variable", .glo "is_expression", .glo "_law_is_operand", .glo "is_operand", .glo "is_name_bodies", .glo "BASES", .str "LETTERS" "abcdefghijklmnopqrstuvwxyz", .int "MOST_CALLS" 1, .int "MOST_CELLS" 5, .int "MOST_LETTERS" 8, .int "MOST_ROWS" 6, .int "MOST_SLOTS" 3, .glo "SIGNS", .glo "VARIABLES", .glo "FORMS", .free "abs", .free "all", .free "bool", .free "dict", .free "enumerate", .free "int", .free "isinstance", .free "len", .free "list", .free "max", .free "min", .free "range", .free "str", .free "tuple", .free "zip", .glo "House", .cls "House", .noat "House" "base", .noat "House" "made", .noat "House" "numbers", .noat "House" "past", .mkr "House", .glo "Parts"]
def fbs : List Fb := [.same "is_name_bodies" "is_name", .tup "BASES" [.int 2, .int 3], .tup "SIGNS" [.str "+", .str "-", .str "*"], .tup "VARIABLES" [.str "x", .str "y"], .tab "FORMS" [("set", "ve"), ("get", "vs"), ("put", "se"), ("if", "eer"), ("say", "e"), ("call", "nev"), ("end", "e")], .own "House", .kit "House" "bool" false, .kit "House" "int" false, .kit "House" "str" false, .kit "House" "tuple" false, .cread "Parts", .cfun "Parts" "__init__"]
theorem fx_of {K : PySem.W.Frag} {h : Heap} {mg : Str → Option Value} {w : World} (X : K.In h) (G : h.Ns mainGlobals mg) (c : He.SaysD fas fns K) (c2 : fbs.all (·.ok K) = true) (hh_FORMS : hashB K "FORMS" = List.map (fun kv => PyData.keyHash w.params kv.1) [("set", "ve"), ("get", "vs"), ("put", "se"), ("if", "eer"), ("say", "e"), ("call", "nev"), ("end", "e")]) : Fx K w mg where
  d_law := by
    obtain ⟨fd, FD⟩ := c.def_ 0 rfl
    exact ⟨_, fd, He.glo_ok X G (c.fact 0 (f := .glo "law") rfl), FD⟩
  d_v_law_bag := by
    obtain ⟨fd, FD⟩ := c.def_ 1 rfl
    exact ⟨_, fd, He.glo_ok X G (c.fact 1 (f := .glo "_law_bag") rfl), FD⟩
  d_v_law_take := by
    obtain ⟨fd, FD⟩ := c.def_ 3 rfl
    exact ⟨_, fd, He.glo_ok X G (c.fact 2 (f := .glo "_law_take") rfl), FD⟩
  d_v_law_body := by
    obtain ⟨fd, FD⟩ := c.def_ 4 rfl
    exact ⟨_, fd, He.glo_ok X G (c.fact 3 (f := .glo "_law_body") rfl), FD⟩
  d_slots_of := by
    obtain ⟨fd, FD⟩ := c.def_ 5 rfl
    exact ⟨_, fd, He.glo_ok X G (c.fact 4 (f := .glo "slots_of") rfl), FD⟩
  d_v_law_slots := by
    obtain ⟨fd, FD⟩ := c.def_ 6 rfl
    exact ⟨_, fd, He.glo_ok X G (c.fact 5 (f := .glo "_law_slots") rfl), FD⟩
  d_v_law_edges := by
    obtain ⟨fd, FD⟩ := c.def_ 7 rfl
    exact ⟨_, fd, He.glo_ok X G (c.fact 6 (f := .glo "_law_edges") rfl), FD⟩
  d_v_law_any := by
    obtain ⟨fd, FD⟩ := c.def_ 8 rfl
    exact ⟨_, fd, He.glo_ok X G (c.fact 7 (f := .glo "_law_any") rfl), FD⟩
  d_v_law_spoilt := by
    obtain ⟨fd, FD⟩ := c.def_ 9 rfl
    exact ⟨_, fd, He.glo_ok X G (c.fact 8 (f := .glo "_law_spoilt") rfl), FD⟩
  d_is_body := by
    obtain ⟨fd, FD⟩ := c.def_ 10 rfl
    exact ⟨_, fd, He.glo_ok X G (c.fact 9 (f := .glo "is_body") rfl), FD⟩
  d_v_law_is_body := by
    obtain ⟨fd, FD⟩ := c.def_ 11 rfl
    exact ⟨_, fd, He.glo_ok X G (c.fact 10 (f := .glo "_law_is_body") rfl), FD⟩
  d_is_base := by
    obtain ⟨fd, FD⟩ := c.def_ 12 rfl
    exact ⟨_, fd, He.glo_ok X G (c.fact 11 (f := .glo "is_base") rfl), FD⟩
  d_is_name := by
    obtain ⟨fd, FD⟩ := c.def_ 13 rfl
    exact ⟨_, fd, He.glo_ok X G (c.fact 12 (f := .glo "is_name") rfl), FD⟩
  d_is_number := by
    obtain ⟨fd, FD⟩ := c.def_ 14 rfl
    exact ⟨_, fd, He.glo_ok X G (c.fact 13 (f := .glo "is_number") rfl), FD⟩
  d_v_law_row := by
    obtain ⟨fd, FD⟩ := c.def_ 16 rfl
    exact ⟨_, fd, He.glo_ok X G (c.fact 14 (f := .glo "_law_row") rfl), FD⟩
  d_v_law_expression := by
    obtain ⟨fd, FD⟩ := c.def_ 17 rfl
    exact ⟨_, fd, He.glo_ok X G (c.fact 15 (f := .glo "_law_expression") rfl), FD⟩
  d_is_row := by
    obtain ⟨fd, FD⟩ := c.def_ 18 rfl
    exact ⟨_, fd, He.glo_ok X G (c.fact 16 (f := .glo "is_row") rfl), FD⟩
  d_called_names := by
    obtain ⟨fd, FD⟩ := c.def_ 19 rfl
    exact ⟨_, fd, He.glo_ok X G (c.fact 17 (f := .glo "called_names") rfl), FD⟩
  d_v_law_is_row := by
    obtain ⟨fd, FD⟩ := c.def_ 20 rfl
    exact ⟨_, fd, He.glo_ok X G (c.fact 18 (f := .glo "_law_is_row") rfl), FD⟩
  d_is_integer := by
    obtain ⟨fd, FD⟩ := c.def_ 21 rfl
    exact ⟨_, fd, He.glo_ok X G (c.fact 19 (f := .glo "is_integer") rfl), FD⟩
  d_v_law_operand := by
    obtain ⟨fd, FD⟩ := c.def_ 22 rfl
    exact ⟨_, fd, He.glo_ok X G (c.fact 20 (f := .glo "_law_operand") rfl), FD⟩
  d_is_item := by
    obtain ⟨fd, FD⟩ := c.def_ 23 rfl
    exact ⟨_, fd, He.glo_ok X G (c.fact 21 (f := .glo "is_item") rfl), FD⟩
  d_v_law_is_expression := by
    obtain ⟨fd, FD⟩ := c.def_ 24 rfl
    exact ⟨_, fd, He.glo_ok X G (c.fact 22 (f := .glo "_law_is_expression") rfl), FD⟩
  d_v_law_is_variable := by
    obtain ⟨fd, FD⟩ := c.def_ 25 rfl
    exact ⟨_, fd, He.glo_ok X G (c.fact 23 (f := .glo "_law_is_variable") rfl), FD⟩
  d_v_law_is_slot := by
    obtain ⟨fd, FD⟩ := c.def_ 26 rfl
    exact ⟨_, fd, He.glo_ok X G (c.fact 24 (f := .glo "_law_is_slot") rfl), FD⟩
  d_v_law_is_name := by
    obtain ⟨fd, FD⟩ := c.def_ 27 rfl
    exact ⟨_, fd, He.glo_ok X G (c.fact 25 (f := .glo "_law_is_name") rfl), FD⟩
  d_v_law_is_whole := by
    obtain ⟨fd, FD⟩ := c.def_ 28 rfl
    exact ⟨_, fd, He.glo_ok X G (c.fact 26 (f := .glo "_law_is_whole") rfl), FD⟩
  d_is_variable := by
    obtain ⟨fd, FD⟩ := c.def_ 29 rfl
    exact ⟨_, fd, He.glo_ok X G (c.fact 27 (f := .glo "is_variable") rfl), FD⟩
  d_is_expression := by
    obtain ⟨fd, FD⟩ := c.def_ 30 rfl
    exact ⟨_, fd, He.glo_ok X G (c.fact 28 (f := .glo "is_expression") rfl), FD⟩
  d_v_law_is_operand := by
    obtain ⟨fd, FD⟩ := c.def_ 31 rfl
    exact ⟨_, fd, He.glo_ok X G (c.fact 29 (f := .glo "_law_is_operand") rfl), FD⟩
  d_is_operand := by
    obtain ⟨fd, FD⟩ := c.def_ 32 rfl
    exact ⟨_, fd, He.glo_ok X G (c.fact 30 (f := .glo "is_operand") rfl), FD⟩
  l_is_name_bodies := by
    rw [He.glo_ok X G (c.fact 31 (f := .glo "is_name_bodies") rfl), He.glo_ok X G (c.fact 12 (f := .glo "is_name") rfl)]
    exact congrArg some (congrArg Value.ref (of_decide_eq_true (fb_at c2 0 (f := .same "is_name_bodies" "is_name") rfl)))
  g_BASES := glT X G (c.fact 32 (f := .glo "BASES") rfl) (fb_at c2 1 (f := .tup "BASES" [.int 2, .int 3]) rfl) (fun _ _ _ => (.cons (.int _) (.cons (.int _) .nil)))
  g_LETTERS := glS X G (c.fact 33 (f := .str "LETTERS" "abcdefghijklmnopqrstuvwxyz") rfl)
  g_MOST_CALLS := glI X G (c.fact 34 (f := .int "MOST_CALLS" 1) rfl)
  g_MOST_CELLS := glI X G (c.fact 35 (f := .int "MOST_CELLS" 5) rfl)
  g_MOST_LETTERS := glI X G (c.fact 36 (f := .int "MOST_LETTERS" 8) rfl)
  g_MOST_ROWS := glI X G (c.fact 37 (f := .int "MOST_ROWS" 6) rfl)
  g_MOST_SLOTS := glI X G (c.fact 38 (f := .int "MOST_SLOTS" 3) rfl)
  g_SIGNS := glT X G (c.fact 39 (f := .glo "SIGNS") rfl) (fb_at c2 2 (f := .tup "SIGNS" [.str "+", .str "-", .str "*"]) rfl) (fun _ _ _ => (.cons (.str _) (.cons (.str _) (.cons (.str _) .nil))))
  g_VARIABLES := glT X G (c.fact 40 (f := .glo "VARIABLES") rfl) (fb_at c2 3 (f := .tup "VARIABLES" [.str "x", .str "y"]) rfl) (fun _ _ _ => (.cons (.str _) (.cons (.str _) .nil)))
  tb_FORMS := ⟨_, He.glo_ok X G (c.fact 41 (f := .glo "FORMS") rfl), tab_ok (l := [("set", "ve"), ("get", "vs"), ("put", "se"), ("if", "eer"), ("say", "e"), ("call", "nev"), ("end", "e")]) (fb_at c2 4 (f := .tab "FORMS" [("set", "ve"), ("get", "vs"), ("put", "se"), ("if", "eer"), ("say", "e"), ("call", "nev"), ("end", "e")]) rfl) hh_FORMS⟩
  n_abs := He.free_ok X G (c.fact 42 (f := .free "abs") rfl)
  n_all := He.free_ok X G (c.fact 43 (f := .free "all") rfl)
  n_bool := He.free_ok X G (c.fact 44 (f := .free "bool") rfl)
  n_dict := He.free_ok X G (c.fact 45 (f := .free "dict") rfl)
  n_enumerate := He.free_ok X G (c.fact 46 (f := .free "enumerate") rfl)
  n_int := He.free_ok X G (c.fact 47 (f := .free "int") rfl)
  n_isinstance := He.free_ok X G (c.fact 48 (f := .free "isinstance") rfl)
  n_len := He.free_ok X G (c.fact 49 (f := .free "len") rfl)
  n_list := He.free_ok X G (c.fact 50 (f := .free "list") rfl)
  n_max := He.free_ok X G (c.fact 51 (f := .free "max") rfl)
  n_min := He.free_ok X G (c.fact 52 (f := .free "min") rfl)
  n_range := He.free_ok X G (c.fact 53 (f := .free "range") rfl)
  n_str := He.free_ok X G (c.fact 54 (f := .free "str") rfl)
  n_tuple := He.free_ok X G (c.fact 55 (f := .free "tuple") rfl)
  n_zip := He.free_ok X G (c.fact 56 (f := .free "zip") rfl)
  i_bool := fun cc C b ho hm => by
    unfold ownI at ho
    split at ho
    · rename_i e
      subst e
      cases ho
      have e := hm.symm.trans (He.glo_ok X G (c.fact 57 (f := .glo "House") rfl))
      cases e
      exact ⟨own_ok (c.fact 58 (f := .cls "House") rfl) (fb_at c2 5 (f := .own "House") rfl), of_decide_eq_true (fb_at c2 6 (f := .kit "House" "bool" false) rfl)⟩
    · cases ho
  i_int := fun cc C b ho hm => by
    unfold ownI at ho
    split at ho
    · rename_i e
      subst e
      cases ho
      have e := hm.symm.trans (He.glo_ok X G (c.fact 57 (f := .glo "House") rfl))
      cases e
      exact ⟨own_ok (c.fact 58 (f := .cls "House") rfl) (fb_at c2 5 (f := .own "House") rfl), of_decide_eq_true (fb_at c2 7 (f := .kit "House" "int" false) rfl)⟩
    · cases ho
  i_str := fun cc C b ho hm => by
    unfold ownI at ho
    split at ho
    · rename_i e
      subst e
      cases ho
      have e := hm.symm.trans (He.glo_ok X G (c.fact 57 (f := .glo "House") rfl))
      cases e
      exact ⟨own_ok (c.fact 58 (f := .cls "House") rfl) (fb_at c2 5 (f := .own "House") rfl), of_decide_eq_true (fb_at c2 8 (f := .kit "House" "str" false) rfl)⟩
    · cases ho
  i_tuple := fun cc C b ho hm => by
    unfold ownI at ho
    split at ho
    · rename_i e
      subst e
      cases ho
      have e := hm.symm.trans (He.glo_ok X G (c.fact 57 (f := .glo "House") rfl))
      cases e
      exact ⟨own_ok (c.fact 58 (f := .cls "House") rfl) (fb_at c2 5 (f := .own "House") rfl), of_decide_eq_true (fb_at c2 9 (f := .kit "House" "tuple" false) rfl)⟩
    · cases ho
  a_base := fun cc C ho hm => by
    have e := of_decide_eq_true ho
    subst e
    have e := hm.symm.trans (He.glo_ok X G (c.fact 57 (f := .glo "House") rfl))
    cases e
    exact ⟨He.cls_ok (c.fact 58 (f := .cls "House") rfl), He.noat_ok (c.fact 59 (f := .noat "House" "base") rfl)⟩
  a_made := fun cc C ho hm => by
    have e := of_decide_eq_true ho
    subst e
    have e := hm.symm.trans (He.glo_ok X G (c.fact 57 (f := .glo "House") rfl))
    cases e
    exact ⟨He.cls_ok (c.fact 58 (f := .cls "House") rfl), He.noat_ok (c.fact 60 (f := .noat "House" "made") rfl)⟩
  a_numbers := fun cc C ho hm => by
    have e := of_decide_eq_true ho
    subst e
    have e := hm.symm.trans (He.glo_ok X G (c.fact 57 (f := .glo "House") rfl))
    cases e
    exact ⟨He.cls_ok (c.fact 58 (f := .cls "House") rfl), He.noat_ok (c.fact 61 (f := .noat "House" "numbers") rfl)⟩
  a_past := fun cc C ho hm => by
    have e := of_decide_eq_true ho
    subst e
    have e := hm.symm.trans (He.glo_ok X G (c.fact 57 (f := .glo "House") rfl))
    cases e
    exact ⟨He.cls_ok (c.fact 58 (f := .cls "House") rfl), He.noat_ok (c.fact 62 (f := .noat "House" "past") rfl)⟩
  k_House := by
    obtain ⟨fd, FD⟩ := c.def_ 2 rfl
    exact ⟨_, _, fd, He.glo_ok X G (c.fact 57 (f := .glo "House") rfl), He.mkr_ok (c.fact 63 (f := .mkr "House") rfl), FD⟩
  q_c_Parts_init_4 := by
    obtain ⟨fd, FD⟩ := c.def_ 15 rfl
    exact ⟨_, _, _, fd, He.glo_ok X G (c.fact 64 (f := .glo "Parts") rfl), cread_ok (fb_at c2 10 (f := .cread "Parts") rfl), cfun_ok (fb_at c2 11 (f := .cfun "Parts" "__init__") rfl), FD.kp, FD⟩
end Fc

set_option Elab.async false
set_option linter.all false
set_option maxRecDepth 100000
set_option maxHeartbeats 4000000
namespace Fc
open PySem PySem.Spec PySem.Calls PyProof.Rows L2

/-! ### drawn -/
def Tk (F : Ph) : Prop := ∀ g m n (k : Int), Bag g m n → n + 1 < 2 ^ 60 → 1 ≤ k → k < 1073741824 → (F.f_v_law_take_2 [.ref m, .int k] [] g).P fun d g' => ∃ t, d = .int t ∧ 0 ≤ t ∧ t < k ∧ Bag g' m (n + 1) ∧ Evo m g g'
theorem tk_up {F : Ph} : Tk F.up := by
  intro g m n k b hn h1 h2
  obtain ⟨x, y, z, e, hx, hy, hy2, hz, hz2⟩ := b
  refine P_runB ?_
  unfold dn_v_law_take
  rw [show ini 3 [D.ref m, .int k] = [some (.ref m), some (.int k), none] from rfl]
  simp only [S_seq, S_if, P_test, P_bin, P_var, P_C, List.getElem?_cons_zero, List.getElem?_cons_succ, V_ixL e, at3_0, V_gt]
  by_cases hp : 0 < x
  · simp only [hp, decide_true, if_true, S_set, S_sub, S_ret, S_nil, P_bin, P_var, P_C, List.getElem?_cons_zero, List.getElem?_cons_succ, V_ixL e, at3_0, V_mod, V_div, List.set_cons_succ, List.set_cons_zero, V_setL e, ix3_0]
    refine ⟨by omega, ⟨by omega, h2⟩, _, rfl, Int.emod_nonneg _ (by omega), Int.emod_lt_of_pos _ (by omega), ⟨x / k, y, z, at_set e, Int.ediv_nonneg hx (by omega), hy, hy2, hz, by omega⟩, Evo.set ..⟩
  · simp only [hp, decide_false, if_false, Bool.false_eq_true, S_nil, S_sub, S_ret, S_seq, P_bin, P_var, P_C, List.getElem?_cons_zero, List.getElem?_cons_succ, V_ixL e, at3_2, V_add, V_setL e, ix3_2, List.set_cons_succ, List.set_cons_zero]
    have e1 : (g.set m (.lst [.int x, .int y, .int (z + 1)]))[m]? = some (.lst [.int x, .int y, .int (z + 1)]) := at_set e
    simp only [V_ixL e1, at3_1, at3_2, V_add, V_mul, V_mod, V_setL e1, ix3_1, List.set_cons_succ, List.set_cons_zero]
    refine ⟨.inl ⟨by omega, by omega⟩, .inl ⟨by omega, by omega⟩, .inr ⟨by omega, by omega⟩, by omega, ?_⟩
    have y0 : 0 ≤ (y * 48271 + 6607 * (z + 1) * (z + 1) + 5) % 2147483647 := Int.emod_nonneg _ (by omega)
    have y1 : (y * 48271 + 6607 * (z + 1) * (z + 1) + 5) % 2147483647 < 2147483647 := Int.emod_lt_of_pos _ (by omega)
    generalize (y * 48271 + 6607 * (z + 1) * (z + 1) + 5) % 2147483647 = y' at y0 y1 ⊢
    have e2 : ((g.set m (.lst [.int x, .int y, .int (z + 1)])).set m (.lst [.int x, .int y', .int (z + 1)]))[m]? = some (.lst [.int x, .int y', .int (z + 1)]) := at_set e1
    simp only [V_ixL e2, at3_1, V_div, V_pow, V_mod]
    refine ⟨by omega, ⟨by omega, by omega, by omega⟩, by omega, by omega, _, rfl, Int.emod_nonneg _ (by omega), Int.emod_lt_of_pos _ (by omega), ⟨x, y', z + 1, e2, hx, y0, y1, by omega, by omega⟩, (Evo.set ..).trans (Evo.set ..)⟩
/-- plain data, so deep at most -/
def Pl : Nat → D → Prop
  | _, .int _ => True
  | _, .str s => s.length ≤ 8
  | n + 1, .tup l => l.length ≤ 7 ∧ ∀ d ∈ l, Pl n d
  | _, _ => False
theorem Pl.mono : ∀ {n m : Nat} {d : D}, n ≤ m → Pl n d → Pl m d
  | 0, 0, d, _, p => p
  | 0, m + 1, .int _, _, p => trivial
  | 0, m + 1, .str _, _, p => p
  | n + 1, m + 1, .int _, _, p => trivial
  | n + 1, m + 1, .str _, _, p => p
  | n + 1, m + 1, .tup l, h, p => ⟨p.1, fun d hd => (p.2 d hd).mono (by omega)⟩
def Opd (d : D) : Prop := (∃ i, d = .int i) ∨ d = .str "x" ∨ d = .str "y"
theorem Opd.pl {d : D} (h : Opd d) (n : Nat) : Pl n d := by
  rcases h with ⟨i, rfl⟩ | rfl | rfl
  · cases n <;> trivial
  · cases n <;> (show (1 : Nat) ≤ 8; decide)
  · cases n <;> (show (1 : Nat) ≤ 8; decide)
def OpdC (F : Ph) : Prop := ∀ g m n (k : Int), Bag g m n → n + 2 < 2 ^ 60 → 1 ≤ k → k < 1073741824 → (F.f_v_law_operand_2 [.ref m, .int k] [] g).P fun d g' => Opd d ∧ Bag g' m (n + 2) ∧ Evo m g g'
theorem opd_up {F : Ph} (T : Tk F) : OpdC F.up := by
  intro g m n k hb hn h1 h2
  refine P_runB ?_
  unfold dn_v_law_operand
  rw [show ini 2 [D.ref m, .int k] = [some (.ref m), some (.int k)] from rfl]
  simp only [S_ret, P_bin, P_lst, P_cons, P_nil, P_callF, P_C, P_var, List.getElem?_cons_zero, List.getElem?_cons_succ]
  refine (T g m n k hb (by omega) h1 h2).mono ?_
  rintro _ g1 ⟨t, rfl, ht0, ht1, hb1, he1⟩
  refine ⟨sz (Nat.le_of_ble_eq_true rfl), ?_⟩
  refine (T _ m (n + 1) 4 hb1.app (by omega) (by omega) (by omega)).mono ?_
  rintro _ g2 ⟨j, rfl, hj0, hj1, hb2, he2⟩
  have e : g2[g1.length]? = some (.lst [.str "x", .str "y", .str "x", .int t]) := he2.at (by have := hb1.lt; omega) at_new
  simp only [V_ixL e]
  obtain ⟨d, e1, hm⟩ := atI_in (l := [D.str "x", .str "y", .str "x", .int t]) hj0 hj1
  rw [e1]
  refine ⟨?_, hb2, (he1.trans (.app ..)).trans he2⟩
  simp only [List.mem_cons, List.not_mem_nil, or_false] at hm
  rcases hm with rfl | rfl | rfl | rfl
  · exact .inr (.inl rfl)
  · exact .inr (.inr rfl)
  · exact .inr (.inl rfl)
  · exact .inl ⟨_, rfl⟩
theorem sgn_at {j : Int} (h0 : 0 ≤ j) (h1 : j < 3) : ∃ c, atI (Str.ofString "+-*").cps.toList j = some c := by
  obtain ⟨c, e, _⟩ := atI_in (l := (Str.ofString "+-*").cps.toList) h0 (by show j < ((3 : Nat) : Int); omega)
  exact ⟨c, e⟩
theorem xy_at {j : Int} (h0 : 0 ≤ j) (h1 : j < 2) : ∃ c, atI (Str.ofString "xy").cps.toList j = some c := by
  obtain ⟨c, e, _⟩ := atI_in (l := (Str.ofString "xy").cps.toList) h0 (by show j < ((2 : Nat) : Int); omega)
  exact ⟨c, e⟩
theorem pl_sign (n c : Nat) : Pl n (.str ⟨#[c]⟩) := by cases n <;> (show (1 : Nat) ≤ 8; decide)
def ExC (F : Ph) : Prop := ∀ g m n (k : Int), Bag g m n → n + 6 < 2 ^ 60 → 1 ≤ k → k < 1073741824 → (F.f_v_law_expression_2 [.ref m, .int k] [] g).P fun d g' => Pl 1 d ∧ Bag g' m (n + 6) ∧ Evo m g g'
theorem ex_up {F : Ph} (T : Tk F) (O : OpdC F) : ExC F.up := by
  intro g m n k hb hn h1 h2
  refine P_runB ?_
  unfold dn_v_law_expression
  rw [show ini 3 [D.ref m, .int k] = [some (.ref m), some (.int k), none] from rfl]
  simp only [S_seq, S_set, P_callF, P_cons, P_nil, P_var, List.getElem?_cons_zero, List.getElem?_cons_succ]
  refine (O g m n k hb (by omega) h1 h2).mono ?_
  rintro l g1 ⟨hl, hb1, he1⟩
  simp only [S_if, P_test, P_bin, P_callF, P_cons, P_nil, P_var, P_C, List.getElem?_cons_zero, List.getElem?_cons_succ, List.set_cons_succ, List.set_cons_zero]
  refine (T g1 m (n + 2) 3 hb1 (by omega) (by omega) (by omega)).mono ?_
  rintro _ g2 ⟨t, rfl, ht0, ht1, hb2, he2⟩
  simp only [V_gt, S_nil, S_ret, P_var, List.getElem?_cons_zero, List.getElem?_cons_succ]
  by_cases hp : 0 < t
  · simp only [hp, decide_true, if_true]
    exact ⟨hl.pl 1, hb2.mono (by omega), he1.trans he2⟩
  · simp only [hp, decide_false, Bool.false_eq_true, if_false, P_tup, P_cons, P_nil, P_bin, P_callF, P_C, P_var, List.getElem?_cons_zero, List.getElem?_cons_succ]
    refine (T g2 m (n + 3) 3 hb2 (by omega) (by omega) (by omega)).mono ?_
    rintro _ g3 ⟨j, rfl, hj0, hj1, hb3, he3⟩
    obtain ⟨c, ec⟩ := sgn_at hj0 hj1
    simp only [V_ixS, ec]
    refine ⟨sz (by decide), ?_⟩
    refine (O g3 m (n + 4) k hb3 (by omega) h1 h2).mono ?_
    rintro r g4 ⟨hr, hb4, he4⟩
    refine ⟨sz (Nat.le_of_ble_eq_true rfl), ⟨by show (3 : Nat) ≤ 7; decide, fun d hd => ?_⟩, hb4, ((he1.trans he2).trans he3).trans he4⟩
    simp only [List.mem_cons, List.not_mem_nil, or_false] at hd
    rcases hd with rfl | rfl | rfl
    · exact pl_sign 0 c
    · exact hl.pl 0
    · exact hr.pl 0
/-- a drawn row: get and put have their slots -/
def RowOk (d : D) : Prop := Pl 2 d ∧ ∃ (w : Str) (r : List D), d = .tup (.str w :: r) ∧ (w = "get" → ∃ x i, r = [x, .int i] ∧ 0 ≤ i) ∧ (w = "put" → ∃ i x, r = [.int i, x] ∧ 0 ≤ i)
def RowC (F : Ph) : Prop := ∀ g m n (k s a c : Int), Bag g m n → n + 16 < 2 ^ 60 → 1 ≤ k → k < 1073741824 → s < 1073741824 → 0 ≤ a → a < c → c < 1073741824 → (F.f_v_law_row_5 [.ref m, .int k, .int s, .int a, .int c] [] g).P fun d g' => RowOk d ∧ Bag g' m (n + 16) ∧ Evo m g g'
theorem pl_int (n : Nat) (i : Int) : Pl n (.int i) := by cases n <;> trivial
theorem pl2 {l : List D} (h1 : l.length ≤ 7) (h : ∀ d ∈ l, Pl 1 d) : Pl 2 (.tup l) := ⟨h1, h⟩
theorem row_up {F : Ph} (T : Tk F) (E : ExC F) : RowC F.up := by
  intro g m n k s a c hb hn h1 h2 hs ha hac hc
  refine P_runB ?_
  unfold dn_v_law_row
  rw [show ini 9 [D.ref m, .int k, .int s, .int a, .int c] = [some (.ref m), some (.int k), some (.int s), some (.int a), some (.int c), none, none, none, none] from rfl]
  rw [S_seq]
  simp only [S_par, P_callF, P_cons, P_nil, P_var, List.getElem?_cons_zero, List.getElem?_cons_succ]
  refine (E g m n k hb (by omega) h1 h2).mono ?_
  rintro one g1 ⟨p1, hb1, he1⟩
  refine (E g1 m (n + 6) k hb1 (by omega) h1 h2).mono ?_
  rintro oth g2 ⟨p2, hb2, he2⟩
  have e12 := he1.trans he2
  rw [S_seq]
  simp only [S_par, P_bin, P_callF, P_cons, P_nil, P_var, P_C, List.getElem?_cons_zero, List.getElem?_cons_succ, List.set_cons_succ, List.set_cons_zero]
  refine (T g2 m (n + 12) 2 hb2 (by omega) (by omega) (by omega)).mono ?_
  rintro _ g3 ⟨j, rfl, hj0, hj1, hb3, he3⟩
  obtain ⟨v, ev⟩ := xy_at hj0 hj1
  simp only [V_ixS, ev]
  refine ⟨sz (by decide), ?_⟩
  refine (T g3 m (n + 13) 10 hb3 (by omega) (by omega) (by omega)).mono ?_
  rintro _ g4 ⟨w, rfl, hw0, hw1, hb4, he4⟩
  have e14 := (e12.trans he3).trans he4
  have fin : ∀ {d : D} {g' : G}, RowOk d → Evo m g4 g' → Bag g' m (n + 15) → RowOk d ∧ Bag g' m (n + 16) ∧ Evo m g g' := fun h e b => ⟨h, b.mono (by omega), e14.trans e⟩
  rw [S_seq]
  simp only [S_if, P_andT, P_test, P_bin, P_var, P_C, List.getElem?_cons_zero, List.getElem?_cons_succ, List.set_cons_succ, List.set_cons_zero, V_lt, V_gt, S_nil, decide_eq_true_eq]
  refine ite_and (fun c1 c2 => ?_) ?_
  · simp only [S_ret, P_tup, P_cons, P_nil, P_callF, P_var, P_C, List.getElem?_cons_zero, List.getElem?_cons_succ]
    refine (T g4 m (n + 14) s hb4 (by omega) (by omega) (by omega)).mono ?_
    rintro _ g5 ⟨i, rfl, hi0, hi1, hb5, he5⟩
    refine ⟨sz (Nat.le_of_ble_eq_true rfl), fin ⟨pl2 (by show (3 : Nat) ≤ 7; decide) fun d hd => ?_, _, _, rfl, fun _ => ⟨_, _, rfl, hi0⟩, fun q => absurd q (by decide +kernel)⟩ he5 hb5⟩
    simp only [List.mem_cons, List.not_mem_nil, or_false] at hd
    rcases hd with rfl | rfl | rfl
    · show (3 : Nat) ≤ 8; decide
    · exact pl_sign 1 v
    · exact pl_int 1 i
  rw [S_seq]
  simp only [S_if, P_andT, P_test, P_bin, P_var, P_C, List.getElem?_cons_zero, List.getElem?_cons_succ, V_lt, V_gt, S_nil, decide_eq_true_eq]
  refine ite_and (fun c1 c2 => ?_) ?_
  · simp only [S_ret, P_tup, P_cons, P_nil, P_callF, P_var, P_C, List.getElem?_cons_zero, List.getElem?_cons_succ]
    refine (T g4 m (n + 14) s hb4 (by omega) (by omega) (by omega)).mono ?_
    rintro _ g5 ⟨i, rfl, hi0, hi1, hb5, he5⟩
    refine ⟨sz (Nat.le_of_ble_eq_true rfl), fin ⟨pl2 (by show (3 : Nat) ≤ 7; decide) fun d hd => ?_, _, _, rfl, fun q => absurd q (by decide +kernel), fun _ => ⟨_, _, rfl, hi0⟩⟩ he5 hb5⟩
    simp only [List.mem_cons, List.not_mem_nil, or_false] at hd
    rcases hd with rfl | rfl | rfl
    · show (3 : Nat) ≤ 8; decide
    · exact pl_int 1 i
    · exact p1
  rw [S_seq]
  simp only [S_if, P_test, P_bin, P_var, P_C, List.getElem?_cons_zero, List.getElem?_cons_succ, V_lt, S_nil, decide_eq_true_eq]
  refine ite_one (fun c1 => ?_) fun _ => ?_
  · simp only [S_ret, P_tup, P_cons, P_nil, P_var, P_C, List.getElem?_cons_zero, List.getElem?_cons_succ]
    refine ⟨sz (Nat.le_of_ble_eq_true rfl), fin ⟨pl2 (by show (3 : Nat) ≤ 7; decide) fun d hd => ?_, _, _, rfl, fun q => absurd q (by decide +kernel), fun q => absurd q (by decide +kernel)⟩ (.refl ..) (hb4.mono (by omega))⟩
    simp only [List.mem_cons, List.not_mem_nil, or_false] at hd
    rcases hd with rfl | rfl | rfl
    · show (3 : Nat) ≤ 8; decide
    · exact pl_sign 1 v
    · exact p1
  rw [S_seq]
  simp only [S_if, P_test, P_bin, P_var, P_C, List.getElem?_cons_zero, List.getElem?_cons_succ, V_eqI, S_nil, decide_eq_true_eq]
  refine ite_one (fun c1 => ?_) fun _ => ?_
  · simp only [S_ret, P_tup, P_cons, P_nil, P_callF, P_bin, P_var, P_C, List.getElem?_cons_zero, List.getElem?_cons_succ, V_sub, V_add]
    refine (T g4 m (n + 14) (c - a) hb4 (by omega) (by omega) (by omega)).mono ?_
    rintro _ g5 ⟨i, rfl, hi0, hi1, hb5, he5⟩
    simp only [V_add]
    refine ⟨sz (Nat.le_of_ble_eq_true rfl), fin ⟨pl2 (by show (4 : Nat) ≤ 7; decide) fun d hd => ?_, _, _, rfl, fun q => absurd q (by decide +kernel), fun q => absurd q (by decide +kernel)⟩ he5 hb5⟩
    simp only [List.mem_cons, List.not_mem_nil, or_false] at hd
    rcases hd with rfl | rfl | rfl | rfl
    · show (2 : Nat) ≤ 8; decide
    · exact p1
    · exact p2
    · exact pl_int 1 _
  simp only [S_ret, P_ifE, P_test, P_tup, P_cons, P_nil, P_bin, P_var, P_C, List.getElem?_cons_zero, List.getElem?_cons_succ, V_eqI, decide_eq_true_eq]
  refine ite_one (fun c1 => ?_) fun _ => ?_
  · refine ⟨sz (Nat.le_of_ble_eq_true rfl), fin ⟨pl2 (by show (2 : Nat) ≤ 7; decide) fun d hd => ?_, _, _, rfl, fun q => absurd q (by decide +kernel), fun q => absurd q (by decide +kernel)⟩ (.refl ..) (hb4.mono (by omega))⟩
    simp only [List.mem_cons, List.not_mem_nil, or_false] at hd
    rcases hd with rfl | rfl
    · show (3 : Nat) ≤ 8; decide
    · exact p1
  · refine ⟨sz (Nat.le_of_ble_eq_true rfl), fin ⟨pl2 (by show (2 : Nat) ≤ 7; decide) fun d hd => ?_, _, _, rfl, fun q => absurd q (by decide +kernel), fun q => absurd q (by decide +kernel)⟩ (.refl ..) (hb4.mono (by omega))⟩
    simp only [List.mem_cons, List.not_mem_nil, or_false] at hd
    rcases hd with rfl | rfl
    · show (3 : Nat) ≤ 8; decide
    · exact p1
def BodyOk (d : D) : Prop := ∃ rows, d = .tup rows ∧ rows.length ≤ 6 ∧ ∀ r ∈ rows, RowOk r
def BodyC (F : Ph) : Prop := ∀ g m n (k s : Int) e (es : List D), Bag g m n → n + 140 < 2 ^ 60 → 1 ≤ k → k < 1073741824 → s < 1073741824 → g[e]? = some (.lst es) → e ≠ m → es.length ≤ 10 → (∀ d ∈ es, ∃ z : Str, d = .str z ∧ z.length ≤ 8) →
  (F.f_v_law_body_4 [.ref m, .int k, .int s, .ref e] [] g).P fun d g' => BodyOk d ∧ Bag g' m (n + 140) ∧ Evo m g g'
theorem body_up {F : Ph} (T : Tk F) (E : ExC F) (R : RowC F) : BodyC F.up := by
  intro g m n k s e es hb hn h1 h2 hs he hem hes hall
  refine P_runB ?_
  unfold dn_v_law_body
  rw [show ini 9 [D.ref m, .int k, .int s, .ref e] = [some (.ref m), some (.int k), some (.int s), some (.ref e), none, none, none, none, none] from rfl]
  rw [S_seq]
  simp only [S_set, P_callF, P_cons, P_nil, P_var, P_C, List.getElem?_cons_zero, List.getElem?_cons_succ, List.set_cons_succ, List.set_cons_zero]
  refine (T g m n 7 hb (by omega) (by omega) (by omega)).mono ?_
  rintro _ g1 ⟨c, rfl, hc0, hc1, hb1, he1⟩
  rw [S_seq]
  rw [S_set]
  refine lc_bag (rngD 0 c.toNat) m (n + 1) 16 (fun _ d => RowOk d) (fun _ h => h) hb1 ?_ (by rw [rng_len]; exact sz (by omega)) (fun i d hd g' he' hk' hb' => ?_) (fun g2 rows he2 hk2 hb2 hL hlen hrows => ?_)
  · simp only [P_rng1, P_var, List.getElem?_cons_zero, List.getElem?_cons_succ]
    exact ⟨⟨by omega, by omega⟩, by first | exact ⟨rfl, rfl⟩ | exact ⟨trivial, trivial⟩ | trivial⟩
  · obtain ⟨hi, rfl⟩ := rng_get hd
    refine ⟨_, rfl, ?_⟩
    simp only [P_callF, P_cons, P_nil, P_var, List.map_cons, List.map_nil, wipeE, List.getElem?_cons_zero, List.getElem?_cons_succ, List.set_cons_succ, List.set_cons_zero]
    refine (R g' m (n + 1 + i * 16) k s (0 + (i : Int)) c hb' (by omega) h1 h2 hs (by omega) (by omega) (by omega)).mono ?_
    rintro y g3 ⟨hy, hb3, he3⟩
    exact ⟨hy, hb3.mono (by omega), he3⟩
  · rw [rng_len] at hb2 hlen
    have hb2 : Bag g2 m (n + 97) := hb2.mono (by omega)
    have e2 := he1.trans he2
    have hee : g2[e]? = some (.lst es) := e2.at hem he
    have hLm : g1.length ≠ m := by have := hb1.lt; omega
    have fin : ∀ {rows : List D} {g' : G}, g'[g1.length]? = some (.lst rows) → rows.length ≤ 6 → (∀ r ∈ rows, RowOk r) → Bag g' m (n + 140) → Evo m g g' → (sRet (fCall oTuple (fCons (fVar 5) fNil)) [some (.ref m), some (.int k), some (.int s), some (.ref e), some (.int c), some (.ref g1.length), none, none, none] g').P (fun _ g' => BodyOk .non ∧ Bag g' m (n + 140) ∧ Evo m g g') fun d g' => BodyOk d ∧ Bag g' m (n + 140) ∧ Evo m g g' := fun h1 h2 h3 h4 h5 => by
      simp only [S_ret, P_call, P_cons, P_nil, P_var, List.getElem?_cons_zero, List.getElem?_cons_succ, V_tupleL h1]
      exact ⟨⟨_, rfl, h2, h3⟩, h4, h5⟩
    simp only [List.set_cons_succ, List.set_cons_zero]
    rw [S_seq]
    simp only [S_if, P_andT, P_test, P_bin, P_lst, P_nil, P_var, P_C, List.getElem?_cons_zero, List.getElem?_cons_succ, S_nil]
    refine ⟨sz (by simp), ?_⟩
    rw [V_neL0 (at_app hL) at_new]
    refine ite_one (fun c1 => ?_) fun _ => fin (at_app hL) (by omega) hrows (hb2.app.mono (by omega)) (e2.trans (.app ..))
    refine ⟨sz (by simp), ?_⟩
    rw [V_neL0 (at_app (at_app hee)) at_new]
    refine ite_one (fun c2 => ?_) fun _ => fin (at_app (at_app hL)) (by omega) hrows (hb2.app.app.mono (by omega)) ((e2.trans (.app ..)).trans (.app ..))
    simp only [P_callF, P_cons, P_nil, P_var, P_C, List.getElem?_cons_zero, List.getElem?_cons_succ]
    refine (T _ m (n + 97) 3 hb2.app.app (by omega) (by omega) (by omega)).mono ?_
    rintro _ g3 ⟨q, rfl, hq0, hq1, hb3, he3⟩
    simp only [V_eqI, decide_eq_true_eq]
    have e3 : Evo m g2 g3 := ((Evo.app m g2 _).trans (.app ..)).trans he3
    have hL3 : g3[g1.length]? = some (.lst rows) := e3.at hLm hL
    have hee3 : g3[e]? = some (.lst es) := e3.at hem hee
    refine ite_one (fun c3 => ?_) fun _ => fin hL3 (by omega) hrows (hb3.mono (by omega)) (e2.trans e3)
    rw [S_seq]
    simp only [S_par, P_bin, P_call, P_callF, P_cons, P_nil, P_var, P_C, List.getElem?_cons_zero, List.getElem?_cons_succ, V_lenL hee3]
    have hne : es ≠ [] := fun z => by rw [z] at c2; cases c2
    have hpos : 0 < es.length := List.length_pos_iff.mpr hne
    refine (T g3 m (n + 98) (es.length : Int) (hb3.mono (by omega)) (by omega) (by omega) (by omega)).mono ?_
    rintro _ g4 ⟨u, rfl, hu0, hu1, hb4, he4⟩
    have hee4 : g4[e]? = some (.lst es) := he4.at hem hee3
    rw [V_ixL hee4]
    obtain ⟨nm, en, hnm⟩ := atI_in hu0 hu1
    rw [en]
    obtain ⟨z, rfl, hz⟩ := hall nm hnm
    dsimp only
    refine (E g4 m (n + 99) k hb4 (by omega) h1 h2).mono ?_
    rintro one g5 ⟨p1, hb5, he5⟩
    simp only [List.set_cons_succ, List.set_cons_zero, S_sub, P_tup, P_bin, P_callF, P_cons, P_nil, P_var, P_C, List.getElem?_cons_zero, List.getElem?_cons_succ]
    refine (T g5 m (n + 105) 2 hb5 (by omega) (by omega) (by omega)).mono ?_
    rintro _ g6 ⟨j, rfl, hj0, hj1, hb6, he6⟩
    obtain ⟨v, ev⟩ := xy_at hj0 hj1
    simp only [V_ixS, ev]
    refine ⟨sz (by decide), sz (Nat.le_of_ble_eq_true rfl), ?_⟩
    have hcp : 0 < rows.length := List.length_pos_iff.mpr fun z => by rw [z] at c1; cases c1
    refine (T g6 m (n + 106) c hb6 (by omega) (by omega) (by omega)).mono ?_
    rintro _ g7 ⟨r, rfl, hr0, hr1, hb7, he7⟩
    have hL7 : g7[g1.length]? = some (.lst rows) := he7.at hLm (he6.at hLm (he5.at hLm (he4.at hLm hL3)))
    obtain ⟨r', rfl⟩ := Int.eq_ofNat_of_zero_le hr0
    rw [V_setL hL7, ixN_nat (by omega)]
    dsimp only
    have e7 : Evo m g g7 := ((((e2.trans e3).trans he4).trans he5).trans he6).trans he7
    have callOk : RowOk (.tup [.str "call", .str z, one, .str ⟨#[v]⟩]) := by
      refine ⟨pl2 (by show (4 : Nat) ≤ 7; decide) fun d hd => ?_, _, _, rfl, fun q => absurd q (by decide +kernel), fun q => absurd q (by decide +kernel)⟩
      simp only [List.mem_cons, List.not_mem_nil, or_false] at hd
      rcases hd with rfl | rfl | rfl | rfl
      · show (4 : Nat) ≤ 8; decide
      · exact hz
      · exact p1
      · exact pl_sign 1 v
    have z1 := at_set (o' := .lst (rows.set r' (.tup [.str "call", .str z, one, .str ⟨#[v]⟩]))) hL7
    simp only [S_ret, P_call, P_cons, P_nil, P_var, List.getElem?_cons_zero, List.getElem?_cons_succ, V_tupleL z1]
    refine ⟨⟨_, rfl, by rw [List.length_set]; omega, fun y hy => ?_⟩, (hb7.set (Ne.symm hLm)).mono (by omega), e7.setNew (by have := he1.len; omega) _⟩
    rcases List.mem_or_eq_of_mem_set hy with q | q
    · exact hrows y q
    · rw [q]; exact callOk
end Fc

set_option Elab.async false
set_option linter.all false
set_option maxRecDepth 100000
set_option maxHeartbeats 4000000
namespace Fc
open PySem PySem.Spec PySem.Calls PyProof.Rows L2

/-! ### isinstance at values -/
theorem isiM_of {T t : String} {own : Str → Option Bool} {d : D} {g : G} {Q : D → G → Prop} {b : Bool} (h : tyD d g = some t) (k : kitB t T = some b) : isiM T own d g Q = Q (.bl b) g := by
  unfold isiM
  rw [h]
  dsimp only
  rw [k]
theorem kb_non_int : kitB "NoneType" "int" = some false := by decide +kernel
theorem isi_non_int {own : Str → Option Bool} {g : G} {Q : D → G → Prop}  : isiM "int" own .non g Q = Q (.bl false) g := isiM_of rfl kb_non_int
theorem kb_bl_int : kitB "bool" "int" = some true := by decide +kernel
theorem isi_bl_int {own : Str → Option Bool} {g : G} {Q : D → G → Prop} {p : Bool} : isiM "int" own (.bl p) g Q = Q (.bl true) g := isiM_of rfl kb_bl_int
theorem kb_int_int : kitB "int" "int" = some true := by decide +kernel
theorem isi_int_int {own : Str → Option Bool} {g : G} {Q : D → G → Prop} {i : Int} : isiM "int" own (.int i) g Q = Q (.bl true) g := isiM_of rfl kb_int_int
theorem kb_str_int : kitB "str" "int" = some false := by decide +kernel
theorem isi_str_int {own : Str → Option Bool} {g : G} {Q : D → G → Prop} {x : Str} : isiM "int" own (.str x) g Q = Q (.bl false) g := isiM_of rfl kb_str_int
theorem kb_tup_int : kitB "tuple" "int" = some false := by decide +kernel
theorem isi_tup_int {own : Str → Option Bool} {g : G} {Q : D → G → Prop} {l : List D} : isiM "int" own (.tup l) g Q = Q (.bl false) g := isiM_of rfl kb_tup_int
theorem kb_lst_int : kitB "list" "int" = some false := by decide +kernel
theorem isi_ref_int {g : G} {Q : D → G → Prop} {m : Nat} (h : Ob g m) : isiM "int" ownI (.ref m) g Q = Q (.bl false) g := by
  rcases h with ⟨l, e⟩ | ⟨fs, e⟩
  · exact isiM_of (by show (match g[m]? with | some (.lst _) => some "list" | some (.frz _) => some "list" | some (.dct _) => some "dict" | _ => none) = some "list"; rw [e]) kb_lst_int
  · have h1 : tyD (.ref m) g = none := by
      show (match g[m]? with | some (.lst _) => some "list" | some (.frz _) => some "list" | some (.dct _) => some "dict" | _ => none) = none
      rw [e]
    have h2 : ownD (.ref m) g = some ("House" : Str) := by
      show (match g[m]? with | some (.ins c _) => some c | _ => none) = some ("House" : Str)
      rw [e]
    unfold isiM
    rw [h1, h2]
    have h3 : ((some ("House" : Str)).bind ownI) = some false := by
      show ownI "House" = some false
      unfold ownI
      rw [if_pos rfl]
    rw [h3]
theorem kb_non_bool : kitB "NoneType" "bool" = some false := by decide +kernel
theorem isi_non_bool {own : Str → Option Bool} {g : G} {Q : D → G → Prop}  : isiM "bool" own .non g Q = Q (.bl false) g := isiM_of rfl kb_non_bool
theorem kb_bl_bool : kitB "bool" "bool" = some true := by decide +kernel
theorem isi_bl_bool {own : Str → Option Bool} {g : G} {Q : D → G → Prop} {p : Bool} : isiM "bool" own (.bl p) g Q = Q (.bl true) g := isiM_of rfl kb_bl_bool
theorem kb_int_bool : kitB "int" "bool" = some false := by decide +kernel
theorem isi_int_bool {own : Str → Option Bool} {g : G} {Q : D → G → Prop} {i : Int} : isiM "bool" own (.int i) g Q = Q (.bl false) g := isiM_of rfl kb_int_bool
theorem kb_str_bool : kitB "str" "bool" = some false := by decide +kernel
theorem isi_str_bool {own : Str → Option Bool} {g : G} {Q : D → G → Prop} {x : Str} : isiM "bool" own (.str x) g Q = Q (.bl false) g := isiM_of rfl kb_str_bool
theorem kb_tup_bool : kitB "tuple" "bool" = some false := by decide +kernel
theorem isi_tup_bool {own : Str → Option Bool} {g : G} {Q : D → G → Prop} {l : List D} : isiM "bool" own (.tup l) g Q = Q (.bl false) g := isiM_of rfl kb_tup_bool
theorem kb_lst_bool : kitB "list" "bool" = some false := by decide +kernel
theorem isi_ref_bool {g : G} {Q : D → G → Prop} {m : Nat} (h : Ob g m) : isiM "bool" ownI (.ref m) g Q = Q (.bl false) g := by
  rcases h with ⟨l, e⟩ | ⟨fs, e⟩
  · exact isiM_of (by show (match g[m]? with | some (.lst _) => some "list" | some (.frz _) => some "list" | some (.dct _) => some "dict" | _ => none) = some "list"; rw [e]) kb_lst_bool
  · have h1 : tyD (.ref m) g = none := by
      show (match g[m]? with | some (.lst _) => some "list" | some (.frz _) => some "list" | some (.dct _) => some "dict" | _ => none) = none
      rw [e]
    have h2 : ownD (.ref m) g = some ("House" : Str) := by
      show (match g[m]? with | some (.ins c _) => some c | _ => none) = some ("House" : Str)
      rw [e]
    unfold isiM
    rw [h1, h2]
    have h3 : ((some ("House" : Str)).bind ownI) = some false := by
      show ownI "House" = some false
      unfold ownI
      rw [if_pos rfl]
    rw [h3]
theorem kb_non_str : kitB "NoneType" "str" = some false := by decide +kernel
theorem isi_non_str {own : Str → Option Bool} {g : G} {Q : D → G → Prop}  : isiM "str" own .non g Q = Q (.bl false) g := isiM_of rfl kb_non_str
theorem kb_bl_str : kitB "bool" "str" = some false := by decide +kernel
theorem isi_bl_str {own : Str → Option Bool} {g : G} {Q : D → G → Prop} {p : Bool} : isiM "str" own (.bl p) g Q = Q (.bl false) g := isiM_of rfl kb_bl_str
theorem kb_int_str : kitB "int" "str" = some false := by decide +kernel
theorem isi_int_str {own : Str → Option Bool} {g : G} {Q : D → G → Prop} {i : Int} : isiM "str" own (.int i) g Q = Q (.bl false) g := isiM_of rfl kb_int_str
theorem kb_str_str : kitB "str" "str" = some true := by decide +kernel
theorem isi_str_str {own : Str → Option Bool} {g : G} {Q : D → G → Prop} {x : Str} : isiM "str" own (.str x) g Q = Q (.bl true) g := isiM_of rfl kb_str_str
theorem kb_tup_str : kitB "tuple" "str" = some false := by decide +kernel
theorem isi_tup_str {own : Str → Option Bool} {g : G} {Q : D → G → Prop} {l : List D} : isiM "str" own (.tup l) g Q = Q (.bl false) g := isiM_of rfl kb_tup_str
theorem kb_lst_str : kitB "list" "str" = some false := by decide +kernel
theorem isi_ref_str {g : G} {Q : D → G → Prop} {m : Nat} (h : Ob g m) : isiM "str" ownI (.ref m) g Q = Q (.bl false) g := by
  rcases h with ⟨l, e⟩ | ⟨fs, e⟩
  · exact isiM_of (by show (match g[m]? with | some (.lst _) => some "list" | some (.frz _) => some "list" | some (.dct _) => some "dict" | _ => none) = some "list"; rw [e]) kb_lst_str
  · have h1 : tyD (.ref m) g = none := by
      show (match g[m]? with | some (.lst _) => some "list" | some (.frz _) => some "list" | some (.dct _) => some "dict" | _ => none) = none
      rw [e]
    have h2 : ownD (.ref m) g = some ("House" : Str) := by
      show (match g[m]? with | some (.ins c _) => some c | _ => none) = some ("House" : Str)
      rw [e]
    unfold isiM
    rw [h1, h2]
    have h3 : ((some ("House" : Str)).bind ownI) = some false := by
      show ownI "House" = some false
      unfold ownI
      rw [if_pos rfl]
    rw [h3]
theorem kb_non_tuple : kitB "NoneType" "tuple" = some false := by decide +kernel
theorem isi_non_tuple {own : Str → Option Bool} {g : G} {Q : D → G → Prop}  : isiM "tuple" own .non g Q = Q (.bl false) g := isiM_of rfl kb_non_tuple
theorem kb_bl_tuple : kitB "bool" "tuple" = some false := by decide +kernel
theorem isi_bl_tuple {own : Str → Option Bool} {g : G} {Q : D → G → Prop} {p : Bool} : isiM "tuple" own (.bl p) g Q = Q (.bl false) g := isiM_of rfl kb_bl_tuple
theorem kb_int_tuple : kitB "int" "tuple" = some false := by decide +kernel
theorem isi_int_tuple {own : Str → Option Bool} {g : G} {Q : D → G → Prop} {i : Int} : isiM "tuple" own (.int i) g Q = Q (.bl false) g := isiM_of rfl kb_int_tuple
theorem kb_str_tuple : kitB "str" "tuple" = some false := by decide +kernel
theorem isi_str_tuple {own : Str → Option Bool} {g : G} {Q : D → G → Prop} {x : Str} : isiM "tuple" own (.str x) g Q = Q (.bl false) g := isiM_of rfl kb_str_tuple
theorem kb_tup_tuple : kitB "tuple" "tuple" = some true := by decide +kernel
theorem isi_tup_tuple {own : Str → Option Bool} {g : G} {Q : D → G → Prop} {l : List D} : isiM "tuple" own (.tup l) g Q = Q (.bl true) g := isiM_of rfl kb_tup_tuple
theorem kb_lst_tuple : kitB "list" "tuple" = some false := by decide +kernel
theorem isi_ref_tuple {g : G} {Q : D → G → Prop} {m : Nat} (h : Ob g m) : isiM "tuple" ownI (.ref m) g Q = Q (.bl false) g := by
  rcases h with ⟨l, e⟩ | ⟨fs, e⟩
  · exact isiM_of (by show (match g[m]? with | some (.lst _) => some "list" | some (.frz _) => some "list" | some (.dct _) => some "dict" | _ => none) = some "list"; rw [e]) kb_lst_tuple
  · have h1 : tyD (.ref m) g = none := by
      show (match g[m]? with | some (.lst _) => some "list" | some (.frz _) => some "list" | some (.dct _) => some "dict" | _ => none) = none
      rw [e]
    have h2 : ownD (.ref m) g = some ("House" : Str) := by
      show (match g[m]? with | some (.ins c _) => some c | _ => none) = some ("House" : Str)
      rw [e]
    unfold isiM
    rw [h1, h2]
    have h3 : ((some ("House" : Str)).bind ownI) = some false := by
      show ownI "House" = some false
      unfold ownI
      rw [if_pos rfl]
    rw [h3]
/-! ### any value -/
def Gd (g : G) : Nat → D → Prop
  | _, .non => True
  | _, .bl _ => True
  | _, .int _ => True
  | _, .str s => s.length ≤ 20
  | _, .ref m => Ob g m
  | n + 1, .tup l => l.length ≤ 20 ∧ ∀ d ∈ l, Gd g n d
  | 0, .tup _ => False
theorem Gd.kd {g g' : G} (k : Kd g g') : ∀ {n : Nat} {d : D}, Gd g n d → Gd g' n d
  | 0, .non, _ => trivial
  | 0, .bl _, _ => trivial
  | 0, .int _, _ => trivial
  | 0, .str _, p => p
  | 0, .ref m, p => k m p
  | n + 1, .non, _ => trivial
  | n + 1, .bl _, _ => trivial
  | n + 1, .int _, _ => trivial
  | n + 1, .str _, p => p
  | n + 1, .ref m, p => k m p
  | n + 1, .tup l, p => ⟨p.1, fun d hd => (p.2 d hd).kd k⟩
theorem Gd.mono {g : G} : ∀ {n m : Nat} {d : D}, n ≤ m → Gd g n d → Gd g m d
  | 0, m, .non, _, _ => by cases m <;> trivial
  | 0, m, .bl _, _, _ => by cases m <;> trivial
  | 0, m, .int _, _, _ => by cases m <;> trivial
  | 0, m, .str _, _, p => by cases m <;> exact p
  | 0, m, .ref _, _, p => by cases m <;> exact p
  | n + 1, m + 1, .non, _, _ => trivial
  | n + 1, m + 1, .bl _, _, _ => trivial
  | n + 1, m + 1, .int _, _, _ => trivial
  | n + 1, m + 1, .str _, _, p => p
  | n + 1, m + 1, .ref _, _, p => p
  | n + 1, m + 1, .tup l, h, p => ⟨p.1, fun d hd => (p.2 d hd).mono (by omega)⟩
theorem Pl.gd {g : G} : ∀ {n : Nat} {d : D}, Pl n d → Gd g n d
  | 0, .int _, _ => trivial
  | 0, .str s, p => Nat.le_trans (show s.length ≤ 8 from p) (by decide)
  | n + 1, .int _, _ => trivial
  | n + 1, .str s, p => Nat.le_trans (show s.length ≤ 8 from p) (by decide)
  | n + 1, .tup l, p => ⟨Nat.le_trans p.1 (by decide), fun d hd => (p.2 d hd).gd⟩
theorem gd_int {g : G} (n : Nat) (i : Int) : Gd g n (.int i) := by cases n <;> trivial
theorem gd_bl {g : G} (n : Nat) (i : Bool) : Gd g n (.bl i) := by cases n <;> trivial
theorem gd_non {g : G} (n : Nat) : Gd g n .non := by cases n <;> trivial
theorem gd_str {g : G} (n : Nat) {s : Str} (h : s.length ≤ 20) : Gd g n (.str s) := by cases n <;> exact h
theorem gd_lst {g : G} (n : Nat) {m : Nat} {l : List D} (h : g[m]? = some (.lst l)) : Gd g n (.ref m) := by cases n <;> exact .inl ⟨l, h⟩
theorem gd_tup {g : G} {n : Nat} {l : List D} (h : l.length ≤ 20) (k : ∀ d ∈ l, Gd g n d) : Gd g (n + 1) (.tup l) := ⟨h, k⟩
def AnyC (F : Ph) : Prop := ∀ g m n o (os : List D), Bag g m n → n + 1 < 2 ^ 60 → g[o]? = some (.lst os) → o ≠ m → os.length ≤ 10 → (∀ d ∈ os, Gd g 3 d) → (F.f_v_law_any_2 [.ref m, .ref o] [] g).P fun d g' => Gd g' 4 d ∧ Bag g' m (n + 1) ∧ Evo m g g'
theorem any_up {F : Ph} (T : Tk F) : AnyC F.up := by
  intro g m n o os hb hn ho hom hos hgd
  refine P_runB ?_
  unfold dn_v_law_any
  rw [show ini 4 [D.ref m, .ref o] = [some (.ref m), some (.ref o), none, none] from rfl]
  rw [S_seq]
  simp only [S_set, P_lst, P_cons, P_nil, P_C, P_un, P_bin, P_tup, V_neg, V_pow]
  refine ⟨⟨by omega, by omega, by decide⟩, sz (by simp), sz (by simp), sz (by simp), sz (by simp), sz (by simp), sz (by simp), sz (by simp), ?_⟩
  have w1 : ((g ++ [O.lst []]) ++ [O.lst [.int 0]])[g.length]? = some (.lst []) := at_app at_new
  have w2 : ((g ++ [O.lst []]) ++ [O.lst [.int 0]])[(g ++ [O.lst []]).length]? = some (.lst [.int 0]) := at_new
  have hl0 : ∀ d ∈ [D.non, .bl true, .bl false, .int 0, .int 1, .int (-1), .int 2, .int 3, .int (10 ^ (59 : Int).toNat), .str "", .str "a", .str "x", .str "y", .str "A", .ref g.length, .tup [], .ref (g ++ [O.lst []]).length, .tup [.str "end", .int 0], .tup [.tup [.str "end", .int 0]]], Gd ((g ++ [.lst []]) ++ [.lst [.int 0]]) 3 d := by
    intro d hd
    have one : Gd ((g ++ [O.lst []]) ++ [O.lst [.int 0]]) 1 (.tup [.str "end", .int 0]) := gd_tup (by decide) fun d hd => by
      simp only [List.mem_cons, List.not_mem_nil, or_false] at hd
      rcases hd with rfl | rfl
      · show (3 : Nat) ≤ 20; decide
      · trivial
    simp only [List.mem_cons, List.not_mem_nil, or_false] at hd
    rcases hd with rfl | rfl | rfl | rfl | rfl | rfl | rfl | rfl | rfl | rfl | rfl | rfl | rfl | rfl | rfl | rfl | rfl | rfl | rfl
    · trivial
    · trivial
    · trivial
    · trivial
    · trivial
    · trivial
    · trivial
    · trivial
    · trivial
    · show (0 : Nat) ≤ 20; decide
    · show (1 : Nat) ≤ 20; decide
    · show (1 : Nat) ≤ 20; decide
    · show (1 : Nat) ≤ 20; decide
    · show (1 : Nat) ≤ 20; decide
    · exact gd_lst 3 w1
    · exact gd_tup (by decide) fun d hd => absurd hd (by simp)
    · exact gd_lst 3 w2
    · exact one.mono (by decide)
    · exact (gd_tup (by decide) fun d hd => by rw [List.mem_singleton.mp hd]; exact one : Gd _ 2 _).mono (by decide)
  have hlen0 : [D.non, .bl true, .bl false, .int 0, .int 1, .int (-1), .int 2, .int 3, .int (10 ^ (59 : Int).toNat), .str "", .str "a", .str "x", .str "y", .str "A", .ref g.length, .tup [], .ref (g ++ [O.lst []]).length, .tup [.str "end", .int 0], .tup [.tup [.str "end", .int 0]]].length = 19 := rfl
  have g1 : Gro g ((g ++ [O.lst []]) ++ [O.lst [.int 0]]) := (Gro.app g _).trans (.app _ _)
  generalize [D.non, .bl true, .bl false, .int 0, .int 1, .int (-1), .int 2, .int 3, .int (10 ^ (59 : Int).toNat), .str "", .str "a", .str "x", .str "y", .str "A", .ref g.length, .tup [], .ref (g ++ [O.lst []]).length, .tup [.str "end", .int 0], .tup [.tup [.str "end", .int 0]]] = l0 at hl0 hlen0 ⊢
  generalize ((g ++ [O.lst []]) ++ [O.lst [.int 0]]) = ga at hl0 g1 ⊢
  clear w1 w2
  rw [S_seq]
  simp only [S_set, P_lst, P_cons, P_nil, P_C, P_bin, P_tup, P_var, List.getElem?_cons_zero, List.getElem?_cons_succ, List.set_cons_succ, List.set_cons_zero]
  refine ⟨sz (by simp), sz (by simp), sz (by simp), sz (by simp), sz (by simp), sz (by simp), ?_⟩
  have v1 : (((ga ++ [O.lst l0]) ++ [O.lst [.str "x"]]) ++ [O.lst [.int 1]])[ga.length]? = some (.lst l0) := at_app (at_app at_new)
  have v2 : (((ga ++ [O.lst l0]) ++ [O.lst [.str "x"]]) ++ [O.lst [.int 1]])[(ga ++ [O.lst l0]).length]? = some (.lst [.str "x"]) := at_app at_new
  have v3 : (((ga ++ [O.lst l0]) ++ [O.lst [.str "x"]]) ++ [O.lst [.int 1]])[((ga ++ [O.lst l0]) ++ [O.lst [.str "x"]]).length]? = some (.lst [.int 1]) := at_new
  have hl1 : ∀ d ∈ [D.tup [.str "a", .int 0], .tup [.str "get", .str "x", .int 0], .ref (ga ++ [O.lst l0]).length, .tup [.non, .ref ((ga ++ [O.lst l0]) ++ [O.lst [.str "x"]]).length]], Gd (((ga ++ [O.lst l0]) ++ [O.lst [.str "x"]]) ++ [O.lst [.int 1]]) 3 d := by
    intro d hd
    simp only [List.mem_cons, List.not_mem_nil, or_false] at hd
    rcases hd with rfl | rfl | rfl | rfl
    · exact gd_tup (by decide) fun d hd => by
        simp only [List.mem_cons, List.not_mem_nil, or_false] at hd
        rcases hd with rfl | rfl
        · show (1 : Nat) ≤ 20; decide
        · trivial
    · exact gd_tup (by decide) fun d hd => by
        simp only [List.mem_cons, List.not_mem_nil, or_false] at hd
        rcases hd with rfl | rfl | rfl
        · show (3 : Nat) ≤ 20; decide
        · show (1 : Nat) ≤ 20; decide
        · trivial
    · exact gd_lst 3 v2
    · exact gd_tup (by show (2 : Nat) ≤ 20; decide) fun d hd => by
        simp only [List.mem_cons, List.not_mem_nil, or_false] at hd
        rcases hd with rfl | rfl
        · trivial
        · exact gd_lst 2 v3
  have hlen1 : [D.tup [.str "a", .int 0], .tup [.str "get", .str "x", .int 0], .ref (ga ++ [O.lst l0]).length, .tup [.non, .ref ((ga ++ [O.lst l0]) ++ [O.lst [.str "x"]]).length]].length = 4 := rfl
  generalize [D.tup [.str "a", .int 0], .tup [.str "get", .str "x", .int 0], .ref (ga ++ [O.lst l0]).length, .tup [.non, .ref ((ga ++ [O.lst l0]) ++ [O.lst [.str "x"]]).length]] = l1 at hl1 hlen1 ⊢
  have g2 : Gro ga (((ga ++ [O.lst l0]) ++ [O.lst [.str "x"]]) ++ [O.lst [.int 1]]) := ((Gro.app _ _).trans (.app _ _)).trans (.app _ _)
  generalize (((ga ++ [O.lst l0]) ++ [O.lst [.str "x"]]) ++ [O.lst [.int 1]]) = gb at hl1 g2 v1 ⊢
  clear v2 v3
  rw [V_addL (at_app v1) at_new]
  refine ⟨sz (by omega), ?_⟩
  have ho2 : gb[o]? = some (.lst os) := g2.at (g1.at ho)
  rw [V_addL (at_new) (at_app (at_app ho2))]
  refine ⟨sz (by simp; omega), ?_⟩
  have hal : ∀ d ∈ (l0 ++ l1) ++ os, Gd gb 3 d := fun d hd => by
    rcases List.mem_append.mp hd with q | q
    · rcases List.mem_append.mp q with q | q
      · exact (hl0 d q).kd g2.kd
      · exact hl1 d q
    · exact (hgd d q).kd (g1.trans g2).kd
  have g3 : Gro gb (((gb ++ [O.lst l1]) ++ [O.lst (l0 ++ l1)]) ++ [O.lst (l0 ++ l1 ++ os)]) := ((Gro.app _ _).trans (.app _ _)).trans (.app _ _)
  have v4 : (((gb ++ [O.lst l1]) ++ [O.lst (l0 ++ l1)]) ++ [O.lst (l0 ++ l1 ++ os)])[((gb ++ [O.lst l1]) ++ [O.lst (l0 ++ l1)]).length]? = some (.lst (l0 ++ l1 ++ os)) := at_new
  generalize (((gb ++ [O.lst l1]) ++ [O.lst (l0 ++ l1)]) ++ [O.lst (l0 ++ l1 ++ os)]) = gc at g3 v4 ⊢
  generalize ((gb ++ [O.lst l1]) ++ [O.lst (l0 ++ l1)]).length = ic at v4 ⊢
  have ho3 : gc[o]? = some (.lst os) := g3.at ho2
  refine lc_pure os [(o, os)] (fun d => .tup [d]) (fun _ => true) ?_ (fun g' h => wok1 (h.at ho3)) (sz (by omega)) (fun d hd g' hg => ⟨_, rfl, rfl, .refl _, fun _ => ?_⟩) (fun gd hg hL => ?_)
  · simp only [P_src, P_var, List.getElem?_cons_zero, List.getElem?_cons_succ, srcL ho3]
    first | exact ⟨rfl, rfl⟩ | trivial
  · simp only [P_tup, P_cons, P_nil, P_var, List.map_cons, List.map_nil, wipeE, List.getElem?_cons_zero, List.getElem?_cons_succ, List.set_cons_succ, List.set_cons_zero]
    refine ⟨sz (by simp), ?_⟩
    first | exact ⟨rfl, Gro.refl _⟩ | exact ⟨trivial, Gro.refl _⟩
  · rw [show os.filter (fun _ => true) = os from List.filter_eq_self.mpr fun _ _ => rfl] at hL
    rw [V_addL (hg.at v4) hL]
    refine ⟨sz (by simp; omega), ?_⟩
    have hfin : ∀ d ∈ (l0 ++ l1 ++ os) ++ os.map (fun d => D.tup [d]), Gd gc 4 d := fun d hd => by
      rcases List.mem_append.mp hd with q | q
      · exact ((hal d q).kd g3.kd).mono (by decide)
      · obtain ⟨x, hx, rfl⟩ := List.mem_map.mp q
        exact gd_tup (by show (1 : Nat) ≤ 20; decide) fun y hy => by
          rw [List.mem_singleton.mp hy]
          exact (hgd x hx).kd (g1.trans (g2.trans g3)).kd
    have hlen : ((l0 ++ l1 ++ os) ++ os.map (fun d => D.tup [d])).length = 23 + os.length + os.length := by
      simp only [List.length_append, List.length_map, hlen0, hlen1]
    generalize (l0 ++ l1 ++ os) ++ os.map (fun d => D.tup [d]) = lf at hfin hlen ⊢
    have gall : Gro g gd := g1.trans (g2.trans (g3.trans hg))
    simp only [S_ret, P_bin, P_call, P_callF, P_cons, P_nil, P_var, List.getElem?_cons_zero, List.getElem?_cons_succ, List.set_cons_succ, List.set_cons_zero, V_lenL at_new]
    refine (T (gd ++ [.lst lf]) m n (lf.length : Int) (hb.gro gall).app hn (by omega) (by omega)).mono ?_
    rintro _ ge ⟨t, rfl, ht0, ht1, hb1, he1⟩
    have hx : ge[gd.length]? = some (.lst lf) := he1.at (by have := hb.lt; have := gall.len; omega) at_new
    rw [V_ixL hx]
    obtain ⟨d, e, hd⟩ := atI_in ht0 ht1
    rw [e]
    exact ⟨(hfin d hd).kd (hg.kd.trans ((Gro.app gd _).kd.trans (he1.kd hb1))), hb1, ((gall.evo m).trans (.app ..)).trans he1⟩
end Fc

set_option Elab.async false
set_option linter.all false
set_option maxRecDepth 100000
set_option maxHeartbeats 4000000
namespace Fc
open PySem PySem.Spec PySem.Calls PyProof.Rows L2
def spCond (F : Ph) : Ev → G → Re Bool := fOrT (fNotT (fTest (fIsi "tuple" ownI (fVar 1)))) (fOrT (fTest (fBin oEq (fVar 1) (fTup (fNil)))) (fTest (fBin oEq (fCallF F.f_v_law_take_2 (fCons (fVar 0) (fCons (fC (.int 6)) (fNil)))) (fC (.int 0)))))
def spLeaf (F : Ph) : Ev → G → Rs := sSeq (sSet 3 (fCallF F.f_v_law_take_2 (fCons (fVar 0) (fCons (fC (.int 4)) (fNil))))) (sSeq (sIf (fAndT (fTest (fBin oEq (fVar 3) (fC (.int 0)))) (fTest (fIsi "int" ownI (fVar 1)))) (sRet (fBin oIx (fTup (fCons (fBin oAdd (fVar 1) (fC (.int 1))) (fCons (fBin oSub (fVar 1) (fC (.int 1))) (fCons (fCall oBool (fCons (fVar 1) (fNil))) (fCons (fBin oAdd (fVar 1) (fC (.int 7))) (fNil)))))) (fCallF F.f_v_law_take_2 (fCons (fVar 0) (fCons (fC (.int 4)) (fNil)))))) (sNil)) (sSeq (sIf (fAndT (fTest (fBin oEq (fVar 3) (fC (.int 1)))) (fTest (fIsi "str" ownI (fVar 1)))) (sRet (fBin oIx (fTup (fCons (fBin oAdd (fVar 1) (fC (.str "a"))) (fCons (fSl (fVar 1) none (some (fUn oNeg (fC (.int 1))))) (fCons (fC (.str "set")) (fCons (fC (.str "put")) (fCons (fC (.str "get")) (fCons (fC (.str "x")) (fCons (fC (.str "call")) (fCons (fC (.str "A")) (fNil)))))))))) (fCallF F.f_v_law_take_2 (fCons (fVar 0) (fCons (fC (.int 8)) (fNil)))))) (sNil)) (sRet (fCallF F.f_v_law_any_2 (fCons (fVar 0) (fCons (fVar 2) (fNil)))))))
def spRest (F : Ph) : Ev → G → Rs := sSeq (sPar 3 4 (fCallF F.f_v_law_take_2 (fCons (fVar 0) (fCons (fC (.int 8)) (fNil)))) (fCallF F.f_v_law_take_2 (fCons (fVar 0) (fCons (fCall oLenA (fCons (fVar 1) (fNil))) (fNil))))) (sSeq (sIf (fTest (fBin oEq (fVar 3) (fC (.int 0)))) (sRet (fBin oAdd (fSl (fVar 1) none (some (fVar 4))) (fSl (fVar 1) (some (fBin oAdd (fVar 4) (fC (.int 1)))) none))) (sNil)) (sSeq (sIf (fTest (fBin oEq (fVar 3) (fC (.int 1)))) (sRet (fBin oAdd (fBin oAdd (fSl (fVar 1) none (some (fVar 4))) (fTup (fCons (fBin oIx (fVar 1) (fVar 4)) (fNil)))) (fSl (fVar 1) (some (fVar 4)) none))) (sNil)) (sSeq (sIf (fTest (fBin oEq (fVar 3) (fC (.int 2)))) (sRet (fBin oIx (fLst (fCons (fCall oList (fCons (fVar 1) (fNil))) (fCons (fRev (fVar 1)) (fCons (fBin oAdd (fVar 1) (fTup (fCons (fCallF F.f_v_law_any_2 (fCons (fVar 0) (fCons (fVar 2) (fNil)))) (fNil)))) (fNil))))) (fCallF F.f_v_law_take_2 (fCons (fVar 0) (fCons (fC (.int 3)) (fNil)))))) (sNil)) (sSeq (sIf (fTest (fBin oEq (fVar 3) (fC (.int 3)))) (sRet (fBin oAdd (fBin oAdd (fSl (fVar 1) none (some (fVar 4))) (fTup (fCons (fBin oIx (fVar 1) (fBin oSub (fVar 4) (fC (.int 1)))) (fNil)))) (fSl (fVar 1) (some (fBin oAdd (fVar 4) (fC (.int 1)))) none))) (sNil)) (sRet (fBin oAdd (fBin oAdd (fSl (fVar 1) none (some (fVar 4))) (fTup (fCons (fCallF F.f_v_law_spoilt_3 (fCons (fVar 0) (fCons (fBin oIx (fVar 1) (fVar 4)) (fCons (fVar 2) (fNil))))) (fNil)))) (fSl (fVar 1) (some (fBin oAdd (fVar 4) (fC (.int 1)))) none)))))))
theorem sp_eq (F : Ph) : dn_v_law_spoilt F = sSeq (sIf (spCond F) (spLeaf F) sNil) (spRest F) := rfl
theorem V_bool {g : G} {Q : D → G → Prop} {i : Int} : (oBool [.int i] g).P Q = Q (.bl (i != 0)) g := rfl
theorem V_slS {g : G} {Q : D → G → Prop} {x : Str} {lo hi : Option Int} : (oSl (.str x) lo hi g).P Q = (x.length ≤ sizeLine ∧ Q (.str (cutS x lo hi)) g) := P_ite
theorem V_slT {g : G} {Q : D → G → Prop} {l : List D} {lo hi : Option Int} : (oSl (.tup l) lo hi g).P Q = Q (.tup (cutD l lo hi)) g := rfl
theorem V_revT {g : G} {Q : D → G → Prop} {l : List D} : (oRev (.tup l) g).P Q = Q (.tup l.reverse) g := rfl
theorem cut_mem {l : List D} {lo hi : Option Int} {d : D} (h : d ∈ cutD l lo hi) : d ∈ l := List.mem_of_mem_drop (List.mem_of_mem_take h)
theorem cut_len {l : List D} {lo hi : Option Int} : (cutD l lo hi).length ≤ l.length := by
  unfold cutD
  rw [List.length_take, List.length_drop]
  omega
theorem cutS_len' (x : Str) (lo hi : Option Int) : (cutS x lo hi).length ≤ x.length := cutS_length x lo hi
theorem spleaf {F : Ph} (T : Tk F) (A : AnyC F) {j : Nat} {item : D} (hp : Pl j item) {g : G} {m n o : Nat} {os : List D} (hb : Bag g m n) (hn : n + 6 < 2 ^ 60) (ho : g[o]? = some (.lst os)) (hom : o ≠ m) (hos : os.length ≤ 10) (hgd : ∀ d ∈ os, Gd g 3 d) {N : Ev → G → Prop} :
    (spLeaf F [some (.ref m), some item, some (.ref o), none, none] g).P N fun d g' => Gd g' (j + 5) d ∧ Bag g' m (n + 6) ∧ Evo m g g' := by
  unfold spLeaf
  rw [S_seq]
  simp only [S_set, P_callF, P_cons, P_nil, P_var, P_C, List.getElem?_cons_zero, List.getElem?_cons_succ, List.set_cons_succ, List.set_cons_zero]
  refine (T g m n 4 hb (by omega) (by omega) (by omega)).mono ?_
  rintro _ g1 ⟨w, rfl, hw0, hw1, hb1, he1⟩
  have ho1 := he1.at hom ho
  have anyR : ∀ {N : Ev → G → Prop}, (sRet (fCallF F.f_v_law_any_2 (fCons (fVar 0) (fCons (fVar 2) fNil))) [some (.ref m), some item, some (.ref o), some (.int w), none] g1).P N fun d g' => Gd g' (j + 5) d ∧ Bag g' m (n + 6) ∧ Evo m g g' := by
    intro N
    simp only [S_ret, P_callF, P_cons, P_nil, P_var, List.getElem?_cons_zero, List.getElem?_cons_succ]
    refine (A g1 m (n + 1) o os hb1 (by omega) ho1 hom hos fun d hd => (hgd d hd).kd (he1.kd hb1)).mono ?_
    rintro d g2 ⟨hd, hb2, he2⟩
    exact ⟨hd.mono (by omega), hb2.mono (by omega), he1.trans he2⟩
  rw [S_seq]
  simp only [S_if, P_andT, P_test, P_bin, P_isi, P_var, P_C, List.getElem?_cons_zero, List.getElem?_cons_succ, V_eqI, decide_eq_true_eq, S_nil]
  cases item with
  | int i =>
    simp only [isi_int_int, if_true]
    refine ite_one (fun c1 => ?_) fun _ => ?_
    · simp only [S_ret, P_bin, P_tup, P_cons, P_nil, P_call, P_callF, P_var, P_C, List.getElem?_cons_zero, List.getElem?_cons_succ, V_add, V_sub, V_bool]
      refine ⟨sz (by simp), ?_⟩
      refine (T g1 m (n + 1) 4 hb1 (by omega) (by omega) (by omega)).mono ?_
      rintro _ g2 ⟨t, rfl, ht0, ht1, hb2, he2⟩
      rw [V_ixT]
      obtain ⟨d, e, hd⟩ := atI_in (l := [D.int (i + 1), .int (i - 1), .bl (i != 0), .int (i + 7)]) ht0 ht1
      rw [e]
      refine ⟨?_, hb2.mono (by omega), he1.trans he2⟩
      simp only [List.mem_cons, List.not_mem_nil, or_false] at hd
      rcases hd with rfl | rfl | rfl | rfl
      · exact gd_int _ _
      · exact gd_int _ _
      · exact gd_bl _ _
      · exact gd_int _ _
    · rw [S_seq]
      simp only [S_if, P_andT, P_test, P_bin, P_isi, P_var, P_C, List.getElem?_cons_zero, List.getElem?_cons_succ, V_eqI, decide_eq_true_eq, S_nil, isi_int_str, Bool.false_eq_true, if_false, ite_self]
      exact anyR
  | str s =>
    have hs : s.length ≤ 8 := by cases j <;> exact hp
    simp only [isi_str_int, Bool.false_eq_true, if_false, ite_self]
    rw [S_seq]
    simp only [S_if, P_andT, P_test, P_bin, P_isi, P_var, P_C, List.getElem?_cons_zero, List.getElem?_cons_succ, V_eqI, decide_eq_true_eq, S_nil, isi_str_str, if_true]
    refine ite_one (fun c1 => ?_) fun _ => anyR
    simp only [S_ret, P_bin, P_tup, P_cons, P_nil, P_sl, P_part0, P_part1, P_un, P_callF, P_var, P_C, List.getElem?_cons_zero, List.getElem?_cons_succ, V_addS, V_neg, V_slS]
    refine ⟨sz (by show s.length + 1 ≤ 1000; omega), sz (by omega), sz (by simp), ?_⟩
    refine (T g1 m (n + 1) 8 hb1 (by omega) (by omega) (by omega)).mono ?_
    rintro _ g2 ⟨t, rfl, ht0, ht1, hb2, he2⟩
    rw [V_ixT]
    obtain ⟨d, e, hd⟩ := atI_in (l := [D.str (s ++ "a"), .str (cutS s none (some (-1))), .str "set", .str "put", .str "get", .str "x", .str "call", .str "A"]) ht0 ht1
    rw [e]
    refine ⟨?_, hb2.mono (by omega), he1.trans he2⟩
    simp only [List.mem_cons, List.not_mem_nil, or_false] at hd
    rcases hd with rfl | rfl | rfl | rfl | rfl | rfl | rfl | rfl
    · refine gd_str _ ?_
      have : (s ++ ("a" : Str)).length = s.length + 1 := by
        show (s.cps ++ (Str.ofString "a").cps).size = s.cps.size + 1
        rw [Array.size_append]
        rfl
      omega
    · exact gd_str _ (Nat.le_trans (cutS_len' _ _ _) (by omega))
    all_goals exact gd_str _ (by decide)
  | tup l =>
    simp only [isi_tup_int, Bool.false_eq_true, if_false, ite_self]
    rw [S_seq]
    simp only [S_if, P_andT, P_test, P_bin, P_isi, P_var, P_C, List.getElem?_cons_zero, List.getElem?_cons_succ, V_eqI, decide_eq_true_eq, S_nil, isi_tup_str, Bool.false_eq_true, if_false, ite_self]
    exact anyR
  | non => cases j <;> exact hp.elim
  | bl b => cases j <;> exact hp.elim
  | ref r => cases j <;> exact hp.elim
def SpC (j : Nat) (F : Ph) : Prop := ∀ g m n o (os : List D) item, Pl j item → Bag g m n → n + 20 * (j + 1) < 2 ^ 60 → g[o]? = some (.lst os) → o ≠ m → os.length ≤ 10 → (∀ d ∈ os, Gd g 3 d) →
  (F.f_v_law_spoilt_3 [.ref m, item, .ref o] [] g).P fun d g' => Gd g' (j + 5) d ∧ Bag g' m (n + 20 * (j + 1)) ∧ Evo m g g'
theorem sprest {F : Ph} (T : Tk F) (A : AnyC F) {j : Nat} (S : SpC j F) {l : List D} (hp : Pl (j + 1) (.tup l)) (hne : 0 < l.length) {g : G} {m n o : Nat} {os : List D} (hb : Bag g m n) (hn : n + 20 * (j + 1) + 10 < 2 ^ 60) (ho : g[o]? = some (.lst os)) (hom : o ≠ m) (hos : os.length ≤ 10) (hgd : ∀ d ∈ os, Gd g 3 d) {N : Ev → G → Prop} :
    (spRest F [some (.ref m), some (.tup l), some (.ref o), none, none] g).P N fun d g' => Gd g' (j + 6) d ∧ Bag g' m (n + 20 * (j + 1) + 10) ∧ Evo m g g' := by
  have hl7 : l.length ≤ 7 := hp.1
  have hl : ∀ (g' : G), ∀ d ∈ l, Gd g' (j + 5) d := fun g' d hd => ((hp.2 d hd).gd (g := g')).mono (by omega)
  unfold spRest
  rw [S_seq]
  simp only [S_par, P_callF, P_call, P_cons, P_nil, P_var, P_C, List.getElem?_cons_zero, List.getElem?_cons_succ, List.set_cons_succ, List.set_cons_zero, V_lenT]
  refine (T g m n 8 hb (by omega) (by omega) (by omega)).mono ?_
  rintro _ g1 ⟨w, rfl, hw0, hw1, hb1, he1⟩
  refine (T g1 m (n + 1) (l.length : Int) hb1 (by omega) (by omega) (by omega)).mono ?_
  rintro _ g2 ⟨a, rfl, ha0, ha1, hb2, he2⟩
  have e2 := he1.trans he2
  have ho2 := e2.at hom ho
  have hg2 : ∀ d ∈ os, Gd g2 3 d := fun d hd => (hgd d hd).kd (e2.kd hb2)
  obtain ⟨x, ex, hx⟩ := atI_in ha0 ha1
  have fin : ∀ {xs : List D} {g' : G}, xs.length ≤ 20 → (∀ d ∈ xs, Gd g' (j + 5) d) → Evo m g2 g' → Bag g' m (n + 20 * (j + 1) + 10) → Gd g' (j + 6) (.tup xs) ∧ Bag g' m (n + 20 * (j + 1) + 10) ∧ Evo m g g' := fun h1 h2 h3 h4 => ⟨gd_tup h1 h2, h4, e2.trans h3⟩
  have cm : ∀ {lo hi : Option Int} {g' : G}, ∀ d ∈ cutD l lo hi, Gd g' (j + 5) d := fun d hd => hl _ d (cut_mem hd)
  have cl : ∀ {lo hi : Option Int}, (cutD l lo hi).length ≤ 7 := Nat.le_trans cut_len hl7
  have app : ∀ {xs ys : List D} {g' : G}, (∀ d ∈ xs, Gd g' (j + 5) d) → (∀ d ∈ ys, Gd g' (j + 5) d) → ∀ d ∈ xs ++ ys, Gd g' (j + 5) d := fun h1 h2 d hd => (List.mem_append.mp hd).elim (h1 d) (h2 d)
  have one : ∀ {y : D} {g' : G}, Gd g' (j + 5) y → ∀ d ∈ [y], Gd g' (j + 5) d := fun h d hd => by rw [List.mem_singleton.mp hd]; exact h
  rw [S_seq]
  simp only [S_if, P_test, P_bin, P_var, P_C, List.getElem?_cons_zero, List.getElem?_cons_succ, V_eqI, decide_eq_true_eq, S_nil]
  refine ite_one (fun c1 => ?_) fun _ => ?_
  · simp only [S_ret, P_bin, P_sl, P_part0, P_part1, P_var, P_C, List.getElem?_cons_zero, List.getElem?_cons_succ, V_add, V_slT, V_addT]
    refine ⟨sz (Nat.le_trans (Nat.add_le_add cl cl) (by decide)), fin (by rw [List.length_append]; exact Nat.le_trans (Nat.add_le_add cl cl) (by decide)) (app cm cm) (.refl ..) (hb2.mono (by omega))⟩
  rw [S_seq]
  simp only [S_if, P_test, P_bin, P_var, P_C, List.getElem?_cons_zero, List.getElem?_cons_succ, V_eqI, decide_eq_true_eq, S_nil]
  refine ite_one (fun c1 => ?_) fun _ => ?_
  · simp only [S_ret, P_bin, P_sl, P_part0, P_part1, P_tup, P_cons, P_nil, P_var, P_C, List.getElem?_cons_zero, List.getElem?_cons_succ, V_add, V_slT, V_addT, V_ixT, ex]
    have h1 : (cutD l none (some a) ++ [x]).length ≤ 8 := by rw [List.length_append]; exact Nat.add_le_add cl (Nat.le_refl 1)
    refine ⟨sz (by simp), sz (Nat.le_trans (Nat.add_le_add cl (Nat.le_refl 1)) (by decide)), sz (Nat.le_trans (Nat.add_le_add h1 cl) (by decide)), fin (by rw [List.length_append]; exact Nat.le_trans (Nat.add_le_add h1 cl) (by decide)) (app (app cm (one (hl _ x hx))) cm) (.refl ..) (hb2.mono (by omega))⟩
  rw [S_seq]
  simp only [S_if, P_test, P_bin, P_var, P_C, List.getElem?_cons_zero, List.getElem?_cons_succ, V_eqI, decide_eq_true_eq, S_nil]
  refine ite_one (fun c1 => ?_) fun _ => ?_
  · simp only [S_ret, P_bin, P_lst, P_tup, P_cons, P_nil, P_call, P_callF, P_rev, P_var, P_C, List.getElem?_cons_zero, List.getElem?_cons_succ, V_listT, V_revT]
    have ho3 : (g2 ++ [O.lst l])[o]? = some (.lst os) := at_app ho2
    refine (A (g2 ++ [.lst l]) m (n + 2) o os hb2.app (by omega) ho3 hom hos fun d hd => (hg2 d hd).kd (Gro.app g2 _).kd).mono ?_
    rintro y g3 ⟨hy, hb3, he3⟩
    refine ⟨sz (by simp), ?_⟩
    rw [V_addT]
    refine ⟨sz (by show l.length + 1 ≤ 1000; omega), sz (by simp), ?_⟩
    have e3 : Evo m g2 g3 := (Evo.app m g2 _).trans he3
    have hL : g3[g2.length]? = some (.lst l) := he3.at (by have := hb2.lt; omega) at_new
    refine (T (g3 ++ [.lst [.ref g2.length, .tup l.reverse, .tup (l ++ [y])]]) m (n + 3) 3 hb3.app (by omega) (by omega) (by omega)).mono ?_
    rintro _ g4 ⟨t, rfl, ht0, ht1, hb4, he4⟩
    have hT : g4[g3.length]? = some (.lst [.ref g2.length, .tup l.reverse, .tup (l ++ [y])]) := he4.at (by have := hb3.lt; omega) at_new
    rw [V_ixL hT]
    obtain ⟨d, e, hd⟩ := atI_in (l := [D.ref g2.length, .tup l.reverse, .tup (l ++ [y])]) ht0 ht1
    rw [e]
    have k4 : Kd g3 g4 := (Gro.app g3 _).kd.trans (he4.kd hb4)
    have e4 : Evo m g2 g4 := e3.trans ((Evo.app m g3 _).trans he4)
    simp only [List.mem_cons, List.not_mem_nil, or_false] at hd
    rcases hd with rfl | rfl | rfl
    · exact ⟨gd_lst _ (he4.at (by have := hb2.lt; omega) (at_app hL)), hb4.mono (by omega), e2.trans e4⟩
    · exact fin (by rw [List.length_reverse]; omega) (fun d hd => hl _ d (List.mem_reverse.mp hd)) e4 (hb4.mono (by omega))
    · exact fin (by rw [List.length_append]; show l.length + 1 ≤ 20; omega) (app (hl _) (one ((hy.kd k4).mono (by omega)))) e4 (hb4.mono (by omega))
  rw [S_seq]
  simp only [S_if, P_test, P_bin, P_var, P_C, List.getElem?_cons_zero, List.getElem?_cons_succ, V_eqI, decide_eq_true_eq, S_nil]
  refine ite_one (fun c1 => ?_) fun _ => ?_
  · have hx2 : ∃ x2, atI l (a - 1) = some x2 ∧ x2 ∈ l := by
      by_cases h0 : 0 ≤ a - 1
      · exact atI_in h0 (by omega)
      · have ea : a - 1 = -1 := by omega
        rw [ea]
        have hlast : l.length - 1 < l.length := by omega
        refine ⟨l[l.length - 1], ?_, List.getElem_mem hlast⟩
        unfold atI ixN
        rw [if_neg (by omega), if_pos (by omega)]
        have : (-1 + (l.length : Int)).toNat = l.length - 1 := by omega
        rw [this]
        simp [hlast]
    obtain ⟨x2, ex2, hx2⟩ := hx2
    simp only [S_ret, P_bin, P_sl, P_part0, P_part1, P_tup, P_cons, P_nil, P_var, P_C, List.getElem?_cons_zero, List.getElem?_cons_succ, V_add, V_sub, V_slT, V_addT, V_ixT, ex2]
    have h1 : (cutD l none (some a) ++ [x2]).length ≤ 8 := by rw [List.length_append]; exact Nat.add_le_add cl (Nat.le_refl 1)
    refine ⟨sz (by simp), sz (Nat.le_trans (Nat.add_le_add cl (Nat.le_refl 1)) (by decide)), sz (Nat.le_trans (Nat.add_le_add h1 cl) (by decide)), fin (by rw [List.length_append]; exact Nat.le_trans (Nat.add_le_add h1 cl) (by decide)) (app (app cm (one (hl _ x2 hx2))) cm) (.refl ..) (hb2.mono (by omega))⟩
  simp only [S_ret, P_bin, P_sl, P_part0, P_part1, P_tup, P_cons, P_nil, P_callF, P_var, P_C, List.getElem?_cons_zero, List.getElem?_cons_succ, V_slT, V_ixT, ex]
  refine (S g2 m (n + 2) o os x (hp.2 x hx) hb2 (by omega) ho2 hom hos hg2).mono ?_
  rintro y g3 ⟨hy, hb3, he3⟩
  refine ⟨sz (by simp), ?_⟩
  simp only [V_addT, V_add, V_slT]
  have h1 : (cutD l none (some a) ++ [y]).length ≤ 8 := by rw [List.length_append]; exact Nat.add_le_add cl (Nat.le_refl 1)
  exact ⟨sz (Nat.le_trans (Nat.add_le_add cl (Nat.le_refl 1)) (by decide)), sz (Nat.le_trans (Nat.add_le_add h1 cl) (by decide)), fin (by rw [List.length_append]; exact Nat.le_trans (Nat.add_le_add h1 cl) (by decide)) (app (app cm (one hy)) cm) he3 (hb3.mono (by omega))⟩
theorem sp_up {F : Ph} (T : Tk F) (A : AnyC F) {j : Nat} (S : ∀ i, j = i + 1 → SpC i F) : SpC j F.up := by
  intro g m n o os item hp hb hn ho hom hos hgd
  refine P_runB ?_
  rw [sp_eq]
  rw [show ini 5 [D.ref m, item, .ref o] = [some (.ref m), some item, some (.ref o), none, none] from rfl]
  have leaf : ∀ {g1 : G} {n1 : Nat} {N : Ev → G → Prop}, Evo m g g1 → Bag g1 m n1 → n1 ≤ n + 1 → (spLeaf F [some (.ref m), some item, some (.ref o), none, none] g1).P N fun d g' => Gd g' (j + 5) d ∧ Bag g' m (n + 20 * (j + 1)) ∧ Evo m g g' := fun {g1 n1 N} e b h => by
    refine (spleaf T A hp b (by omega) (e.at hom ho) hom hos (fun d hd => (hgd d hd).kd (e.kd b)) (N := N)).mono (fun _ _ h => h) ?_
    rintro d g' ⟨h1, h2, h3⟩
    exact ⟨h1, h2.mono (by omega), e.trans h3⟩
  rw [S_seq, S_if]
  unfold spCond
  simp only [P_orT, P_notT, P_test, P_isi, P_bin, P_tup, P_nil, P_callF, P_cons, P_var, P_C, List.getElem?_cons_zero, List.getElem?_cons_succ]
  cases item with
  | int i =>
    simp only [isi_int_tuple, Bool.not_false, if_true]
    exact leaf (.refl ..) hb (by omega)
  | str s =>
    simp only [isi_str_tuple, Bool.not_false, if_true]
    exact leaf (.refl ..) hb (by omega)
  | tup l =>
    simp only [isi_tup_tuple, Bool.not_true, Bool.false_eq_true, if_false, V_eqE]
    refine ⟨sz (by simp), ?_⟩
    cases hl : l.isEmpty with
    | true =>
      simp only [if_true]
      exact leaf (.refl ..) hb (by omega)
    | false =>
      simp only [Bool.false_eq_true, if_false]
      refine (T g m n 6 hb (by omega) (by omega) (by omega)).mono ?_
      rintro _ g1 ⟨t, rfl, ht0, ht1, hb1, he1⟩
      simp only [V_eqI, decide_eq_true_eq]
      refine ite_one (fun c1 => leaf he1 hb1 (by omega)) fun _ => ?_
      rw [S_nil]
      cases j with
      | zero => exact hp.elim
      | succ i =>
        have hne : 0 < l.length := by
          cases l with
          | nil => cases hl
          | cons _ _ => exact Nat.succ_pos _
        refine (sprest T A (S i rfl) hp hne hb1 (by omega) (he1.at hom ho) hom hos (fun d hd => (hgd d hd).kd (he1.kd hb1))).mono (fun _ _ h => h) ?_
        rintro d g' ⟨h1, h2, h3⟩
        exact ⟨h1, h2.mono (by omega), he1.trans h3⟩
  | non => cases j <;> exact hp.elim
  | bl b => cases j <;> exact hp.elim
  | ref r => cases j <;> exact hp.elim
end Fc

set_option Elab.async false
set_option linter.all false
set_option maxRecDepth 100000
set_option maxHeartbeats 4000000
namespace Fc
open PySem PySem.Spec PySem.Calls PyProof.Rows L2
/-! ### what the looks tell -/
def isIntD : D → Bool
  | .int _ => true
  | _ => false
def isStrD : D → Bool
  | .str _ => true
  | _ => false
def isTupD : D → Bool
  | .tup _ => true
  | _ => false
def varD : D → Bool
  | .str s => inD (.str s) [.str "x", .str "y"]
  | _ => false
def numD (k : Int) : D → Bool
  | .int i => decide (0 ≤ i) && decide (i < k)
  | _ => false
def opdD (k : Int) (d : D) : Bool := numD k d || varD d
def exD (k : Int) : D → Bool
  | .tup [.str s, a, b] => inD (.str s) [.str "+", .str "-", .str "*"] && (opdD k a && opdD k b)
  | .tup _ => false
  | d => opdD k d
theorem gd_ref {g : G} {n m : Nat} (h : Gd g n (.ref m)) : Ob g m := by cases n <;> exact h
theorem gd_strl {g : G} {n : Nat} {s : Str} (h : Gd g n (.str s)) : s.length ≤ 20 := by cases n <;> exact h
theorem gd_mem {g : G} {n : Nat} {l : List D} (h : Gd g n (.tup l)) {d : D} (hd : d ∈ l) : Gd g (n - 1) d := by
  cases n with
  | zero => exact h.elim
  | succ n => exact h.2 d hd
theorem gd_tupl {g : G} {n : Nat} {l : List D} (h : Gd g n (.tup l)) : l.length ≤ 20 := by
  cases n with
  | zero => exact h.elim
  | succ n => exact h.1
def P1 (f : Fun2) (p : D → Bool) : Prop := ∀ g n d, Gd g n d → (f [d] [] g).P fun r g' => r = .bl (p d) ∧ Gro g g'
def P2 (f : Fun2) (p : Int → D → Bool) : Prop := ∀ g n d (k : Int), Gd g n d → (f [d, .int k] [] g).P fun r g' => r = .bl (p k d) ∧ Gro g g'
theorem int_up {F : Ph} : P1 F.up.f_is_integer_1 isIntD := by
  intro g n d h
  refine P_runB ?_
  unfold dn_is_integer
  rw [show ini 1 [d] = [some d] from rfl]
  simp only [S_ret, P_and, P_isi, P_not, P_var, List.getElem?_cons_zero]
  cases d with
  | non => simp only [isi_non_int, Bool.false_eq_true, if_false]; exact ⟨rfl, .refl _⟩
  | bl b => simp only [isi_bl_int, isi_bl_bool, if_true]; exact ⟨rfl, .refl _⟩
  | int i => simp only [isi_int_int, isi_int_bool, if_true]; exact ⟨rfl, .refl _⟩
  | str s => simp only [isi_str_int, Bool.false_eq_true, if_false]; exact ⟨rfl, .refl _⟩
  | tup l => simp only [isi_tup_int, Bool.false_eq_true, if_false]; exact ⟨rfl, .refl _⟩
  | ref m => simp only [isi_ref_int (gd_ref h), Bool.false_eq_true, if_false]; exact ⟨rfl, .refl _⟩
theorem whole_up {F : Ph} : P1 F.up.f_v_law_is_whole_1 isIntD := by
  intro g n d h
  refine P_runB ?_
  unfold dn_v_law_is_whole
  rw [show ini 1 [d] = [some d] from rfl]
  simp only [S_ret, P_and, P_isi, P_not, P_var, List.getElem?_cons_zero]
  cases d with
  | non => simp only [isi_non_int, Bool.false_eq_true, if_false]; exact ⟨rfl, .refl _⟩
  | bl b => simp only [isi_bl_int, isi_bl_bool, if_true]; exact ⟨rfl, .refl _⟩
  | int i => simp only [isi_int_int, isi_int_bool, if_true]; exact ⟨rfl, .refl _⟩
  | str s => simp only [isi_str_int, Bool.false_eq_true, if_false]; exact ⟨rfl, .refl _⟩
  | tup l => simp only [isi_tup_int, Bool.false_eq_true, if_false]; exact ⟨rfl, .refl _⟩
  | ref m => simp only [isi_ref_int (gd_ref h), Bool.false_eq_true, if_false]; exact ⟨rfl, .refl _⟩
theorem V_inT {g : G} {Q : D → G → Prop} {s : Str} {l : List D} (h : l.all flatD = true) : (oIn (.str s) (.tup l) g).P Q = Q (.bl (inD (.str s) l)) g := by
  have e : memA (.str s) (.tup l) g = some (inD (.str s) l) := by
    show (if flatD (.str s) = true ∧ l.all flatD = true then some (inD (.str s) l) else none) = _
    rw [if_pos ⟨rfl, h⟩]
  unfold oIn
  rw [e]
  rfl
theorem V_notInT {g : G} {Q : D → G → Prop} {s : Str} {l : List D} (h : l.all flatD = true) : (oNotIn (.str s) (.tup l) g).P Q = Q (.bl (!inD (.str s) l)) g := by
  have e : memA (.str s) (.tup l) g = some (inD (.str s) l) := by
    show (if flatD (.str s) = true ∧ l.all flatD = true then some (inD (.str s) l) else none) = _
    rw [if_pos ⟨rfl, h⟩]
  unfold oNotIn
  rw [e]
  rfl
theorem V_inI {g : G} {Q : D → G → Prop} {i : Int} {l : List D} (h : l.all flatD = true) : (oIn (.int i) (.tup l) g).P Q = Q (.bl (inD (.int i) l)) g := by
  have e : memA (.int i) (.tup l) g = some (inD (.int i) l) := by
    show (if flatD (.int i) = true ∧ l.all flatD = true then some (inD (.int i) l) else none) = _
    rw [if_pos ⟨rfl, h⟩]
  unfold oIn
  rw [e]
  rfl
theorem var_up {F : Ph} : P1 F.up.f_is_variable_1 varD := by
  intro g n d h
  refine P_runB ?_
  unfold dn_is_variable
  rw [show ini 1 [d] = [some d] from rfl]
  simp only [S_ret, P_and, P_isi, P_bin, P_C, P_var, List.getElem?_cons_zero]
  cases d with
  | non => simp only [isi_non_str, Bool.false_eq_true, if_false]; exact ⟨rfl, .refl _⟩
  | bl b => simp only [isi_bl_str, Bool.false_eq_true, if_false]; exact ⟨rfl, .refl _⟩
  | int i => simp only [isi_int_str, Bool.false_eq_true, if_false]; exact ⟨rfl, .refl _⟩
  | str s =>
    simp only [isi_str_str, if_true]
    unfold c_VARIABLES
    rw [V_inT rfl]
    exact ⟨rfl, .refl _⟩
  | tup l => simp only [isi_tup_str, Bool.false_eq_true, if_false]; exact ⟨rfl, .refl _⟩
  | ref m => simp only [isi_ref_str (gd_ref h), Bool.false_eq_true, if_false]; exact ⟨rfl, .refl _⟩
theorem lvar_up {F : Ph} : P1 F.up.f_v_law_is_variable_1 varD := by
  intro g n d h
  refine P_runB ?_
  unfold dn_v_law_is_variable
  rw [show ini 1 [d] = [some d] from rfl]
  simp only [S_ret, P_and, P_isi, P_bin, P_tup, P_cons, P_nil, P_C, P_var, List.getElem?_cons_zero]
  cases d with
  | non => simp only [isi_non_str, Bool.false_eq_true, if_false]; exact ⟨rfl, .refl _⟩
  | bl b => simp only [isi_bl_str, Bool.false_eq_true, if_false]; exact ⟨rfl, .refl _⟩
  | int i => simp only [isi_int_str, Bool.false_eq_true, if_false]; exact ⟨rfl, .refl _⟩
  | str s =>
    simp only [isi_str_str, if_true]
    rw [V_inT rfl]
    exact ⟨sz (by simp), rfl, .refl _⟩
  | tup l => simp only [isi_tup_str, Bool.false_eq_true, if_false]; exact ⟨rfl, .refl _⟩
  | ref m => simp only [isi_ref_str (gd_ref h), Bool.false_eq_true, if_false]; exact ⟨rfl, .refl _⟩
theorem num_up {F : Ph} (I : P1 F.f_is_integer_1 isIntD) : P2 F.up.f_is_number_2 numD := by
  intro g n d k h
  refine P_runB ?_
  unfold dn_is_number
  rw [show ini 2 [d, .int k] = [some d, some (.int k)] from rfl]
  simp only [S_ret, P_and, P_callF, P_cons, P_nil, P_var, List.getElem?_cons_zero, List.getElem?_cons_succ]
  refine (I g n d h).mono ?_
  rintro _ g1 ⟨rfl, hg⟩
  cases d with
  | int i =>
    simp only [isIntD, if_true, P_chain, P_C, P_var, List.getElem?_cons_zero, List.getElem?_cons_succ, V_le]
    by_cases h0 : 0 ≤ i
    · simp only [h0, decide_true, V_lt]
      exact ⟨by simp [numD, h0], hg⟩
    · simp only [h0, decide_false]
      exact ⟨by simp [numD, h0], hg⟩
  | _ => simp only [isIntD, Bool.false_eq_true, if_false]; exact ⟨rfl, hg⟩
theorem opd2_up {F : Ph} (N : P2 F.f_is_number_2 numD) (V : P1 F.f_is_variable_1 varD) : P2 F.up.f_is_operand_2 opdD := by
  intro g n d k h
  refine P_runB ?_
  unfold dn_is_operand
  rw [show ini 2 [d, .int k] = [some d, some (.int k)] from rfl]
  simp only [S_ret, P_or, P_callF, P_cons, P_nil, P_var, List.getElem?_cons_zero, List.getElem?_cons_succ]
  refine (N g n d k h).mono ?_
  rintro _ g1 ⟨rfl, hg⟩
  dsimp only
  cases e : numD k d with
  | true => rw [if_pos rfl]; exact ⟨by simp [opdD, e], hg⟩
  | false =>
    rw [if_neg Bool.false_ne_true]
    refine (V g1 n d (h.kd hg.kd)).mono ?_
    rintro _ g2 ⟨rfl, hg2⟩
    exact ⟨by simp [opdD, e], hg.trans hg2⟩
theorem lopd_up {F : Ph} (I : P1 F.f_v_law_is_whole_1 isIntD) : P2 F.up.f_v_law_is_operand_2 opdD := by
  intro g n d k h
  refine P_runB ?_
  unfold dn_v_law_is_operand
  rw [show ini 2 [d, .int k] = [some d, some (.int k)] from rfl]
  simp only [S_ret, P_or, P_and, P_callF, P_cons, P_nil, P_var, List.getElem?_cons_zero, List.getElem?_cons_succ]
  refine (I g n d h).mono ?_
  rintro _ g1 ⟨rfl, hg⟩
  have h1 := h.kd hg.kd
  cases d with
  | int i =>
    simp only [isIntD, if_true, P_chain, P_C, P_var, List.getElem?_cons_zero, List.getElem?_cons_succ, V_le]
    by_cases h0 : 0 ≤ i
    · simp only [h0, decide_true, V_lt]
      by_cases hk : i < k
      · simp only [hk, decide_true, if_true]
        exact ⟨by simp [opdD, numD, h0, hk], hg⟩
      · simp only [hk, decide_false, Bool.false_eq_true, if_false, P_isi, P_var, List.getElem?_cons_zero, isi_int_str]
        exact ⟨by simp [opdD, numD, varD, h0, hk], hg⟩
    · simp only [h0, decide_false, Bool.false_eq_true, if_false, P_isi, P_var, List.getElem?_cons_zero, isi_int_str]
      exact ⟨by simp [opdD, numD, varD, h0], hg⟩
  | str s =>
    simp only [isIntD, Bool.false_eq_true, if_false, P_isi, P_var, List.getElem?_cons_zero, isi_str_str, if_true, P_bin, P_tup, P_cons, P_nil, P_C]
    rw [V_inT rfl]
    exact ⟨sz (by simp), by simp [opdD, numD, varD], hg⟩
  | non => simp only [isIntD, Bool.false_eq_true, if_false, P_isi, P_var, List.getElem?_cons_zero, isi_non_str]; exact ⟨by simp [opdD, numD, varD], hg⟩
  | bl b => simp only [isIntD, Bool.false_eq_true, if_false, P_isi, P_var, List.getElem?_cons_zero, isi_bl_str]; exact ⟨by simp [opdD, numD, varD], hg⟩
  | tup l => simp only [isIntD, Bool.false_eq_true, if_false, P_isi, P_var, List.getElem?_cons_zero, isi_tup_str]; exact ⟨by simp [opdD, numD, varD], hg⟩
  | ref m => simp only [isIntD, Bool.false_eq_true, if_false, P_isi, P_var, List.getElem?_cons_zero, isi_ref_str (gd_ref h1)]; exact ⟨by simp [opdD, numD, varD], hg⟩
end Fc

set_option Elab.async false
set_option linter.all false
set_option maxRecDepth 100000
set_option maxHeartbeats 4000000
namespace Fc
open PySem PySem.Spec PySem.Calls PyProof.Rows L2
theorem at_0 {α : Type} {x : α} {l : List α} : atI (x :: l) 0 = some x := by
  unfold atI ixN
  rw [if_pos (by omega), if_pos (by simp only [List.length_cons]; omega)]
  rfl
theorem at_1 {α : Type} {x y : α} {l : List α} : atI (x :: y :: l) 1 = some y := by
  unfold atI ixN
  rw [if_pos (by omega), if_pos (by simp only [List.length_cons]; omega)]
  rfl
theorem at_2 {α : Type} {x y z : α} {l : List α} : atI (x :: y :: z :: l) 2 = some z := by
  unfold atI ixN
  rw [if_pos (by omega), if_pos (by simp only [List.length_cons]; omega)]
  rfl
theorem at_3 {α : Type} {x y z u : α} {l : List α} : atI (x :: y :: z :: u :: l) 3 = some u := by
  unfold atI ixN
  rw [if_pos (by omega), if_pos (by simp only [List.length_cons]; omega)]
  rfl
theorem exD_bad {k : Int} {l : List D} (h : l.length ≠ 3) : exD k (.tup l) = false := by
  match l, h with
  | [], _ => rfl
  | [a], _ => cases a <;> rfl
  | [a, _], _ => cases a <;> rfl
  | [_, _, _], h => exact absurd rfl h
  | a :: _ :: _ :: _ :: _, _ => cases a <;> rfl
theorem exD_head {k : Int} {a b c : D} (h : isStrD a = false) : exD k (.tup [a, b, c]) = false := by
  cases a <;> first | rfl | cases h
theorem exD_flat {k : Int} {d : D} (h : isTupD d = false) : exD k d = opdD k d := by
  cases d <;> first | rfl | cases h
theorem isiT {g : G} {n : Nat} {d : D} {Q : D → G → Prop} (h : Gd g n d) : isiM "tuple" ownI d g Q = Q (.bl (isTupD d)) g := by
  cases d with
  | non => exact isi_non_tuple
  | bl b => exact isi_bl_tuple
  | int i => exact isi_int_tuple
  | str s => exact isi_str_tuple
  | tup l => exact isi_tup_tuple
  | ref m => exact isi_ref_tuple (gd_ref h)
theorem isiS {g : G} {n : Nat} {d : D} {Q : D → G → Prop} (h : Gd g n d) : isiM "str" ownI d g Q = Q (.bl (isStrD d)) g := by
  cases d with
  | non => exact isi_non_str
  | bl b => exact isi_bl_str
  | int i => exact isi_int_str
  | str s => exact isi_str_str
  | tup l => exact isi_tup_str
  | ref m => exact isi_ref_str (gd_ref h)
theorem ex2_up {F : Ph} (O : P2 F.f_is_operand_2 opdD) : P2 F.up.f_is_expression_2 exD := by
  intro g n d k h
  refine P_runB ?_
  unfold dn_is_expression
  rw [show ini 2 [d, .int k] = [some d, some (.int k)] from rfl]
  rw [S_seq]
  simp only [S_if, P_notT, P_test, P_isi, P_var, List.getElem?_cons_zero, List.getElem?_cons_succ, isiT h, S_nil]
  cases e : isTupD d with
  | false =>
    simp only [Bool.not_false, if_true, S_ret, P_callF, P_cons, P_nil, P_var, List.getElem?_cons_zero, List.getElem?_cons_succ]
    rw [exD_flat e]
    exact O g n d k h
  | true =>
    simp only [Bool.not_true, Bool.false_eq_true, if_false]
    cases d with
    | tup l =>
      rw [S_seq]
      simp only [S_if, P_orT, P_notT, P_test, P_isi, P_bin, P_call, P_cons, P_nil, P_C, P_var, List.getElem?_cons_zero, List.getElem?_cons_succ, V_lenT, V_neI, S_nil]
      by_cases hl : l.length = 3
      · rw [show decide ((l.length : Int) = 3) = true from decide_eq_true (by omega)]
        simp only [Bool.not_true, Bool.false_eq_true, if_false, V_ixT]
        match l, hl with
        | [a, b, c], _ =>
          have ha := gd_mem h (d := a) (by simp)
          have hb := gd_mem h (d := b) (by simp)
          have hc := gd_mem h (d := c) (by simp)
          simp only [at_0, isiS ha]
          cases ea : isStrD a with
          | false =>
            simp only [Bool.not_false, if_true, S_ret, P_C]
            rw [exD_head ea]
            exact ⟨rfl, .refl _⟩
          | true =>
            cases a with
            | str s =>
              unfold c_SIGNS
              simp only [Bool.not_true, Bool.false_eq_true, if_false]
              rw [V_notInT rfl]
              cases es : inD (.str s) [.str "+", .str "-", .str "*"] with
              | false =>
                simp only [Bool.not_false, if_true, S_ret, P_C]
                exact ⟨by simp [exD, es], .refl _⟩
              | true =>
                simp only [Bool.not_true, Bool.false_eq_true, if_false, S_ret, P_and, P_callF, P_cons, P_nil, P_bin, P_C, P_var, List.getElem?_cons_zero, List.getElem?_cons_succ, V_ixT, at_1, at_2]
                refine (O g _ b k hb).mono ?_
                rintro _ g1 ⟨rfl, hg⟩
                cases eb : opdD k b with
                | false =>
                  simp only [Bool.false_eq_true, if_false]
                  exact ⟨by simp [exD, es, eb], hg⟩
                | true =>
                  simp only [if_true]
                  refine (O g1 _ c k (hc.kd hg.kd)).mono ?_
                  rintro _ g2 ⟨rfl, hg2⟩
                  exact ⟨by simp [exD, es, eb], hg.trans hg2⟩
            | _ => cases ea
      · rw [show decide ((l.length : Int) = 3) = false from decide_eq_false (by omega)]
        simp only [Bool.not_false, if_true, S_ret, P_C]
        rw [exD_bad hl]
        exact ⟨rfl, .refl _⟩
    | _ => cases e
theorem lex_up {F : Ph} (O : P2 F.f_v_law_is_operand_2 opdD) : P2 F.up.f_v_law_is_expression_2 exD := by
  intro g n d k h
  refine P_runB ?_
  unfold dn_v_law_is_expression
  rw [show ini 2 [d, .int k] = [some d, some (.int k)] from rfl]
  rw [S_seq]
  simp only [S_if, P_notT, P_test, P_isi, P_var, List.getElem?_cons_zero, List.getElem?_cons_succ, isiT h, S_nil]
  cases e : isTupD d with
  | false =>
    simp only [Bool.not_false, if_true, S_ret, P_callF, P_cons, P_nil, P_var, List.getElem?_cons_zero, List.getElem?_cons_succ]
    rw [exD_flat e]
    exact O g n d k h
  | true =>
    simp only [Bool.not_true, Bool.false_eq_true, if_false]
    cases d with
    | tup l =>
      rw [S_seq]
      simp only [S_if, P_orT, P_notT, P_test, P_isi, P_bin, P_call, P_tup, P_cons, P_nil, P_C, P_var, List.getElem?_cons_zero, List.getElem?_cons_succ, V_lenT, V_neI, S_nil]
      by_cases hl : l.length = 3
      · rw [show decide ((l.length : Int) = 3) = true from decide_eq_true (by omega)]
        simp only [Bool.not_true, Bool.false_eq_true, if_false, V_ixT]
        match l, hl with
        | [a, b, c], _ =>
          have ha := gd_mem h (d := a) (by simp)
          have hb := gd_mem h (d := b) (by simp)
          have hc := gd_mem h (d := c) (by simp)
          simp only [at_0, isiS ha]
          cases ea : isStrD a with
          | false =>
            simp only [Bool.not_false, if_true, S_ret, P_C]
            rw [exD_head ea]
            exact ⟨rfl, .refl _⟩
          | true =>
            cases a with
            | str s =>
              simp only [Bool.not_true, Bool.false_eq_true, if_false]
              refine ⟨sz (by simp), ?_⟩
              rw [V_notInT rfl]
              cases es : inD (.str s) [.str "+", .str "-", .str "*"] with
              | false =>
                simp only [Bool.not_false, if_true, S_ret, P_C]
                exact ⟨by simp [exD, es], .refl _⟩
              | true =>
                simp only [Bool.not_true, Bool.false_eq_true, if_false, S_ret, P_and, P_callF, P_cons, P_nil, P_bin, P_C, P_var, List.getElem?_cons_zero, List.getElem?_cons_succ, V_ixT, at_1, at_2]
                refine (O g _ b k hb).mono ?_
                rintro _ g1 ⟨rfl, hg⟩
                cases eb : opdD k b with
                | false =>
                  simp only [Bool.false_eq_true, if_false]
                  exact ⟨by simp [exD, es, eb], hg⟩
                | true =>
                  simp only [if_true]
                  refine (O g1 _ c k (hc.kd hg.kd)).mono ?_
                  rintro _ g2 ⟨rfl, hg2⟩
                  exact ⟨by simp [exD, es, eb], hg.trans hg2⟩
            | _ => cases ea
      · rw [show decide ((l.length : Int) = 3) = false from decide_eq_false (by omega)]
        simp only [Bool.not_false, if_true, S_ret, P_C]
        rw [exD_bad hl]
        exact ⟨rfl, .refl _⟩
    | _ => cases e
/-! ### names -/
def lets : Str := "abcdefghijklmnopqrstuvwxyz"
def sgnD : D → Bool
  | .str c => inS c lets
  | _ => false
def nmD : D → Bool
  | .str s => decide (1 ≤ (s.length : Int)) && (decide ((s.length : Int) ≤ 8) && (signsD s).all sgnD)
  | _ => false
theorem V_allB {g : G} {Q : D → G → Prop} {m : Nat} {l : List D} {f : D → Bool} (h : g[m]? = some (.lst (l.map fun d => .bl (f d)))) : (oAll [.ref m] g).P Q = Q (.bl (l.all f)) g := by
  have e1 : lstAt (.ref m) g = some (l.map fun d => .bl (f d)) := by
    show (match g[m]? with
      | some (.lst l) => some l
      | some (.frz l) => some l
      | _ => none) = _
    rw [h]
  have e2 : ∀ l : List D, blsD (l.map fun d => .bl (f d)) = some (l.map f) := by
    intro l
    induction l with
    | nil => rfl
    | cons a l ih =>
      show (blsD (l.map fun d => .bl (f d))).map (f a :: ·) = _
      rw [ih]
      rfl
  have e3 : (l.map f).all id = l.all f := by
    clear e1 e2 h
    induction l with
    | nil => rfl
    | cons a l ih => rw [List.map_cons, List.all_cons, List.all_cons, ih]; rfl
  unfold oAll
  dsimp only
  rw [e1, Option.bind_some, e2]
  dsimp only
  rw [e3]
  rfl
theorem sgn_str {s : Str} {d : D} (h : d ∈ signsD s) : ∃ c : Str, d = .str c := by
  unfold signsD at h
  obtain ⟨c, _, rfl⟩ := List.mem_map.mp h
  exact ⟨_, rfl⟩
theorem sgn_len {s : Str} : (signsD s).length = s.length := by
  unfold signsD
  rw [List.length_map, Array.length_toList]
  rfl
theorem nm_up {F : Ph} : P1 F.up.f_is_name_bodies_1 nmD := by
  intro g n d h
  refine P_runB ?_
  unfold dn_is_name
  rw [show ini 2 [d] = [some d, none] from rfl]
  simp only [S_ret, P_and, P_isi, P_chain, P_C, P_call, P_cons, P_nil, P_var, List.getElem?_cons_zero, isiS h]
  cases d with
  | str s =>
    have hs := gd_strl h
    simp only [isStrD, if_true, V_lenS (sz (Nat.le_trans hs (by decide))), V_le]
    by_cases h1 : 1 ≤ (s.length : Int)
    · simp only [h1, decide_true]
      unfold c_MOST_LETTERS
      simp only [V_le]
      by_cases h2 : (s.length : Int) ≤ 8
      · simp only [h2, decide_true, if_true]
        refine lc_pure (signsD s) [] (fun d => .bl (sgnD d)) (fun _ => true) ?_ (fun _ _ => rfl) (by rw [sgn_len]; exact sz (by omega)) (fun d hd g' hg => ⟨_, rfl, rfl, .refl _, fun _ => ?_⟩) (fun g' hg hL => ?_)
        · simp only [P_src, P_var, List.getElem?_cons_zero]
          first | exact ⟨rfl, rfl⟩ | exact ⟨trivial, trivial⟩ | trivial
        · obtain ⟨c, rfl⟩ := sgn_str hd
          simp only [P_bin, P_var, P_C, List.map_cons, List.map_nil, wipeE, List.getElem?_cons_zero, List.getElem?_cons_succ, List.set_cons_succ, List.set_cons_zero]
          unfold c_LETTERS
          rw [V_inS]
          exact ⟨rfl, .refl _⟩
        · rw [show (signsD s).filter (fun _ => true) = signsD s from List.filter_eq_self.mpr fun _ _ => rfl] at hL
          rw [V_allB hL]
          exact ⟨by simp [nmD, h1, h2], hg⟩
      · simp only [h2, decide_false, Bool.false_eq_true, if_false]
        exact ⟨by simp [nmD, h1, h2], .refl _⟩
    · simp only [h1, decide_false, Bool.false_eq_true, if_false]
      exact ⟨by simp [nmD, h1], .refl _⟩
  | _ => simp only [isStrD, Bool.false_eq_true, if_false]; exact ⟨rfl, .refl _⟩
end Fc

set_option Elab.async false
set_option linter.all false
set_option maxRecDepth 100000
set_option maxHeartbeats 4000000
namespace Fc
open PySem PySem.Spec PySem.Calls PyProof.Rows L2
theorem lnm_up {F : Ph} : P1 F.up.f_v_law_is_name_1 nmD := by
  intro g n d h
  refine P_runB ?_
  unfold dn_v_law_is_name
  rw [show ini 3 [d] = [some d, none, none] from rfl]
  rw [S_seq]
  simp only [S_set, S_ret, P_and, P_isi, P_chain, P_C, P_call, P_cons, P_nil, P_var, List.getElem?_cons_zero, List.getElem?_cons_succ, List.set_cons_succ, List.set_cons_zero, isiS h]
  cases d with
  | str s =>
    have hs := gd_strl h
    simp only [isStrD, if_true, V_lenS (sz (Nat.le_trans hs (by decide))), V_le]
    by_cases h1 : 1 ≤ (s.length : Int)
    · simp only [h1, decide_true, V_le]
      by_cases h2 : (s.length : Int) ≤ 8
      · simp only [h2, decide_true, if_true]
        refine lc_pure (signsD s) [] (fun d => .bl (sgnD d)) (fun _ => true) ?_ (fun _ _ => rfl) (by rw [sgn_len]; exact sz (by omega)) (fun d hd g' hg => ⟨_, rfl, rfl, .refl _, fun _ => ?_⟩) (fun g' hg hL => ?_)
        · simp only [P_src, P_var, List.getElem?_cons_zero]
          first | exact ⟨rfl, rfl⟩ | exact ⟨trivial, trivial⟩ | trivial
        · obtain ⟨c, rfl⟩ := sgn_str hd
          simp only [P_bin, P_var, P_C, List.map_cons, List.map_nil, wipeE, List.getElem?_cons_zero, List.getElem?_cons_succ, List.set_cons_succ, List.set_cons_zero]
          rw [V_inS]
          exact ⟨rfl, .refl _⟩
        · rw [show (signsD s).filter (fun _ => true) = signsD s from List.filter_eq_self.mpr fun _ _ => rfl] at hL
          rw [V_allB hL]
          exact ⟨by simp [nmD, h1, h2], hg⟩
      · simp only [h2, decide_false, Bool.false_eq_true, if_false]
        exact ⟨by simp [nmD, h1, h2], .refl _⟩
    · simp only [h1, decide_false, Bool.false_eq_true, if_false]
      exact ⟨by simp [nmD, h1], .refl _⟩
  | _ => simp only [isStrD, Bool.false_eq_true, if_false]; exact ⟨rfl, .refl _⟩
theorem lslot_up {F : Ph} (I : P1 F.f_v_law_is_whole_1 isIntD) : P1 F.up.f_v_law_is_slot_1 (numD 3) := by
  intro g n d h
  refine P_runB ?_
  unfold dn_v_law_is_slot
  rw [show ini 1 [d] = [some d] from rfl]
  simp only [S_ret, P_and, P_callF, P_cons, P_nil, P_var, List.getElem?_cons_zero]
  refine (I g n d h).mono ?_
  rintro _ g1 ⟨rfl, hg⟩
  cases d with
  | int i =>
    simp only [isIntD, if_true, P_chain, P_C, P_var, List.getElem?_cons_zero, V_le]
    by_cases h0 : 0 ≤ i
    · simp only [h0, decide_true, V_lt]
      exact ⟨by simp [numD, h0], hg⟩
    · simp only [h0, decide_false]
      exact ⟨by simp [numD, h0], hg⟩
  | _ => simp only [isIntD, Bool.false_eq_true, if_false]; exact ⟨rfl, hg⟩
/-! ### items, rows -/
def jmpD (a c : Int) : D → Bool
  | .int i => decide (a < i) && decide (i ≤ c)
  | _ => false
def itD (k a c : Int) (so : Str) (d : D) : Bool := if so = "v" then varD d else if so = "s" then numD 3 d else if so = "e" then exD k d else if so = "n" then nmD d else jmpD a c d
def ItC (F : Ph) : Prop := ∀ g n d (so : Str) (k a c : Int), Gd g n d → (F.f_is_item_5 [.str so, d, .int k, .int a, .int c] [] g).P fun r g' => r = .bl (itD k a c so d) ∧ Gro g g'
theorem item_up {F : Ph} (I : P1 F.f_is_integer_1 isIntD) (V : P1 F.f_is_variable_1 varD) (N : P2 F.f_is_number_2 numD) (E : P2 F.f_is_expression_2 exD) (M : P1 F.f_is_name_bodies_1 nmD) : ItC F.up := by
  intro g n d so k a c h
  refine P_runB ?_
  unfold dn_is_item c_MOST_SLOTS
  rw [show ini 5 [D.str so, d, .int k, .int a, .int c] = [some (.str so), some d, some (.int k), some (.int a), some (.int c)] from rfl]
  rw [S_seq]
  simp only [S_if, P_test, P_bin, P_C, P_var, List.getElem?_cons_zero, List.getElem?_cons_succ, V_eqS, S_nil, decide_eq_true_eq]
  refine ite_one (fun c1 => ?_) fun c1 => ?_
  · simp only [S_ret, P_callF, P_cons, P_nil, P_var, List.getElem?_cons_zero, List.getElem?_cons_succ]
    refine (V g n d h).mono ?_
    rintro _ g1 ⟨rfl, hg⟩
    exact ⟨by simp [itD, c1], hg⟩
  rw [S_seq]
  simp only [S_if, P_test, P_bin, P_C, P_var, List.getElem?_cons_zero, List.getElem?_cons_succ, V_eqS, S_nil, decide_eq_true_eq]
  refine ite_one (fun c2 => ?_) fun c2 => ?_
  · simp only [S_ret, P_callF, P_cons, P_nil, P_C, P_var, List.getElem?_cons_zero, List.getElem?_cons_succ]
    refine (N g n d 3 h).mono ?_
    rintro _ g1 ⟨rfl, hg⟩
    exact ⟨by unfold itD; rw [if_neg c1, if_pos c2], hg⟩
  rw [S_seq]
  simp only [S_if, P_test, P_bin, P_C, P_var, List.getElem?_cons_zero, List.getElem?_cons_succ, V_eqS, S_nil, decide_eq_true_eq]
  refine ite_one (fun c3 => ?_) fun c3 => ?_
  · simp only [S_ret, P_callF, P_cons, P_nil, P_C, P_var, List.getElem?_cons_zero, List.getElem?_cons_succ]
    refine (E g n d k h).mono ?_
    rintro _ g1 ⟨rfl, hg⟩
    exact ⟨by unfold itD; rw [if_neg c1, if_neg c2, if_pos c3], hg⟩
  rw [S_seq]
  simp only [S_if, P_test, P_bin, P_C, P_var, List.getElem?_cons_zero, List.getElem?_cons_succ, V_eqS, S_nil, decide_eq_true_eq]
  refine ite_one (fun c4 => ?_) fun c4 => ?_
  · simp only [S_ret, P_callF, P_cons, P_nil, P_C, P_var, List.getElem?_cons_zero, List.getElem?_cons_succ]
    refine (M g n d h).mono ?_
    rintro _ g1 ⟨rfl, hg⟩
    exact ⟨by unfold itD; rw [if_neg c1, if_neg c2, if_neg c3, if_pos c4], hg⟩
  simp only [S_ret, P_and, P_callF, P_cons, P_nil, P_C, P_var, List.getElem?_cons_zero, List.getElem?_cons_succ]
  refine (I g n d h).mono ?_
  rintro _ g1 ⟨rfl, hg⟩
  have e : itD k a c so d = jmpD a c d := by unfold itD; rw [if_neg c1, if_neg c2, if_neg c3, if_neg c4]
  rw [e]
  cases d with
  | int i =>
    simp only [isIntD, if_true, P_chain, P_C, P_var, List.getElem?_cons_zero, List.getElem?_cons_succ, V_lt]
    by_cases h0 : a < i
    · simp only [h0, decide_true, V_le]
      exact ⟨by simp [jmpD, h0], hg⟩
    · simp only [h0, decide_false]
      exact ⟨by simp [jmpD, h0], hg⟩
  | _ => simp only [isIntD, Bool.false_eq_true, if_false]; exact ⟨rfl, hg⟩
def pairD (k a c : Int) : D → Bool
  | .tup [.str so, d] => itD k a c so d
  | _ => false
def rowD (k a c : Int) : D → Bool
  | .tup (.str w :: items) => (match tab_FORMS w with
    | some (.str f) => decide ((f.length : Int) = (items.length : Int)) && (zipD (signsD f) items).all (pairD k a c)
    | _ => false)
  | _ => false
theorem tab_some {w : Str} {d : D} (h : tab_FORMS w = some d) : ∃ f : Str, d = .str f ∧ f.length ≤ 20 := by
  have go : ∀ (l : List (Str × D)), (∀ p ∈ l, ∃ f : Str, p.2 = .str f ∧ f.length ≤ 20) → ∀ d, l.lookup w = some d → ∃ f : Str, d = .str f ∧ f.length ≤ 20 := by
    intro l
    induction l with
    | nil => intro _ d e; cases e
    | cons p l ih =>
      intro hl d e
      unfold List.lookup at e
      split at e
      · cases e
        exact hl p (List.mem_cons_self ..)
      · exact ih (fun q hq => hl q (List.mem_cons_of_mem _ hq)) d e
  refine go tabL_FORMS ?_ d h
  unfold tabL_FORMS
  intro p hp
  simp only [List.mem_cons, List.not_mem_nil, or_false] at hp
  rcases hp with rfl | rfl | rfl | rfl | rfl | rfl | rfl <;> exact ⟨_, rfl, by decide⟩
def RwC (f : Fun2) : Prop := ∀ g n d (k a c : Int), Gd g n d → (f [d, .int k, .int a, .int c] [] g).P fun r g' => r = .bl (rowD k a c d) ∧ Gro g g'
theorem zip_mem {s : Str} {l : List D} {d : D} (h : d ∈ zipD (signsD s) l) : ∃ (c : Str) (x : D), d = .tup [.str c, x] ∧ x ∈ l := by
  obtain ⟨i, hi⟩ := List.getElem?_of_mem h
  obtain ⟨x, y, h1, h2, rfl⟩ := zipD_get hi
  obtain ⟨c, rfl⟩ := sgn_str (List.mem_of_getElem? h1)
  exact ⟨c, y, rfl, List.mem_of_getElem? h2⟩
theorem row2_up {F : Ph} (I : ItC F) : RwC F.up.f_is_row_4 := by
  intro g n d k a c h
  refine P_runB ?_
  unfold dn_is_row
  rw [show ini 9 [d, .int k, .int a, .int c] = [some d, some (.int k), some (.int a), some (.int c), none, none, none, none, none] from rfl]
  rw [S_seq]
  simp only [S_if, P_orT, P_notT, P_test, P_isi, P_bin, P_tup, P_nil, P_C, P_var, List.getElem?_cons_zero, List.getElem?_cons_succ, isiT h, S_nil]
  have bad : ∀ {N : Ev → G → Prop} {ρ : Ev} {g' : G}, rowD k a c d = false → Gro g g' → (sRet (fC (.bl false)) ρ g').P N fun r g' => r = .bl (rowD k a c d) ∧ Gro g g' := fun e hg => by
    simp only [S_ret, P_C]
    exact ⟨by rw [e], hg⟩
  cases d with
  | tup l =>
    simp only [isTupD, Bool.not_true, Bool.false_eq_true, if_false, V_eqE]
    refine ⟨sz (by simp), ?_⟩
    cases l with
    | nil =>
      simp only [List.isEmpty_nil, if_true]
      exact bad rfl (.refl _)
    | cons w items =>
      simp only [List.isEmpty_cons, Bool.false_eq_true, if_false, V_ixT, at_0]
      have hw := gd_mem h (d := w) (by simp)
      have hlen := gd_tupl h
      simp only [List.length_cons] at hlen
      simp only [isiS hw]
      cases ew : isStrD w with
      | false =>
        simp only [Bool.not_false, if_true]
        exact bad (by cases w <;> first | rfl | cases ew) (.refl _)
      | true =>
        simp only [Bool.not_true, Bool.false_eq_true, if_false]
        cases w with
        | str w =>
          rw [S_seq]
          simp only [S_star, P_var, List.getElem?_cons_zero]
          refine ⟨⟨by decide, by simp⟩, ?_⟩
          have e1 : ((D.str w :: items).drop 1).take ((D.str w :: items).length + 1 - 2) = items := by simp
          have e2 : (D.str w :: items).take 1 ++ [D.ref g.length] ++ ((D.str w :: items).drop 1).drop ((D.str w :: items).length + 1 - 2) = [D.str w, .ref g.length] := by simp
          rw [e1, e2]
          show Rs.P (sSeq _ _ [some (.tup (.str w :: items)), some (.int k), some (.int a), some (.int c), some (.str w), some (.ref g.length), none, none, none] (g ++ [.lst items])) _ _
          rw [S_seq]
          simp only [S_set, P_getK, P_var, List.getElem?_cons_zero, List.getElem?_cons_succ, List.set_cons_succ, List.set_cons_zero]
          have g1 : Gro g (g ++ [O.lst items]) := .app _ _
          have hL : (g ++ [O.lst items])[g.length]? = some (.lst items) := at_new
          cases et : tab_FORMS w with
          | none =>
            dsimp only
            rw [S_seq]
            simp only [S_if, P_orT, P_test, P_bin, P_C, P_var, List.getElem?_cons_zero, List.getElem?_cons_succ]
            rw [show ∀ {Q : D → G → Prop} {g' : G}, (oIsN .non .non g').P Q = Q (.bl true) g' from fun {_ _} => rfl]
            dsimp only
            rw [if_pos rfl]
            simp only [if_true]
            exact bad (by simp [rowD, et]) g1
          | some fd =>
            obtain ⟨f, rfl, hf⟩ := tab_some et
            dsimp only
            rw [S_seq]
            simp only [S_if, P_orT, P_test, P_bin, P_call, P_cons, P_nil, P_C, P_var, List.getElem?_cons_zero, List.getElem?_cons_succ, S_nil]
            show (oLenA [.str f] (g ++ [.lst items])).P _
            rw [V_lenS (sz (Nat.le_trans hf (by decide))), V_lenL hL, V_neI]
            by_cases el : (f.length : Int) = (items.length : Int)
            · simp only [el, decide_true, Bool.not_true, Bool.false_eq_true, if_false]
              simp only [S_ret, P_call, P_cons, P_nil]
              have hzl : (zipD (signsD f) items).length ≤ sizeLine := by rw [zipD_length, sgn_len]; exact sz (by omega)
              refine lc_pure (zipD (signsD f) items) [(g.length, items)] (fun d => .bl (pairD k a c d)) (fun _ => true) ?_ (fun g' hg => wok1 (hg.at hL)) hzl (fun d hd g' hg => ?_) (fun g' hg hL' => ?_)
              · simp only [P_zip, P_var, List.getElem?_cons_zero, List.getElem?_cons_succ, srcL hL]
                first | exact ⟨rfl, rfl⟩ | exact ⟨trivial, trivial⟩ | trivial
              · obtain ⟨cc, x, rfl, hx⟩ := zip_mem hd
                refine ⟨_, rfl, rfl, .refl _, fun _ => ?_⟩
                simp only [P_callF, P_cons, P_nil, P_var, List.map_cons, List.map_nil, wipeE, List.getElem?_cons_zero, List.getElem?_cons_succ, List.set_cons_succ, List.set_cons_zero]
                refine (I g' _ x cc k a c ((gd_mem h (List.mem_cons_of_mem _ hx)).kd (g1.trans hg).kd)).mono ?_
                rintro _ g3 ⟨rfl, hg3⟩
                exact ⟨rfl, hg3⟩
              · rw [show (zipD (signsD f) items).filter (fun _ => true) = zipD (signsD f) items from List.filter_eq_self.mpr fun _ _ => rfl] at hL'
                rw [V_allB hL']
                exact ⟨by simp [rowD, et, el], g1.trans hg⟩
            · simp only [el, decide_false, Bool.not_false, if_true]
              exact bad (by simp [rowD, et, el]) g1
        | _ => cases ew
  | _ => simp only [isTupD, Bool.not_false, if_true]; exact bad rfl (.refl _)
end Fc

set_option Elab.async false
set_option linter.all false
set_option maxRecDepth 100000
set_option maxHeartbeats 4000000
namespace Fc
open PySem PySem.Spec PySem.Calls PyProof.Rows L2
section
variable {k a c : Int} {x y z : D} {w : Str} {items : List D}
theorem it_v : itD k a c ⟨#[118]⟩ x = varD x := by unfold itD; rw [if_pos (by decide +kernel)]
theorem it_s : itD k a c ⟨#[115]⟩ x = numD 3 x := by unfold itD; rw [if_neg (by decide +kernel), if_pos (by decide +kernel)]
theorem it_e : itD k a c ⟨#[101]⟩ x = exD k x := by unfold itD; rw [if_neg (by decide +kernel), if_neg (by decide +kernel), if_pos (by decide +kernel)]
theorem it_n : itD k a c ⟨#[110]⟩ x = nmD x := by unfold itD; rw [if_neg (by decide +kernel), if_neg (by decide +kernel), if_neg (by decide +kernel), if_pos (by decide +kernel)]
theorem it_r : itD k a c ⟨#[114]⟩ x = jmpD a c x := by unfold itD; rw [if_neg (by decide +kernel), if_neg (by decide +kernel), if_neg (by decide +kernel), if_neg (by decide +kernel)]
theorem rowD_of {f : Str} (h : tab_FORMS w = some (.str f)) : rowD k a c (.tup (.str w :: items)) = (decide ((f.length : Int) = (items.length : Int)) && (zipD (signsD f) items).all (pairD k a c)) := by
  show (match tab_FORMS w with | some (.str f) => _ | _ => false) = _
  rw [h]
theorem rowD_no (h : tab_FORMS w = none) : rowD k a c (.tup (.str w :: items)) = false := by
  show (match tab_FORMS w with | some (.str f) => _ | _ => false) = _
  rw [h]
theorem rowD_len {f : Str} (h : tab_FORMS w = some (.str f)) (hl : f.length ≠ items.length) : rowD k a c (.tup (.str w :: items)) = false := by
  rw [rowD_of h, decide_eq_false (by omega)]
  rfl
theorem row1 {f : Str} {p : Nat} (h : tab_FORMS w = some (.str f)) (hf : f = ⟨#[p]⟩) : rowD k a c (.tup [.str w, x]) = itD k a c ⟨#[p]⟩ x := by
  subst hf
  rw [rowD_of h]
  show (true && (itD k a c ⟨#[p]⟩ x && true)) = _
  rw [Bool.and_true, Bool.true_and]
theorem row2 {f : Str} {p q : Nat} (h : tab_FORMS w = some (.str f)) (hf : f = ⟨#[p, q]⟩) : rowD k a c (.tup [.str w, x, y]) = (itD k a c ⟨#[p]⟩ x && itD k a c ⟨#[q]⟩ y) := by
  subst hf
  rw [rowD_of h]
  show (true && (itD k a c ⟨#[p]⟩ x && (itD k a c ⟨#[q]⟩ y && true))) = _
  rw [Bool.and_true, Bool.true_and]
theorem row3 {f : Str} {p q r : Nat} (h : tab_FORMS w = some (.str f)) (hf : f = ⟨#[p, q, r]⟩) : rowD k a c (.tup [.str w, x, y, z]) = (itD k a c ⟨#[p]⟩ x && (itD k a c ⟨#[q]⟩ y && itD k a c ⟨#[r]⟩ z)) := by
  subst hf
  rw [rowD_of h]
  show (true && (itD k a c ⟨#[p]⟩ x && (itD k a c ⟨#[q]⟩ y && (itD k a c ⟨#[r]⟩ z && true)))) = _
  rw [Bool.and_true, Bool.true_and]
end
theorem f_say : tab_FORMS "say" = some (.str "e") := rfl
theorem f_end : tab_FORMS "end" = some (.str "e") := rfl
theorem f_set : tab_FORMS "set" = some (.str "ve") := rfl
theorem f_get : tab_FORMS "get" = some (.str "vs") := rfl
theorem f_put : tab_FORMS "put" = some (.str "se") := rfl
theorem f_call : tab_FORMS "call" = some (.str "nev") := rfl
theorem f_if : tab_FORMS "if" = some (.str "eer") := rfl
theorem f_none {w : Str} (h1 : w ≠ "say") (h2 : w ≠ "end") (h3 : w ≠ "set") (h4 : w ≠ "get") (h5 : w ≠ "put") (h6 : w ≠ "call") (h7 : w ≠ "if") : tab_FORMS w = none := by
  unfold tab_FORMS tabL_FORMS
  simp only [List.lookup]
  rw [show (w == "set") = false from by simpa using h3, show (w == "get") = false from by simpa using h4, show (w == "put") = false from by simpa using h5, show (w == "if") = false from by simpa using h7,
    show (w == "say") = false from by simpa using h1, show (w == "call") = false from by simpa using h6, show (w == "end") = false from by simpa using h2]
end Fc

set_option Elab.async false
set_option linter.all false
set_option maxRecDepth 100000
set_option maxHeartbeats 4000000
namespace Fc
open PySem PySem.Spec PySem.Calls PyProof.Rows L2
/-- p and then q, both told -/
theorem and_P {fa fb : Ev → G → Re D} {ρ : Ev} {g : G} {p q : Bool} (h1 : (fa ρ g).P fun r g' => r = .bl p ∧ Gro g g') (h2 : ∀ g', Gro g g' → (fb ρ g').P fun r g'' => r = .bl q ∧ Gro g' g'') : (fAnd fa fb ρ g).P fun r g' => r = .bl (p && q) ∧ Gro g g' := by
  rw [P_and]
  refine h1.mono ?_
  rintro _ g1 ⟨rfl, hg⟩
  cases p with
  | false => exact ⟨rfl, hg⟩
  | true =>
    dsimp only
    rw [if_pos rfl]
    refine (h2 g1 hg).mono ?_
    rintro _ g2 ⟨rfl, hg2⟩
    exact ⟨rfl, hg.trans hg2⟩
theorem lrow_up {F : Ph} (E : P2 F.f_v_law_is_expression_2 exD) (V : P1 F.f_v_law_is_variable_1 varD) (S : P1 F.f_v_law_is_slot_1 (numD 3)) (M : P1 F.f_v_law_is_name_1 nmD) (I : P1 F.f_v_law_is_whole_1 isIntD) : RwC F.up.f_v_law_is_row_4 := by
  intro g n d k a c h
  refine P_runB ?_
  unfold dn_v_law_is_row
  rw [show ini 6 [d, .int k, .int a, .int c] = [some d, some (.int k), some (.int a), some (.int c), none, none] from rfl]
  rw [S_seq]
  simp only [S_if, P_orT, P_notT, P_test, P_isi, P_bin, P_call, P_cons, P_nil, P_C, P_var, List.getElem?_cons_zero, List.getElem?_cons_succ, isiT h, S_nil]
  have bad : ∀ {N : Ev → G → Prop} {ρ : Ev} {g' : G}, rowD k a c d = false → Gro g g' → (sRet (fC (.bl false)) ρ g').P N fun r g' => r = .bl (rowD k a c d) ∧ Gro g g' := fun e hg => by
    simp only [S_ret, P_C]
    exact ⟨by rw [e], hg⟩
  cases d with
  | tup l =>
    simp only [isTupD, Bool.not_true, Bool.false_eq_true, if_false, V_lenT, V_lt, decide_eq_true_eq]
    match l with
    | [] =>
      rw [if_pos (by decide)]
      simp only [if_true]
      exact bad rfl (.refl _)
    | [w] =>
      rw [if_pos (by show ((1 : Nat) : Int) < 2; decide)]
      simp only [if_true]
      refine bad ?_ (.refl _)
      cases w with
      | str w =>
        cases et : tab_FORMS w with
        | none => exact rowD_no et
        | some fd =>
          have key : ∀ f : Str, tab_FORMS w = some (.str f) → f.length ≠ 0 := by
            intro f hf
            by_cases h1 : w = "say"; · subst h1; cases f_say.symm.trans hf; decide
            by_cases h2 : w = "end"; · subst h2; cases f_end.symm.trans hf; decide
            by_cases h3 : w = "set"; · subst h3; cases f_set.symm.trans hf; decide
            by_cases h4 : w = "get"; · subst h4; cases f_get.symm.trans hf; decide
            by_cases h5 : w = "put"; · subst h5; cases f_put.symm.trans hf; decide
            by_cases h6 : w = "call"; · subst h6; cases f_call.symm.trans hf; decide
            by_cases h7 : w = "if"; · subst h7; cases f_if.symm.trans hf; decide
            rw [f_none h1 h2 h3 h4 h5 h6 h7] at hf
            cases hf
          obtain ⟨f, rfl, _⟩ := tab_some et
          exact rowD_len et (key f et)
      | _ => rfl
    | w :: x :: r =>
      rw [if_neg (by simp only [List.length_cons]; omega)]
      simp only [V_ixT, at_0]
      have hw := gd_mem h (d := w) (by simp)
      have hx := gd_mem h (d := x) (by simp)
      have hlen := gd_tupl h
      simp only [isiS hw]
      cases ew : isStrD w with
      | false =>
        simp only [Bool.not_false, if_true]
        exact bad (by cases w <;> first | rfl | cases ew) (.refl _)
      | true =>
        simp only [Bool.not_true, Bool.false_eq_true, if_false]
        cases w with
        | str w =>
          rw [S_seq]
          simp only [S_par, P_bin, P_call, P_cons, P_nil, P_C, P_var, List.getElem?_cons_zero, List.getElem?_cons_succ, V_ixT, at_0, V_lenT, List.set_cons_succ, List.set_cons_zero]
          have at2 : ∀ {y : D} {r' : List D}, r = y :: r' → atI (D.str w :: x :: r) 2 = some y := fun e => by rw [e]; exact at_2
          rw [S_seq]
          simp only [S_if, P_test, P_bin, P_tup, P_cons, P_nil, P_C, P_var, List.getElem?_cons_zero, List.getElem?_cons_succ, S_nil]
          refine ⟨sz (by simp), ?_⟩
          rw [V_inT rfl]
          have ein : inD (.str w) [.str "say", .str "end"] = (decide (w = "say") || decide (w = "end")) := by
            show ((("say" : Str) == w) || ((("end" : Str) == w) || false)) = _
            rw [Bool.or_false]
            congr 1
            · by_cases q : w = "say"
              · rw [q]; rfl
              · rw [decide_eq_false q]; simpa using fun z => q z.symm
            · by_cases q : w = "end"
              · rw [q]; rfl
              · rw [decide_eq_false q]; simpa using fun z => q z.symm
          rw [ein]
          have lenI : ((D.str w :: x :: r).length : Int) = ((r.length + 2 : Nat) : Int) := rfl
          simp only [lenI]
          -- a word with its form, its items told by a conjunction
          have many : ∀ {fb : Ev → G → Re D} {q : Bool} (m : Nat), (r.length + 2 = m → ∀ g', Gro g g' → (fb [some (.tup (.str w :: x :: r)), some (.int k), some (.int a), some (.int c), some (.str w), some (.int ((r.length + 2 : Nat) : Int))] g').P fun r g'' => r = .bl q ∧ Gro g' g'') →
              (fAnd (fBin oEq (fVar 5) (fC (.int m))) fb [some (.tup (.str w :: x :: r)), some (.int k), some (.int a), some (.int c), some (.str w), some (.int ((r.length + 2 : Nat) : Int))] g).P fun r' g' => r' = .bl (decide (r.length + 2 = m) && q) ∧ Gro g g' := by
            intro fb q m hq
            rw [P_and]
            simp only [P_bin, P_var, P_C, List.getElem?_cons_zero, List.getElem?_cons_succ, V_eqI]
            by_cases e : r.length + 2 = m
            · rw [decide_eq_true e, decide_eq_true (by omega), if_pos rfl, Bool.true_and]
              exact hq e g (.refl _)
            · rw [decide_eq_false e, decide_eq_false (by omega), if_neg Bool.false_ne_true, Bool.false_and]
              exact ⟨rfl, .refl _⟩
          by_cases w1 : w = "say" ∨ w = "end"
          · have ef : tab_FORMS w = some (.str "e") := by rcases w1 with rfl | rfl <;> rfl
            rw [show (decide (w = "say") || decide (w = "end")) = true from by rcases w1 with rfl | rfl <;> rfl, if_pos rfl, S_ret]
            have er : rowD k a c (.tup (.str w :: x :: r)) = (decide (r.length + 2 = 2) && exD k x) := by
              cases r with
              | nil => rw [row1 (p := 101) ef rfl, it_e]; rfl
              | cons y r => rw [rowD_len ef (by show 1 ≠ _; simp)]; rw [decide_eq_false (by simp)]; rfl
            rw [er]
            refine many 2 fun e g' hg => ?_
            simp only [P_callF, P_cons, P_nil, P_bin, P_C, P_var, List.getElem?_cons_zero, List.getElem?_cons_succ, V_ixT, at_1]
            exact E g' _ x k (hx.kd hg.kd)
          have w1a : w ≠ "say" := fun z => w1 (.inl z)
          have w1b : w ≠ "end" := fun z => w1 (.inr z)
          rw [decide_eq_false w1a, decide_eq_false w1b, if_neg (by simp)]
          have one : ∀ {r : List D}, r.length + 2 = 3 → ∃ y, r = [y] := fun {r} e => by
            match r, e with
            | [y], _ => exact ⟨y, rfl⟩
          have r2 : ∀ {f : Str} {p q : Nat} {A B : D → Bool}, tab_FORMS w = some (.str f) → f = ⟨#[p, q]⟩ → (∀ x, itD k a c ⟨#[p]⟩ x = A x) → (∀ x, itD k a c ⟨#[q]⟩ x = B x) →
              rowD k a c (.tup (.str w :: x :: r)) = (decide (r.length + 2 = 3) && (A x && (match r with | [y] => B y | _ => false))) := by
            intro f p q A B ef hf hA hB
            match r with
            | [] => rw [rowD_len ef (by rw [hf]; show 2 ≠ 1; decide)]; rfl
            | [y] => rw [row2 ef hf, hA, hB]; rfl
            | y :: z :: r => rw [rowD_len ef (by rw [hf]; show 2 ≠ r.length + 1 + 1 + 1; omega), decide_eq_false (by simp only [List.length_cons]; omega)]; rfl
          rw [S_seq]
          simp only [S_if, P_test, P_bin, P_C, P_var, List.getElem?_cons_zero, List.getElem?_cons_succ, V_eqS, S_nil, decide_eq_true_eq]
          refine ite_one (fun w2 => ?_) fun w2 => ?_
          · rw [S_ret, r2 (p := 118) (q := 101) (by rw [w2]; rfl) rfl (fun _ => it_v) (fun _ => it_e)]
            refine many 3 fun e g' hg => ?_
            obtain ⟨y, rfl⟩ := one e
            have hy := gd_mem h (d := y) (by simp)
            refine and_P ?_ fun g2 hg2 => ?_
            · simp only [P_callF, P_cons, P_nil, P_bin, P_C, P_var, List.getElem?_cons_zero, List.getElem?_cons_succ, V_ixT, at_1]
              exact V g' _ x (hx.kd hg.kd)
            · simp only [P_callF, P_cons, P_nil, P_bin, P_C, P_var, List.getElem?_cons_zero, List.getElem?_cons_succ, V_ixT, at_2]
              exact E g2 _ y k (hy.kd (hg.trans hg2).kd)
          rw [S_seq]
          simp only [S_if, P_test, P_bin, P_C, P_var, List.getElem?_cons_zero, List.getElem?_cons_succ, V_eqS, S_nil, decide_eq_true_eq]
          refine ite_one (fun w3 => ?_) fun w3 => ?_
          · rw [S_ret, r2 (p := 118) (q := 115) (by rw [w3]; rfl) rfl (fun _ => it_v) (fun _ => it_s)]
            refine many 3 fun e g' hg => ?_
            obtain ⟨y, rfl⟩ := one e
            have hy := gd_mem h (d := y) (by simp)
            refine and_P ?_ fun g2 hg2 => ?_
            · simp only [P_callF, P_cons, P_nil, P_bin, P_C, P_var, List.getElem?_cons_zero, List.getElem?_cons_succ, V_ixT, at_1]
              exact V g' _ x (hx.kd hg.kd)
            · simp only [P_callF, P_cons, P_nil, P_bin, P_C, P_var, List.getElem?_cons_zero, List.getElem?_cons_succ, V_ixT, at_2]
              exact S g2 _ y (hy.kd (hg.trans hg2).kd)
          rw [S_seq]
          simp only [S_if, P_test, P_bin, P_C, P_var, List.getElem?_cons_zero, List.getElem?_cons_succ, V_eqS, S_nil, decide_eq_true_eq]
          refine ite_one (fun w4 => ?_) fun w4 => ?_
          · rw [S_ret, r2 (p := 115) (q := 101) (by rw [w4]; rfl) rfl (fun _ => it_s) (fun _ => it_e)]
            refine many 3 fun e g' hg => ?_
            obtain ⟨y, rfl⟩ := one e
            have hy := gd_mem h (d := y) (by simp)
            refine and_P ?_ fun g2 hg2 => ?_
            · simp only [P_callF, P_cons, P_nil, P_bin, P_C, P_var, List.getElem?_cons_zero, List.getElem?_cons_succ, V_ixT, at_1]
              exact S g' _ x (hx.kd hg.kd)
            · simp only [P_callF, P_cons, P_nil, P_bin, P_C, P_var, List.getElem?_cons_zero, List.getElem?_cons_succ, V_ixT, at_2]
              exact E g2 _ y k (hy.kd (hg.trans hg2).kd)
          rw [S_seq]
          simp only [S_if, P_test, P_bin, P_C, P_var, List.getElem?_cons_zero, List.getElem?_cons_succ, V_neI, S_nil]
          by_cases e4 : r.length + 2 = 4
          · rw [show decide (((r.length + 2 : Nat) : Int) = 4) = true from decide_eq_true (by omega)]
            simp only [Bool.not_true, Bool.false_eq_true, if_false]
            obtain ⟨y, z, rfl⟩ : ∃ y z, r = [y, z] := by
              match r, e4 with
              | [y, z], _ => exact ⟨y, z, rfl⟩
            have hy := gd_mem h (d := y) (by simp)
            have hz := gd_mem h (d := z) (by simp)
            rw [S_seq]
            simp only [S_if, P_test, P_bin, P_C, P_var, List.getElem?_cons_zero, List.getElem?_cons_succ, V_eqS, S_nil, decide_eq_true_eq]
            refine ite_one (fun w5 => ?_) fun w5 => ?_
            · rw [S_ret, row3 (p := 110) (q := 101) (r := 118) (by rw [w5]; rfl) rfl, it_n, it_e, it_v]
              refine and_P ?_ fun g1 hg1 => and_P ?_ fun g2 hg2 => ?_
              · simp only [P_callF, P_cons, P_nil, P_bin, P_C, P_var, List.getElem?_cons_zero, List.getElem?_cons_succ, V_ixT, at_1]
                exact M g _ x hx
              · simp only [P_callF, P_cons, P_nil, P_bin, P_C, P_var, List.getElem?_cons_zero, List.getElem?_cons_succ, V_ixT, at_2]
                exact E g1 _ y k (hy.kd hg1.kd)
              · simp only [P_callF, P_cons, P_nil, P_bin, P_C, P_var, List.getElem?_cons_zero, List.getElem?_cons_succ, V_ixT, at_3]
                exact V g2 _ z (hz.kd (hg1.trans hg2).kd)
            rw [S_seq]
            simp only [S_if, P_orT, P_notT, P_test, P_bin, P_C, P_var, P_callF, P_cons, P_nil, List.getElem?_cons_zero, List.getElem?_cons_succ, V_neS, V_ixT, at_1, at_2, S_nil]
            by_cases w6 : w = "if"
            · rw [show decide (w = "if") = true from decide_eq_true w6]
              simp only [Bool.not_true, Bool.false_eq_true, if_false]
              have er : rowD k a c (.tup [.str w, x, y, z]) = (exD k x && (exD k y && jmpD a c z)) := by
                rw [row3 (p := 101) (q := 101) (r := 114) (by rw [w6]; rfl) rfl, it_e, it_e, it_r]
              refine (E g _ x k hx).mono ?_
              rintro _ g1 ⟨rfl, hg1⟩
              dsimp only
              cases e1 : exD k x with
              | false =>
                simp only [Bool.not_false, if_true]
                exact bad (by rw [er, e1]; rfl) hg1
              | true =>
                simp only [Bool.not_true, Bool.false_eq_true, if_false]
                refine (E g1 _ y k (hy.kd hg1.kd)).mono ?_
                rintro _ g2 ⟨rfl, hg2⟩
                dsimp only
                cases e2 : exD k y with
                | false =>
                  simp only [Bool.not_false, if_true]
                  exact bad (by rw [er, e1, e2]; rfl) (hg1.trans hg2)
                | true =>
                  simp only [Bool.not_true, Bool.false_eq_true, if_false]
                  simp only [S_ret, P_and, P_callF, P_cons, P_nil, P_bin, P_C, P_var, List.getElem?_cons_zero, List.getElem?_cons_succ, V_ixT, at_3]
                  refine (I g2 _ z (hz.kd (hg1.trans hg2).kd)).mono ?_
                  rintro _ g3 ⟨rfl, hg3⟩
                  rw [er, e1, e2]
                  have hg := (hg1.trans hg2).trans hg3
                  cases z with
                  | int i =>
                    simp only [isIntD, if_true, P_chain, P_bin, P_C, P_var, List.getElem?_cons_zero, List.getElem?_cons_succ, V_ixT, at_3, V_lt]
                    by_cases h0 : a < i
                    · simp only [h0, decide_true, V_le]
                      exact ⟨by simp [jmpD, h0], hg⟩
                    · simp only [h0, decide_false]
                      exact ⟨by simp [jmpD, h0], hg⟩
                  | _ => simp only [isIntD, Bool.false_eq_true, if_false]; exact ⟨rfl, hg⟩
            · rw [show decide (w = "if") = false from decide_eq_false w6]
              simp only [Bool.not_false, if_true]
              exact bad (rowD_no (f_none w1a w1b w2 w3 w4 w5 w6)) (.refl _)
          · rw [show decide (((r.length + 2 : Nat) : Int) = 4) = false from decide_eq_false (by omega)]
            simp only [Bool.not_false, if_true]
            refine bad ?_ (.refl _)
            by_cases w5 : w = "call"
            · exact rowD_len (f := "nev") (by rw [w5]; rfl) (by show 3 ≠ r.length + 1; omega)
            by_cases w6 : w = "if"
            · exact rowD_len (f := "eer") (by rw [w6]; rfl) (by show 3 ≠ r.length + 1; omega)
            exact rowD_no (f_none w1a w1b w2 w3 w4 w5 w6)
        | _ => cases ew
  | _ => simp only [isTupD, Bool.not_false, if_true]; exact bad rfl (.refl _)
end Fc

set_option Elab.async false
set_option linter.all false
set_option maxRecDepth 100000
set_option maxHeartbeats 4000000
namespace Fc
open PySem PySem.Spec PySem.Calls PyProof.Rows L2
/-! ### bodies -/
def callD : D → Bool
  | .tup (.str w :: _) => decide (w = "call")
  | _ => false
def rowE (k c : Int) : D → Bool
  | .tup [.int i, row] => rowD k i c row
  | _ => false
def bodyD (k : Int) : D → Bool
  | .tup l => decide (l.length ≤ 6) && ((enumD 0 l).all (rowE k (l.length : Int)) && decide ((l.filter callD).length ≤ 1))
  | _ => false
theorem bodyD_tup {k : Int} {l : List D} : bodyD k (.tup l) = (decide (l.length ≤ 6) && ((enumD 0 l).all (rowE k (l.length : Int)) && decide ((l.filter callD).length ≤ 1))) := rfl
theorem form_pos {w f : Str} (hf : tab_FORMS w = some (.str f)) : f.length ≠ 0 := by
  by_cases h1 : w = "say"; · subst h1; cases f_say.symm.trans hf; decide
  by_cases h2 : w = "end"; · subst h2; cases f_end.symm.trans hf; decide
  by_cases h3 : w = "set"; · subst h3; cases f_set.symm.trans hf; decide
  by_cases h4 : w = "get"; · subst h4; cases f_get.symm.trans hf; decide
  by_cases h5 : w = "put"; · subst h5; cases f_put.symm.trans hf; decide
  by_cases h6 : w = "call"; · subst h6; cases f_call.symm.trans hf; decide
  by_cases h7 : w = "if"; · subst h7; cases f_if.symm.trans hf; decide
  rw [f_none h1 h2 h3 h4 h5 h6 h7] at hf
  cases hf
theorem rowD_shape {k a c : Int} {d : D} (h : rowD k a c d = true) : ∃ (w : Str) (x : D) (r : List D), d = .tup (.str w :: x :: r) := by
  cases d with
  | tup l =>
    match l with
    | [] => cases h
    | v :: items =>
      cases v with
      | str w =>
        cases et : tab_FORMS w with
        | none => rw [rowD_no et] at h; cases h
        | some fd =>
          obtain ⟨f, rfl, _⟩ := tab_some et
          match items with
          | [] => rw [rowD_len (items := []) et (form_pos et)] at h; cases h
          | x :: r => exact ⟨w, x, r, rfl⟩
      | _ => cases h
  | _ => cases h
theorem enum_mem {l : List D} {d : D} (h : d ∈ enumD 0 l) : ∃ (i : Nat) (x : D), d = .tup [.int (i : Int), x] ∧ x ∈ l := by
  obtain ⟨i, hi⟩ := List.getElem?_of_mem h
  obtain ⟨x, h1, rfl⟩ := enumD_get hi
  exact ⟨0 + i, x, rfl, List.mem_of_getElem? h1⟩
theorem enum_all {l : List D} {p : D → Bool} (h : (enumD 0 l).all p = true) {x : D} (hx : x ∈ l) : ∃ i : Nat, p (.tup [.int (i : Int), x]) = true := by
  have go : ∀ (l : List D) (k : Nat), (enumD k l).all p = true → x ∈ l → ∃ i : Nat, p (.tup [.int (i : Int), x]) = true := by
    intro l
    induction l with
    | nil => intro k _ hx; cases hx
    | cons a l ih =>
      intro k h hx
      obtain ⟨h1, h2⟩ := Bool.and_eq_true_iff.mp (show (p (.tup [.int (k : Int), a]) && (enumD (k + 1) l).all p) = true from h)
      rcases List.mem_cons.mp hx with e | e
      · exact ⟨k, e ▸ h1⟩
      · exact ih (k + 1) h2 e
  exact go l 0 h hx
def CnC (F : Ph) : Prop := ∀ g (l : List D), l.length ≤ 20 → (∀ x ∈ l, ∃ (w : Str) (y : D) (r : List D), x = .tup (.str w :: y :: r)) → (F.f_called_names_1 [.tup l] [] g).P fun d g' => ∃ i ys, d = .ref i ∧ g'[i]? = some (.lst ys) ∧ ys.length = (l.filter callD).length ∧ Gro g g'
theorem callD_eq {w : Str} {y : D} {r : List D} : callD (.tup (.str w :: y :: r)) = decide (w = "call") := rfl
theorem cn_up {F : Ph} : CnC F.up := by
  intro g l hl hs
  refine P_runB ?_
  unfold dn_called_names
  rw [show ini 2 [D.tup l] = [some (.tup l), none] from rfl]
  rw [S_ret]
  refine lc_pure l [] (fun d => match d with | .tup (_ :: y :: _) => y | _ => .non) callD ?_ (fun _ _ => rfl) (sz (by omega)) (fun d hd g' hg => ?_) (fun g' hg hL => ?_)
  · simp only [P_src, P_var, List.getElem?_cons_zero]
    first | exact ⟨rfl, rfl⟩ | exact ⟨trivial, trivial⟩ | trivial
  · obtain ⟨w, y, r, rfl⟩ := hs d hd
    refine ⟨_, rfl, ?_⟩
    simp only [P_test, P_bin, P_var, P_C, List.map_cons, List.map_nil, wipeE, List.getElem?_cons_zero, List.getElem?_cons_succ, List.set_cons_succ, List.set_cons_zero, V_ixT, at_0, V_eqS]
    refine ⟨callD_eq.symm, .refl _, fun _ => ?_⟩
    simp only [at_1]
    first | exact ⟨rfl, Gro.refl _⟩ | exact ⟨trivial, Gro.refl _⟩
  · exact ⟨_, _, rfl, hL, by rw [List.length_map], hg⟩
theorem isbody {F : Ph} (R : RwC F.f_is_row_4) (C : CnC F) {g : G} {n : Nat} {d : D} {k : Int} (h : Gd g n d) : (runB (dn_is_body F) (ini 4 [d, .int k]) g).P fun r g' => r = .bl (bodyD k d) ∧ Gro g g' := by
  refine P_runB ?_
  unfold dn_is_body c_MOST_ROWS c_MOST_CALLS
  rw [show ini 4 [d, .int k] = [some d, some (.int k), none, none] from rfl]
  rw [S_seq]
  simp only [S_if, P_orT, P_notT, P_test, P_isi, P_bin, P_call, P_cons, P_nil, P_C, P_var, List.getElem?_cons_zero, List.getElem?_cons_succ, isiT h, S_nil]
  have bad : ∀ {N : Ev → G → Prop} {ρ : Ev} {g' : G}, bodyD k d = false → Gro g g' → (sRet (fC (.bl false)) ρ g').P N fun r g' => r = .bl (bodyD k d) ∧ Gro g g' := fun e hg => by
    simp only [S_ret, P_C]
    exact ⟨by rw [e], hg⟩
  cases d with
  | tup l =>
    have hlen := gd_tupl h
    simp only [isTupD, Bool.not_true, Bool.false_eq_true, if_false, V_lenT, V_gt, decide_eq_true_eq]
    refine ite_one (fun c1 => bad ?_ (.refl _)) fun c1 => ?_
    · rw [bodyD_tup]
      rw [decide_eq_false (show ¬ l.length ≤ 6 by omega)]
      rfl
    · rw [S_seq]
      simp only [S_if, P_notT, P_test, P_call, P_cons, P_nil, S_nil]
      refine lc_pure (enumD 0 l) [] (fun d => .bl (rowE k (l.length : Int) d)) (fun _ => true) ?_ (fun _ _ => rfl) (by rw [enumD_length]; exact sz (by omega)) (fun d hd g' hg => ?_) (fun g1 hg1 hL => ?_)
      · simp only [P_enum, P_var, List.getElem?_cons_zero]
        first | exact ⟨rfl, rfl⟩ | exact ⟨trivial, trivial⟩ | trivial
      · obtain ⟨i, x, rfl, hx⟩ := enum_mem hd
        refine ⟨_, rfl, rfl, .refl _, fun _ => ?_⟩
        simp only [P_callF, P_call, P_cons, P_nil, P_var, List.map_cons, List.map_nil, wipeE, List.getElem?_cons_zero, List.getElem?_cons_succ, List.set_cons_succ, List.set_cons_zero, V_lenT]
        exact R g' _ x k (i : Int) (l.length : Int) ((gd_mem h hx).kd hg.kd)
      · rw [show (enumD 0 l).filter (fun _ => true) = enumD 0 l from List.filter_eq_self.mpr fun _ _ => rfl] at hL
        rw [V_allB hL]
        dsimp only
        cases ea : (enumD 0 l).all (rowE k (l.length : Int)) with
        | false =>
          simp only [Bool.not_false, if_true]
          refine bad ?_ hg1
          rw [bodyD_tup]
          rw [ea, Bool.false_and, Bool.and_false]
        | true =>
          simp only [Bool.not_true, Bool.false_eq_true, if_false]
          simp only [S_ret, P_bin, P_call, P_callF, P_cons, P_nil, P_C, P_var, List.getElem?_cons_zero, List.getElem?_cons_succ]
          refine (C g1 l (by omega) fun x hx => by
            obtain ⟨i, hi⟩ := enum_all ea hx
            exact rowD_shape hi).mono ?_
          rintro _ g2 ⟨i, ys, rfl, hy, hl, hg2⟩
          rw [V_lenL hy, V_le]
          refine ⟨?_, hg1.trans hg2⟩
          rw [bodyD_tup]
          rw [ea, decide_eq_true (by omega : l.length ≤ 6), Bool.true_and, Bool.true_and, hl]
          congr 1
          rw [decide_eq_decide]
          omega
  | _ => simp only [isTupD, Bool.not_false, if_true]; exact bad rfl (.refl _)
theorem lisbody {F : Ph} (R : RwC F.f_v_law_is_row_4) {g : G} {n : Nat} {d : D} {k : Int} (h : Gd g n d) : (runB (dn_v_law_is_body F) (ini 4 [d, .int k]) g).P fun r g' => r = .bl (bodyD k d) ∧ Gro g g' := by
  refine P_runB ?_
  unfold dn_v_law_is_body
  rw [show ini 4 [d, .int k] = [some d, some (.int k), none, none] from rfl]
  rw [S_seq]
  simp only [S_if, P_orT, P_notT, P_test, P_isi, P_bin, P_call, P_cons, P_nil, P_C, P_var, List.getElem?_cons_zero, List.getElem?_cons_succ, isiT h, S_nil]
  have bad : ∀ {N : Ev → G → Prop} {ρ : Ev} {g' : G}, bodyD k d = false → Gro g g' → (sRet (fC (.bl false)) ρ g').P N fun r g' => r = .bl (bodyD k d) ∧ Gro g g' := fun e hg => by
    simp only [S_ret, P_C]
    exact ⟨by rw [e], hg⟩
  cases d with
  | tup l =>
    have hlen := gd_tupl h
    simp only [isTupD, Bool.not_true, Bool.false_eq_true, if_false, V_lenT, V_gt, decide_eq_true_eq]
    refine ite_one (fun c1 => bad ?_ (.refl _)) fun c1 => ?_
    · rw [bodyD_tup]
      rw [decide_eq_false (show ¬ l.length ≤ 6 by omega)]
      rfl
    · rw [S_seq]
      simp only [S_if, P_notT, P_test, P_call, P_cons, P_nil, S_nil]
      refine lc_pure (enumD 0 l) [] (fun d => .bl (rowE k (l.length : Int) d)) (fun _ => true) ?_ (fun _ _ => rfl) (by rw [enumD_length]; exact sz (by omega)) (fun d hd g' hg => ?_) (fun g1 hg1 hL => ?_)
      · simp only [P_enum, P_var, List.getElem?_cons_zero]
        first | exact ⟨rfl, rfl⟩ | exact ⟨trivial, trivial⟩ | trivial
      · obtain ⟨i, x, rfl, hx⟩ := enum_mem hd
        refine ⟨_, rfl, rfl, .refl _, fun _ => ?_⟩
        simp only [P_callF, P_call, P_cons, P_nil, P_var, List.map_cons, List.map_nil, wipeE, List.getElem?_cons_zero, List.getElem?_cons_succ, List.set_cons_succ, List.set_cons_zero, V_lenT]
        exact R g' _ x k (i : Int) (l.length : Int) ((gd_mem h hx).kd hg.kd)
      · rw [show (enumD 0 l).filter (fun _ => true) = enumD 0 l from List.filter_eq_self.mpr fun _ _ => rfl] at hL
        rw [V_allB hL]
        dsimp only
        cases ea : (enumD 0 l).all (rowE k (l.length : Int)) with
        | false =>
          simp only [Bool.not_false, if_true]
          refine bad ?_ hg1
          rw [bodyD_tup]
          rw [ea, Bool.false_and, Bool.and_false]
        | true =>
          simp only [Bool.not_true, Bool.false_eq_true, if_false]
          simp only [S_ret, P_bin, P_call, P_cons, P_nil, P_C]
          refine lc_pure l [] id callD ?_ (fun _ _ => rfl) (sz (by omega)) (fun d hd g' hg => ?_) (fun g2 hg2 hL2 => ?_)
          · simp only [P_src, P_var, List.getElem?_cons_zero]
            first | exact ⟨rfl, rfl⟩ | exact ⟨trivial, trivial⟩ | trivial
          · obtain ⟨i, hi⟩ := enum_all ea hd
            obtain ⟨w, y, r, rfl⟩ := rowD_shape hi
            refine ⟨_, rfl, ?_⟩
            simp only [P_test, P_bin, P_var, P_C, List.map_cons, List.map_nil, wipeE, List.getElem?_cons_zero, List.getElem?_cons_succ, List.set_cons_succ, List.set_cons_zero, V_ixT, at_0, V_eqS]
            exact ⟨callD_eq.symm, .refl _, fun _ => ⟨rfl, .refl _⟩⟩
          · rw [V_lenL hL2, V_lt]
            refine ⟨?_, hg1.trans hg2⟩
            rw [bodyD_tup]
            rw [ea, decide_eq_true (by omega : l.length ≤ 6), Bool.true_and, Bool.true_and, List.length_map]
            congr 1
            rw [decide_eq_decide]
            omega
  | _ => simp only [isTupD, Bool.not_false, if_true]; exact bad rfl (.refl _)
end Fc

set_option Elab.async false
set_option linter.all false
set_option maxRecDepth 100000
set_option maxHeartbeats 4000000
namespace Fc
open PySem PySem.Spec PySem.Calls PyProof.Rows L2
/-! ### slots -/
def wordB (w : Str) : D → Bool
  | .tup (.str v :: _) => decide (v = w)
  | _ => false
def getI : D → Int
  | .tup [_, _, .int i] => i
  | _ => 0
def putI : D → Int
  | .tup [_, .int i, _] => i
  | _ => 0
def slotL (rows : List D) : List Int := (rows.filter (wordB "get")).map getI ++ (rows.filter (wordB "put")).map putI
def slotN (rows : List D) : Int := maxZ (slotL rows ++ [-1]) + 1
theorem slot_pos {rows : List D} (h : ∀ r ∈ rows, RowOk r) : ∀ i ∈ slotL rows, 0 ≤ i := by
  intro i hi
  rcases List.mem_append.mp hi with q | q
  · obtain ⟨r, hr, rfl⟩ := List.mem_map.mp q
    obtain ⟨h1, h2⟩ := List.mem_filter.mp hr
    obtain ⟨_, w, items, rfl, hg, _⟩ := h r h1
    obtain ⟨x, j, rfl, hj⟩ := hg (of_decide_eq_true h2)
    exact hj
  · obtain ⟨r, hr, rfl⟩ := List.mem_map.mp q
    obtain ⟨h1, h2⟩ := List.mem_filter.mp hr
    obtain ⟨_, w, items, rfl, _, hp⟩ := h r h1
    obtain ⟨j, x, rfl, hj⟩ := hp (of_decide_eq_true h2)
    exact hj
theorem maxZ_app {n : Int} {ns : List Int} (h : ∀ i ∈ n :: ns, 0 ≤ i) : maxZ ((n :: ns) ++ [-1]) = maxZ (n :: ns) := by
  obtain ⟨a1, a2⟩ := maxZ_spec (l := (n :: ns) ++ [-1]) (by simp)
  obtain ⟨b1, b2⟩ := maxZ_spec (l := n :: ns) (by simp)
  refine Int.le_antisymm ?_ (a2 _ (List.mem_append_left _ b1))
  rcases List.mem_append.mp a1 with q | q
  · exact b2 _ q
  · have := List.mem_singleton.mp q
    have z := b2 n (List.mem_cons_self ..)
    have := h n (List.mem_cons_self ..)
    omega
theorem ints_map {α : Type} {l : List α} {f : α → Int} : intsD (l.map fun x => .int (f x)) = some (l.map f) := by
  induction l with
  | nil => rfl
  | cons a l ih =>
    show (intsD (l.map fun x => .int (f x))).map (f a :: ·) = _
    rw [ih]
    rfl
theorem ints_app : ∀ {a b : List D} {x y : List Int}, intsD a = some x → intsD b = some y → intsD (a ++ b) = some (x ++ y)
  | [], b, x, y, h1, h2 => by cases h1; exact h2
  | d :: a, b, x, y, h1, h2 => by
    cases d with
    | int i =>
      obtain ⟨x', e, rfl⟩ := Option.map_eq_some_iff.mp (show (intsD a).map (i :: ·) = some x from h1)
      show (intsD (a ++ b)).map (i :: ·) = _
      rw [ints_app e h2]
      rfl
    | _ => cases h1
theorem V_lstAt {g : G} {m : Nat} {l : List D} (h : g[m]? = some (.lst l)) : lstAt (.ref m) g = some l := by
  show (match g[m]? with
    | some (.lst l) => some l
    | some (.frz l) => some l
    | _ => none) = _
  rw [h]
def SlC (f : Fun2) : Prop := ∀ g (rows : List D), rows.length ≤ 20 → (∀ r ∈ rows, RowOk r) → (f [.tup rows] [] g).P fun r g' => r = .int (slotN rows) ∧ Gro g g'
/-- the two comprehensions, one after another -/
theorem slot_two {g : G} {rows : List D} {ρ : Ev} {Q : D → G → Prop} {nm : Str} (hl : rows.length ≤ 20) (h : ∀ r ∈ rows, RowOk r) (hρ : ρ = [some (.tup rows), none, none])
    (hQ : ∀ g' i l, Gro g g' → g'[i]? = some (.lst l) → intsD l = some (slotL rows) → l.length ≤ 40 → Q (.ref i) g') :
    (fBin oAdd (fLc (fSrc (fVar 0)) (bNm 2) (fTest (fBin oEq (fBin oIx (fVar 2) (fC (.int 0))) (fC (.str "get")))) (fBin oIx (fVar 2) (fC (.int 2))) (([(nm, 2)] : List (Str × Nat)).map (·.2))) (fLc (fSrc (fVar 0)) (bNm 2) (fTest (fBin oEq (fBin oIx (fVar 2) (fC (.int 0))) (fC (.str "put")))) (fBin oIx (fVar 2) (fC (.int 1))) (([(nm, 2)] : List (Str × Nat)).map (·.2))) ρ g).P Q := by
  subst hρ
  rw [P_bin]
  refine lc_pure rows [] (fun d => .int (getI d)) (wordB "get") ?_ (fun _ _ => rfl) (sz (by omega)) (fun d hd g' hg => ?_) (fun g1 hg1 hL => ?_)
  · simp only [P_src, P_var, List.getElem?_cons_zero]
    first | exact ⟨rfl, rfl⟩ | exact ⟨trivial, trivial⟩ | trivial
  · obtain ⟨_, w, items, rfl, hgt, _⟩ := h d hd
    refine ⟨_, rfl, ?_⟩
    simp only [P_test, P_bin, P_var, P_C, List.map_cons, List.map_nil, wipeE, List.getElem?_cons_zero, List.getElem?_cons_succ, List.set_cons_succ, List.set_cons_zero, V_ixT, at_0, V_eqS]
    refine ⟨rfl, .refl _, fun hw => ?_⟩
    obtain ⟨x, i, rfl, _⟩ := hgt (of_decide_eq_true hw)
    simp only [at_2]
    exact ⟨rfl, .refl _⟩
  · refine lc_pure rows [] (fun d => .int (putI d)) (wordB "put") ?_ (fun _ _ => rfl) (sz (by omega)) (fun d hd g' hg => ?_) (fun g2 hg2 hL2 => ?_)
    · simp only [P_src, P_var, List.getElem?_cons_zero]
      first | exact ⟨rfl, rfl⟩ | exact ⟨trivial, trivial⟩ | trivial
    · obtain ⟨_, w, items, rfl, _, hpt⟩ := h d hd
      refine ⟨_, rfl, ?_⟩
      simp only [P_test, P_bin, P_var, P_C, List.map_cons, List.map_nil, wipeE, List.getElem?_cons_zero, List.getElem?_cons_succ, List.set_cons_succ, List.set_cons_zero, V_ixT, at_0, V_eqS]
      refine ⟨rfl, .refl _, fun hw => ?_⟩
      obtain ⟨i, x, rfl, _⟩ := hpt (of_decide_eq_true hw)
      simp only [at_1]
      exact ⟨rfl, .refl _⟩
    · rw [V_addL (hg2.at hL) hL2]
      have l1 : ((rows.filter (wordB "get")).map fun d => D.int (getI d)).length ≤ 20 := by rw [List.length_map]; exact Nat.le_trans (List.length_filter_le _ _) hl
      have l2 : ((rows.filter (wordB "put")).map fun d => D.int (putI d)).length ≤ 20 := by rw [List.length_map]; exact Nat.le_trans (List.length_filter_le _ _) hl
      refine ⟨sz (by omega), hQ _ _ _ (hg1.trans (hg2.trans (.app _ _))) at_new (ints_app ints_map ints_map) (by rw [List.length_append]; omega)⟩
theorem slots_body {F : Ph} {g : G} {rows : List D} (hl : rows.length ≤ 20) (h : ∀ r ∈ rows, RowOk r) : (runB (dn_slots_of F) (ini 3 [.tup rows]) g).P fun r g' => r = .int (slotN rows) ∧ Gro g g' := by
  refine P_runB ?_
  unfold dn_slots_of
  rw [S_seq, S_set]
  refine slot_two hl h rfl fun g1 i l hg hi hints hlen => ?_
  rw [show (ini 3 [D.tup rows]).set 1 (some (.ref i)) = [some (.tup rows), some (.ref i), none] from rfl]
  simp only [S_ret, P_bin, P_C, P_callBK, P_cons, P_nil, P_un, V_neg, P_var, List.getElem?_cons_zero, List.getElem?_cons_succ]
  have e : oMaxDf [.ref i] [.int (-1)] g1 = .ok (.int (maxZ (slotL rows ++ [-1]))) g1 := by
    unfold oMaxDf
    dsimp only
    rw [V_lstAt hi, Option.bind_some, hints]
    have hp := slot_pos h
    cases es : slotL rows with
    | nil => rfl
    | cons n ns =>
      rw [es] at hp
      rw [maxZ_app hp]
  rw [e, P_ok, V_add]
  exact ⟨by unfold slotN; rw [Int.add_comm], hg⟩
theorem lslots_up {F : Ph} : SlC F.up.f_v_law_slots_1 := by
  intro g rows hl h
  refine P_runB ?_
  unfold dn_v_law_slots
  rw [S_seq, S_set]
  refine slot_two hl h rfl fun g1 i l hg hi hints hlen => ?_
  rw [show (ini 3 [D.tup rows]).set 1 (some (.ref i)) = [some (.tup rows), some (.ref i), none] from rfl]
  simp only [S_ret, P_bin, P_C, P_call, P_lst, P_cons, P_nil, P_un, V_neg, P_var, List.getElem?_cons_zero, List.getElem?_cons_succ]
  refine ⟨sz (by simp), ?_⟩
  rw [V_addL (at_app hi) at_new]
  refine ⟨sz (by rw [List.length_singleton]; omega), ?_⟩
  have e : ∀ {g2 : G} {m : Nat}, g2[m]? = some (.lst (l ++ [.int (-1)])) → oMaxL [.ref m] g2 = .ok (.int (maxZ (slotL rows ++ [-1]))) g2 := by
    intro g2 m hm
    unfold oMaxL
    dsimp only
    rw [V_lstAt hm, Option.bind_some, ints_app hints (show intsD [.int (-1)] = some [-1] from rfl)]
    cases es : slotL rows with
    | nil => rfl
    | cons n ns => rfl
  rw [e at_new, P_ok, V_add]
  exact ⟨rfl, hg.trans ((Gro.app _ _).trans (.app _ _))⟩
end Fc

set_option Elab.async false
set_option linter.all false
set_option maxRecDepth 100000
set_option maxHeartbeats 4000000
namespace Fc
open PySem PySem.Spec PySem.Calls PyProof.Rows L2
/-! ### a bag from the script -/
theorem V_abs {g : G} {Q : D → G → Prop} {i : Int} : (oAbs [.int i] g).P Q = Q (.int (if i < 0 then -i else i)) g := rfl
def BgC (F : Ph) : Prop := ∀ g (ns : List Int) i (j : Int), g[i]? = some (.frz (ns.map .int)) → 0 ≤ j → j < 100 → (F.f_v_law_bag_2 [.ref i, .int j] [] g).P fun d g' => d = .ref g.length ∧ Bag g' g.length 0 ∧ Gro g g'
theorem bag_up {F : Ph} : BgC F.up := by
  intro g ns i j hi h0 h1
  refine P_runB ?_
  unfold dn_v_law_bag
  rw [show ini 4 [D.ref i, .int j] = [some (.ref i), some (.int j), none, none] from rfl]
  rw [S_seq]
  simp only [S_set, P_ifE, P_test, P_bin, P_call, P_cons, P_nil, P_C, P_var, List.getElem?_cons_zero, List.getElem?_cons_succ, List.set_cons_succ, List.set_cons_zero, V_lenF hi, V_lt, decide_eq_true_eq, V_ixF hi]
  have rest : ∀ z : Int, (sSeq
      (sSet 3 (fIfE (fTest (fBin oGe (fCall oAbs (fCons (fVar 2) (fNil))) (fBin oPow (fC (.int 10)) (fC (.int 18))))) (fCall oAbs (fCons (fVar 2) (fNil))) (fC (.int 0))))
      (sRet (fLst (fCons (fVar 3) (fCons (fBin oMod (fBin oPow (fBin oAdd (fBin oAdd (fBin oMod (fVar 2) (fC (.int 2147483647))) (fBin oMul (fC (.int 7121)) (fVar 1))) (fC (.int 11))) (fC (.int 3))) (fC (.int 2147483629))) (fCons (fC (.int 0)) (fNil)))))) [some (.ref i), some (.int j), some (.int z), none] g).P
      (fun _ g' => D.non = .ref g.length ∧ Bag g' g.length 0 ∧ Gro g g') fun d g' => d = .ref g.length ∧ Bag g' g.length 0 ∧ Gro g g' := by
    intro z
    rw [S_seq]
    simp only [S_set, P_ifE, P_test, P_bin, P_call, P_cons, P_nil, P_C, P_var, List.getElem?_cons_zero, List.getElem?_cons_succ, List.set_cons_succ, List.set_cons_zero, V_abs, V_pow, V_ge, decide_eq_true_eq]
    have fin : ∀ y : Int, 0 ≤ y → (sRet (fLst (fCons (fVar 3) (fCons (fBin oMod (fBin oPow (fBin oAdd (fBin oAdd (fBin oMod (fVar 2) (fC (.int 2147483647))) (fBin oMul (fC (.int 7121)) (fVar 1))) (fC (.int 11))) (fC (.int 3))) (fC (.int 2147483629))) (fCons (fC (.int 0)) (fNil))))) [some (.ref i), some (.int j), some (.int z), some (.int y)] g).P
        (fun _ g' => D.non = .ref g.length ∧ Bag g' g.length 0 ∧ Gro g g') fun d g' => d = .ref g.length ∧ Bag g' g.length 0 ∧ Gro g g' := by
      intro y hy
      simp only [S_ret, P_lst, P_bin, P_cons, P_nil, P_C, P_var, List.getElem?_cons_zero, List.getElem?_cons_succ, V_mod, V_mul, V_add, V_pow]
      have m0 : 0 ≤ z % 2147483647 := Int.emod_nonneg _ (by omega)
      have m1 : z % 2147483647 < 2147483647 := Int.emod_lt_of_pos _ (by omega)
      refine ⟨by omega, .inl ⟨by omega, by omega⟩, ⟨by omega, by omega, by omega⟩, by omega, sz (by simp), by first | rfl | trivial, ⟨_, _, _, at_new, hy, Int.emod_nonneg _ (by omega), ?_, by omega, by omega⟩, .app _ _⟩
      have := Int.emod_lt_of_pos ((z % 2147483647 + 7121 * j + 11) ^ (3 : Int).toNat) (show (0 : Int) < 2147483629 by omega)
      omega
    refine ⟨⟨by omega, by omega, by decide⟩, ?_⟩
    refine ite_one (fun _ => fin _ ?_) fun _ => fin 0 (by omega)
    split <;> omega
  refine ite_one (fun c => ?_) fun _ => rest 0
  have hj : j < ((ns.map D.int).length : Int) := c
  obtain ⟨d, e, hd⟩ := atI_in h0 hj
  rw [e]
  obtain ⟨z, _, rfl⟩ := List.mem_map.mp hd
  exact rest z
end Fc

set_option Elab.async false
set_option linter.all false
set_option maxRecDepth 100000
set_option maxHeartbeats 4000000
namespace Fc
open PySem PySem.Spec PySem.Calls PyProof.Rows L2
/-! ### a house -/
theorem V_insAt {g : G} {m : Nat} {c : Str} {fs : List (Str × D)} (h : g[m]? = some (.ins c fs)) : insAt (.ref m) g = some (m, c, fs) := by
  show (match g[m]? with
    | some (.ins c fs) => some (m, c, fs)
    | _ => none) = _
  rw [h]
theorem putD_len {f : Str} {v : D} : ∀ {fs : List (Str × D)}, (putD f v fs).length ≤ fs.length + 1
  | [] => by simp [putD]
  | (k, x) :: r => by
    unfold putD
    split
    · simp
    · have := putD_len (f := f) (v := v) (fs := r)
      simp only [List.length_cons]
      omega
theorem V_lenDct {g : G} {Q : D → G → Prop} {m : Nat} {l : List (Key × D)} (h : g[m]? = some (.dct l)) : (oLenA [.ref m] g).P Q = Q (.int (l.length : Int)) g := by
  have e : oLen [.ref m] g = .bad := by
    show (match (match g[m]? with
      | some (.lst l) => some l.length
      | some (.frz l) => some l.length
      | _ => none) with | some n => Re.ok (D.int (n : Int)) g | none => .bad) = _
    rw [h]
  have e2 : oLenF [.ref m] g = .ok (.int (l.length : Int)) g := by
    show (match (match g[m]? with
      | some (.dct l) => some l.length
      | _ => none) with | some n => Re.ok (D.int (n : Int)) g | none => .bad) = _
    rw [h]
  unfold oLenA OpN.or
  rw [e]
  dsimp only
  rw [e2]
  rfl
theorem V_dict {g : G} {Q : D → G → Prop} {m : Nat} {l : List (Key × D)} (h : g[m]? = some (.dct l)) : (oDict [.ref m] g).P Q = Q (.ref g.length) (g ++ [.dct l]) := by
  have e : dctAt (.ref m) g = some l := by
    show (match g[m]? with
      | some (.dct l) => some l
      | some (.fdc l) => some l
      | _ => none) = _
    rw [h]
  unfold oDict
  dsimp only
  rw [e]
  rfl
theorem set_id {g : G} {m : Nat} {o : O} (h : g[m]? = some o) : g.set m o = g := by
  apply List.ext_getElem?
  intro i
  by_cases hi : m = i
  · subst hi
    rw [List.getElem?_set_self (lt_at h), h]
  · rw [List.getElem?_set_ne hi]
theorem S_items0 {ρ : Ev} {g : G} {N : Ev → G → Prop} {R : D → G → Prop} {i m : Nat} {b : Bd} {body : Ev → G → Rs} (hv : ρ[i]? = some (some (.ref m))) (h : g[m]? = some (.dct [])) (hN : N ρ g) : (sForItems (fVar i) b body ρ g).P N R := by
  have hm := lt_at h
  have e1 : ∀ g' : G, fVar i ρ g' = .ok (.ref m) g' := fun g' => by unfold fVar; rw [hv]
  have e2 : lockG m g = some (g.set m (.fdc [])) := by unfold lockG; rw [h]
  have h2 : (g.set m (O.fdc []))[m]? = some (.fdc []) := at_set h
  have e3 : fItems (fVar i) ρ (g.set m (.fdc [])) = .ok ([], []) (g.set m (.fdc [])) := by
    unfold fItems
    rw [e1]
    show (match (g.set m (O.fdc []))[m]? with
      | some (.fdc l) => Re.ok (itemsD l, []) (g.set m (O.fdc []))
      | _ => .bad) = _
    rw [h2]
    rfl
  have e4 : unlockG m (g.set m (.fdc [])) = some ((g.set m (.fdc [])).set m (.dct [])) := by unfold unlockG; rw [h2]
  unfold sForItems sLock
  rw [e1]
  dsimp only
  rw [e2]
  dsimp only
  unfold sFor
  rw [e3]
  show Rs.P (Rs.unlock m (.nx ρ (g.set m (.fdc [])))) N R
  unfold Rs.unlock
  dsimp only
  rw [e4, List.set_set, set_id h]
  exact hN
def BsC (F : Ph) : Prop := ∀ g, (F.f_is_base_1 [.int 2] [] g).P fun r g' => r = .bl true ∧ Gro g g'
theorem base_up {F : Ph} (I : P1 F.f_is_integer_1 isIntD) : BsC F.up := by
  intro g
  refine P_runB ?_
  unfold dn_is_base
  rw [show ini 1 [D.int 2] = [some (.int 2)] from rfl]
  simp only [S_ret, P_and, P_callF, P_cons, P_nil, P_var, List.getElem?_cons_zero]
  refine (I g 0 (.int 2) trivial).mono ?_
  rintro _ g1 ⟨rfl, hg⟩
  simp only [isIntD, if_true, P_bin, P_C, P_var, List.getElem?_cons_zero]
  unfold c_BASES
  rw [V_inI rfl]
  exact ⟨rfl, hg⟩
def PiC (F : Ph) : Prop := ∀ g h fs (x y z : D), g[h]? = some (.ins "House" fs) → fs.length < 900 → (F.c_Parts_init_4 [.ref h, x, y, z] [] g).P fun r g' => r = .non ∧ (∃ fs', g'[h]? = some (.ins "House" fs') ∧ fs'.length ≤ fs.length + 3) ∧ Evo h g g'
theorem pinit_up {F : Ph} : PiC F.up := by
  intro g h fs x y z hh hl
  refine P_runB ?_
  unfold dn_Parts_init
  rw [show ini 4 [D.ref h, x, y, z] = [some (.ref h), some x, some y, some z] from rfl]
  have own : ownC "House" = true := decide_eq_true rfl
  rw [S_seq]
  simp only [S_fld, P_var, List.getElem?_cons_zero, List.getElem?_cons_succ, V_insAt hh]
  refine ⟨⟨own, by omega⟩, ?_⟩
  have l1 := putD_len (f := "base") (v := x) (fs := fs)
  have h1 := at_set (o' := .ins "House" (putD "base" x fs)) hh
  rw [S_seq]
  simp only [S_fld, P_var, List.getElem?_cons_zero, List.getElem?_cons_succ, V_insAt h1]
  refine ⟨⟨own, by omega⟩, ?_⟩
  have l2 := putD_len (f := "numbers") (v := y) (fs := putD "base" x fs)
  have h2 := at_set (o' := .ins "House" (putD "numbers" y (putD "base" x fs))) h1
  simp only [S_fld, P_var, List.getElem?_cons_zero, List.getElem?_cons_succ, V_insAt h2]
  refine ⟨⟨own, by omega⟩, ?_⟩
  have l3 := putD_len (f := "made") (v := z) (fs := putD "numbers" y (putD "base" x fs))
  first
    | exact ⟨rfl, ⟨_, at_set h2, by omega⟩, ((Evo.set ..).trans (.set ..)).trans (.set ..)⟩
    | exact ⟨trivial, ⟨_, at_set h2, by omega⟩, ((Evo.set ..).trans (.set ..)).trans (.set ..)⟩
end Fc

set_option Elab.async false
set_option linter.all false
set_option maxRecDepth 100000
set_option maxHeartbeats 4000000
namespace Fc
open PySem PySem.Spec PySem.Calls PyProof.Rows L2
def ImC (F : Ph) : Prop := ∀ g h, g[h]? = some (.ins "House" []) → (F.im_House_0 [.ref h] [] g).P fun r g' => r = .non ∧ (∃ fs', g'[h]? = some (.ins "House" fs')) ∧ Evo h g g'
theorem im_up {F : Ph} (B : BsC F) (P : PiC F) : ImC F.up := by
  intro g h hh
  refine P_runB ?_
  unfold dn_House_init
  have own : ownC "House" = true := decide_eq_true rfl
  rw [show ini 5 [D.ref h, .int 2, .ref g.length] = [some (.ref h), some (.int 2), some (.ref g.length), none, none] from rfl]
  have hd : (g ++ [O.dct []])[g.length]? = some (.dct []) := at_new
  have hne : g.length ≠ h := by have := lt_at hh; omega
  rw [S_seq]
  simp only [S_if, P_notT, P_test, P_callF, P_cons, P_nil, P_var, List.getElem?_cons_zero, List.getElem?_cons_succ, S_nil]
  refine (B (g ++ [.dct []])).mono ?_
  rintro _ g1 ⟨rfl, hg1⟩
  simp only [Bool.not_true, Bool.false_eq_true, if_false]
  have hd1 := hg1.at hd
  have hh1 := hg1.at (at_app (l := [.dct []]) hh)
  rw [S_seq]
  refine S_items0 rfl hd1 ?_
  rw [S_seq]
  simp only [S_if, P_test, P_bin, P_call, P_cons, P_nil, P_C, P_var, List.getElem?_cons_zero, List.getElem?_cons_succ, S_nil, V_lenDct hd1]
  unfold c_MOST_CELLS
  simp only [V_gt]
  rw [if_neg (by decide)]
  rw [S_seq]
  simp only [S_drop, P_callF, P_call, P_cons, P_nil, P_dct0, P_var, List.getElem?_cons_zero, List.getElem?_cons_succ, V_dict hd1]
  refine (P _ h [] _ _ _ (at_app (at_app hh1)) (by decide)).mono ?_
  rintro _ g2 ⟨rfl, ⟨fs, hf, hl⟩, he2⟩
  simp only [S_fld, P_lst, P_nil, P_var, List.getElem?_cons_zero]
  refine ⟨sz (by simp), ?_⟩
  rw [V_insAt (at_app hf)]
  refine ⟨⟨own, by simp only [List.length_nil] at hl; omega⟩, ?_⟩
  have ev : Evo h g g2 := (((Evo.app h g _).trans (hg1.evo h)).trans ((Evo.app h g1 _).trans (.app h _ _))).trans he2
  first
    | exact ⟨rfl, ⟨_, at_set (at_app hf)⟩, (ev.trans (.app ..)).trans (.set ..)⟩
    | exact ⟨trivial, ⟨_, at_set (at_app hf)⟩, (ev.trans (.app ..)).trans (.set ..)⟩
def HsC (F : Ph) : Prop := ∀ g, (F.m_House_0 [] [] g).P fun d g' => d = .ref g.length ∧ (∃ fs, g'[g.length]? = some (.ins "House" fs)) ∧ Gro g g'
theorem house_up {F : Ph} (I : ImC F) : HsC F.up := by
  intro g
  show (newI "House" F.im_House_0 [] [] g).P _
  unfold newI
  rw [P_bind]
  refine (I (g ++ [.ins "House" []]) g.length at_new).mono ?_
  rintro _ g1 ⟨rfl, ⟨fs, hf⟩, he⟩
  refine ⟨rfl, ⟨fs, hf⟩, ⟨Nat.le_trans (by simp) he.len, fun i hi => ?_⟩⟩
  rw [he.old i (by omega) (by simp; omega), List.getElem?_append_left hi]
end Fc

set_option Elab.async false
set_option linter.all false
set_option maxRecDepth 100000
set_option maxHeartbeats 4000000
namespace Fc
open PySem PySem.Spec PySem.Calls PyProof.Rows L2
/-! ### the edges -/
def gdB : Nat → D → Bool
  | _, .non => true
  | _, .bl _ => true
  | _, .int _ => true
  | _, .str s => decide (s.length ≤ 20)
  | n + 1, .tup l => decide (l.length ≤ 20) && l.all (gdB n)
  | _, _ => false
theorem gdB_ok {g : G} : ∀ {n : Nat} {d : D}, gdB n d = true → Gd g n d
  | 0, .non, _ => trivial
  | 0, .bl _, _ => trivial
  | 0, .int _, _ => trivial
  | 0, .str s, h => (of_decide_eq_true (show decide (s.length ≤ 20) = true from h) : s.length ≤ 20)
  | n + 1, .non, _ => trivial
  | n + 1, .bl _, _ => trivial
  | n + 1, .int _, _ => trivial
  | n + 1, .str s, h => (of_decide_eq_true (show decide (s.length ≤ 20) = true from h) : s.length ≤ 20)
  | n + 1, .tup l, h => by
    obtain ⟨h1, h2⟩ := Bool.and_eq_true_iff.mp (show (decide (l.length ≤ 20) && l.all (gdB n)) = true from h)
    exact ⟨of_decide_eq_true h1, fun d hd => gdB_ok (List.all_eq_true.mp h2 d hd)⟩
theorem add_step {s : Nat} {fr : Ev → G → Re (List D)} {ρ : Ev} {g : G} {N : Ev → G → Prop} {R : D → G → Prop} {i c : Nat} {l : List D} (hv : ρ[s]? = some (some (.ref i))) (h : g[i]? = some (.lst l)) (hl : l.all (gdB 4) = true) (hc : l.length ≤ c) (hc2 : c ≤ 100)
    (hfr : (fr ρ g).P fun r g' => r.all (gdB 4) = true ∧ r.length ≤ 12 ∧ g' = g)
    (hN : ∀ g' j l', Gro g g' → g'[j]? = some (.lst l') → l'.all (gdB 4) = true → l'.length ≤ c + 12 → N (ρ.set s (some (.ref j))) g') : (sSet s (fBin oAdd (fVar s) (fLst fr)) ρ g).P N R := by
  rw [S_set, P_bin, P_var, hv]
  dsimp only
  rw [P_lst]
  refine hfr.mono ?_
  rintro r g1 ⟨h1, h2, rfl⟩
  refine ⟨sz (by omega), ?_⟩
  rw [V_addL (at_app h) at_new]
  refine ⟨sz (by omega), hN _ _ _ ((Gro.app _ _).trans (.app _ _)) at_new ?_ (by rw [List.length_append]; omega)⟩
  rw [List.all_append, hl, h1]
  rfl
def EdC (F : Ph) : Prop := ∀ g (k : Int), (F.f_v_law_edges_1 [.int k] [] g).P fun d g' => ∃ i es, d = .ref i ∧ g'[i]? = some (.lst es) ∧ (∀ e ∈ es, Gd g' 6 e) ∧ es.length ≤ 120 ∧ Gro g g'
theorem edges_up {F : Ph} : EdC F.up := by
  intro g k
  refine P_runB ?_
  unfold dn_v_law_edges
  rw [show ini 4 [D.int k] = [some (.int k), none, none, none] from rfl]
  rw [S_seq, S_set, P_lst]
  have first_ : ∀ {fr : Ev → G → Re (List D)} {ρ : Ev} {Q : List D → G → Prop}, ((fr ρ g).P fun r g' => r.all (gdB 4) = true ∧ r.length ≤ 12 ∧ g' = g) → (∀ r, r.all (gdB 4) = true → r.length ≤ 12 → Q r g) → (fr ρ g).P Q := fun h k => h.mono fun r g' ⟨h1, h2, h3⟩ => h3 ▸ k r h1 h2
  refine first_ ?_ fun r h1 h2 => ⟨sz (by omega), ?_⟩
  · simp only [P_tup, P_cons, P_nil, P_C, P_bin, P_un, P_var, List.getElem?_cons_zero, V_sub, V_neg]
    repeat refine ⟨sz (by simp), ?_⟩
    exact ⟨rfl, by simp, by first | rfl | trivial⟩
  rw [S_seq]
  refine add_step rfl at_new h1 h2 (by decide) ?_ fun g1 i1 l1 hg1 hi1 ha1 hn1 => ?_
  · simp only [P_tup, P_cons, P_nil, P_C, P_bin, P_un, P_var, List.set_cons_succ, List.set_cons_zero, List.getElem?_cons_zero, V_sub, V_neg]
    repeat refine ⟨sz (by simp), ?_⟩
    exact ⟨rfl, by simp, by first | rfl | trivial⟩
  rw [S_seq]
  refine add_step rfl hi1 ha1 hn1 (by decide) ?_ fun g2 i2 l2 hg2 hi2 ha2 hn2 => ?_
  · simp only [P_tup, P_cons, P_nil, P_C, P_bin, P_un, P_var, List.set_cons_succ, List.set_cons_zero, List.getElem?_cons_zero, V_sub, V_neg]
    repeat refine ⟨sz (by simp), ?_⟩
    exact ⟨rfl, by simp, by first | rfl | trivial⟩
  rw [S_seq]
  refine add_step rfl hi2 ha2 hn2 (by decide) ?_ fun g3 i3 l3 hg3 hi3 ha3 hn3 => ?_
  · simp only [P_tup, P_cons, P_nil, P_C, P_bin, P_un, P_var, List.set_cons_succ, List.set_cons_zero, List.getElem?_cons_zero, V_sub, V_neg]
    repeat refine ⟨sz (by simp), ?_⟩
    exact ⟨rfl, by simp, by first | rfl | trivial⟩
  rw [S_seq]
  refine add_step rfl hi3 ha3 hn3 (by decide) ?_ fun g4 i4 l4 hg4 hi4 ha4 hn4 => ?_
  · simp only [P_tup, P_cons, P_nil, P_C, P_bin, P_un, P_var, List.set_cons_succ, List.set_cons_zero, List.getElem?_cons_zero, V_sub, V_neg]
    repeat refine ⟨sz (by simp), ?_⟩
    exact ⟨rfl, by simp, by first | rfl | trivial⟩
  rw [S_seq]
  refine add_step rfl hi4 ha4 hn4 (by decide) ?_ fun g5 i5 l5 hg5 hi5 ha5 hn5 => ?_
  · simp only [P_tup, P_cons, P_nil, P_C, P_bin, P_un, P_var, List.set_cons_succ, List.set_cons_zero, List.getElem?_cons_zero, V_sub, V_neg]
    repeat refine ⟨sz (by simp), ?_⟩
    exact ⟨rfl, by simp, by first | rfl | trivial⟩
  have gall : Gro g g5 := (Gro.app g _).trans (hg1.trans (hg2.trans (hg3.trans (hg4.trans hg5))))
  simp only [List.set_cons_succ, List.set_cons_zero]
  rw [S_seq, S_set, P_bin]
  refine lc_pure l5 [(i5, l5)] (fun d => .tup [d, .tup [.str "end", .str "x"]]) (fun _ => true) ?_ (fun g' h => wok1 (h.at hi5)) (sz (by omega)) (fun d hd g' hg => ⟨_, rfl, rfl, .refl _, fun _ => ?_⟩) (fun g6 hg6 hL => ?_)
  · simp only [P_src, P_var, List.getElem?_cons_zero, List.getElem?_cons_succ, srcL hi5]
    first | exact ⟨rfl, rfl⟩ | exact ⟨trivial, trivial⟩ | trivial
  · simp only [P_tup, P_cons, P_nil, P_C, P_var, List.map_cons, List.map_nil, wipeE, List.getElem?_cons_zero, List.getElem?_cons_succ, List.set_cons_succ, List.set_cons_zero]
    refine ⟨sz (by simp), sz (by simp), ?_⟩
    first | exact ⟨rfl, Gro.refl _⟩ | exact ⟨trivial, Gro.refl _⟩
  rw [show l5.filter (fun _ => true) = l5 from List.filter_eq_self.mpr fun _ _ => rfl] at hL
  have ha6 : (l5.map fun d => D.tup [d, .tup [.str "end", .str "x"]]).all (gdB 5) = true := by
    refine List.all_eq_true.mpr fun e he => ?_
    obtain ⟨d, hd, rfl⟩ := List.mem_map.mp he
    have := List.all_eq_true.mp ha5 d hd
    show (decide ([d, D.tup [.str "end", .str "x"]].length ≤ 20) && (gdB 4 d && (true && true))) = true
    rw [this]
    rfl
  have hn6 : (l5.map fun d => D.tup [d, .tup [.str "end", .str "x"]]).length ≤ 72 := by rw [List.length_map]; omega
  generalize (l5.map fun d => D.tup [d, .tup [.str "end", .str "x"]]) = l6 at hL ha6 hn6
  simp only [P_lst, P_tup, P_cons, P_nil, P_C, P_bin, V_mulT]
  refine ⟨sz (by simp), sz (by simp), ⟨by simp, by omega, by omega, by simp⟩, sz (by simp), sz (by simp), ?_⟩
  rw [V_addL (at_app hL) at_new]
  refine ⟨sz (by rw [List.length_cons, List.length_cons, List.length_nil]; omega), ?_⟩
  simp only [S_ret, P_lst, P_tup, P_cons, P_nil, P_C, P_bin, P_var, V_mulT, List.set_cons_succ, List.set_cons_zero, List.getElem?_cons_zero, List.getElem?_cons_succ]
  refine ⟨sz (by simp), sz (by simp), ⟨by simp, by omega, by omega, by simp⟩, sz (by simp), sz (by simp), ⟨by simp, by omega, by omega, by simp⟩, sz (by simp), ?_⟩
  rw [V_addL (at_app at_new) at_new]
  refine ⟨sz (by simp only [List.length_append, List.length_cons, List.length_nil]; omega), _, _, rfl, at_new, fun e he => ?_, by simp only [List.length_append, List.length_cons, List.length_nil]; omega, gall.trans (hg6.trans ((((Gro.app _ _).trans (.app _ _)).trans (.app _ _)).trans (.app _ _)))⟩
  rcases List.mem_append.mp he with q | q
  · rcases List.mem_append.mp q with q | q
    · exact (gdB_ok (List.all_eq_true.mp ha6 e q)).mono (by decide)
    · refine (gdB_ok (n := 5) ?_).mono (by decide)
      simp only [List.mem_cons, List.not_mem_nil, or_false] at q
      rcases q with rfl | rfl <;> rfl
  · refine (gdB_ok (n := 5) ?_).mono (by decide)
    simp only [List.mem_cons, List.not_mem_nil, or_false] at q
    rcases q with rfl | rfl <;> rfl
end Fc

set_option Elab.async false
set_option linter.all false
set_option maxRecDepth 100000
set_option maxHeartbeats 4000000
namespace Fc
open PySem PySem.Spec PySem.Calls PyProof.Rows L2
theorem ne_ints4 {g : G} {Q : D → G → Prop} {m k : Nat} {a b c d : Int} (h1 : g[m]? = some (.lst [.int a, .int b, .int c, .int d])) (h2 : g[k]? = some (.lst [.int a, .int b, .int c, .int d])) : (oNe (.ref m) (.ref k) g).P Q = Q (.bl false) g := by
  have e0 : eqE (.ref m) (.ref k) g = none := by
    show (match g[m]?, g[k]? with
      | some (.lst l), some (.lst l2) => lenE l l2
      | _, _ => none) = _
    rw [h1, h2]
    rfl
  have t : ∀ {i : Nat}, g[i]? = some (.lst [.int a, .int b, .int c, .int d]) → toP g 60 (.ref i) = some (.list [.int a, .int b, .int c, .int d]) := fun {i} h => by
    show (match g[i]? with
      | some (.lst l) => (toPs g 59 l).map PyData.list
      | _ => none) = _
    rw [h]
    rfl
  have e1 : eqP (.ref m) (.ref k) g = some true := by
    unfold eqP
    rw [t h1, t h2]
    dsimp only
    have sh : SeqAt.shaped (.list [.int a, .int b, .int c, .int d]) = true := by first | rfl | (unfold SeqAt.shaped; simp [PyData.canLay0, PyData.canLayAll0, PyData.depth]) | decide
    rw [if_pos ⟨sh, sh⟩]
    have ev : PyData.eqv (.list [.int a, .int b, .int c, .int d]) (.list [.int a, .int b, .int c, .int d]) = true := by
      show ((a == a) && ((b == b) && ((c == c) && ((d == d) && true)))) = true
      simp
    rw [ev]
  unfold oNe neA
  rw [show sclD (.ref m) (.ref k) = none from rfl]
  dsimp only
  rw [e0]
  dsimp only
  rw [e1]
  rfl
end Fc

set_option Elab.async false
set_option linter.all false
set_option maxRecDepth 100000
set_option maxHeartbeats 4000000
namespace Fc
open PySem PySem.Spec PySem.Calls PyProof.Rows L2
/-! ### the contracts at levels -/
theorem tk (n : Nat) : Tk (ph (n + 1)) := tk_up (F := ph n)
theorem opdc (n : Nat) : OpdC (ph (n + 2)) := opd_up (F := ph (n + 1)) (tk n)
theorem exc (n : Nat) : ExC (ph (n + 3)) := ex_up (F := ph (n + 2)) (tk (n + 1)) (opdc n)
theorem rowc (n : Nat) : RowC (ph (n + 4)) := row_up (F := ph (n + 3)) (tk (n + 2)) (exc n)
theorem bodyc (n : Nat) : BodyC (ph (n + 5)) := body_up (F := ph (n + 4)) (tk (n + 3)) (exc (n + 1)) (rowc n)
theorem anyc (n : Nat) : AnyC (ph (n + 2)) := any_up (F := ph (n + 1)) (tk n)
theorem spc : ∀ (j n : Nat), SpC j (ph (n + j + 3))
  | 0, n => sp_up (F := ph (n + 2)) (tk (n + 1)) (anyc n) (fun i h => by cases h)
  | j + 1, n => sp_up (F := ph (n + j + 3)) (tk (n + j + 2)) (anyc (n + j + 1)) (fun i h => by cases h; exact spc j n)
theorem intc (n : Nat) : P1 (ph (n + 1)).f_is_integer_1 isIntD := int_up (F := ph n)
theorem wholec (n : Nat) : P1 (ph (n + 1)).f_v_law_is_whole_1 isIntD := whole_up (F := ph n)
theorem varc (n : Nat) : P1 (ph (n + 1)).f_is_variable_1 varD := var_up (F := ph n)
theorem lvarc (n : Nat) : P1 (ph (n + 1)).f_v_law_is_variable_1 varD := lvar_up (F := ph n)
theorem nmc (n : Nat) : P1 (ph (n + 1)).f_is_name_bodies_1 nmD := nm_up (F := ph n)
theorem lnmc (n : Nat) : P1 (ph (n + 1)).f_v_law_is_name_1 nmD := lnm_up (F := ph n)
theorem numc (n : Nat) : P2 (ph (n + 2)).f_is_number_2 numD := num_up (F := ph (n + 1)) (intc n)
theorem opd2c (n : Nat) : P2 (ph (n + 3)).f_is_operand_2 opdD := opd2_up (F := ph (n + 2)) (numc n) (varc (n + 1))
theorem lopdc (n : Nat) : P2 (ph (n + 2)).f_v_law_is_operand_2 opdD := lopd_up (F := ph (n + 1)) (wholec n)
theorem ex2c (n : Nat) : P2 (ph (n + 4)).f_is_expression_2 exD := ex2_up (F := ph (n + 3)) (opd2c n)
theorem lexc (n : Nat) : P2 (ph (n + 3)).f_v_law_is_expression_2 exD := lex_up (F := ph (n + 2)) (lopdc n)
theorem lslotc (n : Nat) : P1 (ph (n + 2)).f_v_law_is_slot_1 (numD 3) := lslot_up (F := ph (n + 1)) (wholec n)
theorem itemc (n : Nat) : ItC (ph (n + 5)) := item_up (F := ph (n + 4)) (intc (n + 3)) (varc (n + 3)) (numc (n + 2)) (ex2c n) (nmc (n + 3))
theorem row2c (n : Nat) : RwC (ph (n + 6)).f_is_row_4 := row2_up (F := ph (n + 5)) (itemc n)
theorem lrowc (n : Nat) : RwC (ph (n + 4)).f_v_law_is_row_4 := lrow_up (F := ph (n + 3)) (lexc n) (lvarc (n + 2)) (lslotc (n + 1)) (lnmc (n + 2)) (wholec (n + 2))
theorem cnc (n : Nat) : CnC (ph (n + 1)) := cn_up (F := ph n)
theorem bgc (n : Nat) : BgC (ph (n + 1)) := bag_up (F := ph n)
theorem edc (n : Nat) : EdC (ph (n + 1)) := edges_up (F := ph n)
theorem bsc (n : Nat) : BsC (ph (n + 2)) := base_up (F := ph (n + 1)) (intc n)
theorem pic (n : Nat) : PiC (ph (n + 1)) := pinit_up (F := ph n)
theorem imc (n : Nat) : ImC (ph (n + 3)) := im_up (F := ph (n + 2)) (bsc n) (pic (n + 1))
theorem hsc (n : Nat) : HsC (ph (n + 4)) := house_up (F := ph (n + 3)) (imc n)
end Fc

set_option Elab.async false
set_option linter.all false
set_option maxRecDepth 100000
set_option maxHeartbeats 4000000
namespace Fc
open PySem PySem.Spec PySem.Calls PyProof.Rows L2
theorem ibc (n : Nat) {g : G} {m : Nat} {d : D} {k : Int} (h : Gd g m d) : ((ph (n + 7)).f_is_body_1_base [d] [.int k] g).P fun r g' => r = .bl (bodyD k d) ∧ Gro g g' := isbody (F := ph (n + 6)) (row2c n) (cnc (n + 5)) h
theorem ibt (n : Nat) {g : G} {m : Nat} {d : D} (h : Gd g m d) : ((ph (n + 7)).f_is_body_0_thing [] [d] g).P fun r g' => r = .bl (bodyD 2 d) ∧ Gro g g' := isbody (F := ph (n + 6)) (row2c n) (cnc (n + 5)) h
theorem lbc (n : Nat) : P2 (ph (n + 5)).f_v_law_is_body_2 bodyD := fun _ _ _ _ h => lisbody (F := ph (n + 4)) (lrowc n) h
theorem slc (n : Nat) : SlC (ph (n + 1)).f_slots_of_1 := fun _ _ hl h => slots_body (F := ph n) hl h
theorem sl0 (n : Nat) {g : G} : ((ph (n + 1)).f_slots_of_0_body [] [.tup []] g).P fun r g' => r = .int 0 ∧ Gro g g' := slots_body (F := ph n) (rows := []) (by simp) (fun r hr => absurd hr (by simp))
theorem lslc (n : Nat) : SlC (ph (n + 1)).f_v_law_slots_1 := lslots_up (F := ph n)
end Fc

set_option Elab.async false
set_option linter.all false
set_option maxRecDepth 100000
set_option maxHeartbeats 4000000
namespace Fc
open PySem PySem.Spec PySem.Calls PyProof.Rows L2
/-! ### the law -/
def lawIn (F : Ph) : Ev → G → Rs := sSeq (sSet 8 (fCallK F.f_is_body_1_base (fCons (fVar 7) (fNil)) (fCons (fVar 3) (fNil)))) (sSeq (sIf (fOrT (fNotT (fTest (fIsi "bool" ownI (fVar 8)))) (fTest (fBin oNe (fVar 8) (fCallF F.f_v_law_is_body_2 (fCons (fVar 7) (fCons (fVar 3) (fNil))))))) (sRet (fC (.bl false))) (sNil)) (sIf (fTest (fBin oNe (fCallK F.f_is_body_0_thing fNil (fCons (fVar 7) (fNil))) (fCallF F.f_v_law_is_body_2 (fCons (fVar 7) (fCons (fC (.int 2)) (fNil)))))) (sRet (fC (.bl false))) (sNil)))
theorem lawin (n : Nat) {g : G} {m : Nat} {d : D} {k : Int} {x0 x1 x2 x4 x5 x6 x8 x9 x10 : Option D} (h : Gd g m d) {N : Ev → G → Prop} {R : D → G → Prop}
    (hN : ∀ g' b, Gro g g' → N [x0, x1, x2, some (.int k), x4, x5, x6, some d, some (.bl b), x9, x10] g') :
    (lawIn (ph (n + 7)) [x0, x1, x2, some (.int k), x4, x5, x6, some d, x8, x9, x10] g).P N R := by
  unfold lawIn
  rw [S_seq]
  simp only [S_set, P_callK, P_cons, P_nil, P_var, List.getElem?_cons_zero, List.getElem?_cons_succ, List.set_cons_succ, List.set_cons_zero]
  refine (ibc n (k := k) h).mono ?_
  rintro _ g1 ⟨rfl, hg1⟩
  rw [S_seq]
  simp only [S_if, P_orT, P_notT, P_test, P_isi, P_bin, P_callF, P_cons, P_nil, P_var, List.getElem?_cons_zero, List.getElem?_cons_succ, isi_bl_bool, Bool.not_true, Bool.false_eq_true, if_false, S_nil]
  refine (lbc (n + 2) g1 m d k (h.kd hg1.kd)).mono ?_
  rintro _ g2 ⟨rfl, hg2⟩
  rw [V_neB]
  dsimp only
  rw [if_neg (by simp)]
  simp only [S_if, P_test, P_bin, P_callK, P_callF, P_cons, P_nil, P_C, P_var, List.getElem?_cons_zero, List.getElem?_cons_succ, S_nil]
  refine (ibt n (h.kd (hg1.trans hg2).kd)).mono ?_
  rintro _ g3 ⟨rfl, hg3⟩
  refine (lbc (n + 2) g3 m d 2 (h.kd ((hg1.trans hg2).trans hg3).kd)).mono ?_
  rintro _ g4 ⟨rfl, hg4⟩
  rw [V_neB]
  dsimp only
  rw [if_neg (by simp)]
  exact hN _ _ (((hg1.trans hg2).trans hg3).trans hg4)
end Fc

set_option Elab.async false
set_option linter.all false
set_option maxRecDepth 100000
set_option maxHeartbeats 4000000
namespace Fc
open PySem PySem.Spec PySem.Calls PyProof.Rows L2
/-! ### the law's turn -/
def lawTurn (F : Ph) : Ev → G → Rs := sSeq (sSet 2 (fCallF F.f_v_law_bag_2 (fCons (fVar 0) (fCons (fVar 1) (fNil))))) (sSeq (sAsg (fTup (fCons (fBin oAdd (fC (.int 2)) (fCallF F.f_v_law_take_2 (fCons (fVar 2) (fCons (fC (.int 2)) (fNil))))) (fCons (fLst (fCons (fCallK F.m_House_0 fNil fNil) (fNil))) (fNil)))) (bTup 2 (bCons (bNm 3) (bCons (bNm 4) (bNil))))) (sSeq (sSet 5 (fLc (fRng1 (fC (.int 4))) (bNm 9) (fYes) (fCallF F.f_v_law_body_4 (fCons (fVar 2) (fCons (fVar 3) (fCons (fC (.int 3)) (fCons (fLst (fCons (fC (.str "f")) (fCons (fC (.str "g")) (fNil)))) (fNil)))))) (([("_law_turn", 9)] : List (Str × Nat)).map (·.2)))) (sSeq (sIf (fOrT (fTest (fBin oNe (fLc (fSrc (fVar 5)) (bNm 10) (fYes) (fCallF F.f_slots_of_1 (fCons (fVar 10) (fNil))) (([("_law_rows", 10)] : List (Str × Nat)).map (·.2))) (fLc (fSrc (fVar 5)) (bNm 10) (fYes) (fCallF F.f_v_law_slots_1 (fCons (fVar 10) (fNil))) (([("_law_rows", 10)] : List (Str × Nat)).map (·.2))))) (fTest (fBin oNe (fCallK F.f_slots_of_0_body fNil (fCons (fTup (fNil)) (fNil))) (fC (.int 0))))) (sRet (fC (.bl false))) (sNil)) (sSeq (sSet 6 (fBin oAdd (fBin oAdd (fVar 5) (fCallF F.f_v_law_edges_1 (fCons (fVar 3) (fNil)))) (fLst (fCons (fCall oList (fCons (fBin oIx (fVar 5) (fC (.int 0))) (fNil))) (fCons (fC .non) (fCons (fCallF F.f_v_law_any_2 (fCons (fVar 2) (fCons (fVar 4) (fNil)))) (fNil))))))) (sSeq (sSet 6 (fBin oAdd (fVar 6) (fLc (fRng1 (fC (.int 12))) (bNm 9) (fYes) (fCallF F.f_v_law_spoilt_3 (fCons (fVar 2) (fCons (fBin oIx (fVar 5) (fBin oMod (fVar 9) (fC (.int 4)))) (fCons (fVar 4) (fNil))))) (([("_law_turn", 9)] : List (Str × Nat)).map (·.2))))) (sFor (fSrc (fVar 6)) (bNm 7) (lawIn F)))))))
theorem dn_law_eq (F : Ph) : dn_law F = sSeq (sFor (fRng1 (fCall oMax2 (fCons (fC (.int 3)) (fCons (fCall oMin2 (fCons (fC (.int 10)) (fCons (fCall oLenA (fCons (fVar 0) (fNil))) (fNil)))) (fNil))))) (bNm 1) (lawTurn F)) (sRet (fC (.bl true))) := rfl
theorem four {l : List D} (h : l.length = 4) : ∃ a b c d, l = [a, b, c, d] := by
  match l, h with
  | [a, b, c, d], _ => exact ⟨a, b, c, d, rfl⟩
theorem body_pl {d : D} (h : BodyOk d) : Pl 3 d := by
  obtain ⟨rows, rfl, h1, h2⟩ := h
  exact ⟨by omega, fun r hr => (h2 r hr).1⟩
/-- the slots of four bodies, asked of one f -/
def slotD : D → Int
  | .tup rows => slotN rows
  | _ => 0
theorem slots4 {f : Fun2} (S : SlC f) {ρ : Ev} {g : G} {i : Nat} {items : List D} {Q : D → G → Prop} (hv : ρ[5]? = some (some (.ref i))) (hL : ρ.length = 11) (hi : g[i]? = some (.lst items)) (hl : items.length ≤ 100) (hb : ∀ d ∈ items, BodyOk d)
    (hQ : ∀ g', Gro g g' → g'[g.length]? = some (.lst (items.map fun d => .int (slotD d))) → Q (.ref g.length) g') :
    (fLc (fSrc (fVar 5)) (bNm 10) (fYes) (fCallF f (fCons (fVar 10) (fNil))) (([("_law_rows", 10)] : List (Str × Nat)).map (·.2)) ρ g).P Q := by
  refine lc_pure items [(i, items)] (fun d => .int (slotD d)) (fun _ => true) ?_ (fun g' h => wok1 (h.at hi)) (sz (by omega)) (fun d hd g' hg => ⟨_, rfl, rfl, .refl _, fun _ => ?_⟩) (fun g6 hg6 hL => hQ g6 hg6 ?_)
  · simp only [P_src, P_var, hv, srcL hi]
    first | exact ⟨rfl, rfl⟩ | exact ⟨trivial, trivial⟩ | trivial
  · simp only [P_callF, P_cons, P_nil, P_var, List.map_cons, List.map_nil, wipeE]
    rw [List.set_set, List.getElem?_set_self (by omega)]
    obtain ⟨rows, rfl, h1, h2⟩ := hb d hd
    exact S g' rows (by omega) h2
  · rw [show items.filter (fun _ => true) = items from List.filter_eq_self.mpr fun _ _ => rfl] at hL
    exact hL
end Fc

set_option Elab.async false
set_option linter.all false
set_option maxRecDepth 100000
set_option maxHeartbeats 4000000
namespace Fc
open PySem PySem.Spec PySem.Calls PyProof.Rows L2
/-- the inner loop -/
theorem inner (n : Nat) {g : G} {i : Nat} {items : List D} {k : Int} {x1 x2 x4 x5 x7 x8 x9 x10 : Option D} {x0 : D} (hi : g[i]? = some (.lst items)) (hg : ∀ d ∈ items, Gd g 11 d) {N : Ev → G → Prop} {R : D → G → Prop}
    (hN : ∀ g' y7 y8, Gro g g' → N [some x0, x1, x2, some (.int k), x4, x5, some (.ref i), y7, y8, x9, x10] g') :
    (sFor (fSrc (fVar 6)) (bNm 7) (lawIn (ph (n + 7))) [some x0, x1, x2, some (.int k), x4, x5, some (.ref i), x7, x8, x9, x10] g).P N R := by
  rw [S_for]
  simp only [P_src, P_var, List.getElem?_cons_zero, List.getElem?_cons_succ, srcL hi]
  refine S_run items (fun _ ρ g' => Gro g g' ∧ ∃ y7 y8, ρ = [some x0, x1, x2, some (.int k), x4, x5, some (.ref i), y7, y8, x9, x10]) ⟨.refl g, _, _, rfl⟩ ?_ ?_
  · rintro j d ρ g' hd ⟨hg', y7, y8, rfl⟩
    refine ⟨wok1 (hg'.at hi), _, rfl, ?_⟩
    exact lawin n (m := 11) ((hg d (List.mem_of_getElem? hd)).kd hg'.kd) fun g2 b hg2 => ⟨hg'.trans hg2, _, _, rfl⟩
  · rintro ρ g' ⟨hg', y7, y8, rfl⟩
    exact ⟨wok1 (hg'.at hi), hN _ _ _ hg'⟩
theorem bodyok_gd {g : G} {d : D} (h : BodyOk d) : Gd g 11 d := (body_pl h).gd.mono (by decide)
/-- one turn -/
theorem lawturn (n : Nat) {g : G} {ns : List Int} {j : Int} {x2 x3 x4 x5 x6 x7 x8 x9 x10 : Option D} (h0 : g[0]? = some (.frz (ns.map .int))) (hj0 : 0 ≤ j) (hj1 : j < 100) {N : Ev → G → Prop} {R : D → G → Prop}
    (hN : ∀ g' y2 y3 y4 y5 y6 y7 y8 y9 y10, g'[0]? = some (.frz (ns.map .int)) → N [some (.ref 0), some (.int j), y2, y3, y4, y5, y6, y7, y8, y9, y10] g') :
    (lawTurn (ph (n + 8)) [some (.ref 0), some (.int j), x2, x3, x4, x5, x6, x7, x8, x9, x10] g).P N R := by
  unfold lawTurn
  rw [S_seq]
  simp only [S_set, P_callF, P_cons, P_nil, P_var, List.getElem?_cons_zero, List.getElem?_cons_succ, List.set_cons_succ, List.set_cons_zero]
  refine (bgc (n + 7) g ns 0 j h0 hj0 hj1).mono ?_
  rintro _ g1 ⟨rfl, hb1, hg1⟩
  have hm0 : g.length ≠ 0 := by have := lt_at h0; omega
  have h01 := hg1.at h0
  generalize g.length = m at hb1 hm0 ⊢
  rw [S_seq, S_asg]
  simp only [P_tup, P_cons, P_nil, P_bin, P_callF, P_callK, P_lst, P_C, P_var, List.getElem?_cons_zero, List.getElem?_cons_succ]
  refine (tk (n + 7) g1 m 0 2 hb1 (by omega) (by omega) (by omega)).mono ?_
  rintro _ g2 ⟨t, rfl, ht0, ht1, hb2, he2⟩
  rw [V_add]
  refine (hsc (n + 4) g2).mono ?_
  rintro _ g3 ⟨rfl, ⟨fs, hfs⟩, hg3⟩
  refine ⟨sz (by simp), sz (by simp), ?_⟩
  have h03 := hg3.at (he2.at (Ne.symm hm0) h01)
  have hb3 := hb2.gro hg3
  have hho : Ob (g3 ++ [O.lst [D.ref g2.length]]) g2.length := .inr ⟨fs, at_app hfs⟩
  have hol : (g3 ++ [O.lst [D.ref g2.length]])[g3.length]? = some (.lst [D.ref g2.length]) := at_new
  have hb4 : Bag (g3 ++ [O.lst [D.ref g2.length]]) m 1 := hb3.app
  have h04 : (g3 ++ [O.lst [D.ref g2.length]])[0]? = some (.frz (ns.map .int)) := at_app h03
  have hom : g3.length ≠ m := by have := hb3.lt; omega
  generalize g3.length = o at hol hom ⊢
  generalize (g3 ++ [O.lst [D.ref g2.length]]) = g4 at hho hol hb4 h04 ⊢
  generalize g2.length = hs at hho hol
  have hos : ∀ d ∈ [D.ref hs], Gd g4 3 d := fun d hd => by
    rw [List.mem_singleton.mp hd]
    exact hho
  dsimp only [bTup, bCons, bNm, bNil, List.length_cons, List.length_nil, if_true, Option.bind, List.isEmpty_nil, List.set_cons_succ, List.set_cons_zero]
  simp only [if_true, List.isEmpty_nil]
  rw [S_seq, S_set]
  -- the bodies
  refine lc_bag (rngD 0 4) m 1 141 (fun _ d => BodyOk d) (fun _ h => h) hb4 ?_ (by rw [rng_len]; exact sz (by omega)) (fun i d hd g' he' hk' hb' => ?_) (fun g5 bodies he5 hk5 hb5 hL5 hlen5 hbod => ?_)
  · simp only [P_rng1, P_C]
    exact ⟨⟨by omega, by omega⟩, by first | exact ⟨rfl, rfl⟩ | exact ⟨trivial, trivial⟩ | trivial⟩
  · obtain ⟨hi, rfl⟩ := rng_get hd
    refine ⟨_, rfl, ?_⟩
    simp only [P_callF, P_cons, P_nil, P_lst, P_C, P_var, List.map_cons, List.map_nil, wipeE, List.getElem?_cons_zero, List.getElem?_cons_succ, List.set_cons_succ, List.set_cons_zero]
    refine ⟨sz (by simp), ?_⟩
    refine (bodyc (n + 3) _ m (1 + i * 141) (2 + t) 3 g'.length _ hb'.app (by omega) (by omega) (by omega) (by omega) at_new (by have := hb'.lt; omega) (by simp) ?_).mono ?_
    · intro d hd
      simp only [List.mem_cons, List.not_mem_nil, or_false] at hd
      rcases hd with rfl | rfl
      · exact ⟨_, rfl, by decide⟩
      · exact ⟨_, rfl, by decide⟩
    · rintro y g6 ⟨hy, hb6, he6⟩
      exact ⟨hy, hb6.mono (by omega), (Evo.app ..).trans he6⟩
  rw [rng_len] at hb5 hlen5
  have hb5 : Bag g5 m 600 := hb5.mono (by omega)
  have h05 := he5.at (Ne.symm hm0) h04
  have hol5 := he5.at hom hol
  have hos5 : ∀ d ∈ [D.ref hs], Gd g5 3 d := fun d hd => (hos d hd).kd hk5
  have hLm : g4.length ≠ m := by have := hb4.lt; omega
  simp only [List.set_cons_succ, List.set_cons_zero]
  generalize g4.length = bl at hL5 hLm ⊢
  -- the slots
  obtain ⟨b0, b1, b2, b3, rfl⟩ := four hlen5
  rw [S_seq]
  simp only [S_if, P_orT, P_test, P_bin, S_nil]
  refine slots4 (slc (n + 7)) rfl rfl hL5 (by simp) hbod fun g6 hg6 hL6 => ?_
  refine slots4 (lslc (n + 7)) rfl rfl (hg6.at hL5) (by simp) hbod fun g7 hg7 hL7 => ?_
  simp only [List.map_cons, List.map_nil] at hL6 hL7
  rw [ne_ints4 (hg7.at hL6) hL7]
  dsimp only
  rw [if_neg (by simp)]
  simp only [P_callK, P_nil, P_cons, P_tup, P_C]
  refine ⟨sz (by simp), ?_⟩
  refine (sl0 (n + 7)).mono ?_
  rintro _ g8 ⟨rfl, hg8⟩
  rw [V_neI]
  dsimp only
  rw [if_neg (by simp)]
  have g58 := (hg6.trans hg7).trans hg8
  have hL8 := g58.at hL5
  have hb8 := hb5.gro g58
  have h08 := g58.at h05
  have hol8 := g58.at hol5
  have hos8 : ∀ d ∈ [D.ref hs], Gd g8 3 d := fun d hd => (hos5 d hd).kd g58.kd
  -- the things
  rw [S_seq]
  simp only [S_set, P_bin, P_callF, P_call, P_lst, P_cons, P_nil, P_C, P_var, List.getElem?_cons_zero, List.getElem?_cons_succ]
  refine (edc (n + 7) g8 (2 + t)).mono ?_
  rintro _ g9 ⟨ei, es, rfl, hei, hes, hesl, hg9⟩
  rw [V_addL (hg9.at hL8) hei]
  refine ⟨sz (by simp only [List.length_cons, List.length_nil]; omega), ?_⟩
  have hLa := at_app (l := [O.lst ([b0, b1, b2, b3] ++ es)]) (hg9.at hL8)
  rw [V_ixL hLa]
  rw [show atI [b0, b1, b2, b3] 0 = some b0 from rfl]
  dsimp only
  obtain ⟨r0, rfl, hr0, hr1⟩ := hbod b0 (by simp)
  rw [V_listT]
  have hb9 : Bag (g9 ++ [O.lst ([D.tup r0, b1, b2, b3] ++ es)] ++ [O.lst r0]) m 600 := (hb8.gro hg9).app.app
  refine (anyc (n + 6) _ m 600 o _ hb9 (by omega) (at_app (at_app (hg9.at hol8))) hom (by simp) fun d hd => (hos8 d hd).kd (((hg9.trans (.app ..)).trans (.app ..)).kd)).mono ?_
  rintro an g10 ⟨han, hb10, he10⟩
  refine ⟨sz (by simp), ?_⟩
  have gk : Kd g8 g10 := (((hg9.trans (.app ..)).trans (.app ..)).kd).trans (he10.kd hb10)
  have hs1 : g9.length ≠ m := by have := hb8.lt; have := hg9.len; omega
  have hs2 : (g9 ++ [O.lst ([D.tup r0, b1, b2, b3] ++ es)]).length ≠ m := by have := hb8.lt; have := hg9.len; rw [List.length_append]; omega
  rw [V_addL (at_app (he10.at hs1 (at_app at_new))) at_new]
  refine ⟨sz (by simp only [List.length_append, List.length_cons, List.length_nil]; omega), ?_⟩
  have hlk : g10[(g9 ++ [O.lst ([D.tup r0, b1, b2, b3] ++ es)]).length]? = some (.lst r0) := he10.at hs2 at_new
  have hlO : Ob g10 (g9 ++ [O.lst ([D.tup r0, b1, b2, b3] ++ es)]).length := .inl ⟨_, hlk⟩
  generalize (g9 ++ [O.lst ([D.tup r0, b1, b2, b3] ++ es)]).length = lk at hlO ⊢
  have h010 : g10[0]? = some (.frz (ns.map .int)) := he10.at (Ne.symm hm0) (at_app (at_app (hg9.at h08)))
  have hL10 : g10[bl]? = some (.lst [D.tup r0, b1, b2, b3]) := he10.at hLm (at_app (at_app (hg9.at hL8)))
  have hol10 := he10.at hom (at_app (at_app (hg9.at hol8)))
  have hos10 : ∀ d ∈ [D.ref hs], Gd g10 3 d := fun d hd => (hos8 d hd).kd gk
  have hes10 : ∀ d ∈ es, Gd g10 6 d := fun d hd => (hes d hd).kd ((((Gro.app _ _).trans (.app _ _)).kd).trans (he10.kd hb10))
  -- what is in the things
  have hth : ∀ d ∈ (([D.tup r0, b1, b2, b3] ++ es) ++ [D.ref lk, .non, an]), Gd g10 11 d := fun d hd => by
    rcases List.mem_append.mp hd with q | q
    · rcases List.mem_append.mp q with q | q
      · exact bodyok_gd (hbod d q)
      · exact (hes10 d q).mono (by decide)
    · simp only [List.mem_cons, List.not_mem_nil, or_false] at q
      rcases q with rfl | rfl | rfl
      · exact hlO
      · exact gd_non _
      · exact han.mono (by decide)
  have hlt : (([D.tup r0, b1, b2, b3] ++ es) ++ [D.ref lk, .non, an]).length ≤ 127 := by simp only [List.length_append, List.length_cons, List.length_nil]; omega
  generalize ht : (([D.tup r0, b1, b2, b3] ++ es) ++ [D.ref lk, .non, an]) = things at hth hlt ⊢
  have g1011 : Gro g10 (g10 ++ [O.lst [D.ref lk, .non, an]] ++ [O.lst things]) := (Gro.app _ _).trans (.app _ _)
  have hT11 : (g10 ++ [O.lst [D.ref lk, .non, an]] ++ [O.lst things])[(g10 ++ [O.lst [D.ref lk, .non, an]]).length]? = some (.lst things) := at_new
  have htm : (g10 ++ [O.lst [D.ref lk, .non, an]]).length ≠ m := by have := hb10.lt; rw [List.length_append]; omega
  generalize (g10 ++ [O.lst [D.ref lk, .non, an]] ++ [O.lst things]) = g11 at g1011 hT11 ⊢
  generalize (g10 ++ [O.lst [D.ref lk, .non, an]]).length = tl at hT11 htm ⊢
  have hb11 : Bag g11 m 601 := hb10.gro g1011
  have hL11 := g1011.at hL10
  have hol11 := g1011.at hol10
  have hos11 : ∀ d ∈ [D.ref hs], Gd g11 3 d := fun d hd => (hos10 d hd).kd g1011.kd
  rw [S_seq]
  simp only [S_set, P_bin, P_var, List.getElem?_cons_zero, List.getElem?_cons_succ, List.set_cons_succ, List.set_cons_zero]
  refine lc_bag (rngD 0 12) m 601 80 (fun g d => Gd g 11 d) (fun k h => h.kd k) hb11 ?_ (by rw [rng_len]; exact sz (by omega)) (fun i d hd g' he' hk' hb' => ?_) (fun g12 sps he12 hk12 hb12 hL12 hlen12 hall => ?_)
  · simp only [P_rng1, P_C]
    exact ⟨⟨by omega, by omega⟩, by first | exact ⟨rfl, rfl⟩ | exact ⟨trivial, trivial⟩ | trivial⟩
  · obtain ⟨hi, rfl⟩ := rng_get hd
    refine ⟨_, rfl, ?_⟩
    have hLz := he'.at hLm hL11
    simp only [P_callF, P_cons, P_nil, P_bin, P_C, P_var, List.map_cons, List.map_nil, wipeE, List.getElem?_cons_zero, List.getElem?_cons_succ, List.set_cons_succ, List.set_cons_zero, V_mod, V_ixL hLz]
    refine ⟨by omega, ?_⟩
    obtain ⟨b, eb, hbm⟩ := atI_in (l := [D.tup r0, b1, b2, b3]) (i := (0 + (i : Int)) % 4) (Int.emod_nonneg _ (by omega)) (Int.emod_lt_of_pos _ (by omega))
    rw [eb]
    dsimp only
    refine (spc 3 (n + 2) g' m (601 + i * 80) o [D.ref hs] b (body_pl (hbod b hbm)) hb' (by omega) (he'.at hom hol11) hom (by simp) fun d hd => (hos11 d hd).kd hk').mono ?_
    rintro y g6 ⟨hy, hb6, he6⟩
    exact ⟨hy.mono (by decide), hb6.mono (by omega), he6⟩
  rw [rng_len] at hb12 hlen12
  rw [V_addL (he12.at htm hT11) hL12]
  refine ⟨sz (by omega), ?_⟩
  have hN' : ∀ g' : G, Gro (g12 ++ [O.lst (things ++ sps)]) g' → g'[0]? = some (.frz (ns.map .int)) := fun g' h => h.at (at_app (he12.at (Ne.symm hm0) (g1011.at h010)))
  refine inner (n + 1) at_new (fun d hd => ?_) fun g' y7 y8 h => hN _ _ _ _ _ _ _ _ _ _ (hN' g' h)
  rcases List.mem_append.mp hd with q | q
  · exact (hth d q).kd ((g1011.kd.trans hk12).trans (Gro.app _ _).kd)
  · exact (hall d q).kd (Gro.app _ _).kd
end Fc

set_option Elab.async false
set_option linter.all false
set_option maxRecDepth 100000
set_option maxHeartbeats 4000000
namespace Fc
open PySem PySem.Spec PySem.Calls PyProof.Rows L2
/-- the law's body -/
theorem law_up (n : Nat) {g : G} {ns : List Int} (h0 : g[0]? = some (.frz (ns.map .int))) : (runB (dn_law (ph (n + 8))) (ini 11 [.ref 0]) g).P fun d _ => d = .bl true := by
  refine P_runB ?_
  rw [dn_law_eq, show ini 11 [D.ref 0] = [some (.ref 0), none, none, none, none, none, none, none, none, none, none] from rfl]
  rw [S_seq, S_for]
  simp only [P_rng1, P_call, P_cons, P_nil, P_C, P_var, List.getElem?_cons_zero, V_lenF h0]
  have e1 : ∀ {i j : Int} {g : G} {Q : D → G → Prop}, (oMin2 [.int i, .int j] g).P Q = Q (.int (if j < i then j else i)) g := rfl
  have e2 : ∀ {i j : Int} {g : G} {Q : D → G → Prop}, (oMax2 [.int i, .int j] g).P Q = Q (.int (if j > i then j else i)) g := rfl
  simp only [e1, e2]
  generalize hc : (if ((if ((ns.map D.int).length : Int) < 10 then ((ns.map D.int).length : Int) else 10) : Int) > 3 then ((if ((ns.map D.int).length : Int) < 10 then ((ns.map D.int).length : Int) else 10) : Int) else 3) = c
  have c0 : 0 ≤ c ∧ c ≤ 10 := by
    rw [← hc]
    split <;> split <;> omega
  refine ⟨⟨by omega, by omega⟩, ?_⟩
  refine S_run (rngD 0 c.toNat) (fun _ ρ g' => g'[0]? = some (.frz (ns.map .int)) ∧ ∃ x1 x2 x3 x4 x5 x6 x7 x8 x9 x10, ρ = [some (.ref 0), x1, x2, x3, x4, x5, x6, x7, x8, x9, x10]) ⟨h0, _, _, _, _, _, _, _, _, _, _, rfl⟩ ?_ ?_
  · rintro i d ρ g' hd ⟨hg, x1, x2, x3, x4, x5, x6, x7, x8, x9, x10, rfl⟩
    obtain ⟨hi, rfl⟩ := rng_get hd
    refine ⟨rfl, _, rfl, ?_⟩
    exact lawturn n hg (by omega) (by omega) fun g' y2 y3 y4 y5 y6 y7 y8 y9 y10 h => ⟨h, _, _, _, _, _, _, _, _, _, _, rfl⟩
  · rintro ρ g' ⟨hg, x1, x2, x3, x4, x5, x6, x7, x8, x9, x10, rfl⟩
    refine ⟨rfl, ?_⟩
    simp only [S_ret, P_C]
end Fc

set_option Elab.async false
set_option linter.all false
set_option maxRecDepth 100000
set_option maxHeartbeats 4000000
namespace Fc
open PySem PySem.Spec PySem.Calls PyProof.Rows L2
/-- what the law's run is asked -/
def spL : Sp := fun vs H Q _ => ∃ (a : Addr) (ns : List Int), vs = [.ref a] ∧ (∃ o, H a = some (.frz o (.lst (ns.map V.int)))) ∧ ∀ H', Q (.bl true) H'
theorem spl_sp {K : PySem.W.Frag} {mg : Str → Option Value} {φ : Fun1} (h : ∀ (g : G) (ns : List Int), g[0]? = some (.frz (ns.map .int)) → (φ [.ref 0] g).P fun d _ => d = .bl true) : ∀ vs H Q E, spL vs H Q E → spF K mg 1 φ vs H Q E := by
  rintro vs H Q E ⟨a, ns, rfl, ⟨o, ho⟩, q⟩
  refine ⟨rfl, fun _ => a, [.frz (ns.map D.int)], [.ref 0], rep0 ho, .cons (.ref (ι := fun _ => a) (m := 0) (by simp)) .nil, ?_⟩
  have z := h [.frz (ns.map D.int)] ns rfl
  obtain ⟨d, g', e, rfl⟩ := z.to
  rw [e]
  intro ι' H' v y r
  cases r
  exact q H'
theorem wk {l : PySem.W.OpenLaw} {q : Program} {loose : List Str} {XP : (Str → Option Value) → Heap → Prop} {YP : World → Heap → Prop} {d : DefRec} {K : Params → PySem.W.Frag} (hn : l.most = some 63) (hdf : d.params.defaults = []) (hnm : d.name = "law")
    (hY : ∀ (w : World) (h : Heap), YP w h → (K w.params).In h) (hnl : ∀ w : World, noList (K w.params) = true)
    (hfx : ∀ (w : World) (mg : Str → Option Value) (h : Heap), (K w.params).In h → h.Ns mainGlobals mg → Fx (K w.params) w mg) :
    PySem.W.WalkO q loose XP YP l.row.toRowW d [] (fun f vs => PySem.call f vs) := by
  refine L2.walk_of (n := 63) (k := 9) (x := "_law_script") (CX := fun w => L2.CX l.prog w) (sp := fun _ => spL) hn (by decide) hdf ⟨rfl, by decide, by decide⟩ hY ?_ ?_ ?_
  · intro w mg fa h KX G hmg
    have T := hfx w mg h KX G
    obtain ⟨f, fd, hm, FD⟩ := T.d_law
    rw [hnm, hm] at hmg
    cases hmg
    refine ⟨fd, fun s u => ?_, fun base KB GB => ?_⟩
    · exact FD.bindsA (ps := ["_law_script"]) (fun kV doc pm an cdv ct us hl => match us, hl with | [_], _ => rfl) s [u] rfl
    · exact (fun_ok FD sc_law (fun cdv A outer s H E hr => b_law T (bun T 8) _ cdv A outer s H E hr)).imp (spl_sp fun g ns h => law_up 0 h)
  · intro w H a ns hl hO hS
    exact ⟨a, ns, rfl, frz_of (hnl w) hO hS, fun _ => rfl⟩
  · intro w H s e s' h
    obtain ⟨_, _, _, _, _, _, _, _, _, _, _, _, z⟩ := h
    exact z
end Fc

set_option Elab.async false
open PySem PySem.W PyProof.Rows in
set_option maxRecDepth 100000 in
set_option maxHeartbeats 0 in
theorem PySem.Challenge.cw_finestcells_k02_bodies_known_holds : PySem.Challenge.rw_finestcells_k02_bodies_known.Holds := by
  w_on; o_law; k_head; (case hw => w_witness2)
  k_fill
  refine Fc.wk (l := PySem.Challenge.rw_finestcells_k02_bodies_known) rfl rfl rfl (fun w h Y => PySem.W.kIn_of Y) ?nl ?fx
  case nl => intro w; kernel_rfl
  case fx =>
    intro w mg h X G
    exact Fc.fx_of X G (by unfold He.SaysD; kernel_rfl) (by kernel_rfl) (by kernel_rfl)

