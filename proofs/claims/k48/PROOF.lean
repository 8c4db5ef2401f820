import PyProof.Rows.All
import Wide.All
import OpenK.AllK
import Wide.FinOn
import KE.KStateDown
import HandS.ForMost
import HandS.IsInst
import HandS.Wide
import HandS.TupAny
import HandS.Flow
import HandS.Conv
import HandS.DictComp
import HandS.RaiseMore
import HandS.Style
import HandS.Rev
import HandS.Zip
import HandS.More
import KE.KDictZip
import HandS.Dict
import HandS.Small
import HandS.Head0
import HandS.Head1
import HandS.Head2
import HandS.HeadEnd
import HandS.HeadHook1
import HandS.HeadHook2
import HandS.Defaults
import HandS.Codes
import HandS.HeadHook4
import PySem.Challenge.RW_wovenrows_k48_whole_worth_lies_in_range
set_option Elab.async false
set_option linter.all false
set_option maxRecDepth 100000
set_option maxHeartbeats 4000000
/-! Mi1: plain data, stores, how they lie in an abstract heap, and what stays. -/
namespace Mi
open PySem L2

inductive D where
  | non
  | bl (b : Bool)
  | int (i : Int)
  | str (x : Str)
  | tup (xs : List D)
  | lst (xs : List D)
  | scr (ns : List Int)
  | loc (n : Nat)
  | kd (n : Nat)

inductive Ob where
  | lst (xs : List D)
  | dic (kvs : List (Key × D))
  | ins (c : Nat) (fs : List (Str × D))

abbrev Sto := Nat → Option Ob
def put (S : Sto) (n : Nat) (o : Ob) : Sto := fun m => if m = n then some o else S m
def del (S : Sto) (n : Nat) : Sto := fun m => if m = n then none else S m
theorem put_same {S : Sto} {n : Nat} {o : Ob} : put S n o n = some o := if_pos rfl
theorem put_ne {S : Sto} {n m : Nat} {o : Ob} (h : m ≠ n) : put S n o m = S m := if_neg h
theorem del_same {S : Sto} {n : Nat} : del S n n = none := if_pos rfl
theorem del_ne {S : Sto} {n m : Nat} (h : m ≠ n) : del S n m = S m := if_neg h

structure Wd where
  rho : Nat → Option Addr
  fz : Addr → Prop

/-- the written part, with the places of the classes and of the written dicts -/
structure Frg where
  K : PySem.W.Frag
  cls : Nat → Option Addr
  kd : Nat → Option Addr

/-- a tuple's place that stays; the script's -/
def FT (K : Frg) (W : Wd) (H : Hp) (a : Addr) (vs : List V) : Prop := (W.fz a ∧ H a = some (.tup vs)) ∨ ∀ H', SqT K.K H' a vs
def FS (K : Frg) (W : Wd) (H : Hp) (a : Addr) (ns : List Int) : Prop := (W.fz a ∧ Rd H a (.lst (ns.map V.int))) ∨ ∀ H', SqL K.K H' a (ns.map V.int)

mutual
inductive Rep (K : Frg) (W : Wd) (H : Hp) : D → V → Prop where
  | non : Rep K W H .non .non
  | bl (b : Bool) : Rep K W H (.bl b) (.bl b)
  | int (i : Int) : Rep K W H (.int i) (.int i)
  | str (x : Str) : Rep K W H (.str x) (.str x)
  | tup {a : Addr} {vs : List V} {ds : List D} : FT K W H a vs → Reps K W H ds vs → Rep K W H (.tup ds) (.ref a)
  | lst {a : Addr} {vs : List V} {ds : List D} : W.fz a → H a = some (.lst vs) → Reps K W H ds vs → Rep K W H (.lst ds) (.ref a)
  | scr {a : Addr} {ns : List Int} : FS K W H a ns → Rep K W H (.scr ns) (.ref a)
  | loc {n : Nat} {a : Addr} : W.rho n = some a → Rep K W H (.loc n) (.ref a)
  | kd {n : Nat} {a : Addr} : K.kd n = some a → Rep K W H (.kd n) (.ref a)
inductive Reps (K : Frg) (W : Wd) (H : Hp) : List D → List V → Prop where
  | nil : Reps K W H [] []
  | cons {d : D} {v : V} {ds : List D} {vs : List V} : Rep K W H d v → Reps K W H ds vs → Reps K W H (d :: ds) (v :: vs)
end

/-- a is one of the store's places -/
def Ins (S : Sto) (W : Wd) (a : Addr) : Prop := ∃ n o, S n = some o ∧ W.rho n = some a

inductive KR (K : Frg) (W : Wd) (H : Hp) : List (Key × D) → List (Key × V) → Prop where
  | nil : KR K W H [] []
  | cons {k : Key} {d : D} {v : V} {ds : List (Key × D)} {vs : List (Key × V)} : Rep K W H d v → KR K W H ds vs → KR K W H ((k, d) :: ds) ((k, v) :: vs)
inductive FR (K : Frg) (W : Wd) (H : Hp) : List (Str × D) → List (Str × V) → Prop where
  | nil : FR K W H [] []
  | cons {k : Str} {d : D} {v : V} {ds : List (Str × D)} {vs : List (Str × V)} : Rep K W H d v → FR K W H ds vs → FR K W H ((k, d) :: ds) ((k, v) :: vs)

/-- what stands for an object of the store -/
def ObR (K : Frg) (W : Wd) (H : Hp) (a : Addr) : Ob → Prop
  | .lst ds => ∃ vs, H a = some (.lst vs) ∧ Reps K W H ds vs
  | .dic ds => ∃ vs, H a = some (.dK vs) ∧ KR K W H ds vs
  | .ins c ds => ∃ Ca dx vs, K.cls c = some Ca ∧ H a = some (.ins Ca dx vs) ∧ FR K W H ds vs

structure Rel (K : Frg) (W : Wd) (S : Sto) (H : Hp) : Prop where
  bd : ∃ N, ∀ n, N ≤ n → W.rho n = none
  dom : ∀ n o, S n = some o → ∃ a, W.rho n = some a ∧ ObR K W H a o
  inj : ∀ n m a o u, S n = some o → S m = some u → W.rho n = some a → W.rho m = some a → n = m
  sep : ∀ a, W.fz a → H a ≠ none ∧ ¬ Ins S W a

structure Ext (W : Wd) (S : Sto) (H : Hp) (W' : Wd) (S' : Sto) (H' : Hp) : Prop where
  rho : ∀ n a, W.rho n = some a → W'.rho n = some a
  fz : ∀ a, W.fz a → W'.fz a
  fr : ∀ a, H a ≠ none → ¬ Ins S W a → H' a = H a ∧ ¬ Ins S' W' a ∧ (W'.fz a → W.fz a)

theorem Ext.refl (W : Wd) (S : Sto) (H : Hp) : Ext W S H W S H := ⟨fun _ _ h => h, fun _ h => h, fun _ _ h => ⟨rfl, h, fun z => z⟩⟩
theorem Ext.trans {W W1 W2 : Wd} {S S1 S2 : Sto} {H H1 H2 : Hp} (a : Ext W S H W1 S1 H1) (b : Ext W1 S1 H1 W2 S2 H2) : Ext W S H W2 S2 H2 :=
  ⟨fun n x h => b.rho n x (a.rho n x h), fun x h => b.fz x (a.fz x h), fun x h1 h2 => by
    obtain ⟨e, n, f⟩ := a.fr x h1 h2
    obtain ⟨e', n', f'⟩ := b.fr x (by rw [e]; exact h1) n
    exact ⟨e'.trans e, n', fun z => f (f' z)⟩⟩

section
variable {K : Frg} {W W' : Wd} {S S' : Sto} {H H' : Hp}

/-- data stay where what is frozen stays -/
structure Keep (W : Wd) (H : Hp) (W' : Wd) (H' : Hp) : Prop where
  rho : ∀ n a, W.rho n = some a → W'.rho n = some a
  fz : ∀ a, W.fz a → W'.fz a ∧ H' a = H a
theorem Ext.keep (e : Ext W S H W' S' H') (r : Rel K W S H) : Keep W H W' H' :=
  ⟨e.rho, fun a h => ⟨e.fz a h, (e.fr a (r.sep a h).1 (r.sep a h).2).1⟩⟩
theorem Keep.refl : Keep W H W H := ⟨fun _ _ h => h, fun _ h => ⟨h, rfl⟩⟩
theorem FT.keep {a : Addr} {vs : List V} (k : Keep W H W' H') (h : FT K W H a vs) : FT K W' H' a vs := by
  rcases h with ⟨h1, h2⟩ | h
  · exact .inl ⟨(k.fz a h1).1, (k.fz a h1).2.trans h2⟩
  · exact .inr h
theorem FS.keep {a : Addr} {ns : List Int} (k : Keep W H W' H') (h : FS K W H a ns) : FS K W' H' a ns := by
  rcases h with ⟨h1, h2⟩ | h
  · refine .inl ⟨(k.fz a h1).1, ?_⟩
    unfold Rd at h2 ⊢
    rw [(k.fz a h1).2]; exact h2
  · exact .inr h
mutual
theorem Rep.keep (k : Keep W H W' H') : ∀ {d : D} {v : V}, Rep K W H d v → Rep K W' H' d v
  | _, _, .non => .non
  | _, _, .bl b => .bl b
  | _, _, .int i => .int i
  | _, _, .str x => .str x
  | _, _, .tup h r => .tup (h.keep k) (Reps.keep k r)
  | _, _, .lst h e r => .lst (k.fz _ h).1 ((k.fz _ h).2.trans e) (Reps.keep k r)
  | _, _, .scr h => .scr (h.keep k)
  | _, _, .loc h => .loc (k.rho _ _ h)
  | _, _, .kd h => .kd h
theorem Reps.keep (k : Keep W H W' H') : ∀ {ds : List D} {vs : List V}, Reps K W H ds vs → Reps K W' H' ds vs
  | _, _, .nil => .nil
  | _, _, .cons a b => .cons (Rep.keep k a) (Reps.keep k b)
end
theorem KR.keep (k : Keep W H W' H') {ds : List (Key × D)} {vs : List (Key × V)} (h : KR K W H ds vs) : KR K W' H' ds vs := by
  induction h with
  | nil => exact .nil
  | cons a _ ih => exact .cons (a.keep k) ih
theorem FR.keep (k : Keep W H W' H') {ds : List (Str × D)} {vs : List (Str × V)} (h : FR K W H ds vs) : FR K W' H' ds vs := by
  induction h with
  | nil => exact .nil
  | cons a _ ih => exact .cons (a.keep k) ih
theorem FT.sq {a : Addr} {vs : List V} (h : FT K W H a vs) : SqT K.K H a vs := by
  rcases h with ⟨_, h⟩ | h
  · exact SqT.of h
  · exact h H
theorem FS.sq {a : Addr} {ns : List Int} (h : FS K W H a ns) : SqL K.K H a (ns.map V.int) := by
  rcases h with ⟨_, h⟩ | h
  · exact .inl h
  · exact h H

theorem Reps.length : ∀ {ds : List D} {vs : List V}, Reps K W H ds vs → ds.length = vs.length
  | _, _, .nil => rfl
  | _, _, .cons _ r => by rw [List.length_cons, List.length_cons, r.length]
theorem Reps.get : ∀ {ds : List D} {vs : List V} {i : Nat} {d : D}, Reps K W H ds vs → ds[i]? = some d → ∃ v, vs[i]? = some v ∧ Rep K W H d v
  | _, _, i, _, .nil, e => by simp at e
  | _, _, 0, _, .cons a _, e => by simp at e; subst e; exact ⟨_, by simp, a⟩
  | _, _, i + 1, d, .cons _ r, e => by
    obtain ⟨v, h1, h2⟩ := Reps.get (i := i) (d := d) r (by simpa using e)
    exact ⟨v, by simpa using h1, h2⟩
theorem Reps.getV : ∀ {ds : List D} {vs : List V} {i : Nat} {v : V}, Reps K W H ds vs → vs[i]? = some v → ∃ d, ds[i]? = some d ∧ Rep K W H d v
  | _, _, i, _, .nil, e => by simp at e
  | _, _, 0, _, .cons a _, e => by simp at e; subst e; exact ⟨_, by simp, a⟩
  | _, _, i + 1, d, .cons _ r, e => by
    obtain ⟨v, h1, h2⟩ := Reps.getV (i := i) (v := d) r (by simpa using e)
    exact ⟨v, by simpa using h1, h2⟩
theorem Reps.append : ∀ {ds es : List D} {vs us : List V}, Reps K W H ds vs → Reps K W H es us → Reps K W H (ds ++ es) (vs ++ us)
  | _, _, _, _, .nil, h => h
  | _, _, _, _, .cons a r, h => .cons a (r.append h)
theorem Reps.drop : ∀ {ds : List D} {vs : List V} (n : Nat), Reps K W H ds vs → Reps K W H (ds.drop n) (vs.drop n)
  | _, _, 0, h => h
  | _, _, _ + 1, .nil => .nil
  | _, _, n + 1, .cons _ r => r.drop n
theorem Reps.take : ∀ {ds : List D} {vs : List V} (n : Nat), Reps K W H ds vs → Reps K W H (ds.take n) (vs.take n)
  | _, _, 0, _ => .nil
  | _, _, _ + 1, .nil => .nil
  | _, _, n + 1, .cons a r => .cons a (r.take n)
theorem Reps.reverse {ds : List D} {vs : List V} (h : Reps K W H ds vs) : Reps K W H ds.reverse vs.reverse := by
  suffices ∀ {ds : List D} {vs : List V}, Reps K W H ds vs → ∀ {es : List D} {us : List V}, Reps K W H es us → Reps K W H (ds.reverseAux es) (vs.reverseAux us) from this h .nil
  intro ds vs h
  induction ds generalizing vs with
  | nil => intro es us g; cases h; exact g
  | cons d ds ih => intro es us g; cases h with | cons a r => exact ih r (.cons a g)
theorem Reps.set : ∀ {ds : List D} {vs : List V} (i : Nat) {d : D} {v : V}, Reps K W H ds vs → Rep K W H d v → Reps K W H (ds.set i d) (vs.set i v)
  | _, _, _, _, _, .nil, _ => .nil
  | _, _, 0, _, _, .cons _ r, h => .cons h r
  | _, _, i + 1, _, _, .cons a r, h => .cons a (r.set i h)
theorem Reps.ints : ∀ (ns : List Int), Reps K W H (ns.map D.int) (ns.map V.int)
  | [] => .nil
  | n :: ns => .cons (.int n) (Reps.ints ns)

/-- a new object that is frozen at once -/
def Wd.fzn (W : Wd) (a : Addr) : Wd := ⟨W.rho, fun b => b = a ∨ W.fz b⟩
theorem rel_frz (r : Rel K W S H) {p : Addr} (hp : H p = none) (o : HO) : Rel K (W.fzn p) S (upd H p o) ∧ Ext W S H (W.fzn p) S (upd H p o) := by
  have nin : ∀ a, Ins S W a → a ≠ p := fun a ⟨n, u, h1, h2⟩ e => by
    obtain ⟨b, h3, h4⟩ := r.dom n u h1
    rw [h2] at h3; cases h3; subst e
    cases u with
    | lst _ => obtain ⟨_, h, _⟩ := h4; rw [hp] at h; cases h
    | dic _ => obtain ⟨_, h, _⟩ := h4; rw [hp] at h; cases h
    | ins _ _ => obtain ⟨_, _, _, _, h, _⟩ := h4; rw [hp] at h; cases h
  have ne : ∀ a u, H a = some u → a ≠ p := fun a u h e => by subst e; rw [hp] at h; cases h
  have k : Keep W H (W.fzn p) (upd H p o) := ⟨fun _ _ h => h, fun a h => ⟨.inr h, upd_ne (fun e => (r.sep a h).1 (e ▸ hp))⟩⟩
  refine ⟨⟨r.bd, fun n u h => ?_, r.inj, fun a h => ?_⟩, ⟨fun _ _ h => h, fun a h => .inr h, fun a h1 h2 => ⟨upd_ne (fun e => h1 (e ▸ hp)), h2, fun z => z.elim (fun e => absurd (e ▸ hp) h1) fun z => z⟩⟩⟩
  · obtain ⟨a, h1, h2⟩ := r.dom n u h
    refine ⟨a, h1, ?_⟩
    cases u with
    | lst _ => obtain ⟨vs, h, q⟩ := h2; exact ⟨vs, (upd_ne (ne _ _ h)).trans h, q.keep k⟩
    | dic _ => obtain ⟨vs, h, q⟩ := h2; exact ⟨vs, (upd_ne (ne _ _ h)).trans h, q.keep k⟩
    | ins _ _ => obtain ⟨Ca, dx, vs, c, h, q⟩ := h2; exact ⟨Ca, dx, vs, c, (upd_ne (ne _ _ h)).trans h, q.keep k⟩
  · rcases h with h | h
    · subst h
      exact ⟨by rw [upd_same]; simp, fun h => nin _ h rfl⟩
    · exact ⟨by rw [(k.fz a h).2]; exact (r.sep a h).1, (r.sep a h).2⟩

theorem ObR.keep {a : Addr} {o : Ob} (k : Keep W H W' H') (e : H' a = H a) (h : ObR K W H a o) : ObR K W' H' a o := by
  cases o with
  | lst _ => obtain ⟨vs, h, q⟩ := h; exact ⟨vs, e.trans h, q.keep k⟩
  | dic _ => obtain ⟨vs, h, q⟩ := h; exact ⟨vs, e.trans h, q.keep k⟩
  | ins _ _ => obtain ⟨Ca, dx, vs, c, h, q⟩ := h; exact ⟨Ca, dx, vs, c, e.trans h, q.keep k⟩
theorem ObR.there {a : Addr} {o : Ob} (h : ObR K W H a o) : H a ≠ none := by
  cases o with
  | lst _ => obtain ⟨vs, h, q⟩ := h; rw [h]; simp
  | dic _ => obtain ⟨vs, h, q⟩ := h; rw [h]; simp
  | ins _ _ => obtain ⟨Ca, dx, vs, c, h, q⟩ := h; rw [h]; simp

/-- an object of the store is written -/
theorem rel_put (r : Rel K W S H) {n : Nat} {a : Addr} {u : Ob} (hn : S n = some u) (ha : W.rho n = some a) (o : Ob) (ho : HO) (hob : ∀ H', Keep W H W H' → H' a = some ho → ObR K W H' a o) :
    Rel K W (put S n o) (upd H a ho) ∧ Ext W S H W (put S n o) (upd H a ho) := by
  have ina : Ins S W a := ⟨n, u, hn, ha⟩
  have k : Keep W H W (upd H a ho) := ⟨fun _ _ h => h, fun b h => ⟨h, upd_ne (fun e => (r.sep b h).2 (e ▸ ina))⟩⟩
  have old : ∀ m v, put S n o m = some v → m ≠ n → S m = some v := fun m v h e => by rw [put_ne e] at h; exact h
  have dm : ∀ m v, put S n o m = some v → ∃ w, S m = some w := fun m v h => by
    by_cases e : m = n
    · subst e; exact ⟨u, hn⟩
    · exact ⟨v, old m v h e⟩
  have insb : ∀ b, Ins (put S n o) W b → Ins S W b := fun b ⟨m, v, h1, h2⟩ => by
    obtain ⟨w, hw⟩ := dm m v h1
    exact ⟨m, w, hw, h2⟩
  refine ⟨⟨r.bd, fun m v h => ?_, fun i j b x y h1 h2 h3 h4 => ?_, fun b h => ?_⟩, ⟨fun _ _ h => h, fun _ h => h, fun b h1 h2 => ⟨upd_ne (fun e => h2 (e ▸ ina)), fun h => h2 (insb b h), fun z => z⟩⟩⟩
  · by_cases e : m = n
    · subst e
      rw [put_same] at h; cases h
      exact ⟨a, ha, hob _ k upd_same⟩
    · have h' := old m v h e
      obtain ⟨b, h1, h2⟩ := r.dom m v h'
      refine ⟨b, h1, h2.keep k (upd_ne fun q => e ?_)⟩
      subst q
      exact r.inj m n b v u h' hn h1 ha
  · obtain ⟨x', hx⟩ := dm i x h1
    obtain ⟨y', hy⟩ := dm j y h2
    exact r.inj i j b x' y' hx hy h3 h4
  · exact ⟨by rw [(k.fz b h).2]; exact (r.sep b h).1, fun q => (r.sep b h).2 (insb b q)⟩

/-- a new object of the store -/
def Wd.new (W : Wd) (n : Nat) (a : Addr) : Wd := ⟨fun m => if m = n then some a else W.rho m, W.fz⟩
theorem rel_new (r : Rel K W S H) {p : Addr} (hp : H p = none) (o : Ob) (ho : HO) (hob : ∀ W' H', Keep W H W' H' → H' p = some ho → ObR K W' H' p o) :
    ∃ n, S n = none ∧ Rel K (W.new n p) (put S n o) (upd H p ho) ∧ Ext W S H (W.new n p) (put S n o) (upd H p ho) ∧ (W.new n p).rho n = some p := by
  obtain ⟨N, hN⟩ := r.bd
  have hS : S N = none := by
    cases e : S N with
    | none => rfl
    | some u => obtain ⟨a, h, _⟩ := r.dom N u e; rw [hN N (Nat.le_refl _)] at h; cases h
  have hr : (W.new N p).rho N = some p := if_pos rfl
  have hr2 : ∀ m, m ≠ N → (W.new N p).rho m = W.rho m := fun m h => if_neg h
  have k : Keep W H (W.new N p) (upd H p ho) := ⟨fun m a h => by
    by_cases e : m = N
    · subst e; rw [hN _ (Nat.le_refl _)] at h; cases h
    · rw [hr2 m e]; exact h, fun b h => ⟨h, upd_ne (fun e => (r.sep b h).1 (e ▸ hp))⟩⟩
  have insp : ∀ b, Ins S W b → b ≠ p := fun b ⟨n, u, h1, h2⟩ e => by
    obtain ⟨a, h3, h4⟩ := r.dom n u h1
    rw [h2] at h3; cases h3
    exact h4.there (e ▸ hp)
  have insb : ∀ b, Ins (put S N o) (W.new N p) b → b = p ∨ Ins S W b := fun b ⟨m, v, h1, h2⟩ => by
    by_cases e : m = N
    · subst e; rw [hr] at h2; cases h2; exact .inl rfl
    · rw [hr2 m e] at h2; rw [put_ne e] at h1; exact .inr ⟨m, v, h1, h2⟩
  refine ⟨N, hS, ⟨⟨N + 1, fun n h => by rw [hr2 n (by omega)]; exact hN n (by omega)⟩, fun m v h => ?_, fun i j b x y h1 h2 h3 h4 => ?_, fun b h => ?_⟩, ⟨k.rho, fun _ h => h, fun b h1 h2 => ⟨upd_ne (fun e => h1 (e ▸ hp)), fun h => ?_, fun z => z⟩⟩, hr⟩
  · by_cases e : m = N
    · subst e; rw [put_same] at h; cases h
      exact ⟨p, hr, hob _ _ k upd_same⟩
    · rw [put_ne e] at h
      obtain ⟨b, h1, h2⟩ := r.dom m v h
      exact ⟨b, (hr2 m e).trans h1, h2.keep k (upd_ne (fun q => h2.there (q ▸ hp)))⟩
  · by_cases e : i = N
    · subst e
      by_cases e' : j = i
      · exact e'.symm
      · exfalso
        rw [hr] at h3; cases h3
        rw [hr2 j e'] at h4; rw [put_ne e'] at h2
        exact insp _ ⟨j, y, h2, h4⟩ rfl
    · by_cases e' : j = N
      · exfalso
        subst e'
        rw [hr] at h4; cases h4
        rw [hr2 i e] at h3; rw [put_ne e] at h1
        exact insp _ ⟨i, x, h1, h3⟩ rfl
      · rw [hr2 i e] at h3; rw [hr2 j e'] at h4; rw [put_ne e] at h1; rw [put_ne e'] at h2
        exact r.inj i j b x y h1 h2 h3 h4
  · refine ⟨by rw [(k.fz b h).2]; exact (r.sep b h).1, fun q => ?_⟩
    rcases insb b q with e | q
    · exact (r.sep b h).1 (e ▸ hp)
    · exact (r.sep b h).2 q
  · rcases insb b h with e | q
    · exact h1 (e ▸ hp)
    · exact h2 q

/-- fewer objects are told -/
def Sub (S' S : Sto) : Prop := ∀ n o, S' n = some o → S n = some o
theorem Sub.refl (S : Sto) : Sub S S := fun _ _ h => h
theorem rel_sub (r : Rel K W S H) (h : Sub S' S) : Rel K W S' H ∧ Ext W S H W S' H :=
  ⟨⟨r.bd, fun n o e => r.dom n o (h n o e), fun n m a o u h1 h2 => r.inj n m a o u (h n o h1) (h m u h2), fun a e => ⟨(r.sep a e).1, fun ⟨n, o, h1, h2⟩ => (r.sep a e).2 ⟨n, o, h n o h1, h2⟩⟩⟩,
   ⟨fun _ _ e => e, fun _ e => e, fun a h1 h2 => ⟨rfl, fun ⟨n, o, h3, h4⟩ => h2 ⟨n, o, h n o h3, h4⟩, fun z => z⟩⟩⟩
/-- a list of the store is frozen -/
theorem rel_fz (r : Rel K W S H) {n : Nat} {ds : List D} (hn : S n = some (.lst ds)) :
    ∃ a, W.rho n = some a ∧ Rel K (W.fzn a) (del S n) H ∧ Ext W S H (W.fzn a) (del S n) H ∧ Rep K (W.fzn a) H (.lst ds) (.ref a) := by
  obtain ⟨a, ha, vs, hv, rv⟩ := r.dom n _ hn
  have k : Keep W H (W.fzn a) H := ⟨fun _ _ h => h, fun b h => ⟨.inr h, rfl⟩⟩
  have dl : ∀ m u, del S n m = some u → S m = some u ∧ m ≠ n := fun m u h => by
    by_cases e : m = n
    · subst e; rw [del_same] at h; cases h
    · rw [del_ne e] at h; exact ⟨h, e⟩
  have nin : ¬ Ins (del S n) (W.fzn a) a := fun ⟨m, u, h1, h2⟩ => (dl m u h1).2 (r.inj m n a u _ (dl m u h1).1 hn h2 ha)
  have sub : ∀ b, Ins (del S n) (W.fzn a) b → Ins S W b := fun b ⟨m, u, h1, h2⟩ => ⟨m, u, (dl m u h1).1, h2⟩
  refine ⟨a, ha, ⟨r.bd, fun m u h => ?_, fun i j b x y h1 h2 => r.inj i j b x y (dl i x h1).1 (dl j y h2).1, fun b h => ?_⟩, ⟨fun _ _ h => h, fun b h => .inr h, fun b _ h2 => ⟨rfl, fun q => h2 (sub b q), fun z => z.elim (fun e => absurd (e ▸ (⟨n, _, hn, ha⟩ : Ins S W a)) h2) fun z => z⟩⟩, .lst (.inl rfl) hv (rv.keep k)⟩
  · obtain ⟨b, h1, h2⟩ := r.dom m u (dl m u h).1
    exact ⟨b, h1, h2.keep k rfl⟩
  · rcases h with h | h
    · subst h; exact ⟨by rw [hv]; simp, nin⟩
    · exact ⟨(r.sep b h).1, fun q => (r.sep b h).2 (sub b q)⟩

/-- a tracked thing that is neither frozen nor in the store may turn -/
theorem rel_other (r : Rel K W S H) {p : Addr} (n1 : ¬ Ins S W p) (n2 : ¬ W.fz p) (o : HO) : Rel K W S (upd H p o) ∧ Keep W H W (upd H p o) := by
  have k : Keep W H W (upd H p o) := ⟨fun _ _ h => h, fun a h => ⟨h, upd_ne (fun e => n2 (e ▸ h))⟩⟩
  refine ⟨⟨r.bd, fun n u h => ?_, r.inj, fun a h => ⟨by rw [(k.fz a h).2]; exact (r.sep a h).1, (r.sep a h).2⟩⟩, k⟩
  obtain ⟨a, h1, h2⟩ := r.dom n u h
  exact ⟨a, h1, h2.keep k (upd_ne (fun e => n1 (e ▸ ⟨n, u, h, h1⟩)))⟩
theorem Ext.other {W1 : Wd} {S1 : Sto} {H1 : Hp} (e : Ext W1 S1 H1 W S H) {p : Addr} (hp : H1 p = none) (o : HO) : Ext W1 S1 H1 W S (upd H p o) :=
  ⟨e.rho, e.fz, fun a h1 h2 => ⟨(upd_ne (fun q => h1 (by rw [q]; exact hp))).trans (e.fr a h1 h2).1, (e.fr a h1 h2).2⟩⟩
/-- .. may be frozen -/
theorem rel_stop (r : Rel K W S H) {p : Addr} (n1 : ¬ Ins S W p) (h : H p ≠ none) : Rel K (W.fzn p) S H ∧ Keep W H (W.fzn p) H := by
  have k : Keep W H (W.fzn p) H := ⟨fun _ _ h => h, fun a h => ⟨.inr h, rfl⟩⟩
  refine ⟨⟨r.bd, fun n u e => ?_, r.inj, fun a z => ?_⟩, k⟩
  · obtain ⟨a, h1, h2⟩ := r.dom n u e
    exact ⟨a, h1, h2.keep k rfl⟩
  · rcases z with rfl | z
    · exact ⟨h, n1⟩
    · exact r.sep a z
theorem Ext.stop {W1 : Wd} {S1 : Sto} {H1 : Hp} (e : Ext W1 S1 H1 W S H) {p : Addr} (hp : H1 p = none) : Ext W1 S1 H1 (W.fzn p) S H :=
  ⟨e.rho, fun a h => .inr (e.fz a h), fun a h1 h2 => ⟨(e.fr a h1 h2).1, (e.fr a h1 h2).2.1, fun z => z.elim (fun q => absurd (q ▸ hp) h1) (e.fr a h1 h2).2.2⟩⟩
/-- .. may come into the store -/
theorem rel_come (r : Rel K W S H) {p : Addr} (n1 : ¬ Ins S W p) (n2 : ¬ W.fz p) {vs : List V} {ds : List D} (h : H p = some (.lst vs)) (q : Reps K W H ds vs) :
    ∃ n, S n = none ∧ Rel K (W.new n p) (put S n (.lst ds)) H ∧ Keep W H (W.new n p) H ∧ (W.new n p).rho n = some p ∧ ∀ {W1 : Wd} {S1 : Sto} {H1 : Hp}, Ext W1 S1 H1 W S H → H1 p = none → Ext W1 S1 H1 (W.new n p) (put S n (.lst ds)) H := by
  obtain ⟨N, hN⟩ := r.bd
  have hS : S N = none := by
    cases e : S N with
    | none => rfl
    | some u => obtain ⟨a, h, _⟩ := r.dom N u e; rw [hN N (Nat.le_refl _)] at h; cases h
  have hr : (W.new N p).rho N = some p := if_pos rfl
  have hr2 : ∀ m, m ≠ N → (W.new N p).rho m = W.rho m := fun m h => if_neg h
  have k : Keep W H (W.new N p) H := ⟨fun m a h => by
    by_cases e : m = N
    · subst e; rw [hN _ (Nat.le_refl _)] at h; cases h
    · rw [hr2 m e]; exact h, fun b h => ⟨h, rfl⟩⟩
  have insb : ∀ b, Ins (put S N (.lst ds)) (W.new N p) b → b = p ∨ Ins S W b := fun b ⟨m, v, h1, h2⟩ => by
    by_cases e : m = N
    · subst e; rw [hr] at h2; cases h2; exact .inl rfl
    · rw [hr2 m e] at h2; rw [put_ne e] at h1; exact .inr ⟨m, v, h1, h2⟩
  refine ⟨N, hS, ⟨⟨N + 1, fun n h => by rw [hr2 n (by omega)]; exact hN n (by omega)⟩, fun m v z => ?_, fun i j b x y h1 h2 h3 h4 => ?_, fun b z => ⟨(r.sep b z).1, fun y => ?_⟩⟩, k, hr, fun {W1 S1 H1} e hp => ⟨fun m a z => k.rho m a (e.rho m a z), e.fz, fun a h1 h2 => ⟨(e.fr a h1 h2).1, fun y => ?_, (e.fr a h1 h2).2.2⟩⟩⟩
  · by_cases e : m = N
    · subst e; rw [put_same] at z; cases z
      exact ⟨p, hr, vs, h, q.keep k⟩
    · rw [put_ne e] at z
      obtain ⟨b, h1, h2⟩ := r.dom m v z
      exact ⟨b, (hr2 m e).trans h1, h2.keep k rfl⟩
  · by_cases e : i = N
    · subst e
      by_cases e' : j = i
      · exact e'.symm
      · exfalso
        rw [hr] at h3; cases h3
        rw [hr2 j e'] at h4; rw [put_ne e'] at h2
        exact n1 ⟨j, y, h2, h4⟩
    · by_cases e' : j = N
      · exfalso
        subst e'
        rw [hr] at h4; cases h4
        rw [hr2 i e] at h3; rw [put_ne e] at h1
        exact n1 ⟨i, x, h1, h3⟩
      · rw [hr2 i e] at h3; rw [hr2 j e'] at h4; rw [put_ne e] at h1; rw [put_ne e'] at h2
        exact r.inj i j b x y h1 h2 h3 h4
  · rcases insb b y with e | y
    · exact n2 (e ▸ z)
    · exact (r.sep b z).2 y
  · rcases insb a y with e' | y
    · exact h1 (e' ▸ hp)
    · exact (e.fr a h1 h2).2.1 y
end
end Mi
set_option maxHeartbeats 4000000
/-! Mi2: a small language for the program's text; what must hold so that a text of it ends as wished. -/
namespace Mi
open PySem L2

inductive Op | add | sub | mul | fdiv | mod | pow
  deriving DecidableEq
inductive Cp | eq | ne | lt | le | gt | ge | is_ | nis | in_ | nin
  deriving DecidableEq
/-- built-in functions that give a value -/
inductive Bi | len | repr | str | int | tuple | list | max1 | min1 | max2 | min2 | sum | all | any
  deriving DecidableEq
/-- methods of built-in types -/
inductive Mt | append | extend | pop0 | get1 | get2
  deriving DecidableEq
inductive Tg | nm (i : Nat) | tp (is : List Nat)
  deriving DecidableEq

mutual
inductive E where
  | var (i : Nat) | int (i : Int) | str (x : Str) | bl (b : Bool) | non | cst (i : Nat)
  | tup (es : Es) | lst (es : Es) | mls (es : Es) | dic (ks : List Key) (es : Es)
  | bin (o : Op) (a b : E) | cmp (o : Cp) (a b : E) | chn (o p : Cp) (a b c : E)
  | and (a b : E) | or (a b : E) | not (a : E) | neg (a : E) | ife (c a b : E)
  | ix (a b : E) | sl (a : E) (lo hi : Es) | rev (a : E)
  | call (f : Nat) (es : Es) | bif (b : Bi) (es : Es) | isi (a : E) (t : Nat) | mli (a : E)
  | meth (m : Mt) (o : E) (es : Es) | fld (o : E) (f : Str) | mth (m : Nat) (o : E) (es : Es) | mk (c : Nat) (es : Es)
  | lc (e : E) (t : Tg) (it : It) (c : Es) (own : List Nat) | mlc (e : E) (t : Tg) (it : It) (c : Es) (own : List Nat)
  | fz (e : E)
  | chn3 (o p r : Cp) (a b c d : E) | mdc (a : E) | den (a : E)
inductive Es where
  | nil | cons (e : E) (es : Es)
inductive It where
  | seq (e : E) | rng (es : Es) | enm (e : E) | zip (a b : E) | rvs (e : E)
end

inductive St where
  | set (i : Nat) (e : E) | setT (is : List Nat) (e : E) | setI (o k e : E) | setF (o : E) (f : Str) (e : E)
  | ifs (c : E) (a b : List St) | wh (c : E) (b : List St) | for_ (t : Tg) (it : It) (b : List St)
  | ret (e : E) | retN | ex (e : E) | brk | cont | pass

/-! ### values -/
abbrev Q1 := D → Sto → Prop
abbrev XD := Nat → List D → Sto → Prop
abbrev GT := Nat → List D → Sto → Q1 → XD → Prop
abbrev Env := List (Option D)

structure Tab where
  fn : List Str
  cst : List (Str × D)

def seqD (S : Sto) : D → Option (List D)
  | .tup xs => some xs
  | .lst xs => some xs
  | .scr ns => some (ns.map .int)
  | .loc n => match S n with
    | some (.lst xs) => some xs
    | _ => none
  | _ => none
def truD (S : Sto) : D → Option Bool
  | .non => some false
  | .bl b => some b
  | .int i => some (i != 0)
  | .str x => if x.length ≤ sizeLine then some ((x.length : Int) != 0) else none
  | .tup xs => some !xs.isEmpty
  | .lst xs => some !xs.isEmpty
  | .scr ns => some !ns.isEmpty
  | .loc n => match S n with
    | some (.lst xs) => some !xs.isEmpty
    | some (.dic kvs) => some !kvs.isEmpty
    | _ => none
  | .kd _ => none
def keyD : D → Option Key
  | .int i => some (.inl i)
  | .str x => some (.inr x)
  | _ => none
def lkD (kvs : List (Key × D)) (k : Key) : Option D := (kvs.find? fun kv => decide (kv.1 = k)).map (·.2)
def putD (kvs : List (Key × D)) (k : Key) (v : D) : List (Key × D) := if kvs.any (fun p => decide (p.1 = k)) = true then kvs.map (fun p => if p.1 = k then (p.1, v) else p) else kvs ++ [(k, v)]
def ixD (S : Sto) (x i : D) : Option D := match x, i with
  | .tup xs, .int i => atI xs i
  | .lst xs, .int i => atI xs i
  | .scr ns, .int i => (atI ns i).map .int
  | .loc n, i => match S n, i with
    | some (.lst xs), .int i => atI xs i
    | some (.dic kvs), .int i => lkD kvs (.inl i)
    | some (.dic kvs), .str x => lkD kvs (.inr x)
    | _, _ => none
  | .str z, .int i => if z.length ≤ sizeLine then (atI z.cps.toList i).map fun c => .str ⟨#[c]⟩ else none
  | _, _ => none
def cutD {α : Type} (xs : List α) (lo hi : Option Int) : List α := (xs.drop (HT.sIx xs.length 0 lo)).take (HT.sIx xs.length xs.length hi - HT.sIx xs.length 0 lo)
def slD (S : Sto) (x : D) (lo hi : Option Int) : Option D := match x with
  | .tup xs => some (.tup (cutD xs lo hi))
  | .lst xs => some (.lst (cutD xs lo hi))
  | .scr ns => some (.lst ((cutD ns lo hi).map .int))
  | .loc n => match S n with
    | some (.lst xs) => some (.lst (cutD xs lo hi))
    | _ => none
  | _ => none
def lstD (S : Sto) : D → Option (List D)
  | .lst xs => some xs
  | .loc n => match S n with
    | some (.lst xs) => some xs
    | _ => none
  | _ => none
def revD (S : Sto) (x : D) : Option D := match x with
  | .tup xs => some (.tup xs.reverse)
  | x => (lstD S x).map fun xs => .lst xs.reverse
def mulOk (i j : Int) : Bool := decide (-(2 ^ 64) < i ∧ i < 2 ^ 64) || decide (-(2 ^ 64) < j ∧ j < 2 ^ 64)
def binD (o : Op) (S : Sto) (x y : D) : Option D := match o, x, y with
  | .add, .int i, .int j => some (.int (i + j))
  | .add, .str a, .str b => if a.length + b.length ≤ sizeLine then some (.str (a ++ b)) else none
  | .add, .tup a, .tup b => if a.length + b.length ≤ sizeLine then some (.tup (a ++ b)) else none
  | .add, .lst a, y => match lstD S y with
    | some b => if a.length + b.length ≤ sizeLine then some (.lst (a ++ b)) else none
    | none => none
  | .add, .loc n, y => match lstD S (.loc n), lstD S y with
    | some a, some b => if a.length + b.length ≤ sizeLine then some (.lst (a ++ b)) else none
    | _, _ => none
  | .sub, .int i, .int j => some (.int (i - j))
  | .mul, .int i, .int j => if mulOk i j then some (.int (i * j)) else none
  | .mul, .lst xs, .int n => if -(2 ^ 63) ≤ n ∧ n < 2 ^ 63 ∧ xs.length * n.toNat ≤ sizeLine then some (.lst (List.replicate n.toNat xs).flatten) else none
  | .fdiv, .int i, .int j => if 0 < j ∧ j < 2 ^ 64 then some (.int (i / j)) else none
  | .mod, .int i, .int j => if 0 < j then some (.int (i % j)) else none
  | .pow, .int i, .int j => if 0 ≤ j ∧ j ≤ 100 ∧ 0 ≤ i ∧ i ≤ 10 then some (.int (i ^ j.toNat)) else none
  | _, _, _ => none
/-- none, truths, numbers, texts -/
def flatD : D → Bool
  | .non => true
  | .bl _ => true
  | .int _ => true
  | .str _ => true
  | _ => false
mutual
def pd : D → Option PyData
  | .non => some .none
  | .bl b => some (.bool b)
  | .int i => some (.int i)
  | .str x => some (.str x)
  | .tup xs => match pds xs with
    | some ds => some (.tuple ds)
    | none => none
  | .lst xs => match pds xs with
    | some ds => some (.list ds)
    | none => none
  | .scr ns => some (.list (ns.map .int))
  | .loc _ => none
  | .kd _ => none
def pds : List D → Option (List PyData)
  | [] => some []
  | x :: xs => match pd x, pds xs with
    | some d, some ds => some (d :: ds)
    | _, _ => none
end
def eqD (x y : D) : Option Bool := match x, y with
  | .non, .non => some true
  | .non, .int _ => some false
  | .int _, .non => some false
  | .non, .str _ => some false
  | .str _, .non => some false
  | .int i, .int j => some (decide (i = j))
  | .bl i, .bl j => some (decide (i = j))
  | .str a, .str b => some (decide (a = b))
  | .int _, .str _ => some false
  | .str _, .int _ => some false
  | .non, .bl _ => some false
  | .bl _, .non => some false
  | .bl _, .str _ => some false
  | .str _, .bl _ => some false
  | x, y => match pd x, pd y with
    | some a, some b => if a.canLay0 && b.canLay0 && decide (a.depth ≤ 150) then some (PyData.eqv a b) else none
    | _, _ => none
/-- x is one of xs, by == -/
def inD (x : D) : List D → Option Bool
  | [] => some false
  | y :: ys => match eqD y x with
    | some true => some true
    | some false => inD x ys
    | none => none
def isD (x y : D) : Option Bool := match y with
  | .non => match x with
    | .non => some true
    | _ => some false
  | .bl b => match x with
    | .bl a => some (decide (a = b))
    | _ => none
  | _ => none
/-- two data that are equal -/
def eqF (x y : D) : Bool := match pd x, pd y with
  | some a, some b => a.canLay0 && b.canLay0 && decide (a.depth ≤ 150) && PyData.eqv a b
  | _, _ => false
/-- two dicts of the store that are equal -/
def dicEq (S : Sto) (x y : D) : Bool := match x, y with
  | .loc n, .loc m => match S n, S m with
    | some (.dic a), some (.dic b) => decide (a.length = b.length) && a.all fun p => match lkD b p.1 with
      | some u => eqF p.2 u
      | none => false
    | _, _ => false
  | _, _ => false
def cmpD (o : Cp) (S : Sto) (x y : D) : Option Bool := match o with
  | .eq => if dicEq S x y = true then some true else eqD x y
  | .ne => if dicEq S x y = true then some false else (eqD x y).map (!·)
  | .lt => match x, y with
    | .int i, .int j => some (decide (i < j))
    | _, _ => none
  | .le => match x, y with
    | .int i, .int j => some (decide (i ≤ j))
    | _, _ => none
  | .gt => match x, y with
    | .int i, .int j => some (decide (j < i))
    | _, _ => none
  | .ge => match x, y with
    | .int i, .int j => some (decide (j ≤ i))
    | _, _ => none
  | .is_ => isD x y
  | .nis => (isD x y).map (!·)
  | .in_ => match seqD S y with
    | some ys => if flatD x && ys.all flatD then inD x ys else none
    | none => none
  | .nin => match seqD S y with
    | some ys => if flatD x && ys.all flatD then (inD x ys).map (!·) else none
    | none => none
def biNm : Bi → Str
  | .len => "len" | .repr => "repr" | .str => "str" | .int => "int" | .tuple => "tuple" | .list => "list" | .max1 => "max" | .min1 => "min"
  | .max2 => "max" | .min2 => "min" | .sum => "sum" | .all => "all" | .any => "any"
def lenD (S : Sto) : D → Option Nat
  | .str x => if x.length ≤ sizeLine then some x.length else none
  | x => (seqD S x).map List.length
def reprD (x : D) : Option Str := match pd x with
  | some d => if d.showable && decide (d.shown.length ≤ sizeLine) && decide (d.depth ≤ 150) then some d.shown else none
  | none => none
def blsD : List D → Option (List Bool)
  | [] => some []
  | .bl b :: r => (blsD r).map (b :: ·)
  | _ => none
def intsD : List D → Option (List Int)
  | [] => some []
  | .int b :: r => (intsD r).map (b :: ·)
  | _ => none
def bi1 (b : Bi) (S : Sto) (x : D) : Option D := match b with
  | .len => (lenD S x).map fun (n : Nat) => D.int (n : Int)
  | .repr => (reprD x).map .str
  | .str => match x with
    | .int i => if i.natAbs.log2 < 1920 then some (.str (toString i)) else none
    | .str x => some (.str x)
    | _ => none
  | .int => match x with
    | .bl b => some (.int (if b then 1 else 0))
    | .int i => some (.int i)
    | _ => none
  | .tuple => (seqD S x).map .tup
  | .list => (seqD S x).map .lst
  | .all => match lstD S x with
    | some xs => (blsD xs).map fun bs => .bl (bs.all id)
    | none => none
  | .any => match lstD S x with
    | some xs => (blsD xs).map fun bs => .bl (bs.any id)
    | none => none
  | .sum => match lstD S x with
    | some xs => (intsD xs).map fun ns => .int ns.sum
    | none => none
  | .max1 => match lstD S x with
    | some xs => match intsD xs with
      | some (n :: ns) => some (.int (ns.foldl max n))
      | _ => none
    | none => none
  | .min1 => match lstD S x with
    | some xs => match intsD xs with
      | some (n :: ns) => some (.int (ns.foldl min n))
      | _ => none
    | none => none
  | _ => none
def bi2 (b : Bi) (x y : D) : Option D := match b with
  | .max2 => match x with
    | .int i => match y with
      | .int j => some (.int (max i j))
      | _ => none
    | _ => none
  | .min2 => match x with
    | .int i => match y with
      | .int j => some (.int (min i j))
      | _ => none
    | _ => none
  | _ => none
def biD (b : Bi) (S : Sto) (ds : List D) : Option D := match ds with
  | [x] => bi1 b S x
  | [x, y] => bi2 b x y
  | _ => none
/-- the built-in types that are asked for -/
def tyNm : Nat → String
  | 0 => "int" | 1 => "bool" | 2 => "str" | 3 => "tuple" | 4 => "list" | _ => "dict"
def kindD (S : Sto) : D → Option String
  | .non => some "NoneType"
  | .bl _ => some "bool"
  | .int _ => some "int"
  | .str _ => some "str"
  | .tup _ => some "tuple"
  | .lst _ => some "list"
  | .scr _ => none
  | .loc n => match S n with
    | some (.lst _) => some "list"
    | some (.dic _) => some "dict"
    | _ => none
  | .kd _ => none
def isiD (S : Sto) (x : D) (t : Nat) : Option Bool := (kindD S x).map fun k => k == tyNm t || (k == "bool" && t == 0)
def mtNm : Mt → Str
  | .append => "append" | .extend => "extend" | .pop0 => "pop" | .get1 => "get" | .get2 => "get"
def mtAr : Mt → Nat
  | .append => 1 | .extend => 1 | .pop0 => 0 | .get1 => 1 | .get2 => 2
/-- the type that a method is asked of -/
def mtTy : Mt → String
  | .get1 => "dict" | .get2 => "dict" | _ => "list"
def mtD (m : Mt) (S : Sto) (o : D) (ds : List D) : Option (D × Sto) := match o with
  | .loc n => match S n with
    | some (.lst xs) => match m with
      | .append => match ds with
        | [y] => if xs.length < 1000000 then some (.non, put S n (.lst (xs ++ [y]))) else none
        | _ => none
      | .extend => match ds with
        | [y] => match lstD S y with
          | some ys => if xs.length + ys.length < 1000000 then some (.non, put S n (.lst (xs ++ ys))) else none
          | none => none
        | _ => none
      | .pop0 => match ds with
        | [] => (xs[xs.length - 1]?).map fun y => (y, put S n (.lst xs.dropLast))
        | _ => none
      | _ => none
    | some (.dic kvs) => match m with
      | .get1 => match ds with
        | [k] => (keyD k).map fun k => ((lkD kvs k).getD .non, S)
        | _ => none
      | .get2 => match ds with
        | [k, d] => (keyD k).map fun k => ((lkD kvs k).getD d, S)
        | _ => none
      | _ => none
    | _ => none
  | _ => none
def setIx (S : Sto) (o k v : D) : Option Sto := match o with
  | .loc n => match S n with
    | some (.lst xs) => match k with
      | .int i => (ixN xs.length i).map fun j => put S n (.lst (xs.set j v))
      | _ => none
    | some (.dic kvs) => match keyD k with
      | some k => if kvs.length < 1000000 then some (put S n (.dic (putD kvs k v))) else none
      | none => none
    | _ => none
  | _ => none

/-! ### targets, walks -/
def setAll : List Nat → List D → Env → Option Env
  | [], [], e => some e
  | i :: is, d :: ds, e => setAll is ds (e.set i (some d))
  | _, _, _ => none
def bindT (t : Tg) (x : D) (e : Env) : Option Env := match t with
  | .nm i => some (e.set i (some x))
  | .tp is => match x with
    | .tup xs => setAll is xs e
    | _ => none
def wipeD (e : Env) : List Nat → Env
  | [] => e
  | v :: vs => (wipeD e vs).set v none
def numD : Nat → List D → List (Key × D)
  | _, [] => []
  | n, x :: xs => (.inl (n : Int), x) :: numD (n + 1) xs
def enumD : Nat → List D → List D
  | _, [] => []
  | i, x :: xs => .tup [.int i, x] :: enumD (i + 1) xs
def zipD : List D → List D → List D
  | x :: xs, y :: ys => .tup [x, y] :: zipD xs ys
  | _, _ => []
def rngD (lo : Int) : Nat → List D
  | 0 => []
  | n + 1 => .int lo :: rngD (lo + 1) n
/-- the list that is walked stays as it is -/
def chkD (x : D) (xs : List D) (S : Sto) : Prop := match x with
  | .loc n => S n = some (.lst xs)
  | _ => True

section
variable (chk : Sto → Prop) (bind : D → Option Env)
/-- a comprehension's turns -/
def lcL (cond : Env → Sto → (Bool → Sto → Prop) → Prop) (elt : Env → Sto → Q1 → Prop) : List D → List D → Sto → (List D → Sto → Prop) → Prop
  | [], acc, S, q => chk S ∧ q acc S
  | x :: xs, acc, S, q => chk S ∧ ∃ e1, bind x = some e1 ∧ cond e1 S fun b S1 => if b = true then elt e1 S1 fun y S2 => acc.length < 1000000 ∧ lcL cond elt xs (acc ++ [y]) S2 q else lcL cond elt xs acc S1 q
end

/-- a range walked -/
def rngW (ds : List D) (q : List D → Prop) : Prop := match ds with
  | [.int j] => -(2 ^ 62) ≤ j ∧ j < 2 ^ 62 ∧ q (rngD 0 j.toNat)
  | [.int i, .int j] => -(2 ^ 62) ≤ i ∧ i < 2 ^ 62 ∧ -(2 ^ 62) ≤ j ∧ j < 2 ^ 62 ∧ q (rngD i (j - i).toNat)
  | _ => False

section
variable (T : Tab) (G : GT) (xd : XD)
mutual
def wpE : E → Env → Sto → Q1 → Prop
  | .var i, env, S, q => ∃ d, env[i]? = some (some d) ∧ q d S
  | .int i, _, S, q => q (.int i) S
  | .str x, _, S, q => q (.str x) S
  | .bl b, _, S, q => q (.bl b) S
  | .non, _, S, q => q .non S
  | .cst i, _, S, q => ∃ p, T.cst[i]? = some p ∧ q p.2 S
  | .tup es, env, S, q => wpEs es env S fun ds S1 => ds.length ≤ 100000 ∧ q (.tup ds) S1
  | .lst es, env, S, q => wpEs es env S fun ds S1 => ds.length ≤ 100000 ∧ q (.lst ds) S1
  | .mls es, env, S, q => wpEs es env S fun ds S1 => ds.length ≤ 100000 ∧ ∀ n, S1 n = none → q (.loc n) (put S1 n (.lst ds))
  | .dic ks es, env, S, q => wpEs es env S fun ds S1 => ∀ n, S1 n = none → q (.loc n) (put S1 n (.dic (ks.zip ds)))
  | .bin o a b, env, S, q => wpE a env S fun x S1 => wpE b env S1 fun y S2 => ∃ z, binD o S2 x y = some z ∧ q z S2
  | .cmp o a b, env, S, q => wpE a env S fun x S1 => wpE b env S1 fun y S2 => ∃ k, cmpD o S2 x y = some k ∧ q (.bl k) S2
  | .chn o p a b c, env, S, q => wpE a env S fun x S1 => wpE b env S1 fun y S2 => ∃ k, cmpD o S2 x y = some k ∧
      if k = true then wpE c env S2 fun z S3 => ∃ k', cmpD p S3 y z = some k' ∧ q (.bl k') S3 else q (.bl false) S2
  | .and a b, env, S, q => wpE a env S fun x S1 => ∃ k, truD S1 x = some k ∧ if k = true then wpE b env S1 q else q x S1
  | .or a b, env, S, q => wpE a env S fun x S1 => ∃ k, truD S1 x = some k ∧ if k = true then q x S1 else wpE b env S1 q
  | .not a, env, S, q => wpE a env S fun x S1 => ∃ k, truD S1 x = some k ∧ q (.bl (!k)) S1
  | .neg a, env, S, q => wpE a env S fun x S1 => ∃ i, x = .int i ∧ q (.int (-i)) S1
  | .ife c a b, env, S, q => wpE c env S fun x S1 => ∃ k, truD S1 x = some k ∧ if k = true then wpE a env S1 q else wpE b env S1 q
  | .ix a b, env, S, q => wpE a env S fun x S1 => wpE b env S1 fun y S2 => ∃ z, ixD S2 x y = some z ∧ q z S2
  | .sl a lo hi, env, S, q => wpE a env S fun x S1 => wpEs lo env S1 fun l S2 => ∃ l', intsD l = some l' ∧ wpEs hi env S2 fun h S3 => ∃ h', intsD h = some h' ∧ ∃ z, slD S3 x l'[0]? h'[0]? = some z ∧ q z S3
  | .rev a, env, S, q => wpE a env S fun x S1 => ∃ z, revD S1 x = some z ∧ q z S1
  | .call f es, env, S, q => wpEs es env S fun ds S1 => G f ds S1 q xd
  | .bif b es, env, S, q => wpEs es env S fun ds S1 => ∃ z, biD b S1 ds = some z ∧ q z S1
  | .isi a t, env, S, q => wpE a env S fun x S1 => ∃ k, isiD S1 x t = some k ∧ q (.bl k) S1
  | .mli a, env, S, q => wpE a env S fun x S1 => ∃ xs, seqD S1 x = some xs ∧ ∀ n, S1 n = none → q (.loc n) (put S1 n (.lst xs))
  | .meth m o es, env, S, q => wpE o env S fun x S1 => kindD S1 x = some (mtTy m) ∧ wpEs es env S1 fun ds S2 => ∃ z, mtD m S2 x ds = some z ∧ q z.1 z.2
  | .fld o f, env, S, q => wpE o env S fun x S1 => ∃ n c fs d, x = .loc n ∧ S1 n = some (.ins c fs) ∧ fs.lookup f = some d ∧ q d S1
  | .mth m o es, env, S, q => wpE o env S fun x S1 => wpEs es env S1 fun ds S2 => G m (x :: ds) S2 q xd
  | .mk c es, env, S, q => wpEs es env S fun ds S1 => ∀ n, S1 n = none → G (10000 + c) (.loc n :: ds) (put S1 n (.ins c [])) (fun v S2 => v = .non ∧ q (.loc n) S2) xd
  | .lc e t it c own, env, S, q => wpI it env S fun xs chk S1 => lcL chk (fun x => bindT t x (wipeD env own)) (fun e1 S q => wpEs c e1 S fun ds S2 => match ds with
      | [] => q true S2
      | x :: _ => ∃ k, truD S2 x = some k ∧ q k S2) (fun e1 S q => wpE e e1 S q) xs [] S1 fun ys S2 => q (.lst ys) S2
  | .mlc e t it c own, env, S, q => wpI it env S fun xs chk S1 => lcL chk (fun x => bindT t x (wipeD env own)) (fun e1 S q => wpEs c e1 S fun ds S2 => match ds with
      | [] => q true S2
      | x :: _ => ∃ k, truD S2 x = some k ∧ q k S2) (fun e1 S q => wpE e e1 S q) xs [] S1 fun ys S2 => ∀ n, S2 n = none → q (.loc n) (put S2 n (.lst ys))
  | .fz e, env, S, q => wpE e env S fun x S1 => ∃ n xs, x = .loc n ∧ S1 n = some (.lst xs) ∧ q (.lst xs) (del S1 n)
  | .chn3 o p r a b c d, env, S, q => wpE a env S fun x S1 => wpE b env S1 fun y S2 => ∃ k, cmpD o S2 x y = some k ∧
      if k = true then wpE c env S2 fun z S3 => ∃ k', cmpD p S3 y z = some k' ∧ (if k' = true then wpE d env S3 fun w S4 => ∃ k'', cmpD r S4 z w = some k'' ∧ q (.bl k'') S4 else q (.bl false) S3) else q (.bl false) S2
  | .den a, env, S, q => wpE a env S fun x S1 => ∃ xs, seqD S1 x = some xs ∧ ∀ m, S1 m = none → q (.loc m) (put S1 m (.dic (numD 0 xs)))
  | .mdc a, env, S, q => wpE a env S fun x S1 => ∃ n kvs, x = .loc n ∧ S1 n = some (.dic kvs) ∧ ∀ m, S1 m = none → q (.loc m) (put S1 m (.dic kvs))
def wpEs : Es → Env → Sto → (List D → Sto → Prop) → Prop
  | .nil, _, S, q => q [] S
  | .cons e es, env, S, q => wpE e env S fun x S1 => wpEs es env S1 fun xs S2 => q (x :: xs) S2
def wpI : It → Env → Sto → (List D → (Sto → Prop) → Sto → Prop) → Prop
  | .seq e, env, S, q => wpE e env S fun x S1 => ∃ xs, seqD S1 x = some xs ∧ q xs (chkD x xs) S1
  | .rng es, env, S, q => wpEs es env S fun ds S1 => rngW ds fun xs => q xs (fun _ => True) S1
  | .enm e, env, S, q => wpE e env S fun x S1 => ∃ xs, seqD S1 x = some xs ∧ q (enumD 0 xs) (chkD x xs) S1
  | .zip a b, env, S, q => wpE a env S fun x S1 => wpE b env S1 fun y S2 => ∃ xs ys, seqD S2 x = some xs ∧ seqD S2 y = some ys ∧ q (zipD xs ys) (fun S => chkD x xs S ∧ chkD y ys S) S2
  | .rvs e, env, S, q => wpE e env S fun x S1 => ∃ xs, seqD S1 x = some xs ∧ q xs.reverse (chkD x xs) S1
end
end

/-! ### statements -/
structure En where
  nx : Env → Sto → Prop
  rt : Q1
  bk : Env → Sto → Prop
  ct : Env → Sto → Prop
/-- a for's turns -/
def forL (chk : Sto → Prop) (bind : D → Env → Option Env) (body : En → Env → Sto → Prop) (K : En) : List D → Env → Sto → Prop
  | [], e, S => chk S ∧ K.nx e S
  | x :: xs, e, S => chk S ∧ ∃ e1, bind x e = some e1 ∧ body { nx := forL chk bind body K xs, rt := K.rt, bk := K.nx, ct := forL chk bind body K xs } e1 S
/-- so many turns of a while -/
def whL (c : Env → Sto → (Bool → Sto → Prop) → Prop) (body : En → Env → Sto → Prop) (K : En) : Nat → Env → Sto → Prop
  | 0, _, _ => False
  | n + 1, e, S => c e S fun b S1 => if b = true then body { nx := whL c body K n, rt := K.rt, bk := K.nx, ct := whL c body K n } e S1 else K.nx e S1
section
variable (T : Tab) (G : GT) (xd : XD)
def wpT (e : E) (env : Env) (S : Sto) (q : Bool → Sto → Prop) : Prop := wpE T G xd e env S fun x S1 => ∃ k, truD S1 x = some k ∧ q k S1
mutual
def wpS : St → En → Env → Sto → Prop
  | .set i e, K, env, S => wpE T G xd e env S fun x S1 => K.nx (env.set i (some x)) S1
  | .setT is e, K, env, S => wpE T G xd e env S fun x S1 => ∃ env', bindT (.tp is) x env = some env' ∧ K.nx env' S1
  | .setI o k e, K, env, S => wpE T G xd e env S fun v S1 => wpE T G xd o env S1 fun x S2 => wpE T G xd k env S2 fun y S3 => ∃ S4, setIx S3 x y v = some S4 ∧ K.nx env S4
  | .setF o f e, K, env, S => wpE T G xd e env S fun v S1 => wpE T G xd o env S1 fun x S2 => ∃ n c fs, x = .loc n ∧ S2 n = some (.ins c fs) ∧ fs.length < 100 ∧ K.nx env (put S2 n (.ins c ((fs.filter fun p => p.1 != f) ++ [(f, v)])))
  | .ifs c a b, K, env, S => wpT T G xd c env S fun k S1 => if k = true then wpSs a K env S1 else wpSs b K env S1
  | .wh c b, K, env, S => ∃ n, whL (wpT T G xd c) (wpSs b) K n env S
  | .for_ t it b, K, env, S => wpI T G xd it env S fun xs chk S1 => forL chk (bindT t) (wpSs b) K xs env S1
  | .ret e, K, env, S => wpE T G xd e env S K.rt
  | .retN, K, env, S => K.rt .non S
  | .ex e, K, env, S => wpE T G xd e env S fun _ S1 => K.nx env S1
  | .brk, K, env, S => K.bk env S
  | .cont, K, env, S => K.ct env S
  | .pass, K, env, S => K.nx env S
def wpSs : List St → En → Env → Sto → Prop
  | [], K, env, S => K.nx env S
  | s :: ss, K, env, S => wpS s { K with nx := fun e S1 => wpSs ss K e S1 } env S
end
end
end Mi
set_option maxHeartbeats 4000000
/-! Mi3: what the values of the small language do, the machine's operators do. -/
namespace Mi
open PySem PySem.Spec PyProof.Rows L2

/-- slots and what they hold -/
structure EnvR (K : Frg) (W : Wd) (H : Hp) (env : Env) (σ : L2.St) : Prop where
  len : env.length = σ.length
  at_ : ∀ (i : Nat) (d : D), env[i]? = some (some d) → ∃ v : V, (σ : List (Option V))[i]? = some (some v) ∧ Rep K W H d v
theorem EnvR.keep {K : Frg} {W W' : Wd} {H H' : Hp} {env : Env} {σ : L2.St} (k : Keep W H W' H') (r : EnvR K W H env σ) : EnvR K W' H' env σ :=
  ⟨r.len, fun i d h => let ⟨v, h1, h2⟩ := r.at_ i d h; ⟨v, h1, h2.keep k⟩⟩
theorem EnvR.set {K : Frg} {W : Wd} {H : Hp} {env : Env} {σ : L2.St} (r : EnvR K W H env σ) {i : Nat} {d : D} {v : V} (h : Rep K W H d v) : EnvR K W H (env.set i (some d)) (σ.set i (some v)) :=
  ⟨by rw [List.length_set, List.length_set]; exact r.len, fun j e q => by
    by_cases hj : i = j
    · subst hj
      by_cases hl : i < env.length
      · rw [List.getElem?_set_self hl] at q; cases q
        exact ⟨v, List.getElem?_set_self (r.len ▸ hl), h⟩
      · rw [List.getElem?_eq_none (by rw [List.length_set]; omega)] at q; cases q
    · rw [List.getElem?_set_ne hj] at q
      obtain ⟨u, h1, h2⟩ := r.at_ j e q
      exact ⟨u, by rw [List.getElem?_set_ne hj]; exact h1, h2⟩⟩
theorem EnvR.drop1 {K : Frg} {W : Wd} {H : Hp} {env : Env} {σ : L2.St} (r : EnvR K W H env σ) (i : Nat) : EnvR K W H (env.set i none) (σ.set i none) :=
  ⟨by rw [List.length_set, List.length_set]; exact r.len, fun j e q => by
    by_cases hj : i = j
    · subst hj
      by_cases hl : i < env.length
      · rw [List.getElem?_set_self hl] at q; cases q
      · rw [List.getElem?_eq_none (by rw [List.length_set]; omega)] at q; cases q
    · rw [List.getElem?_set_ne hj] at q
      obtain ⟨u, h1, h2⟩ := r.at_ j e q
      exact ⟨u, by rw [List.getElem?_set_ne hj]; exact h1, h2⟩⟩
theorem EnvR.wipe {K : Frg} {W : Wd} {H : Hp} {env : Env} {σ : L2.St} (r : EnvR K W H env σ) : ∀ vs : List Nat, EnvR K W H (wipeD env vs) (L2.wipe σ vs)
  | [] => r
  | v :: vs => (r.wipe vs).drop1 v

/-- what is asked behind an operation that gives z, the store S' -/
def Out (K : Frg) (W : Wd) (S : Sto) (H : Hp) (z : D) (S' : Sto) (Q : VK) : Prop := ∀ W' H' v, Ext W S H W' S' H' → Rel K W' S' H' → Rep K W' H' z v → Q v H'
theorem Out.now {K : Frg} {W : Wd} {S : Sto} {H : Hp} {z : D} {Q : VK} {v : V} (o : Out K W S H z S Q) (r : Rel K W S H) (p : Rep K W H z v) : Q v H := o W H v (Ext.refl _ _ _) r p
theorem Out.tup {K : Frg} {W : Wd} {S : Sto} {H : Hp} {ds : List D} {vs : List V} {Q : VK} (o : Out K W S H (.tup ds) S Q) (r : Rel K W S H) (p : Reps K W H ds vs) : ∀ a, H a = none → Q (.ref a) (upd H a (.tup vs)) := fun a ha => by
  obtain ⟨r', e⟩ := rel_frz r ha (.tup vs)
  exact o _ _ _ e r' (.tup (.inl ⟨.inl rfl, upd_same⟩) (p.keep (e.keep r)))
theorem Out.lst {K : Frg} {W : Wd} {S : Sto} {H : Hp} {ds : List D} {vs : List V} {Q : VK} (o : Out K W S H (.lst ds) S Q) (r : Rel K W S H) (p : Reps K W H ds vs) : ∀ a, H a = none → Q (.ref a) (upd H a (.lst vs)) := fun a ha => by
  obtain ⟨r', e⟩ := rel_frz r ha (.lst vs)
  exact o _ _ _ e r' (.lst (.inl rfl) upd_same (p.keep (e.keep r)))
/-- a new list of the store -/
theorem Out.mls {K : Frg} {W : Wd} {S : Sto} {H : Hp} {ds : List D} {vs : List V} {Q : VK} (o : ∀ n, S n = none → Out K W S H (.loc n) (put S n (.lst ds)) Q) (r : Rel K W S H) (p : Reps K W H ds vs) : ∀ a, H a = none → Q (.ref a) (upd H a (.lst vs)) := fun a ha => by
  obtain ⟨n, hn, r', e, hr⟩ := rel_new r ha (.lst ds) (.lst vs) fun W' H' k h => ⟨vs, h, p.keep k⟩
  exact o n hn _ _ _ e r' (.loc hr)

section
variable {K : Frg} {W : Wd} {S : Sto} {H : Hp}
/-- a store's list, seen through its place -/
theorem loc_lst (r : Rel K W S H) {n : Nat} {a : Addr} {xs : List D} (h : S n = some (.lst xs)) (ha : W.rho n = some a) : ∃ vs, H a = some (.lst vs) ∧ Reps K W H xs vs := by
  obtain ⟨b, h1, vs, h2, h3⟩ := r.dom n _ h
  rw [ha] at h1; cases h1
  exact ⟨vs, h2, h3⟩
theorem loc_dic (r : Rel K W S H) {n : Nat} {a : Addr} {xs : List (Key × D)} (h : S n = some (.dic xs)) (ha : W.rho n = some a) : ∃ vs, H a = some (.dK vs) ∧ KR K W H xs vs := by
  obtain ⟨b, h1, vs, h2, h3⟩ := r.dom n _ h
  rw [ha] at h1; cases h1
  exact ⟨vs, h2, h3⟩
theorem loc_ins (r : Rel K W S H) {n : Nat} {a : Addr} {c : Nat} {xs : List (Str × D)} (h : S n = some (.ins c xs)) (ha : W.rho n = some a) : ∃ Ca dx vs, K.cls c = some Ca ∧ H a = some (.ins Ca dx vs) ∧ FR K W H xs vs := by
  obtain ⟨b, h1, Ca, dx, vs, h0, h2, h3⟩ := r.dom n _ h
  rw [ha] at h1; cases h1
  exact ⟨Ca, dx, vs, h0, h2, h3⟩
/-- sequences -/
inductive Sq (K : PySem.W.Frag) (H : Hp) (a : Addr) (vs : List V) : Prop where
  | l (h : SqL K H a vs)
  | t (h : SqT K H a vs)
theorem seq_of (r : Rel K W S H) {x : D} {v : V} {xs : List D} (p : Rep K W H x v) (h : seqD S x = some xs) : ∃ a vs, v = .ref a ∧ Sq K.K H a vs ∧ Reps K W H xs vs := by
  cases p with
  | tup f q => cases h; exact ⟨_, _, rfl, .t f.sq, q⟩
  | lst _ e q => cases h; exact ⟨_, _, rfl, .l (SqL.of e), q⟩
  | scr f => cases h; exact ⟨_, _, rfl, .l f.sq, .ints _⟩
  | @loc n a e =>
    dsimp only [seqD] at h
    cases q : S n with
    | none => rw [q] at h; cases h
    | some o =>
      rw [q] at h
      cases o with
      | lst ys =>
        cases h
        obtain ⟨vs, h2, h3⟩ := loc_lst r q e
        exact ⟨_, _, rfl, .l (SqL.of h2), h3⟩
      | dic _ => cases h
      | ins _ _ => cases h
  | _ => cases h
theorem lst_of (r : Rel K W S H) {x : D} {v : V} {xs : List D} (p : Rep K W H x v) (h : lstD S x = some xs) : ∃ a vs, v = .ref a ∧ H a = some (.lst vs) ∧ Reps K W H xs vs := by
  cases p with
  | lst _ e q => cases h; exact ⟨_, _, rfl, e, q⟩
  | @loc n a e =>
    dsimp only [lstD] at h
    cases q : S n with
    | none => rw [q] at h; cases h
    | some o =>
      rw [q] at h
      cases o with
      | lst ys =>
        cases h
        obtain ⟨vs, h2, h3⟩ := loc_lst r q e
        exact ⟨_, _, rfl, h2, h3⟩
      | dic _ => cases h
      | ins _ _ => cases h
  | _ => cases h
theorem Reps.isEmpty {ds : List D} {vs : List V} (h : Reps K W H ds vs) : vs.isEmpty = ds.isEmpty := by cases h <;> rfl
theorem KR.isEmpty {ds : List (Key × D)} {vs : List (Key × V)} (h : KR K W H ds vs) : vs.isEmpty = ds.isEmpty := by cases h <;> rfl
theorem KR.look {ds : List (Key × D)} {vs : List (Key × V)} (h : KR K W H ds vs) (k : Key) : (∀ d, lkD ds k = some d → ∃ v, valV vs k = some v ∧ Rep K W H d v) ∧ (lkD ds k = none → valV vs k = none) := by
  induction h with
  | nil => exact ⟨fun d h => (by cases h), fun _ => rfl⟩
  | @cons k' d' v' ds vs p _ ih =>
    unfold lkD valV at ih ⊢
    rw [List.find?_cons, List.find?_cons]
    by_cases e : k' = k
    · simp only [e, decide_true]
      exact ⟨fun d h => (by cases h; exact ⟨v', rfl, p⟩), fun h => (by cases h)⟩
    · simp only [e, decide_false]
      exact ih
theorem KR.anyK {ds : List (Key × D)} {vs : List (Key × V)} (h : KR K W H ds vs) (k : Key) : ds.any (fun p => decide (p.1 = k)) = vs.any (fun p => decide (p.1 = k)) := by
  induction h with
  | nil => rfl
  | cons _ _ ih => rw [List.any_cons, List.any_cons, ih]
theorem KR.mapK {ds : List (Key × D)} {vs : List (Key × V)} (h : KR K W H ds vs) (k : Key) {d : D} {v : V} (p : Rep K W H d v) : KR K W H (ds.map (fun p => if p.1 = k then (p.1, d) else p)) (vs.map (fun p => if p.1 = k then (p.1, v) else p)) := by
  induction h with
  | nil => exact .nil
  | @cons k' d' v' ds vs q r ih =>
    rw [List.map_cons, List.map_cons]
    by_cases e : k' = k
    · rw [if_pos e, if_pos e]; exact .cons p ih
    · rw [if_neg e, if_neg e]; exact .cons q ih
theorem KR.snoc {ds : List (Key × D)} {vs : List (Key × V)} (h : KR K W H ds vs) (k : Key) {d : D} {v : V} (p : Rep K W H d v) : KR K W H (ds ++ [(k, d)]) (vs ++ [(k, v)]) := by
  induction h with
  | nil => exact .cons p .nil
  | cons q _ ih => exact .cons q ih
theorem KR.put {ds : List (Key × D)} {vs : List (Key × V)} (h : KR K W H ds vs) (k : Key) {d : D} {v : V} (p : Rep K W H d v) : KR K W H (putD ds k d) (putK vs k v) := by
  unfold putD putK
  rw [h.anyK k]
  by_cases e : vs.any (fun p => decide (p.1 = k)) = true
  · rw [if_pos e, if_pos e]; exact h.mapK k p
  · rw [if_neg e, if_neg e]; exact h.snoc k p
theorem KR.length {ds : List (Key × D)} {vs : List (Key × V)} (h : KR K W H ds vs) : ds.length = vs.length := by
  induction h with
  | nil => rfl
  | cons _ _ ih => rw [List.length_cons, List.length_cons, ih]
theorem FR.look {ds : List (Str × D)} {vs : List (Str × V)} (h : FR K W H ds vs) (k : Str) {d : D} (e : ds.lookup k = some d) : ∃ v, vs.lookup k = some v ∧ Rep K W H d v := by
  induction h with
  | nil => cases e
  | @cons k' d' v' ds vs p _ ih =>
    rw [List.lookup_cons] at e ⊢
    cases q : k == k' with
    | true => rw [q] at e; cases e; exact ⟨v', rfl, p⟩
    | false => rw [q] at e; exact ih e
theorem FR.lookN {ds : List (Str × D)} {vs : List (Str × V)} (h : FR K W H ds vs) (k : Str) (e : ds.lookup k = none) : vs.lookup k = none := by
  induction h with
  | nil => rfl
  | @cons k' d' v' ds vs p _ ih =>
    rw [List.lookup_cons] at e ⊢
    cases q : k == k' with
    | true => rw [q] at e; cases e
    | false => rw [q] at e; exact ih e

/-- truth -/
theorem tru_of (r : Rel K W S H) {x : D} {v : V} {k : Bool} (p : Rep K W H x v) (h : truD S x = some k) : TruV K.K v H k := by
  cases p with
  | non => cases h; rfl
  | bl b => cases h; rfl
  | int i => cases h; rfl
  | str y =>
    dsimp only [truD] at h
    by_cases e : y.length ≤ sizeLine
    · rw [if_pos e] at h; cases h; exact ⟨e, rfl⟩
    · rw [if_neg e] at h; cases h
  | tup f q => cases h; exact .inr (.inl ⟨_, f.sq, by rw [q.isEmpty]⟩)
  | lst _ e q => cases h; exact .inl ⟨_, SqL.of e, by rw [q.isEmpty]⟩
  | scr f => cases h; exact .inl ⟨_, f.sq, by rw [List.isEmpty_map]⟩
  | @loc n a e =>
    dsimp only [truD] at h
    cases q : S n with
    | none => rw [q] at h; cases h
    | some o =>
      rw [q] at h
      cases o with
      | lst ys =>
        cases h
        obtain ⟨vs, h2, h3⟩ := loc_lst r q e
        exact .inl ⟨_, SqL.of h2, by rw [h3.isEmpty]⟩
      | dic ys =>
        cases h
        obtain ⟨vs, h2, h3⟩ := loc_dic r q e
        exact .inr (.inr ⟨_, h2, by rw [h3.isEmpty]⟩)
      | ins _ _ => cases h
  | kd _ => cases h

/-! ### deep data -/
mutual
theorem pd_dp {K : Frg} {W : Wd} {H : Hp} : ∀ {x : D} {v : V} {d : PyData}, Rep K W H x v → pd x = some d → Dp K.K H v d
  | _, _, _, .non, h => by cases h; exact .non
  | _, _, _, .bl b, h => by cases h; exact .bl b
  | _, _, _, .int i, h => by cases h; exact .int i
  | _, _, _, .str y, h => by cases h; exact .str y
  | .tup xs, _, _, .tup f q, h => by
    unfold pd at h
    cases e : pds xs with
    | none => rw [e] at h; cases h
    | some ds => rw [e] at h; cases h; exact .tup f.sq (pds_dp q e)
  | .lst xs, _, _, .lst _ l q, h => by
    unfold pd at h
    cases e : pds xs with
    | none => rw [e] at h; cases h
    | some ds => rw [e] at h; cases h; exact .lst (SqL.of l) (pds_dp q e)
  | .scr ns, _, _, .scr f, h => by
    cases h
    refine .lst f.sq ?_
    clear f
    induction ns with
    | nil => exact .nil
    | cons n ns ih => exact .cons (.int n) ih
  | _, _, _, .loc _, h => by cases h
  | _, _, _, .kd _, h => by cases h
theorem pds_dp {K : Frg} {W : Wd} {H : Hp} : ∀ {xs : List D} {vs : List V} {ds : List PyData}, Reps K W H xs vs → pds xs = some ds → DpAll K.K H vs ds
  | [], _, _, .nil, h => by cases h; exact .nil
  | x :: xs, _, _, .cons p q, h => by
    unfold pds at h
    cases e : pd x with
    | none => rw [e] at h; simp at h
    | some d =>
      cases e' : pds xs with
      | none => rw [e, e'] at h; cases h
      | some ds => rw [e, e'] at h; cases h; exact .cons (pd_dp p e) (pds_dp q e')
end
end
end Mi
set_option maxHeartbeats 4000000
/-! Mi4: the machine's operators, by the small language's values. -/
namespace Mi
open PySem PySem.Spec PyProof.Rows L2

def opE : Op → Operator
  | .add => .Add | .sub => .Sub | .mul => .Mult | .fdiv => .FloorDiv | .mod => .Mod | .pow => .Pow
def cpE : Cp → CmpOp
  | .eq => .Eq | .ne => .NotEq | .lt => .Lt | .le => .LtE | .gt => .Gt | .ge => .GtE | .is_ => .Is | .nis => .IsNot | .in_ => .In | .nin => .NotIn

def rBin (K : Frg) (o : Op) : R2 := fun x y H Q => ∃ W S dx dy z, Rel K W S H ∧ Rep K W H dx x ∧ Rep K W H dy y ∧ binD o S dx dy = some z ∧ Out K W S H z S Q
def rCmp (K : Frg) (o : Cp) : R2 := fun x y H Q => ∃ W S dx dy k, Rel K W S H ∧ Rep K W H dx x ∧ Rep K W H dy y ∧ cmpD o S dx dy = some k ∧ Q (.bl k) H

theorem reps_rep' {K : Frg} {W : Wd} {H : Hp} {ds : List D} {vs : List V} (r : Reps K W H ds vs) : ∀ n : Nat, Reps K W H (List.replicate n ds).flatten (List.replicate n vs).flatten
  | 0 => .nil
  | n + 1 => by
    rw [List.replicate_succ, List.replicate_succ, List.flatten_cons, List.flatten_cons]
    exact r.append (reps_rep' r n)
section
variable {X : Cx} {K : Frg} (hK : X.K = K.K)
include hK

theorem op_bin (o : Op) : OpR X (binaryOp (opE o)) (rBin K o) := by
  intro pins s σ H x y v u Q I rx ry ⟨W, S, dx, dy, z, r, px, py, e, q⟩
  cases o with
  | add =>
    cases px with
    | int i =>
      cases py with
      | int j => cases e; exact op_add pins s σ H _ _ v u Q I rx ry ⟨i, j, rfl, rfl, q.now r (.int _)⟩
      | _ => cases e
    | str a =>
      cases py with
      | str b =>
        dsimp only [binD] at e
        by_cases h : a.length + b.length ≤ sizeLine
        · rw [if_pos h] at e; cases e
          exact op_add_str pins s σ H _ _ v u Q I rx ry ⟨a, b, rfl, rfl, h, q.now r (.str _)⟩
        · rw [if_neg h] at e; cases e
      | _ => cases e
    | tup fa qa =>
      cases py with
      | tup fb qb =>
        dsimp only [binD] at e
        split at e
        · rename_i h
          cases e
          rw [qa.length, qb.length] at h
          refine op_catA pins s σ H _ _ v u Q I rx ry ⟨_, _, _, _, rfl, rfl, hK ▸ fa.sq, hK ▸ fb.sq, h, ?_⟩
          refine ⟨fun h1 => ?_, fun h1 h2 => ?_, fun h1 h2 => q.tup r (qa.append qb)⟩
          · subst h1
            cases qa
            exact q.now r (.tup fb qb)
          · subst h2
            cases qb
            rw [List.append_nil] at q
            exact q.now r (.tup fa qa)
        · cases e
      | _ => cases e
    | lst _ ea qa =>
      dsimp only [binD] at e
      split at e
      · rename_i b hb
        split at e
        · rename_i h
          cases e
          obtain ⟨b', vs, rfl, eb, qb⟩ := lst_of r py hb
          rw [qa.length, qb.length] at h
          exact op_cat pins s σ H _ _ v u Q I rx ry ⟨_, _, _, _, rfl, rfl, ea, eb, h, q.lst r (qa.append qb)⟩
        · cases e
      · cases e
    | @loc n a0 hn =>
      dsimp only [binD] at e
      split at e
      · rename_i a b ha hb
        split at e
        · rename_i h
          cases e
          obtain ⟨a', us, ha1, ea, qa⟩ := lst_of r (Rep.loc hn) ha
          cases ha1
          obtain ⟨b', vs, rfl, eb, qb⟩ := lst_of r py hb
          rw [qa.length, qb.length] at h
          exact op_cat pins s σ H _ _ v u Q I rx ry ⟨_, _, _, _, rfl, rfl, ea, eb, h, q.lst r (qa.append qb)⟩
        · cases e
      · cases e
    | _ => cases e
  | sub =>
    cases px with
    | int i =>
      cases py with
      | int j => cases e; exact op_sub pins s σ H _ _ v u Q I rx ry ⟨i, j, rfl, rfl, q.now r (.int _)⟩
      | _ => cases e
    | _ => cases e
  | mul =>
    cases px with
    | int i =>
      cases py with
      | int j =>
        dsimp only [binD] at e
        split at e
        · rename_i h
          cases e
          refine op_mul pins s σ H _ _ v u Q I rx ry ⟨i, j, rfl, rfl, ?_, q.now r (.int _)⟩
          unfold mulOk at h
          rcases Bool.or_eq_true_iff.mp h with h | h
          · exact .inl (of_decide_eq_true h)
          · exact .inr (of_decide_eq_true h)
        · cases e
      | _ => cases e
    | lst _ ea qa =>
      cases py with
      | int j =>
        dsimp only [binD] at e
        split at e
        · rename_i h
          cases e
          obtain ⟨h1, h2, h3⟩ := h
          rw [qa.length] at h3
          exact op_rep pins s σ H _ _ v u Q I rx ry ⟨_, j, _, rfl, rfl, ea, h1, h2, h3, q.lst r (Mi.reps_rep' qa j.toNat)⟩
        · cases e
      | _ => cases e
    | _ => cases e
  | fdiv =>
    cases px with
    | int i =>
      cases py with
      | int j =>
        dsimp only [binD] at e
        split at e
        · rename_i h
          cases e
          exact op_fdivW pins s σ H _ _ v u Q I rx ry ⟨i, j, rfl, rfl, wide_div h.1 (b := 64) (by omega) (by decide) (by decide), q.now r (.int _)⟩
        · cases e
      | _ => cases e
    | _ => cases e
  | mod =>
    cases px with
    | int i =>
      cases py with
      | int j =>
        dsimp only [binD] at e
        split at e
        · rename_i h
          cases e
          exact op_mod pins s σ H _ _ v u Q I rx ry ⟨i, j, rfl, rfl, h, q.now r (.int _)⟩
        · cases e
      | _ => cases e
    | _ => cases e
  | pow =>
    cases px with
    | int i =>
      cases py with
      | int j =>
        dsimp only [binD] at e
        split at e
        · rename_i h
          cases e
          exact op_pow pins s σ H _ _ v u Q I rx ry ⟨i, j, rfl, rfl, ⟨h.1, by omega, by omega⟩, q.now r (.int _)⟩
        · cases e
      | _ => cases e
    | _ => cases e

/-- == -/
theorem eq_flat {W : Wd} {H : Hp} {dx dy : D} {x y : V} {k : Bool} (px : Rep K W H dx x) (py : Rep K W H dy y) (e : eqD dx dy = some k) :
    (scal x y = true ∧ k = decide (x = y)) ∨ ∃ a b, pd dx = some a ∧ pd dy = some b ∧ a.canLay0 = true ∧ b.canLay0 = true ∧ a.depth ≤ 150 ∧ k = PyData.eqv a b := by
  have deep : (match pd dx, pd dy with
      | some a, some b => if a.canLay0 && b.canLay0 && decide (a.depth ≤ 150) then some (PyData.eqv a b) else none
      | _, _ => none) = some k → ∃ a b, pd dx = some a ∧ pd dy = some b ∧ a.canLay0 = true ∧ b.canLay0 = true ∧ a.depth ≤ 150 ∧ k = PyData.eqv a b := fun h => by
    split at h
    · rename_i a b ha hb
      split at h
      · rename_i c
        simp only [Bool.and_eq_true, decide_eq_true_eq] at c
        cases h
        exact ⟨a, b, ha, hb, c.1.1, c.1.2, c.2, rfl⟩
      · cases h
    · cases h
  cases px <;> cases py <;> first
    | (cases e; refine .inl ⟨rfl, ?_⟩; simp; done)
    | (cases e; refine .inl ⟨rfl, ?_⟩; rfl)
    | exact .inr (deep e)

theorem eqF_ok {W : Wd} {S : Sto} {H : Hp} {dx dy : D} {x y : V} {pins : List (Addr × Obj)} {σ : L2.St} {s : Shared} {v u : Value} {A : Around} (I : Inv X pins σ H s) (px : Rep K W H dx x) (py : Rep K W H dy y) (h : eqF dx dy = true) (rx : RelV x v) (ry : RelV y u) (hu : A.units + 160 < cLine) : SeqAt.EqAt A s v u true := by
  unfold eqF at h
  split at h
  · rename_i a b ha hb
    simp only [Bool.and_eq_true, decide_eq_true_eq] at h
    obtain ⟨⟨⟨la, lb⟩, hd⟩, he⟩ := h
    obtain ⟨as, r1⟩ := Dp.reads I a x v (hK ▸ pd_dp px ha) rx
    obtain ⟨bs, r2⟩ := Dp.reads I b y u (hK ▸ pd_dp py hb) ry
    have := SeqAt.eqAt_reads a b A s v u as bs r1 r2 la lb (by omega)
    rw [he] at this
    exact this
  · cases h
theorem hits_dd {W : Wd} {S : Sto} {H : Hp} {pins : List (Addr × Obj)} {σ : L2.St} {s : Shared} {A : Around} (I : Inv X pins σ H s) (hu : A.units + 160 < cLine) {db : List (L2.Key × D)} {ls : List (L2.Key × V)} {vb : List (L2.Key × Value)} (qb : KR K W H db ls) (rb : KV ls vb) :
    ∀ {da : List (L2.Key × D)} {ks : List (L2.Key × V)} {va : List (L2.Key × Value)}, KR K W H da ks → KV ks va → (da.all fun p => match lkD db p.1 with
      | some u => eqF p.2 u
      | none => false) = true → PySem.W.KeqHits A s vb va true := by
  intro da ks va qa ra
  induction qa generalizing va with
  | nil => intro _; cases ra; exact .nil
  | @cons k d v ds vs p _ ih =>
    intro h
    rw [List.all_cons, Bool.and_eq_true] at h
    unfold KV at ra
    cases ra with
    | @cons _ q _ qs h1 t =>
      obtain ⟨key, w⟩ := q
      obtain ⟨h1, h2⟩ := h1
      have h1' : k = key := h1
      subst h1'
      have hl := h.1
      split at hl
      · rename_i u e
        obtain ⟨y, ey, py⟩ := (qb.look k).1 u e
        have rr : RelO (some y) (valueAt vb k) := by rw [← ey]; exact rb.val k
        obtain ⟨y', hy, ry⟩ := rr.some_of
        show PySem.W.KeqHits A s vb ((k, w) :: qs) (true && true)
        exact .hit hy (eqF_ok hK (S := S) I p py hl h2 ry hu) (ih t h.2)
      · cases hl
theorem op_dic {W : Wd} {S : Sto} {H : Hp} {dx dy : D} {x y : V} {pins : List (Addr × Obj)} {σ : L2.St} {s : Shared} {v u : Value} (I : Inv X pins σ H s) (r : Rel K W S H) (px : Rep K W H dx x) (py : Rep K W H dy y) (h : dicEq S dx dy = true) (rx : RelV x v) (ry : RelV y u) (hu : X.A.units + 200 < cLine) :
    ∃ a b va vb, v = Value.ref a ∧ u = Value.ref b ∧ (a == sysModules) = false ∧ (b == sysModules) = false ∧ s.heap.DictOf (mixKind X.prog X.w) a va ∧ s.heap.DictOf (mixKind X.prog X.w) b vb ∧ va.length = vb.length ∧ PySem.W.KeqHits X.A.in1 s vb va true := by
  unfold dicEq at h
  split at h
  · rename_i n m
    split at h
    · rename_i ka kb ea eb
      cases px with
      | loc hn =>
        cases py with
        | loc hm =>
          obtain ⟨ks, la, qa⟩ := loc_dic r ea hn
          obtain ⟨ls, lb, qb⟩ := loc_dic r eb hm
          simp only [Bool.and_eq_true, decide_eq_true_eq] at h
          obtain ⟨hl, hh⟩ := h
          cases (show v = Value.ref _ from rx)
          cases (show u = Value.ref _ from ry)
          obtain ⟨_, ya, va, ra, da⟩ := (show ObjOk X.prog X.w H s.heap _ (.dK ks) from I.hok _ _ la)
          obtain ⟨_, yb, vb, rb, db⟩ := (show ObjOk X.prog X.w H s.heap _ (.dK ls) from I.hok _ _ lb)
          refine ⟨_, _, va, vb, rfl, rfl, ya, yb, da, db, ?_, hits_dd hK (S := S) I (by show X.A.units + 1 + 160 < cLine; omega) qb rb qa ra hh⟩
          rw [← ra.length, ← rb.length, ← qa.length, ← qb.length]
          exact hl
    · cases h
  · cases h
theorem op_eq_ (o : Cp) (ho : o = .eq ∨ o = .ne) (hu : X.A.units + 200 < cLine) : OpR X (compareOp (cpE o)) (rCmp K o) := by
  intro pins s σ H x y v u Q I rx ry ⟨W, S, dx, dy, k, r, px, py, e, q⟩
  rcases ho with rfl | rfl
  · dsimp only [cmpD] at e
    by_cases hdc : dicEq S dx dy = true
    · rw [if_pos hdc] at e
      cases e
      obtain ⟨a, b, va, vb, rfl, rfl, ya, yb, da, db, hl, hits⟩ := op_dic hK I r px py hdc rx ry hu
      exact PySem.W.keq_eq (knd := mixKind X.prog X.w) (r := true) ya yb da db (by omega) (fun _ => hits) (by rw [hl]; simp; exact ⟨.bl true, H, I, rfl, q⟩)
    · rw [if_neg hdc] at e
      rcases eq_flat hK px py e with ⟨h1, rfl⟩ | ⟨a, b, ha, hb, la, lb, hd, rfl⟩
      · exact op_eq pins s σ H _ _ v u Q I rx ry ⟨h1, q⟩
      · obtain ⟨as, r1⟩ := Dp.reads I a x v (hK ▸ pd_dp px ha) rx
        obtain ⟨bs, r2⟩ := Dp.reads I b y u (hK ▸ pd_dp py hb) ry
        exact SeqAt.compareEq_reads r1 r2 la lb (by omega) ⟨.bl _, H, I, rfl, q⟩
  · dsimp only [cmpD] at e
    by_cases hdc : dicEq S dx dy = true
    · rw [if_pos hdc] at e
      cases e
      obtain ⟨a, b, va, vb, rfl, rfl, ya, yb, da, db, hl, hits⟩ := op_dic hK I r px py hdc rx ry hu
      exact PySem.W.keq_ne (knd := mixKind X.prog X.w) (r := true) ya yb da db (by omega) (fun _ => hits) (by rw [hl]; simp; exact ⟨.bl false, H, I, rfl, q⟩)
    · rw [if_neg hdc] at e
      cases e' : eqD dx dy with
      | none => rw [e'] at e; cases e
      | some c =>
        rw [e'] at e; cases e
        rcases eq_flat hK px py e' with ⟨h1, rfl⟩ | ⟨a, b, ha, hb, la, lb, hd, rfl⟩
        · exact op_ne pins s σ H _ _ v u Q I rx ry ⟨h1, q⟩
        · obtain ⟨as, r1⟩ := Dp.reads I a x v (hK ▸ pd_dp px ha) rx
          obtain ⟨bs, r2⟩ := Dp.reads I b y u (hK ▸ pd_dp py hb) ry
          exact SeqAt.compareNe_reads r1 r2 la lb (by omega) ⟨.bl _, H, I, rfl, q⟩
theorem flat_rep {W : Wd} {H : Hp} {d : D} {v : V} (p : Rep K W H d v) (h : flatD d = true) : flatV v = true := by
  cases p <;> first | rfl | cases h
theorem flat_reps {W : Wd} {H : Hp} {ds : List D} {vs : List V} (p : Reps K W H ds vs) (h : ds.all flatD = true) : vs.all flatV = true := by
  induction ds generalizing vs with
  | nil => cases p; rfl
  | cons d ds ih =>
    cases p with
    | cons a b =>
      rw [List.all_cons, Bool.and_eq_true] at h ⊢
      exact ⟨flat_rep hK a h.1, ih b h.2⟩
theorem eqV_flat {W : Wd} {H : Hp} {d e : D} {x y : V} {k : Bool} (p : Rep K W H d x) (q : Rep K W H e y) (h1 : flatD d = true) (h2 : flatD e = true) (h : eqD d e = some k) : eqV x y = k := by
  cases p <;> cases q <;> first
    | (cases h1; done)
    | (cases h2; done)
    | (cases h; rfl)
    | (cases h; simp [eqV]; done)
    | (simp only [eqD, pd, PyData.canLay0, PyData.depth] at h; simp at h; subst h; simp [eqV, PyData.eqv]; done)
theorem inV_flat {W : Wd} {H : Hp} {d : D} {x : V} (p : Rep K W H d x) (h1 : flatD d = true) : ∀ {ds : List D} {vs : List V} {k : Bool}, Reps K W H ds vs → ds.all flatD = true → inD d ds = some k → inV x vs = k
  | [], _, _, .nil, _, h => by cases h; rfl
  | e :: ds, _, k, .cons a b, h2, h => by
    rw [List.all_cons, Bool.and_eq_true] at h2
    dsimp only [inD] at h
    unfold inV
    rw [List.any_cons]
    split at h
    · rename_i c
      cases h
      rw [eqV_flat hK a p h2.1 h1 c]; rfl
    · rename_i c
      rw [eqV_flat hK a p h2.1 h1 c]
      exact inV_flat p h1 b h2.2 h
    · cases h
theorem op_in_ (o : Cp) (ho : o = .in_ ∨ o = .nin) : OpR X (compareOp (cpE o)) (rCmp K o) := by
  intro pins s σ H x y v u Q I rx ry ⟨W, S, dx, dy, k, r, px, py, e, q⟩
  rcases ho with rfl | rfl
  · dsimp only [cmpD] at e
    split at e
    · rename_i ys hy
      split at e
      · rename_i c
        rw [Bool.and_eq_true] at c
        obtain ⟨a, vs, rfl, sq, qs⟩ := seq_of r py hy
        refine op_in_seq pins s σ H _ _ v u Q I rx ry ⟨a, vs, rfl, ?_, flat_rep hK px c.1, flat_reps hK qs c.2, ?_⟩
        · cases sq with
          | l h => exact .inl (hK ▸ h)
          | t h => exact .inr (hK ▸ h)
        · show Q (.bl (if false = true then _ else _)) H
          rw [if_neg (by decide), inV_flat hK px c.1 qs c.2 e]; exact q
      · cases e
    · cases e
  · dsimp only [cmpD] at e
    split at e
    · rename_i ys hy
      split at e
      · rename_i c
        rw [Bool.and_eq_true] at c
        obtain ⟨a, vs, rfl, sq, qs⟩ := seq_of r py hy
        cases e' : inD dx ys with
        | none => rw [e'] at e; cases e
        | some b =>
          rw [e'] at e; cases e
          refine op_notIn_seq pins s σ H _ _ v u Q I rx ry ⟨a, vs, rfl, ?_, flat_rep hK px c.1, flat_reps hK qs c.2, ?_⟩
          · cases sq with
            | l h => exact .inl (hK ▸ h)
            | t h => exact .inr (hK ▸ h)
          · show Q (.bl (if true = true then _ else _)) H
            rw [if_pos rfl, inV_flat hK px c.1 qs c.2 e']; exact q
      · cases e
    · cases e
theorem op_ord (o : Cp) (ho : o = .lt ∨ o = .le ∨ o = .gt ∨ o = .ge) : OpR X (compareOp (cpE o)) (rCmp K o) := by
  intro pins s σ H x y v u Q I rx ry ⟨W, S, dx, dy, k, r, px, py, e, q⟩
  rcases ho with rfl | rfl | rfl | rfl
  all_goals
    cases px with
    | int i =>
      cases py with
      | int j =>
        cases e
        first
          | exact op_lt pins s σ H _ _ v u Q I rx ry ⟨i, j, rfl, rfl, q⟩
          | exact op_le pins s σ H _ _ v u Q I rx ry ⟨i, j, rfl, rfl, q⟩
          | exact op_gt pins s σ H _ _ v u Q I rx ry ⟨i, j, rfl, rfl, q⟩
          | exact op_ge pins s σ H _ _ v u Q I rx ry ⟨i, j, rfl, rfl, q⟩
      | _ => cases e
    | _ => cases e
theorem is_non {W : Wd} {H : Hp} {d : D} {v : V} {k : Bool} (p : Rep K W H d v) (h : isD d .non = some k) : k = decide (v = .non) := by
  cases p <;> (cases h; simp)
theorem op_is_ (o : Cp) (ho : o = .is_ ∨ o = .nis) : OpR X (compareOp (cpE o)) (rCmp K o) := by
  intro pins s σ H x y v u Q I rx ry ⟨W, S, dx, dy, k, r, px, py, e, q⟩
  rcases ho with rfl | rfl
  · cases py with
    | non =>
      have e' := is_non hK px e
      subst e'
      exact op_isN pins s σ H _ _ v u Q I rx ry ⟨rfl, q⟩
    | bl b =>
      cases px with
      | bl a => cases e; exact op_isBl pins s σ H _ _ v u Q I rx ry ⟨a, b, rfl, rfl, q⟩
      | _ => cases e
    | _ => cases e
  · cases py with
    | non =>
      dsimp only [cmpD] at e
      cases c : isD dx .non with
      | none => rw [c] at e; cases e
      | some k' =>
        rw [c] at e; cases e
        have e' := is_non hK px c
        subst e'
        exact op_notN pins s σ H _ _ v u Q I rx ry ⟨rfl, q⟩
    | bl b =>
      cases px with
      | bl a => cases e; exact op_notBl pins s σ H _ _ v u Q I rx ry ⟨a, b, rfl, rfl, q⟩
      | _ => cases e
    | _ => cases e
theorem op_cmp (o : Cp) (hu : X.A.units + 200 < cLine) : OpR X (compareOp (cpE o)) (rCmp K o) := by
  cases o with
  | eq => exact op_eq_ hK _ (.inl rfl) hu
  | ne => exact op_eq_ hK _ (.inr rfl) hu
  | lt => exact op_ord hK _ (.inl rfl)
  | le => exact op_ord hK _ (.inr (.inl rfl))
  | gt => exact op_ord hK _ (.inr (.inr (.inl rfl)))
  | ge => exact op_ord hK _ (.inr (.inr (.inr rfl)))
  | is_ => exact op_is_ hK _ (.inl rfl)
  | nis => exact op_is_ hK _ (.inr rfl)
  | in_ => exact op_in_ hK _ (.inl rfl)
  | nin => exact op_in_ hK _ (.inr rfl)
end
end Mi
set_option maxHeartbeats 4000000
/-! Mi5: subscripts, slices, built-in functions, methods, by the small language's values. -/
namespace Mi
open PySem PySem.Spec PyProof.Rows L2

theorem CallR.or {X : Cx} {f : Value} {r r' : List V → Hp → VK → Prop} (h : CallR X f r) (h' : CallR X f r') : CallR X f (fun vs H Q => r vs H Q ∨ r' vs H Q) := by
  intro pins s σ H xs us Q I rv q
  rcases q with q | q
  · exact h pins s σ H xs us Q I rv q
  · exact h' pins s σ H xs us Q I rv q

theorem Reps.atI {K : Frg} {W : Wd} {H : Hp} {ds : List D} {vs : List V} {i : Int} {d : D} (r : Reps K W H ds vs) (h : L2.atI ds i = some d) : ∃ v, L2.atI vs i = some v ∧ Rep K W H d v := by
  unfold L2.atI at h ⊢
  rw [← r.length]
  cases e : ixN ds.length i with
  | none => rw [e] at h; cases h
  | some j =>
    rw [e] at h
    exact r.get h
theorem atI_map {α β : Type} (f : α → β) (xs : List α) (i : Int) : L2.atI (xs.map f) i = (L2.atI xs i).map f := by
  unfold L2.atI
  rw [List.length_map]
  cases ixN xs.length i with
  | none => rfl
  | some j => simp
theorem Reps.cut {K : Frg} {W : Wd} {H : Hp} {ds : List D} {vs : List V} (r : Reps K W H ds vs) (lo hi : Option Int) : Reps K W H (cutD ds lo hi) (cutV vs lo hi) := by
  unfold cutD cutV
  rw [r.length]
  exact (r.drop _).take _
theorem cut_map {α β : Type} (f : α → β) (xs : List α) (lo hi : Option Int) : cutD (xs.map f) lo hi = (cutD xs lo hi).map f := by
  unfold cutD
  rw [List.length_map, List.map_take, List.map_drop]

def rIxD (K : Frg) : R2 := fun x y H Q => ∃ W S dx dy z, Rel K W S H ∧ Rep K W H dx x ∧ Rep K W H dy y ∧ ixD S dx dy = some z ∧ Out K W S H z S Q
def rSlD (K : Frg) : V → Option Int → Option Int → Hp → VK → Prop := fun x lo hi H Q => ∃ W S dx z, Rel K W S H ∧ Rep K W H dx x ∧ slD S dx lo hi = some z ∧ Out K W S H z S Q
def rBi (K : Frg) (b : Bi) : List V → Hp → VK → Prop := fun vs H Q => ∃ W S ds z, Rel K W S H ∧ Reps K W H ds vs ∧ biD b S ds = some z ∧ Out K W S H z S Q
def rMt (K : Frg) (m : Mt) : V → List V → Hp → VK → Prop := fun x vs H Q => ∃ W S dx ds z, Rel K W S H ∧ Rep K W H dx x ∧ Reps K W H ds vs ∧ mtD m S dx ds = some z ∧ Out K W S H z.1 z.2 Q

section
variable {X : Cx} {K : Frg} (hK : X.K = K.K)
include hK

/-- d[k], by values -/
theorem ix_dct (hu : X.A.units + 1 < cLine) : IxR X (fun x y H Q => ∃ a v, x = .ref a ∧ DGet H a y (some v) ∧ Q v H) := by
  intro value slice pins s σ H x y v u Q I rx ry ⟨a, w, ex, g, q⟩ hs
  subst ex
  obtain rfl : v = Value.ref a := rx
  exact tail_any (dict_typeIs I g) PySem.F.slot_dict_getitem.lookup (d_getItem hu I g ry fun w' s3 I3 rw' => ⟨w, H, I3, rw', q⟩) hs
theorem kr_get {W : Wd} {H : Hp} {a : Addr} {kvs : List (Key × D)} {vs : List (Key × V)} {k : Key} {d : D} (e : H a = some (.dK vs)) (r : KR K W H kvs vs) (h : lkD kvs k = some d) : ∃ v, DGet H a (kV k) (some v) ∧ Rep K W H d v := by
  obtain ⟨v, h1, h2⟩ := (r.look k).1 d h
  exact ⟨v, h1 ▸ DGet.k e, h2⟩
theorem ix_all (hu : X.A.units + 160 < cLine) : IxR X (rIxD K) := by
  intro value slice pins s σ H x y v u Q I rx ry ⟨W, S, dx, dy, z, r, px, py, e, q⟩ hs
  cases px with
  | tup f p =>
    cases py with
    | int i =>
      obtain ⟨w, h1, h2⟩ := p.atI e
      exact ix_tup value slice pins s σ H _ _ v u Q I rx ry ⟨_, _, i, w, rfl, rfl, hK ▸ f.sq, h1, q.now r h2⟩ hs
    | _ => cases e
  | lst _ l p =>
    cases py with
    | int i =>
      obtain ⟨w, h1, h2⟩ := p.atI e
      exact ix_list value slice pins s σ H _ _ v u Q I rx ry ⟨_, _, i, w, rfl, rfl, SqL.of l, h1, q.now r h2⟩ hs
    | _ => cases e
  | scr f =>
    cases py with
    | int i =>
      dsimp only [ixD] at e
      rw [← atI_map] at e
      obtain ⟨w, h1, h2⟩ := (Reps.ints (K := K) (W := W) (H := H) _).atI e
      exact ix_list value slice pins s σ H _ _ v u Q I rx ry ⟨_, _, i, w, rfl, rfl, hK ▸ f.sq, h1, q.now r h2⟩ hs
    | _ => cases e
  | @loc n a hn =>
    dsimp only [ixD] at e
    split at e
    · rename_i xs i hx
      cases py
      obtain ⟨vs, l, p⟩ := loc_lst r hx hn
      obtain ⟨w, h1, h2⟩ := p.atI e
      exact ix_list value slice pins s σ H _ _ v u Q I rx ry ⟨_, _, _, w, rfl, rfl, SqL.of l, h1, q.now r h2⟩ hs
    · rename_i xs i hx
      cases py
      obtain ⟨vs, l, p⟩ := loc_dic r hx hn
      obtain ⟨w, h1, h2⟩ := kr_get hK l p e
      exact ix_dct hK (by omega) value slice pins s σ H _ _ v u Q I rx ry ⟨a, w, rfl, h1, q.now r h2⟩ hs
    · rename_i xs i hx
      cases py
      obtain ⟨vs, l, p⟩ := loc_dic r hx hn
      obtain ⟨w, h1, h2⟩ := kr_get hK l p e
      exact ix_dct hK (by omega) value slice pins s σ H _ _ v u Q I rx ry ⟨a, w, rfl, h1, q.now r h2⟩ hs
    · cases e
  | str x =>
    cases py with
    | int i =>
      dsimp only [ixD] at e
      split at e
      · rename_i hz
        cases c : L2.atI x.cps.toList i with
        | none => rw [c] at e; cases e
        | some ch =>
          rw [c] at e; cases e
          exact ix_str value slice pins s σ H _ _ v u Q I rx ry ⟨x, i, ch, rfl, rfl, hz, c, q.now r (.str _)⟩ hs
      · cases e
    | _ => cases e
  | _ => cases e

theorem sl_all : SlR X (rSlD K) := by
  intro pins s σ H x v vl vu lo hi sl Q I rx hs pl pu ⟨W, S, dx, z, r, px, e, q⟩
  cases px with
  | tup f p =>
    cases e
    refine sl_tupA pins s σ H _ v vl vu lo hi sl Q I rx hs pl pu ⟨_, _, rfl, hK ▸ f.sq, fun h => ?_, fun h => q.tup r (p.cut lo hi)⟩
    refine q.now r ?_
    have w : ∀ {ds : List D} {vs : List V}, Reps K W H ds vs → HT.sIx vs.length 0 lo = 0 ∧ HT.sIx vs.length vs.length hi = vs.length → cutD ds lo hi = ds := fun {ds vs} p h => by
      unfold cutD
      rw [p.length, h.1, h.2, List.drop_zero, Nat.sub_zero, ← p.length, List.take_length]
    rw [w p h]
    exact .tup f p
  | lst _ l p =>
    cases e
    exact sl_list pins s σ H _ v vl vu lo hi sl Q I rx hs pl pu ⟨_, _, rfl, SqL.of l, q.lst r (p.cut lo hi)⟩
  | scr f =>
    cases e
    refine sl_list pins s σ H _ v vl vu lo hi sl Q I rx hs pl pu ⟨_, _, rfl, hK ▸ f.sq, ?_⟩
    rw [← cut_map] at q
    exact q.lst r ((Reps.ints _).cut lo hi)
  | @loc n a hn =>
    dsimp only [slD] at e
    split at e
    · rename_i xs hx
      cases e
      obtain ⟨vs, l, p⟩ := loc_lst r hx hn
      exact sl_list pins s σ H _ v vl vu lo hi sl Q I rx hs pl pu ⟨_, _, rfl, SqL.of l, q.lst r (p.cut lo hi)⟩
    · cases e
  | _ => cases e

/-! ### built-in functions -/
theorem bls_of {W : Wd} {H : Hp} : ∀ {ds : List D} {vs : List V} {bs : List Bool}, Reps K W H ds vs → blsD ds = some bs → vs = bs.map V.bl
  | [], _, _, .nil, h => by cases h; rfl
  | .bl b :: ds, _, bs, .cons p q, h => by
    cases p
    dsimp only [blsD] at h
    cases c : blsD ds with
    | none => rw [c] at h; cases h
    | some b' => rw [c] at h; cases h; rw [bls_of q c]; rfl
  | .non :: _, _, _, .cons _ _, h => by cases h
  | .int _ :: _, _, _, .cons _ _, h => by cases h
  | .str _ :: _, _, _, .cons _ _, h => by cases h
  | .tup _ :: _, _, _, .cons _ _, h => by cases h
  | .lst _ :: _, _, _, .cons _ _, h => by cases h
  | .scr _ :: _, _, _, .cons _ _, h => by cases h
  | .loc _ :: _, _, _, .cons _ _, h => by cases h
  | .kd _ :: _, _, _, .cons _ _, h => by cases h
theorem bi_len : CallR X (.builtin "len") (rBi K .len) := by
  intro pins s σ H vs us Q I rv ⟨W, S, ds, z, r, p, e, q⟩
  match ds, p with
  | [d], .cons (v := v) px .nil =>
    dsimp only [biD, bi1] at e
    cases c : lenD S d with
    | none => rw [c] at e; cases e
    | some n =>
      rw [c] at e; cases e
      refine call_len pins s σ H _ us Q I rv ⟨v, n, rfl, ?_, q.now r (.int _)⟩
      cases px with
      | str x =>
        dsimp only [lenD] at c
        split at c
        · rename_i h; cases c; exact ⟨h, rfl⟩
        · cases c
      | _ =>
        dsimp only [lenD] at c
        cases c' : seqD S _ with
        | none => rw [c'] at c; cases c
        | some xs =>
          rw [c'] at c; cases c
          first
            | (obtain ⟨a, ws, ev, sq, qs⟩ := seq_of r (by first | exact Rep.tup (by assumption) (by assumption) | exact Rep.lst (by assumption) (by assumption) (by assumption) | exact Rep.scr (by assumption) | exact Rep.loc (by assumption)) c'
               cases ev
               cases sq with
               | l h => exact .inl ⟨_, hK ▸ h, qs.length⟩
               | t h => exact .inr ⟨_, hK ▸ h, qs.length⟩)
            | cases c'
  | [], .nil => cases e
  | [_, _], .cons _ (.cons _ .nil) => cases e
  | _ :: _ :: _ :: _, .cons _ (.cons _ (.cons _ _)) => cases e
theorem bi_str : CallR X (.type "str") (rBi K .str) := by
  intro pins s σ H vs us Q I rv ⟨W, S, ds, z, r, p, e, q⟩
  match ds, p with
  | [d], .cons (v := v) px .nil =>
    cases px with
    | int i =>
      dsimp only [biD, bi1] at e
      split at e
      · rename_i h; cases e
        exact call_str_int pins s σ H _ us Q I rv ⟨i, rfl, h, q.now r (.str _)⟩
      · cases e
    | str x => cases e; exact SkE.call_str_str pins s σ H _ us Q I rv ⟨x, rfl, q.now r (.str _)⟩
    | _ => cases e
  | [], .nil => cases e
  | [_, _], .cons _ (.cons _ .nil) => cases e
  | _ :: _ :: _ :: _, .cons _ (.cons _ (.cons _ _)) => cases e
theorem bi_int : CallR X (.type "int") (rBi K .int) := by
  intro pins s σ H vs us Q I rv ⟨W, S, ds, z, r, p, e, q⟩
  match ds, p with
  | [d], .cons (v := v) px .nil =>
    cases px with
    | int i => (replace e : some _ = some z := e); cases e; exact call_int1 pins s σ H _ us Q I rv (.inl ⟨i, rfl, q.now r (.int _)⟩)
    | bl b => cases e; exact call_int1 pins s σ H _ us Q I rv (.inr ⟨b, rfl, q.now r (.int _)⟩)
    | _ => cases e
  | [], .nil => cases e
  | [_, _], .cons _ (.cons _ .nil) => cases e
  | _ :: _ :: _ :: _, .cons _ (.cons _ (.cons _ _)) => cases e
theorem seq_or {W : Wd} {S : Sto} {H : Hp} {x : D} {v : V} {xs : List D} (r : Rel K W S H) (p : Rep K W H x v) (h : seqD S x = some xs) :
    ∃ a vs, v = .ref a ∧ ((SqL X.K H a vs) ∨ (SqT X.K H a vs ∧ x = .tup xs)) ∧ Reps K W H xs vs := by
  cases p with
  | tup f q => cases h; exact ⟨_, _, rfl, .inr ⟨hK ▸ f.sq, rfl⟩, q⟩
  | lst _ e q => cases h; exact ⟨_, _, rfl, .inl (SqL.of e), q⟩
  | scr f => cases h; exact ⟨_, _, rfl, .inl (hK ▸ f.sq), .ints _⟩
  | @loc n a e =>
    dsimp only [seqD] at h
    split at h
    · rename_i ys q
      cases h
      obtain ⟨vs, h2, h3⟩ := loc_lst r q e
      exact ⟨_, _, rfl, .inl (SqL.of h2), h3⟩
    · cases h
  | _ => cases h
theorem bi_tuple : CallR X (.type "tuple") (rBi K .tuple) := by
  intro pins s σ H vs us Q I rv ⟨W, S, ds, z, r, p, e, q⟩
  match ds, p with
  | [d], .cons (v := v) px .nil =>
    dsimp only [biD, bi1] at e
    cases c : seqD S d with
    | none => rw [c] at e; cases e
    | some xs =>
      rw [c] at e; cases e
      obtain ⟨a, ws, rfl, sq, qs⟩ := seq_or hK r px c
      rcases sq with h | ⟨h, rfl⟩
      · exact call_tuple_of pins s σ H _ us Q I rv ⟨a, ws, rfl, .inl ⟨h, q.tup r qs⟩⟩
      · exact call_tuple_of pins s σ H _ us Q I rv ⟨a, ws, rfl, .inr ⟨h, q.now r px⟩⟩
  | [], .nil => cases e
  | [_, _], .cons _ (.cons _ .nil) => cases e
  | _ :: _ :: _ :: _, .cons _ (.cons _ (.cons _ _)) => cases e
theorem bi_list : CallR X (.type "list") (rBi K .list) := by
  intro pins s σ H vs us Q I rv ⟨W, S, ds, z, r, p, e, q⟩
  match ds, p with
  | [d], .cons (v := v) px .nil =>
    dsimp only [biD, bi1] at e
    cases c : seqD S d with
    | none => rw [c] at e; cases e
    | some xs =>
      rw [c] at e; cases e
      obtain ⟨a, ws, rfl, sq, qs⟩ := seq_or hK r px c
      refine call_list_of pins s σ H _ us Q I rv ⟨a, ws, rfl, ?_, q.lst r qs⟩
      rcases sq with h | ⟨h, rfl⟩
      · exact .inl h
      · exact .inr h
  | [], .nil => cases e
  | [_, _], .cons _ (.cons _ .nil) => cases e
  | _ :: _ :: _ :: _, .cons _ (.cons _ (.cons _ _)) => cases e
theorem bi_max2 (hc : X.calm = true) : CallR X (.builtin "max") (rBi K .max2) := by
  intro pins s σ H vs us Q I rv ⟨W, S, ds, z, r, p, e, q⟩
  match ds, p with
  | [d1, d2], .cons p1 (.cons p2 .nil) =>
    cases p1 with
    | int i =>
      cases p2 with
      | int j =>
        cases e
        refine call_max2 hc pins s σ H _ us Q I rv ⟨i, j, rfl, ?_⟩
        have w : (if j > i then j else i) = max i j := by
          rw [Int.max_def]; split <;> split <;> omega
        rw [w]; exact q.now r (.int _)
      | _ => cases e
    | _ => cases e
  | [], .nil => cases e
  | [_], .cons _ .nil => cases e
  | _ :: _ :: _ :: _, .cons _ (.cons _ (.cons _ _)) => cases e
theorem bi_min2 (hc : X.calm = true) : CallR X (.builtin "min") (rBi K .min2) := by
  intro pins s σ H vs us Q I rv ⟨W, S, ds, z, r, p, e, q⟩
  match ds, p with
  | [d1, d2], .cons p1 (.cons p2 .nil) =>
    cases p1 with
    | int i =>
      cases p2 with
      | int j =>
        cases e
        refine call_min2 hc pins s σ H _ us Q I rv ⟨i, j, rfl, ?_⟩
        have w : (if j < i then j else i) = min i j := by
          rw [Int.min_def]; split <;> split <;> omega
        rw [w]; exact q.now r (.int _)
      | _ => cases e
    | _ => cases e
  | [], .nil => cases e
  | [_], .cons _ .nil => cases e
  | _ :: _ :: _ :: _, .cons _ (.cons _ (.cons _ _)) => cases e
theorem bi_all (hc : X.calm = true) : CallR X (.builtin "all") (rBi K .all) := by
  intro pins s σ H vs us Q I rv ⟨W, S, ds, z, r, p, e, q⟩
  match ds, p with
  | [d], .cons (v := v) px .nil =>
    dsimp only [biD, bi1] at e
    split at e
    · rename_i xs c
      cases c' : blsD xs with
      | none => rw [c'] at e; cases e
      | some bs =>
        rw [c'] at e; cases e
        obtain ⟨a, ws, rfl, l, qs⟩ := lst_of r px c
        have w := bls_of hK qs c'
        subst w
        exact cr_all hc pins s σ H _ us Q I rv ⟨a, bs, rfl, SqL.of l, q.now r (.bl _)⟩
    · cases e
  | [], .nil => cases e
  | [_, _], .cons _ (.cons _ .nil) => cases e
  | _ :: _ :: _ :: _, .cons _ (.cons _ (.cons _ _)) => cases e
theorem bi_any (hc : X.calm = true) : CallR X (.builtin "any") (rBi K .any) := by
  intro pins s σ H vs us Q I rv ⟨W, S, ds, z, r, p, e, q⟩
  match ds, p with
  | [d], .cons (v := v) px .nil =>
    dsimp only [biD, bi1] at e
    split at e
    · rename_i xs c
      cases c' : blsD xs with
      | none => rw [c'] at e; cases e
      | some bs =>
        rw [c'] at e; cases e
        obtain ⟨a, ws, rfl, l, qs⟩ := lst_of r px c
        have w := bls_of hK qs c'
        subst w
        exact cr_any hc pins s σ H _ us Q I rv ⟨a, bs, rfl, SqL.of l, q.now r (.bl _)⟩
    · cases e
  | [], .nil => cases e
  | [_, _], .cons _ (.cons _ .nil) => cases e
  | _ :: _ :: _ :: _, .cons _ (.cons _ (.cons _ _)) => cases e
theorem ints_of {W : Wd} {H : Hp} : ∀ {ds : List D} {vs : List V} {bs : List Int}, Reps K W H ds vs → intsD ds = some bs → vs = bs.map V.int
  | [], _, _, .nil, h => by cases h; rfl
  | .int b :: ds, _, bs, .cons p q, h => by
    cases p
    dsimp only [intsD] at h
    cases c : intsD ds with
    | none => rw [c] at h; cases h
    | some b' => rw [c] at h; cases h; rw [ints_of q c]; rfl
  | .non :: _, _, _, .cons _ _, h => by cases h
  | .bl _ :: _, _, _, .cons _ _, h => by cases h
  | .str _ :: _, _, _, .cons _ _, h => by cases h
  | .tup _ :: _, _, _, .cons _ _, h => by cases h
  | .lst _ :: _, _, _, .cons _ _, h => by cases h
  | .scr _ :: _, _, _, .cons _ _, h => by cases h
  | .loc _ :: _, _, _, .cons _ _, h => by cases h
  | .kd _ :: _, _, _, .cons _ _, h => by cases h
omit hK in
theorem foldl_max : ∀ (ns : List Int) (n : Int), (ns.foldl max n ∈ n :: ns) ∧ ∀ y ∈ n :: ns, y ≤ ns.foldl max n
  | [], n => by simp
  | m :: ns, n => by
    obtain ⟨h1, h2⟩ := foldl_max ns (max n m)
    refine ⟨?_, fun y hy => ?_⟩
    · rw [List.foldl_cons]
      rcases List.mem_cons.mp h1 with e | e
      · rw [e]
        rcases Int.le_total n m with l | l
        · rw [Int.max_eq_right l]; simp
        · rw [Int.max_eq_left l]; simp
      · simp [e]
    · rw [List.foldl_cons]
      have h3 := h2 (max n m) (by simp)
      rcases List.mem_cons.mp hy with rfl | hy
      · omega
      · rcases List.mem_cons.mp hy with rfl | hy
        · omega
        · exact h2 y (by simp [hy])
omit hK in
theorem foldl_min : ∀ (ns : List Int) (n : Int), (ns.foldl min n ∈ n :: ns) ∧ ∀ y ∈ n :: ns, ns.foldl min n ≤ y
  | [], n => by simp
  | m :: ns, n => by
    obtain ⟨h1, h2⟩ := foldl_min ns (min n m)
    refine ⟨?_, fun y hy => ?_⟩
    · rw [List.foldl_cons]
      rcases List.mem_cons.mp h1 with e | e
      · rw [e]
        rcases Int.le_total n m with l | l
        · rw [Int.min_eq_left l]; simp
        · rw [Int.min_eq_right l]; simp
      · simp [e]
    · rw [List.foldl_cons]
      have h3 := h2 (min n m) (by simp)
      rcases List.mem_cons.mp hy with rfl | hy
      · omega
      · rcases List.mem_cons.mp hy with rfl | hy
        · omega
        · exact h2 y (by simp [hy])
theorem bi_sum (hc : X.calm = true) : CallR X (.builtin "sum") (rBi K .sum) := by
  intro pins s σ H vs us Q I rv ⟨W, S, ds, z, r, p, e, q⟩
  match ds, p with
  | [d], .cons (v := v) px .nil =>
    dsimp only [biD, bi1] at e
    split at e
    · rename_i xs c
      cases c' : intsD xs with
      | none => rw [c'] at e; cases e
      | some bs =>
        rw [c'] at e; cases e
        obtain ⟨a, ws, rfl, l, qs⟩ := lst_of r px c
        have w := ints_of hK qs c'
        subst w
        exact cr_sum hc pins s σ H _ us Q I rv ⟨a, bs, rfl, SqL.of l, q.now r (.int _)⟩
    · cases e
  | [], .nil => cases e
  | [_, _], .cons _ (.cons _ .nil) => cases e
  | _ :: _ :: _ :: _, .cons _ (.cons _ (.cons _ _)) => cases e
theorem bi_max1 (hc : X.calm = true) : CallR X (.builtin "max") (rBi K .max1) := by
  intro pins s σ H vs us Q I rv ⟨W, S, ds, z, r, p, e, q⟩
  match ds, p with
  | [d], .cons (v := v) px .nil =>
    dsimp only [biD, bi1] at e
    split at e
    · rename_i xs c
      split at e
      · rename_i m ms c'
        cases e
        obtain ⟨a, ws, rfl, l, qs⟩ := lst_of r px c
        have w := ints_of hK qs c'
        subst w
        refine cr_max hc pins s σ H _ us Q I rv ⟨a, m :: ms, rfl, SqL.of l, by simp, fun y hy hm => ?_⟩
        obtain ⟨k1, k2⟩ := foldl_max ms m
        have ey : y = ms.foldl max m := Int.le_antisymm (k2 y hy) (hm _ k1)
        rw [ey]; exact q.now r (.int _)
      · cases e
    · cases e
  | [], .nil => cases e
  | [_, _], .cons _ (.cons _ .nil) => cases e
  | _ :: _ :: _ :: _, .cons _ (.cons _ (.cons _ _)) => cases e
theorem bi_min1 (hc : X.calm = true) : CallR X (.builtin "min") (rBi K .min1) := by
  intro pins s σ H vs us Q I rv ⟨W, S, ds, z, r, p, e, q⟩
  match ds, p with
  | [d], .cons (v := v) px .nil =>
    dsimp only [biD, bi1] at e
    split at e
    · rename_i xs c
      split at e
      · rename_i m ms c'
        cases e
        obtain ⟨a, ws, rfl, l, qs⟩ := lst_of r px c
        have w := ints_of hK qs c'
        subst w
        refine cr_min hc pins s σ H _ us Q I rv ⟨a, m :: ms, rfl, SqL.of l, by simp, fun y hy hm => ?_⟩
        obtain ⟨k1, k2⟩ := foldl_min ms m
        have ey : y = ms.foldl min m := Int.le_antisymm (hm _ k1) (k2 y hy)
        rw [ey]; exact q.now r (.int _)
      · cases e
    · cases e
  | [], .nil => cases e
  | [_, _], .cons _ (.cons _ .nil) => cases e
  | _ :: _ :: _ :: _, .cons _ (.cons _ (.cons _ _)) => cases e
end
end Mi
set_option maxHeartbeats 4000000
/-! Mi6: repr, isinstance, methods, items stored. -/
namespace Mi
open PySem PySem.Spec PyProof.Rows L2

mutual
theorem pd_noDict : ∀ {x : D} {d : PyData}, pd x = some d → d.hasDict = false
  | .non, _, h => by cases h; simp only [PyData.hasDict]
  | .bl _, _, h => by cases h; simp only [PyData.hasDict]
  | .int _, _, h => by cases h; simp only [PyData.hasDict]
  | .str _, _, h => by cases h; simp only [PyData.hasDict]
  | .tup xs, _, h => by
    unfold pd at h
    cases e : pds xs with
    | none => rw [e] at h; cases h
    | some ds => rw [e] at h; cases h; simp only [PyData.hasDict]; exact pds_noDict e
  | .lst xs, _, h => by
    unfold pd at h
    cases e : pds xs with
    | none => rw [e] at h; cases h
    | some ds => rw [e] at h; cases h; simp only [PyData.hasDict]; exact pds_noDict e
  | .scr ns, _, h => by
    cases h
    simp only [PyData.hasDict]
    induction ns with
    | nil => simp only [List.map_nil, PyData.hasDictAll]
    | cons n ns ih => simp only [List.map_cons, PyData.hasDictAll, PyData.hasDict, ih, Bool.or_self]
  | .loc _, _, h => by cases h
  | .kd _, _, h => by cases h
theorem pds_noDict : ∀ {xs : List D} {ds : List PyData}, pds xs = some ds → PyData.hasDictAll ds = false
  | [], _, h => by cases h; simp only [PyData.hasDictAll]
  | x :: xs, _, h => by
    unfold pds at h
    cases e : pd x with
    | none => rw [e] at h; simp at h
    | some d =>
      cases e' : pds xs with
      | none => rw [e, e'] at h; cases h
      | some ds => rw [e, e'] at h; cases h; simp only [PyData.hasDictAll, pd_noDict e, pds_noDict e', Bool.or_self]
end

section
variable {X : Cx} {K : Frg} (hK : X.K = K.K)
include hK
theorem bi_repr (hg : X.A.guards = some []) (hu : X.A.units + 160 < cLine) : CallR X (.builtin "repr") (rBi K .repr) := by
  intro pins s σ H vs us Q I rv ⟨W, S, ds, z, r, p, e, q⟩
  match ds, p with
  | [d], .cons (v := v) px .nil =>
    dsimp only [biD, bi1, reprD] at e
    cases c : pd d with
    | none => rw [c] at e; cases e
    | some y =>
      rw [c] at e
      dsimp only at e
      split at e
      · rename_i h
        cases e
        simp only [Bool.and_eq_true, decide_eq_true_eq] at h
        obtain ⟨⟨h1, h2⟩, h3⟩ := h
        obtain ⟨u, rfl, ru⟩ := vals1 rv
        have hQ : ∀ h' (u : Tok) tk, (∀ b o, s.heap.get? b = some o → h'.get? b = some o) → EP X pins σ Q (.str y.shown u) { s with heap := h', toks := tk } :=
          fun h' u tk k => ⟨.str y.shown, H, I.kept k, ⟨u, rfl⟩, q.now r (.str _)⟩
        obtain ⟨as, r1⟩ := Dp.reads I y v u (hK ▸ pd_dp px c) ru
        cases px with
        | non => cases c; cases ru; exact PySem.P.repr_of_none (by simpa only [PyData.shown] using hQ s.heap _ _ fun _ _ e => e)
        | bl b => cases c; cases ru; exact PySem.P.repr_of_bool (by simpa only [PyData.shown] using hQ s.heap _ _ fun _ _ e => e)
        | int i => cases c; obtain ⟨t, rfl⟩ := ru; exact PySem.P.repr_of_int (by simpa [PyData.showable] using h1) (by simpa only [PyData.shown] using hQ s.heap _ _ fun _ _ e => e)
        | str x => cases c; obtain ⟨t, rfl⟩ := ru; exact PySem.P.repr_of_str (by simpa only [PyData.shown] using hQ s.heap _ _ fun _ _ e => e) (by simpa only [PyData.shown] using h2)
        | loc _ => cases c
        | kd _ => cases c
        | tup _ _ => cases ru; exact repr_of_reads' r1 h1 (PyData.noDict_hsm (pd_noDict c)) hg (by omega) (fun _ _ e => e) hQ h2
        | lst _ _ _ => cases ru; exact repr_of_reads' r1 h1 (PyData.noDict_hsm (pd_noDict c)) hg (by omega) (fun _ _ e => e) hQ h2
        | scr _ => cases ru; exact repr_of_reads' r1 h1 (PyData.noDict_hsm (pd_noDict c)) hg (by omega) (fun _ _ e => e) hQ h2
      · cases e
  | [], .nil => cases e
  | [_, _], .cons _ (.cons _ .nil) => cases e
  | _ :: _ :: _ :: _, .cons _ (.cons _ (.cons _ _)) => cases e

/-! ### isinstance -/
theorem kind_ty {W : Wd} {S : Sto} {H : Hp} {d : D} {v : V} {k : String} (r : Rel K W S H) (p : Rep K W H d v) (h : kindD S d = some k) : TyX X.K H v (.type k) := by
  cases p with
  | non => cases h; exact .base .non
  | bl b => cases h; exact .base (.bl b)
  | int i => cases h; exact .base (.int i)
  | str x => cases h; exact .base (.str x)
  | tup f q =>
    cases h
    rcases f with ⟨_, e⟩ | f
    · exact .base (.tup e)
    · rcases f (fun _ => none) with e | ⟨o, its, n, hk, hc, _⟩
      · rcases e with e | ⟨_, e⟩ <;> cases e
      · exact .kTuple (hK ▸ hk) hc
  | lst _ e q => cases h; exact .base (.lst e)
  | scr _ => cases h
  | @loc n a e =>
    dsimp only [kindD] at h
    split at h
    · rename_i xs hx
      cases h
      obtain ⟨vs, l, _⟩ := loc_lst r hx e
      exact .base (.lst l)
    · rename_i xs hx
      cases h
      obtain ⟨vs, l, _⟩ := loc_dic r hx e
      exact .base (.dK l)
    · cases h
  | kd _ => cases h
/-- isinstance(x, T): asks of x alone -/
def rIsiD (K : Frg) (t : Nat) : List V → Hp → VK → Prop := fun vs H Q => ∃ W S d v k, vs = [v, .ty (tyNm t)] ∧ Rel K W S H ∧ Rep K W H d v ∧ isiD S d t = some k ∧ Q (.bl k) H
theorem kit_all (K : PySem.W.Frag) (t : Nat) {k : String} (hk : k ∈ (["NoneType", "bool", "int", "str", "tuple", "list", "dict"] : List String)) : PySem.W.kitOne K (.type k) (.type (tyNm t)) = some (k == tyNm t || (k == "bool" && t == 0)) := by
  have ht : t = 0 ∨ t = 1 ∨ t = 2 ∨ t = 3 ∨ t = 4 ∨ 5 ≤ t := by omega
  have h5 : ∀ t, 5 ≤ t → tyNm t = "dict" ∧ (t == 0) = false := fun t h => by
    match t, h with
    | t + 5, _ => exact ⟨rfl, rfl⟩
  simp only [List.mem_cons, List.not_mem_nil, or_false] at hk
  rcases ht with rfl | rfl | rfl | rfl | rfl | h
  all_goals first
    | (rcases hk with rfl | rfl | rfl | rfl | rfl | rfl | rfl <;> exact kit_ty (by decide +kernel))
    | (rw [(h5 t h).1, (h5 t h).2]; rcases hk with rfl | rfl | rfl | rfl | rfl | rfl | rfl <;> exact kit_ty (by decide +kernel))
theorem kind_mem {S : Sto} {d : D} {k : String} (h : kindD S d = some k) : k ∈ (["NoneType", "bool", "int", "str", "tuple", "list", "dict"] : List String) := by
  cases d <;> first
    | (cases h; simp; done)
    | (cases h; done)
    | (dsimp only [kindD] at h; split at h <;> first | (cases h; simp; done) | cases h)
theorem isi_all (t : Nat) : CallR X (.builtin "isinstance") (rIsiD K t) := by
  intro pins s σ H vs us Q I rv ⟨W, S, d, v, k, ev, r, p, e, q⟩
  unfold isiD at e
  cases c : kindD S d with
  | none => rw [c] at e; cases e
  | some kd =>
    rw [c] at e; cases e
    exact call_isi pins s σ H _ us Q I rv ⟨v, .ty (tyNm t), .type kd, .type (tyNm t), _, ev, .ty _, kind_ty hK r p c, kit_all hK X.K t (kind_mem hK c), q⟩
end
end Mi
set_option maxHeartbeats 4000000
/-! Mi7: the small language's text stands for the program's text. -/
namespace Mi
open PySem PySem.Spec PyProof.Rows L2

structure SC where
  N : List Str
  sc : Scope
  fc : Str → Bool
  T : Tab
def visB (s : Scope) (x : Str) : Bool := match s.names.lookup x with
  | some .local => true
  | some .cell => true
  | some .free => true
  | _ => false
def glbB (s : Scope) (x : Str) : Bool := match s.names.lookup x with
  | some .globalImplicit => true
  | _ => false
/-- a name that may be stored -/
def stoB (c : SC) (x : Str) : Bool := match c.sc.names.lookup x with
  | some .local => true
  | some .cell => c.fc x
  | _ => false
def odd (x : Str) : Bool := x == "__debug__" || x == "__classdict__" || x == "__name__"
def keyE : Key → Expr → Bool
  | .inl i, .Constant (.int j) _ _ => i == j
  | .inr x, .Constant (.str y) _ _ => x == y
  | _, _ => false
def keysE : List Key → List (Option Expr) → Bool
  | [], [] => true
  | k :: ks, some e :: es => keyE k e && keysE ks es
  | _, _ => false
def notSet : Expr → Bool
  | .Set .. => false
  | _ => true
def ckNames (c : SC) : List Nat → List Expr → Bool
  | [], [] => true
  | i :: is, .Name x _ :: es => c.N[i]? == some x && stoB c x && ckNames c is es
  | _, _ => false
def ckTg (c : SC) : Tg → Expr → Bool
  | .nm i, .Name x _ => c.N[i]? == some x && stoB c x
  | .tp is, .Tuple es _ _ => ckNames c is es
  | _, _ => false
def tgSlots : Tg → List Nat
  | .nm i => [i]
  | .tp is => is
/-- a comprehension's own scope, seen from within -/
def inner (c : SC) (scope : Scope) : SC := ⟨c.N, relS scope c.sc, fun x => scope.names.lookup x == some .cell, c.T⟩
def ownOf (N : List Str) (own : List Nat) : List (Str × Nat) := own.map fun i => (N.getD i "", i)
def notCall : Expr → Bool
  | .Call .. => false
  | _ => true
def isTup : Expr → Bool
  | .Tuple .. => true
  | _ => false

/-- what may be seen as frozen -/
def fzOk : Expr → Bool
  | .Call .. => true
  | .Name .. => true
  | .List .. => true
  | .ListComp .. => true
  | _ => false

mutual
def ckE : E → SC → Expr → Bool
  | .var i, c, .Name x _ => c.N[i]? == some x && visB c.sc x && !odd x
  | .int i, _, .Constant (.int j) _ _ => i == j
  | .str x, _, .Constant (.str y) _ _ => x == y
  | .bl b, _, .Constant (.bool d) _ _ => b == d
  | .non, _, .Constant .none _ _ => true
  | .cst i, c, .Name x _ => (c.T.cst[i]?.map (·.1)) == some x && glbB c.sc x && !odd x
  | .tup es, c, .Tuple xs _ _ => ckEs es c xs
  | .lst es, c, .List xs _ => ckEs es c xs
  | .mls es, c, .List xs _ => ckEs es c xs
  | .dic ks es, c, .Dict keys vals _ => keysE ks keys && ckEs es c vals && decide ks.Nodup && decide (ks.length ≤ 15) && decide (keys.length = vals.length)
  | .bin o a b, c, .BinOp l p r _ => (opE o == p) && ckE a c l && ckE b c r
  | .cmp o a b, c, .Compare l [p] [r] _ => (cpE o == p) && ckE a c l && ckE b c r && notSet r
  | .chn o o' a b d, c, .Compare l [p, p'] [r, t] _ => (cpE o == p) && (cpE o' == p') && ckE a c l && ckE b c r && ckE d c t && notSet t
  | .and a b, c, .BoolOp .And (x :: y :: rest) pos => ckE a c x && (if rest.isEmpty then ckE b c y else ckE b c (.BoolOp .And (y :: rest) pos))
  | .or a b, c, .BoolOp .Or (x :: y :: rest) pos => ckE a c x && (if rest.isEmpty then ckE b c y else ckE b c (.BoolOp .Or (y :: rest) pos))
  | .not a, c, .UnaryOp .Not x _ => ckE a c x
  | .neg a, c, .UnaryOp .USub x _ => ckE a c x
  | .ife t a b, c, .IfExp x y z _ => ckE t c x && ckE a c y && ckE b c z
  | .ix a b, c, .Subscript v s _ => ckE a c v && ckE b c s
  | .sl a lo hi, c, .Subscript v (.Slice l h none _) _ => ckE a c v && ckO lo c l && ckO hi c h
  | .rev a, c, .Subscript v (.Slice none none (some (.UnaryOp .USub (.Constant (.int 1) _ _) _)) _) _ => ckE a c v
  | .call f es, c, .Call (.Name x _) args [] _ => (c.T.fn[f]? == some x) && glbB c.sc x && !odd x && ckEs es c args
  | .bif b es, c, .Call (.Name x _) (a :: args) [] _ => (biNm b == x) && glbB c.sc x && ckEs es c (a :: args)
  | .isi a t, c, .Call (.Name x _) [v, .Name y _] [] _ => (x == "isinstance") && glbB c.sc x && (y == Str.ofString (tyNm t)) && glbB c.sc y && ckE a c v
  | .mli a, c, .Call (.Name x _) [v] [] _ => (x == "list") && glbB c.sc x && ckE a c v
  | .meth m o es, c, .Call (.Attribute v nm ap) args [] p => (mtNm m == nm) && (ap.endLine == p.line) && ckE o c v && ckEs es c args && decide (args.length = mtAr m) && notCall v
  | .lc e t it d own, c, .ListComp x [⟨tg, iter, ifs, 0⟩] scope _ => ckI it c tg iter && blkC c.N c.sc scope (ownOf c.N own) && ckTg (inner c scope) t tg && ckE e (inner c scope) x && ckEs d (inner c scope) ifs && decide (ifs.length ≤ 1) && (tgSlots t).all (own.contains ·)
  | .mlc e t it d own, c, .ListComp x [⟨tg, iter, ifs, 0⟩] scope _ => ckI it c tg iter && blkC c.N c.sc scope (ownOf c.N own) && ckTg (inner c scope) t tg && ckE e (inner c scope) x && ckEs d (inner c scope) ifs && decide (ifs.length ≤ 1) && (tgSlots t).all (own.contains ·)
  | .fz e, c, x => fzOk x && ckE e c x
  | .chn3 o o' o'' a b d e, c, .Compare l [p, p', p''] [r, t, u] _ => (cpE o == p) && (cpE o' == p') && (cpE o'' == p'') && ckE a c l && ckE b c r && ckE d c t && ckE e c u && notSet u
  | .den a, c, .Call (.Name x _) [.Call (.Name y _) [v] [] _] [] _ => (x == "dict") && glbB c.sc x && (y == "enumerate") && glbB c.sc y && ckE a c v
  | .mdc a, c, .Call (.Name x _) [v] [] _ => (x == "dict") && glbB c.sc x && ckE a c v
  | _, _, _ => false
def ckEs : Es → SC → List Expr → Bool
  | .nil, _, [] => true
  | .cons e es, c, x :: xs => ckE e c x && ckEs es c xs
  | _, _, _ => false
def ckO : Es → SC → Option Expr → Bool
  | .nil, _, none => true
  | .cons e .nil, c, some x => ckE e c x
  | _, _, _ => false
def ckI : It → SC → Expr → Expr → Bool
  | .seq e, c, _, x => ckE e c x && notSet x
  | .rng es, c, _, .Call (.Name x _) (a :: args) [] _ => (x == "range") && glbB c.sc x && ckEs es c (a :: args) && decide (args.length ≤ 1)
  | .rvs e, c, _, .Call (.Name x _) [v] [] _ => (x == "reversed") && glbB c.sc x && ckE e c v
  | .enm e, c, .Tuple _ _ _, .Call (.Name x _) [v] [] _ => (x == "enumerate") && glbB c.sc x && ckE e c v
  | _, _, _, _ => false
end

/-- a comprehension given to a local name of the same row: the name's own store is put into it -/
def swaps (c : SC) (x : Str) (pl : Nat) (a : Expr) (g : List Comprehension) (scope : Scope) (p : Pos) : Bool :=
  (c.sc.names.lookup x == some .local) && (pl == (Expr.ListComp a g scope p).pos.line) && !(scope.names.any fun (n, k) => n == x && (k == .local || k == .cell))
def isComp : Expr → Bool
  | .ListComp .. => true
  | .SetComp .. => true
  | .DictComp .. => true
  | _ => false
def isFz : E → Bool
  | .fz _ => true
  | _ => false
mutual
def ckS : St → SC → Stmt → Bool
  | .set i e, c, .Assign [.Name x p] v _ => (c.N[i]? == some x) && stoB c x && ckE e c v && (!isComp v || (c.sc.kind == .function && !isFz e))
  | .setT is e, c, .Assign [.Tuple ts k p] v _ => ckTg c (.tp is) (.Tuple ts k p) && ckE e c v && !isTup v && !isComp v
  | .setI o k e, c, .Assign [.Subscript a b _] v _ => ckE o c a && ckE k c b && ckE e c v && !isComp v
  | .ifs t a b, c, .If x y z _ => ckE t c x && ckSs a c y && ckSs b c z
  | .wh t b, c, .While x y [] _ => ckE t c x && ckSs b c y
  | .for_ t it b, c, .For tg iter body [] _ => ckI it c tg iter && ckTg c t tg && ckSs b c body
  | .ret e, c, .Return (some x) _ => ckE e c x
  | .retN, _, .Return none _ => true
  | .ex e, c, .Expr x _ => ckE e c x && !isComp x
  | .brk, _, .Break _ => true
  | .cont, _, .Continue _ => true
  | .pass, _, .Pass _ => true
  | _, _, _ => false
def ckSs : List St → SC → List Stmt → Bool
  | [], _, [] => true
  | s :: ss, c, x :: xs => ckS s c x && ckSs ss c xs
  | _, _, _ => false
end
end Mi
set_option maxHeartbeats 4000000
/-! Mi8: what must hold in the small language, lifted to the machine: expressions. -/
namespace Mi
open PySem PySem.Spec PyProof.Rows L2

abbrev noX : XD := fun _ _ _ => False
def biAll : List Str := ["len", "repr", "str", "int", "tuple", "list", "max", "min", "sum", "all", "any", "abs", "isinstance", "range", "enumerate", "zip", "reversed", "bool", "dict"]

/-- the def at a keeps the promise g, by at most n calls one in another -/
def FnD (P : Program) (w : World) (K : Frg) (mg : Str → Option Value) (base : Heap) (n : Nat) (a : Addr) (g : List D → Sto → Q1 → XD → Prop) : Prop :=
  PySem.W.keepIn K.K (.ref a) = true ∧ ∀ (A : Around) (outer : List PySem.Env) (s : Shared) (H : Hp) (us : List Value) (vs : List V) (W : Wd) (S : Sto) (ds : List D) (q : Q1) (Q : VK),
    Room n A → A.guards = some [] → Env0 P w K.K mg base A outer s H → Vals vs us → Rel K W S H → Reps K W H ds vs → g ds S q noX → (∀ W' H' v d S', Ext W S H W' S' H' → Rel K W' S' H' → Rep K W' H' d v → q d S' → Q v H') →
    codeAny (model P w) A (.call (.ref a) ⟨us, []⟩) (CR CX0 outer P w H s Q (fun _ _ _ => False)) s

structure Good (X : Cx) (K : Frg) (c : SC) (n : Nat) (G : GT) : Prop where
  hK : X.K = K.K
  hN : X.N = c.N
  sc : X.env.scope = c.sc
  fc : ∀ x, c.fc x = true → X.fn x = true
  nd : c.N.Nodup
  calm : X.calm = true
  room : Room n X.A
  grd : X.A.guards = some []
  bi : ∀ x, x ∈ biAll → X.mg x = none
  cst : ∀ (i : Nat) (p : Str × D), c.T.cst[i]? = some p → ∃ u v, X.mg p.1 = some u ∧ RelV v u ∧ ∀ W H, Rep K W H p.2 v
  fns : ∀ (f : Nat) (x : Str), c.T.fn[f]? = some x → ∃ a, X.mg x = some (.ref a) ∧ FnD X.prog X.w K X.mg X.base n a (G f)
  po : PassesOwn (model X.prog X.w) X.A X.env X.xe

/-- an expression's reading, from what must hold in the small language -/
def LE (K : Frg) (t : Env → Sto → Q1 → Prop) : TE := fun σ H Q => ∃ W S env q, Rel K W S H ∧ EnvR K W H env σ ∧ t env S q ∧ ∀ W' S' H' d v, Ext W S H W' S' H' → Rel K W' S' H' → Rep K W' H' d v → q d S' → Q v H'
def LA (K : Frg) (t : Env → Sto → (List D → Sto → Prop) → Prop) : TA := fun σ H Q => ∃ W S env q, Rel K W S H ∧ EnvR K W H env σ ∧ t env S q ∧ ∀ W' S' H' d v, Ext W S H W' S' H' → Rel K W' S' H' → Reps K W' H' d v → q d S' → Q v H'
def LT (K : Frg) (t : Env → Sto → (Bool → Sto → Prop) → Prop) : TT := fun σ H Q => ∃ W S env q, Rel K W S H ∧ EnvR K W H env σ ∧ t env S q ∧ ∀ W' S' H' b, Ext W S H W' S' H' → Rel K W' S' H' → q b S' → Q b H'

theorem PE.imp {X : Cx} {e : Expr} {t t' : TE} (h : PE X e t) (i : ∀ σ H Q, t' σ H Q → t σ H Q) : PE X e t' := ⟨fun pins s σ H Q I q => h.run pins s σ H Q I (i σ H Q q)⟩
theorem PA.imp {X : Cx} {e : List Expr} {t t' : TA} (h : PA X e t) (i : ∀ σ H Q, t' σ H Q → t σ H Q) : PA X e t' := ⟨fun pos pins s σ H Q I q => h.run pos pins s σ H Q I (i σ H Q q)⟩
theorem PT.imp {X : Cx} {e : Expr} {t t' : TT} (h : PT X e t) (i : ∀ σ H Q, t' σ H Q → t σ H Q) : PT X e t' := ⟨fun pins s σ H Q I q => h.run pins s σ H Q I (i σ H Q q)⟩

theorem vis_of {s : Scope} {x : Str} (h : visB s x = true) : Vis s x := by
  unfold visB at h
  split at h
  · rename_i e; exact .inl e
  · rename_i e; exact .inr (.inl e)
  · rename_i e; exact .inr (.inr e)
  · cases h
theorem glb_of {s : Scope} {x : Str} (h : glbB s x = true) : s.names.lookup x = some .globalImplicit := by
  unfold glbB at h
  split at h
  · assumption
  · cases h
theorem odd_of {x : Str} (h : odd x = false) : (x == ("__debug__" : Str)) = false ∧ (x == ("__classdict__" : Str)) = false ∧ x ≠ "__name__" := by
  unfold odd at h
  rw [Bool.or_eq_false_iff, Bool.or_eq_false_iff] at h
  exact ⟨h.1.1, h.1.2, fun e => by rw [e] at h; exact absurd h.2 (by decide)⟩

/-- what E matches is no starred thing, no slice -/
theorem ck_star {e : E} {c : SC} {x : Expr} (h : ckE e c x = true) {es : List Expr} {env : PySem.Env} : starEach (x :: es) env = (false, eval x env) :: starEach es env := by
  have key : ∀ (v : Expr) (p : Pos), x ≠ .Starred v p := by
    intro v p q
    subst q
    induction e using E.rec (motive_2 := fun _ => True) (motive_3 := fun _ => True) with
    | fz e ih => exact ih (by simp only [ckE, Bool.and_eq_true] at h; exact h.2)
    | _ => first | trivial | (simp [ckE] at h)
  cases x <;> first | rfl | exact absurd rfl (key _ _)
theorem ck_plain {e : E} {c : SC} {x : Expr} (h : ckE e c x = true) : PlainIx x := by
  have key : ∀ (a b d : Option Expr) (p : Pos), x ≠ .Slice a b d p := by
    intro a b d p q
    subst q
    induction e using E.rec (motive_2 := fun _ => True) (motive_3 := fun _ => True) with
    | fz e ih => exact ih (by simp only [ckE, Bool.and_eq_true] at h; exact h.2)
    | _ => first | trivial | (simp [ckE] at h)
  cases x <;> first
    | exact fun _ _ => rfl
    | exact absurd rfl (key _ _ _ _)
/-! ### what a text of the program looks like -/
theorem ck_var {i : Nat} {c : SC} {x : Expr} (h : ckE (.var i) c x = true) : ∃ (nm : Str) (p : Pos), x = .Name nm p ∧ (c.N[i]? == some nm) = true ∧ visB c.sc nm = true ∧ (!odd nm) = true := by
  unfold ckE at h
  split at h
  all_goals first | (exact absurd h Bool.false_ne_true) | (cases (‹(.var i : E) = _›))
  try simp only [Bool.and_eq_true, decide_eq_true_eq] at h
  obtain ⟨⟨h1, h2⟩, h3⟩ := h
  exact ⟨_, _, rfl, h1, h2, h3⟩
theorem ck_int {i : Int} {c : SC} {x : Expr} (h : ckE (.int i) c x = true) : ∃ (j : Int) (k : Nat) (p : Pos), x = .Constant (.int j) k p ∧ (i == j) = true := by
  unfold ckE at h
  split at h
  all_goals first | (exact absurd h Bool.false_ne_true) | (cases (‹(.int i : E) = _›))
  try simp only [Bool.and_eq_true, decide_eq_true_eq] at h
  exact ⟨_, _, _, rfl, h⟩
theorem ck_str {i : Str} {c : SC} {x : Expr} (h : ckE (.str i) c x = true) : ∃ (j : Str) (k : Nat) (p : Pos), x = .Constant (.str j) k p ∧ (i == j) = true := by
  unfold ckE at h
  split at h
  all_goals first | (exact absurd h Bool.false_ne_true) | (cases (‹(.str i : E) = _›))
  try simp only [Bool.and_eq_true, decide_eq_true_eq] at h
  exact ⟨_, _, _, rfl, h⟩
theorem ck_bl {i : Bool} {c : SC} {x : Expr} (h : ckE (.bl i) c x = true) : ∃ (j : Bool) (k : Nat) (p : Pos), x = .Constant (.bool j) k p ∧ (i == j) = true := by
  unfold ckE at h
  split at h
  all_goals first | (exact absurd h Bool.false_ne_true) | (cases (‹(.bl i : E) = _›))
  try simp only [Bool.and_eq_true, decide_eq_true_eq] at h
  exact ⟨_, _, _, rfl, h⟩
theorem ck_non  {c : SC} {x : Expr} (h : ckE (.non) c x = true) : ∃ (k : Nat) (p : Pos), x = .Constant .none k p := by
  unfold ckE at h
  split at h
  all_goals first | (exact absurd h Bool.false_ne_true) | (cases (‹(.non : E) = _›))
  exact ⟨_, _, rfl⟩
theorem ck_cst {i : Nat} {c : SC} {x : Expr} (h : ckE (.cst i) c x = true) : ∃ (nm : Str) (p : Pos), x = .Name nm p ∧ ((c.T.cst[i]?.map (·.1)) == some nm) = true ∧ glbB c.sc nm = true ∧ (!odd nm) = true := by
  unfold ckE at h
  split at h
  all_goals first | (exact absurd h Bool.false_ne_true) | (cases (‹(.cst i : E) = _›))
  try simp only [Bool.and_eq_true, decide_eq_true_eq] at h
  obtain ⟨⟨h1, h2⟩, h3⟩ := h
  exact ⟨_, _, rfl, h1, h2, h3⟩
theorem ck_tup {es : Es} {c : SC} {x : Expr} (h : ckE (.tup es) c x = true) : ∃ (xs : List Expr) (k : Nat) (p : Pos), x = .Tuple xs k p ∧ ckEs es c xs = true := by
  unfold ckE at h
  split at h
  all_goals first | (exact absurd h Bool.false_ne_true) | (cases (‹(.tup es : E) = _›))
  try simp only [Bool.and_eq_true, decide_eq_true_eq] at h
  exact ⟨_, _, _, rfl, h⟩
theorem ck_lst {es : Es} {c : SC} {x : Expr} (h : ckE (.lst es) c x = true) : ∃ (xs : List Expr) (p : Pos), x = .List xs p ∧ ckEs es c xs = true := by
  unfold ckE at h
  split at h
  all_goals first | (exact absurd h Bool.false_ne_true) | (cases (‹(.lst es : E) = _›))
  try simp only [Bool.and_eq_true, decide_eq_true_eq] at h
  exact ⟨_, _, rfl, h⟩
theorem ck_mls {es : Es} {c : SC} {x : Expr} (h : ckE (.mls es) c x = true) : ∃ (xs : List Expr) (p : Pos), x = .List xs p ∧ ckEs es c xs = true := by
  unfold ckE at h
  split at h
  all_goals first | (exact absurd h Bool.false_ne_true) | (cases (‹(.mls es : E) = _›))
  try simp only [Bool.and_eq_true, decide_eq_true_eq] at h
  exact ⟨_, _, rfl, h⟩
theorem ck_dic {ks : List Key} {es : Es} {c : SC} {x : Expr} (h : ckE (.dic ks es) c x = true) : ∃ (keys : List (Option Expr)) (vals : List Expr) (p : Pos), x = .Dict keys vals p ∧ keysE ks keys = true ∧ ckEs es c vals = true ∧ ks.Nodup ∧ ks.length ≤ 15 ∧ keys.length = vals.length := by
  unfold ckE at h
  split at h
  all_goals first | (exact absurd h Bool.false_ne_true) | (cases (‹(.dic ks es : E) = _›))
  try simp only [Bool.and_eq_true, decide_eq_true_eq] at h
  obtain ⟨⟨⟨⟨h1, h2⟩, h3⟩, h4⟩, h5⟩ := h
  exact ⟨_, _, _, rfl, h1, h2, h3, h4, h5⟩
theorem ck_bin {o : Op} {a b : E} {c : SC} {x : Expr} (h : ckE (.bin o a b) c x = true) : ∃ (l : Expr) (q : Operator) (r : Expr) (p : Pos), x = .BinOp l q r p ∧ (opE o == q) = true ∧ ckE a c l = true ∧ ckE b c r = true := by
  unfold ckE at h
  split at h
  all_goals first | (exact absurd h Bool.false_ne_true) | (cases (‹(.bin o a b : E) = _›))
  try simp only [Bool.and_eq_true, decide_eq_true_eq] at h
  obtain ⟨⟨h1, h2⟩, h3⟩ := h
  exact ⟨_, _, _, _, rfl, h1, h2, h3⟩
theorem ck_cmp {o : Cp} {a b : E} {c : SC} {x : Expr} (h : ckE (.cmp o a b) c x = true) : ∃ (l : Expr) (q : CmpOp) (r : Expr) (p : Pos), x = .Compare l [q] [r] p ∧ (cpE o == q) = true ∧ ckE a c l = true ∧ ckE b c r = true ∧ notSet r = true := by
  unfold ckE at h
  split at h
  all_goals first | (exact absurd h Bool.false_ne_true) | (cases (‹(.cmp o a b : E) = _›))
  try simp only [Bool.and_eq_true, decide_eq_true_eq] at h
  obtain ⟨⟨⟨h1, h2⟩, h3⟩, h4⟩ := h
  exact ⟨_, _, _, _, rfl, h1, h2, h3, h4⟩
theorem ck_chn {o o' : Cp} {a b d : E} {c : SC} {x : Expr} (h : ckE (.chn o o' a b d) c x = true) : ∃ (l : Expr) (q : CmpOp) (q' : CmpOp) (r : Expr) (t : Expr) (p : Pos), x = .Compare l [q, q'] [r, t] p ∧ (cpE o == q) = true ∧ (cpE o' == q') = true ∧ ckE a c l = true ∧ ckE b c r = true ∧ ckE d c t = true ∧ notSet t = true := by
  unfold ckE at h
  split at h
  all_goals first | (exact absurd h Bool.false_ne_true) | (cases (‹(.chn o o' a b d : E) = _›))
  try simp only [Bool.and_eq_true, decide_eq_true_eq] at h
  obtain ⟨⟨⟨⟨⟨h1, h2⟩, h3⟩, h4⟩, h5⟩, h6⟩ := h
  exact ⟨_, _, _, _, _, _, rfl, h1, h2, h3, h4, h5, h6⟩
theorem ck_and {a b : E} {c : SC} {x : Expr} (h : ckE (.and a b) c x = true) : ∃ (y : Expr) (z : Expr) (rest : List Expr) (p : Pos), x = .BoolOp .And (y :: z :: rest) p ∧ ckE a c y = true ∧ (if rest.isEmpty then ckE b c z else ckE b c (.BoolOp .And (z :: rest) p)) = true := by
  unfold ckE at h
  split at h
  all_goals first | (exact absurd h Bool.false_ne_true) | (cases (‹(.and a b : E) = _›))
  try simp only [Bool.and_eq_true, decide_eq_true_eq] at h
  obtain ⟨h1, h2⟩ := h
  exact ⟨_, _, _, _, rfl, h1, h2⟩
theorem ck_or {a b : E} {c : SC} {x : Expr} (h : ckE (.or a b) c x = true) : ∃ (y : Expr) (z : Expr) (rest : List Expr) (p : Pos), x = .BoolOp .Or (y :: z :: rest) p ∧ ckE a c y = true ∧ (if rest.isEmpty then ckE b c z else ckE b c (.BoolOp .Or (z :: rest) p)) = true := by
  unfold ckE at h
  split at h
  all_goals first | (exact absurd h Bool.false_ne_true) | (cases (‹(.or a b : E) = _›))
  try simp only [Bool.and_eq_true, decide_eq_true_eq] at h
  obtain ⟨h1, h2⟩ := h
  exact ⟨_, _, _, _, rfl, h1, h2⟩
theorem ck_not {a : E} {c : SC} {x : Expr} (h : ckE (.not a) c x = true) : ∃ (y : Expr) (p : Pos), x = .UnaryOp .Not y p ∧ ckE a c y = true := by
  unfold ckE at h
  split at h
  all_goals first | (exact absurd h Bool.false_ne_true) | (cases (‹(.not a : E) = _›))
  try simp only [Bool.and_eq_true, decide_eq_true_eq] at h
  exact ⟨_, _, rfl, h⟩
theorem ck_neg {a : E} {c : SC} {x : Expr} (h : ckE (.neg a) c x = true) : ∃ (y : Expr) (p : Pos), x = .UnaryOp .USub y p ∧ ckE a c y = true := by
  unfold ckE at h
  split at h
  all_goals first | (exact absurd h Bool.false_ne_true) | (cases (‹(.neg a : E) = _›))
  try simp only [Bool.and_eq_true, decide_eq_true_eq] at h
  exact ⟨_, _, rfl, h⟩
theorem ck_ife {t a b : E} {c : SC} {x : Expr} (h : ckE (.ife t a b) c x = true) : ∃ (u : Expr) (y : Expr) (z : Expr) (p : Pos), x = .IfExp u y z p ∧ ckE t c u = true ∧ ckE a c y = true ∧ ckE b c z = true := by
  unfold ckE at h
  split at h
  all_goals first | (exact absurd h Bool.false_ne_true) | (cases (‹(.ife t a b : E) = _›))
  try simp only [Bool.and_eq_true, decide_eq_true_eq] at h
  obtain ⟨⟨h1, h2⟩, h3⟩ := h
  exact ⟨_, _, _, _, rfl, h1, h2, h3⟩
theorem ck_ix {a b : E} {c : SC} {x : Expr} (h : ckE (.ix a b) c x = true) : ∃ (y : Expr) (z : Expr) (p : Pos), x = .Subscript y z p ∧ ckE a c y = true ∧ ckE b c z = true := by
  unfold ckE at h
  split at h
  all_goals first | (exact absurd h Bool.false_ne_true) | (cases (‹(.ix a b : E) = _›))
  try simp only [Bool.and_eq_true, decide_eq_true_eq] at h
  obtain ⟨h1, h2⟩ := h
  exact ⟨_, _, _, rfl, h1, h2⟩
theorem ck_sl {a : E} {lo hi : Es} {c : SC} {x : Expr} (h : ckE (.sl a lo hi) c x = true) : ∃ (y : Expr) (l : Option Expr) (u : Option Expr) (p' : Pos) (p : Pos), x = .Subscript y (.Slice l u none p') p ∧ ckE a c y = true ∧ ckO lo c l = true ∧ ckO hi c u = true := by
  unfold ckE at h
  split at h
  all_goals first | (exact absurd h Bool.false_ne_true) | (cases (‹(.sl a lo hi : E) = _›))
  try simp only [Bool.and_eq_true, decide_eq_true_eq] at h
  obtain ⟨⟨h1, h2⟩, h3⟩ := h
  exact ⟨_, _, _, _, _, rfl, h1, h2, h3⟩
theorem ck_rev {a : E} {c : SC} {x : Expr} (h : ckE (.rev a) c x = true) : ∃ (y : Expr) (k : Nat) (p1 : Pos) (p2 : Pos) (p3 : Pos) (p : Pos), x = .Subscript y (.Slice none none (some (.UnaryOp .USub (.Constant (.int 1) k p1) p2)) p3) p ∧ ckE a c y = true := by
  unfold ckE at h
  split at h
  all_goals first | (exact absurd h Bool.false_ne_true) | (cases (‹(.rev a : E) = _›))
  try simp only [Bool.and_eq_true, decide_eq_true_eq] at h
  exact ⟨_, _, _, _, _, _, rfl, h⟩
theorem ck_call {f : Nat} {es : Es} {c : SC} {x : Expr} (h : ckE (.call f es) c x = true) : ∃ (nm : Str) (p' : Pos) (args : List Expr) (p : Pos), x = .Call (.Name nm p') args [] p ∧ (c.T.fn[f]? == some nm) = true ∧ glbB c.sc nm = true ∧ (!odd nm) = true ∧ ckEs es c args = true := by
  unfold ckE at h
  split at h
  all_goals first | (exact absurd h Bool.false_ne_true) | (cases (‹(.call f es : E) = _›))
  try simp only [Bool.and_eq_true, decide_eq_true_eq] at h
  obtain ⟨⟨⟨h1, h2⟩, h3⟩, h4⟩ := h
  exact ⟨_, _, _, _, rfl, h1, h2, h3, h4⟩
theorem ck_bif {b : Bi} {es : Es} {c : SC} {x : Expr} (h : ckE (.bif b es) c x = true) : ∃ (nm : Str) (p' : Pos) (a : Expr) (args : List Expr) (p : Pos), x = .Call (.Name nm p') (a :: args) [] p ∧ (biNm b == nm) = true ∧ glbB c.sc nm = true ∧ ckEs es c (a :: args) = true := by
  unfold ckE at h
  split at h
  all_goals first | (exact absurd h Bool.false_ne_true) | (cases (‹(.bif b es : E) = _›))
  try simp only [Bool.and_eq_true, decide_eq_true_eq] at h
  obtain ⟨⟨h1, h2⟩, h3⟩ := h
  exact ⟨_, _, _, _, _, rfl, h1, h2, h3⟩
theorem ck_isi {a : E} {t : Nat} {c : SC} {x : Expr} (h : ckE (.isi a t) c x = true) : ∃ (nm : Str) (p1 : Pos) (v : Expr) (ny : Str) (p2 : Pos) (p : Pos), x = .Call (.Name nm p1) [v, .Name ny p2] [] p ∧ (nm == ("isinstance" : Str)) = true ∧ glbB c.sc nm = true ∧ (ny == Str.ofString (tyNm t)) = true ∧ glbB c.sc ny = true ∧ ckE a c v = true := by
  unfold ckE at h
  split at h
  all_goals first | (exact absurd h Bool.false_ne_true) | (cases (‹(.isi a t : E) = _›))
  try simp only [Bool.and_eq_true, decide_eq_true_eq] at h
  obtain ⟨⟨⟨⟨h1, h2⟩, h3⟩, h4⟩, h5⟩ := h
  exact ⟨_, _, _, _, _, _, rfl, h1, h2, h3, h4, h5⟩
theorem ck_mli {a : E} {c : SC} {x : Expr} (h : ckE (.mli a) c x = true) : ∃ (nm : Str) (p1 : Pos) (v : Expr) (p : Pos), x = .Call (.Name nm p1) [v] [] p ∧ (nm == ("list" : Str)) = true ∧ glbB c.sc nm = true ∧ ckE a c v = true := by
  unfold ckE at h
  split at h
  all_goals first | (exact absurd h Bool.false_ne_true) | (cases (‹(.mli a : E) = _›))
  try simp only [Bool.and_eq_true, decide_eq_true_eq] at h
  obtain ⟨⟨h1, h2⟩, h3⟩ := h
  exact ⟨_, _, _, _, rfl, h1, h2, h3⟩
theorem ck_meth {m : Mt} {o : E} {es : Es} {c : SC} {x : Expr} (h : ckE (.meth m o es) c x = true) : ∃ (v : Expr) (nm : Str) (ap : Pos) (args : List Expr) (p : Pos), x = .Call (.Attribute v nm ap) args [] p ∧ (mtNm m == nm) = true ∧ (ap.endLine == p.line) = true ∧ ckE o c v = true ∧ ckEs es c args = true ∧ args.length = mtAr m ∧ notCall v = true := by
  unfold ckE at h
  split at h
  all_goals first | (exact absurd h Bool.false_ne_true) | (cases (‹(.meth m o es : E) = _›))
  try simp only [Bool.and_eq_true, decide_eq_true_eq] at h
  obtain ⟨⟨⟨⟨⟨h1, h2⟩, h3⟩, h4⟩, h5⟩, h6⟩ := h
  exact ⟨_, _, _, _, _, rfl, h1, h2, h3, h4, h5, h6⟩
theorem ck_lc {e : E} {t : Tg} {it : It} {d : Es} {own : List Nat} {c : SC} {x : Expr} (h : ckE (.lc e t it d own) c x = true) : ∃ (y : Expr) (tg : Expr) (iter : Expr) (ifs : List Expr) (scope : Scope) (p : Pos), x = .ListComp y [⟨tg, iter, ifs, 0⟩] scope p ∧ ckI it c tg iter = true ∧ blkC c.N c.sc scope (ownOf c.N own) = true ∧ ckTg (inner c scope) t tg = true ∧ ckE e (inner c scope) y = true ∧ ckEs d (inner c scope) ifs = true ∧ ifs.length ≤ 1 ∧ (tgSlots t).all (own.contains ·) = true := by
  unfold ckE at h
  split at h
  all_goals first | (exact absurd h Bool.false_ne_true) | (cases (‹(.lc e t it d own : E) = _›))
  try simp only [Bool.and_eq_true, decide_eq_true_eq] at h
  obtain ⟨⟨⟨⟨⟨⟨h1, h2⟩, h3⟩, h4⟩, h5⟩, h6⟩, h7⟩ := h
  exact ⟨_, _, _, _, _, _, rfl, h1, h2, h3, h4, h5, h6, h7⟩
theorem ck_mlc {e : E} {t : Tg} {it : It} {d : Es} {own : List Nat} {c : SC} {x : Expr} (h : ckE (.mlc e t it d own) c x = true) : ∃ (y : Expr) (tg : Expr) (iter : Expr) (ifs : List Expr) (scope : Scope) (p : Pos), x = .ListComp y [⟨tg, iter, ifs, 0⟩] scope p ∧ ckI it c tg iter = true ∧ blkC c.N c.sc scope (ownOf c.N own) = true ∧ ckTg (inner c scope) t tg = true ∧ ckE e (inner c scope) y = true ∧ ckEs d (inner c scope) ifs = true ∧ ifs.length ≤ 1 ∧ (tgSlots t).all (own.contains ·) = true := by
  unfold ckE at h
  split at h
  all_goals first | (exact absurd h Bool.false_ne_true) | (cases (‹(.mlc e t it d own : E) = _›))
  try simp only [Bool.and_eq_true, decide_eq_true_eq] at h
  obtain ⟨⟨⟨⟨⟨⟨h1, h2⟩, h3⟩, h4⟩, h5⟩, h6⟩, h7⟩ := h
  exact ⟨_, _, _, _, _, _, rfl, h1, h2, h3, h4, h5, h6, h7⟩
theorem ck_chn3 {o o' o'' : Cp} {a b d e : E} {c : SC} {x : Expr} (h : ckE (.chn3 o o' o'' a b d e) c x = true) : ∃ (l : Expr) (q : CmpOp) (q' : CmpOp) (q'' : CmpOp) (r : Expr) (t : Expr) (u : Expr) (p : Pos), x = .Compare l [q, q', q''] [r, t, u] p ∧ (cpE o == q) = true ∧ (cpE o' == q') = true ∧ (cpE o'' == q'') = true ∧ ckE a c l = true ∧ ckE b c r = true ∧ ckE d c t = true ∧ ckE e c u = true ∧ notSet u = true := by
  unfold ckE at h
  split at h
  all_goals first | (exact absurd h Bool.false_ne_true) | (cases (‹(.chn3 o o' o'' a b d e : E) = _›))
  try simp only [Bool.and_eq_true, decide_eq_true_eq] at h
  obtain ⟨⟨⟨⟨⟨⟨⟨h1, h2⟩, h3⟩, h4⟩, h5⟩, h6⟩, h7⟩, h8⟩ := h
  exact ⟨_, _, _, _, _, _, _, _, rfl, h1, h2, h3, h4, h5, h6, h7, h8⟩
theorem ck_mdc {a : E} {c : SC} {x : Expr} (h : ckE (.mdc a) c x = true) : ∃ (nm : Str) (p1 : Pos) (v : Expr) (p : Pos), x = .Call (.Name nm p1) [v] [] p ∧ (nm == ("dict" : Str)) = true ∧ glbB c.sc nm = true ∧ ckE a c v = true := by
  unfold ckE at h
  split at h
  all_goals first | (exact absurd h Bool.false_ne_true) | (cases (‹(.mdc a : E) = _›))
  try simp only [Bool.and_eq_true, decide_eq_true_eq] at h
  obtain ⟨⟨h1, h2⟩, h3⟩ := h
  exact ⟨_, _, _, _, rfl, h1, h2, h3⟩
theorem ck_den {a : E} {c : SC} {x : Expr} (h : ckE (.den a) c x = true) : ∃ (nm : Str) (p1 : Pos) (ny : Str) (p2 : Pos) (v : Expr) (p3 : Pos) (p : Pos), x = .Call (.Name nm p1) [.Call (.Name ny p2) [v] [] p3] [] p ∧ (nm == ("dict" : Str)) = true ∧ glbB c.sc nm = true ∧ (ny == ("enumerate" : Str)) = true ∧ glbB c.sc ny = true ∧ ckE a c v = true := by
  unfold ckE at h
  split at h
  all_goals first | (exact absurd h Bool.false_ne_true) | (cases (‹(.den a : E) = _›))
  try simp only [Bool.and_eq_true, decide_eq_true_eq] at h
  obtain ⟨⟨⟨⟨h1, h2⟩, h3⟩, h4⟩, h5⟩ := h
  exact ⟨_, _, _, _, _, _, _, rfl, h1, h2, h3, h4, h5⟩

end Mi
set_option maxHeartbeats 4000000
/-! MiC: chains of three comparisons; dict(enumerate(..)). -/
namespace Ch
open PySem PySem.Spec PyProof.Rows L2
section
variable {X : Cx} {a b c e : Expr} {ta tb tc td : TE} {pos : Pos}
def tChain3 (r r' r'' : R2) (ta tb tc td : TE) : TE := fun σ H Q => ta σ H fun x H1 => tb σ H1 fun y H2 => r x y H2 fun z H3 => ∃ k, z = .bl k ∧
  (if k = true then tc σ H3 fun w' H4 => r' y w' H4 fun z H5 => ∃ k, z = .bl k ∧ (if k = true then td σ H5 fun v' H6 => r'' w' v' H6 Q else Q (.bl false) H5) else Q (.bl false) H3)
theorem pe_chain3 {op op' op'' : CmpOp} {r r' r'' : R2} (ho : OpR X (compareOp op) r) (ho' : OpR X (compareOp op') r') (ho'' : OpR X (compareOp op'') r'') (ha : PE X a ta) (hb : PE X b tb) (hc : PE X c tc) (hd : PE X e td)
    (hm : lastMarks [op, op', op''] [b, c, e] = false) : PE X (.Compare a [op, op', op''] [b, c, e] pos) (tChain3 r r' r'' ta tb tc td) := by
  refine ⟨fun pins s σ H Q I h => ?_⟩
  refine Compare_chain (thn (ha.run pins s σ H _ I h) fun v s1 ⟨x, H1, I1, r1, q1⟩ => chain_link (thn (hb.run pins s1 σ H1 _ I1 q1) fun u s2 ⟨y, H2, I2, r2, q2⟩ =>
    thn (ho pins s2 σ H2 x y v u _ I2 r1 r2 q2) fun d s3 ⟨z, H3, I3, r3, k, e, q3⟩ => ?_)) hm
  subst e
  cases r3
  refine wpAny_truthy_bool ?_
  cases k with
  | false => exact ite_ff ⟨.bl false, H3, I3, rfl, q3⟩
  | true =>
    refine ite_tt (chain_link (thn (hc.run pins s3 σ H3 _ I3 q3) fun w' s4 ⟨z', H4, I4, r4, q4⟩ => thn (ho' pins s4 σ H4 y z' u w' _ I4 r2 r4 q4) fun d s5 ⟨z, H5, I5, r5, k, e, q5⟩ => ?_))
    subst e
    cases r5
    refine wpAny_truthy_bool ?_
    cases k with
    | false => exact ite_ff ⟨.bl false, H5, I5, rfl, q5⟩
    | true => exact ite_tt (chain_last (thn (hd.run pins s5 σ H5 _ I5 q5) fun w2 s6 ⟨z2, H6, I6, r6, q6⟩ => ho'' pins s6 σ H6 z' z2 w' w2 Q I6 r4 r6 q6))
theorem pt_chain3 {op op' op'' : CmpOp} {r r' r'' : R2} (ho : OpR X (compareOp op) r) (ho' : OpR X (compareOp op') r') (ho'' : OpR X (compareOp op'') r'') (ha : PE X a ta) (hb : PE X b tb) (hc : PE X c tc) (hd : PE X e td)
    (hm : lastMarks [op, op', op''] [b, c, e] = false) : PT X (.Compare a [op, op', op''] [b, c, e] pos) (tTest (tChain3 r r' r'' ta tb tc td)) := by
  refine ⟨fun pins s σ H Q I h => ?_⟩
  refine isTrue_chain (thn (ha.run pins s σ H _ I h) fun v s1 ⟨x, H1, I1, r1, q1⟩ => test_link (thn (hb.run pins s1 σ H1 _ I1 q1) fun u s2 ⟨y, H2, I2, r2, q2⟩ =>
    thn (ho pins s2 σ H2 x y v u _ I2 r1 r2 q2) fun d s3 ⟨z, H3, I3, r3, k, e, q3⟩ => ?_)) hm
  subst e
  cases r3
  refine wpAny_truthy_bool ?_
  cases k with
  | false =>
    obtain ⟨k', e', q'⟩ := q3
    cases e'
    exact ite_ff ⟨H3, I3, q'⟩
  | true =>
    refine ite_tt (test_link (thn (hc.run pins s3 σ H3 _ I3 q3) fun w' s4 ⟨z', H4, I4, r4, q4⟩ => thn (ho' pins s4 σ H4 y z' u w' _ I4 r2 r4 q4) fun d s5 ⟨z, H5, I5, r5, k, e, q5⟩ => ?_))
    subst e
    cases r5
    refine wpAny_truthy_bool ?_
    cases k with
    | false =>
      obtain ⟨k', e', q'⟩ := q5
      cases e'
      exact ite_ff ⟨H5, I5, q'⟩
    | true =>
      refine ite_tt (test_last (thn (hd.run pins s5 σ H5 _ I5 q5) fun w2 s6 ⟨z2, H6, I6, r6, q6⟩ => thn (ho'' pins s6 σ H6 z' z2 w' w2 _ I6 r4 r6 q6) fun d' s7 ⟨z3, H7, I7, r7, k2, e2, q7⟩ => ?_))
      subst e2
      cases r7
      exact wpAny_truthy_bool ⟨H7, I7, q7⟩
end
end Ch
set_option maxHeartbeats 4000000
/-! Mi9: the small language is right: expressions. -/
namespace Mi
open PySem PySem.Spec PyProof.Rows L2

section
variable {X : Cx} {K : Frg} {c : SC} {n : Nat} {G : GT}
theorem Good.units (g : Good X K c n G) : X.A.units + 200 < cLine := by have := g.room.un; omega
theorem Good.gl (g : Good X K c n G) {x : Str} (h : glbB c.sc x = true) : Gl X x := by
  show X.env.scope.names.lookup x = _
  rw [g.sc]; exact glb_of h
theorem eqb {α : Type} [BEq α] [LawfulBEq α] {a b : α} (h : (a == b) = true) : a = b := eq_of_beq h

theorem le_var (g : Good X K c n G) {i : Nat} {x : Expr} (h : ckE (.var i) c x = true) : PE X x (LE K (wpE c.T G noX (.var i))) := by
  obtain ⟨nm, p, rfl, h1, h2, h3⟩ := ck_var h
  obtain ⟨o1, o2, _⟩ := odd_of (by simpa using h3)
  refine PE.imp (pe_var (i := i) (by rw [g.hN]; exact eqb h1) (by rw [g.sc]; exact vis_of h2) o1 o2) fun σ H Q ⟨W, S, env, q, r, e, w, o⟩ => ?_
  simp only [wpE] at w
  obtain ⟨d, hd, hq⟩ := w
  obtain ⟨v, hv, rv⟩ := e.at_ i d hd
  exact ⟨v, hv, o W S H d v (Ext.refl _ _ _) r rv hq⟩
theorem le_cst (g : Good X K c n G) {i : Nat} {x : Expr} (h : ckE (.cst i) c x = true) : PE X x (LE K (wpE c.T G noX (.cst i))) := by
  obtain ⟨nm, p, rfl, h1, h2, h3⟩ := ck_cst h
  obtain ⟨o1, o2, _⟩ := odd_of (by simpa using h3)
  have h1' := eqb h1
  cases e : c.T.cst[i]? with
  | none => rw [e] at h1'; cases h1'
  | some y =>
    rw [e] at h1'
    obtain ⟨u, v, hm, rv, rp⟩ := g.cst i y e
    have en : y.1 = nm := by simpa using h1'
    subst en
    refine PE.imp (pe_glob (g.gl h2) hm rv o1) fun σ H Q ⟨W, S, env, q, r, _, w, o⟩ => ?_
    simp only [wpE] at w
    obtain ⟨y', hy, hq⟩ := w
    rw [e] at hy; cases hy
    exact o W S H _ v (Ext.refl _ _ _) r (rp W H) hq
theorem le_lit {e : E} {d : D} {v : V} {x : Expr} (hx : PE X x (tC v)) (rp : ∀ W H, Rep K W H d v) (hw : ∀ env S q, wpE c.T G noX e env S q → q d S) : PE X x (LE K (wpE c.T G noX e)) := by
  refine PE.imp hx fun σ H Q ⟨W, S, env, q, r, _, w, o⟩ => ?_
  exact o W S H d v (Ext.refl _ _ _) r (rp W H) (hw _ _ _ w)

/-- two parts, then an operation by values -/
theorem le_two {r : R2} {ta tb : TE} {wa wb : Env → Sto → Q1 → Prop} {op : Sto → D → D → Q1 → Prop} (ha : ∀ σ H Q, LE K wa σ H Q → ta σ H Q) (hb : ∀ σ H Q, LE K wb σ H Q → tb σ H Q)
    (hr : ∀ W S H dx dy x y q Q, Rel K W S H → Rep K W H dx x → Rep K W H dy y → op S dx dy q → (∀ W' S' H' d v, Ext W S H W' S' H' → Rel K W' S' H' → Rep K W' H' d v → q d S' → Q v H') → r x y H Q) :
    ∀ σ H Q, LE K (fun env S q => wa env S fun x S1 => wb env S1 fun y S2 => op S2 x y q) σ H Q → tOp r ta tb σ H Q := fun σ H Q ⟨W, S, env, q, rl, er, w, o⟩ => by
  refine ha σ H _ ⟨W, S, env, _, rl, er, w, fun W1 S1 H1 dx x e1 r1 p1 w1 => ?_⟩
  refine hb σ H1 _ ⟨W1, S1, env, _, r1, er.keep (e1.keep rl), w1, fun W2 S2 H2 dy y e2 r2 p2 w2 => ?_⟩
  exact hr W2 S2 H2 dx dy x y q Q r2 (p1.keep (e2.keep r1)) p2 w2 fun W' S' H' d v e' => o W' S' H' d v ((e1.trans e2).trans e')

theorem le_bin (g : Good X K c n G) {o : Op} {a b : E} {x : Expr} (h : ckE (.bin o a b) c x = true) (ia : ∀ y, ckE a c y = true → PE X y (LE K (wpE c.T G noX a))) (ib : ∀ y, ckE b c y = true → PE X y (LE K (wpE c.T G noX b))) :
    PE X x (LE K (wpE c.T G noX (.bin o a b))) := by
  obtain ⟨l, q, r, p, rfl, h1, h2, h3⟩ := ck_bin h
  rw [← eqb h1]
  refine PE.imp (pe_op (op_bin g.hK o) (ia l h2) (ib r h3)) fun σ H Q w => ?_
  simp only [wpE] at w
  refine le_two (op := fun S x y q => ∃ z, binD o S x y = some z ∧ q z S) (fun _ _ _ z => z) (fun _ _ _ z => z) ?_ σ H Q w
  rintro W S H dx dy x y q Q rl px py ⟨z, e, hq⟩ k
  exact ⟨W, S, dx, dy, z, rl, px, py, e, fun W' H' v e' r' p' => k W' S H' z v e' r' p' hq⟩
theorem le_cmp (g : Good X K c n G) {o : Cp} {a b : E} {x : Expr} (h : ckE (.cmp o a b) c x = true) (ia : ∀ y, ckE a c y = true → PE X y (LE K (wpE c.T G noX a))) (ib : ∀ y, ckE b c y = true → PE X y (LE K (wpE c.T G noX b))) :
    PE X x (LE K (wpE c.T G noX (.cmp o a b))) := by
  obtain ⟨l, q, r, p, rfl, h1, h2, h3, h4⟩ := ck_cmp h
  rw [← eqb h1]
  have hm : behindInMarks (cpE o) r = false := by
    cases r <;> first | rfl | (simp [notSet] at h4; done)
  refine PE.imp (pe_cmpR (op_cmp g.hK o g.units) (ia l h2) (ib r h3) hm) fun σ H Q w => ?_
  simp only [wpE] at w
  refine le_two (op := fun S x y q => ∃ k, cmpD o S x y = some k ∧ q (.bl k) S) (fun _ _ _ z => z) (fun _ _ _ z => z) ?_ σ H Q w
  rintro W S H dx dy x y q Q rl px py ⟨z, e, hq⟩ k
  exact ⟨W, S, dx, dy, z, rl, px, py, e, k W S H _ _ (Ext.refl _ _ _) rl (.bl z) hq⟩
theorem le_chn (g : Good X K c n G) {o o' : Cp} {a b d : E} {x : Expr} (h : ckE (.chn o o' a b d) c x = true) (ia : ∀ y, ckE a c y = true → PE X y (LE K (wpE c.T G noX a))) (ib : ∀ y, ckE b c y = true → PE X y (LE K (wpE c.T G noX b)))
    (id : ∀ y, ckE d c y = true → PE X y (LE K (wpE c.T G noX d))) : PE X x (LE K (wpE c.T G noX (.chn o o' a b d))) := by
  obtain ⟨l, q, q', r, t, p, rfl, h1, h1', h2, h3, h3', h4⟩ := ck_chn h
  rw [← eqb h1, ← eqb h1']
  have hm : lastMarks [cpE o, cpE o'] [r, t] = false := by
    show behindInMarks (cpE o') t = false
    cases t <;> first | rfl | (simp [notSet] at h4; done)
  refine PE.imp (pe_chain (op_cmp g.hK o g.units) (op_cmp g.hK o' g.units) (ia l h2) (ib r h3) (id t h3') hm) fun σ H Q ⟨W, S, env, q, rl, er, w, ok⟩ => ?_
  simp only [wpE] at w
  refine ⟨W, S, env, _, rl, er, w, fun W1 S1 H1 dx x e1 r1 p1 w1 => ?_⟩
  refine ⟨W1, S1, env, _, r1, er.keep (e1.keep rl), w1, fun W2 S2 H2 dy y e2 r2 p2 w2 => ?_⟩
  obtain ⟨k, ek, w3⟩ := w2
  refine ⟨W2, S2, dx, dy, k, r2, p1.keep (e2.keep r1), p2, ek, k, rfl, ?_⟩
  cases k with
  | false =>
    rw [if_neg Bool.false_ne_true] at w3 ⊢
    exact ok W2 S2 H2 _ _ (e1.trans e2) r2 (.bl false) w3
  | true =>
    rw [if_pos rfl] at w3 ⊢
    refine ⟨W2, S2, env, _, r2, (er.keep (e1.keep rl)).keep (e2.keep r1), w3, fun W3 S3 H3 dz z e3 r3 p3 w4 => ?_⟩
    obtain ⟨k', ek', w5⟩ := w4
    exact ⟨W3, S3, dy, dz, k', r3, p2.keep (e3.keep r2), p3, ek', ok W3 S3 H3 _ _ ((e1.trans e2).trans e3) r3 (.bl k') w5⟩
theorem le_chn3 (g : Good X K c n G) {o o' o'' : Cp} {a b d e : E} {x : Expr} (h : ckE (.chn3 o o' o'' a b d e) c x = true) (ia : ∀ y, ckE a c y = true → PE X y (LE K (wpE c.T G noX a))) (ib : ∀ y, ckE b c y = true → PE X y (LE K (wpE c.T G noX b)))
    (id : ∀ y, ckE d c y = true → PE X y (LE K (wpE c.T G noX d))) (ie : ∀ y, ckE e c y = true → PE X y (LE K (wpE c.T G noX e))) :
    PE X x (LE K (wpE c.T G noX (.chn3 o o' o'' a b d e))) ∧ PT X x (LT K (wpT c.T G noX (.chn3 o o' o'' a b d e))) := by
  obtain ⟨l, q, q', q'', r, t, u, p, rfl, h1, h1', h1'', h2, h3, h4, h5, h6⟩ := ck_chn3 h
  rw [← eqb h1, ← eqb h1', ← eqb h1'']
  have hm : lastMarks [cpE o, cpE o', cpE o''] [r, t, u] = false := by
    show behindInMarks (cpE o'') u = false
    cases u <;> first | rfl | (simp [notSet] at h6; done)
  constructor
  · refine PE.imp (Ch.pe_chain3 (op_cmp g.hK o g.units) (op_cmp g.hK o' g.units) (op_cmp g.hK o'' g.units) (ia l h2) (ib r h3) (id t h4) (ie u h5) hm) fun σ H Q ⟨W, S, env, q, rl, er, w, ok⟩ => ?_
    simp only [wpE] at w
    refine ⟨W, S, env, _, rl, er, w, fun W1 S1 H1 dx x e1 r1 p1 w1 => ?_⟩
    refine ⟨W1, S1, env, _, r1, er.keep (e1.keep rl), w1, fun W2 S2 H2 dy y e2 r2 p2 w2 => ?_⟩
    obtain ⟨k, ek, w3⟩ := w2
    refine ⟨W2, S2, dx, dy, k, r2, p1.keep (e2.keep r1), p2, ek, k, rfl, ?_⟩
    cases k with
    | false =>
      rw [if_neg Bool.false_ne_true] at w3 ⊢
      exact ok W2 S2 H2 _ _ (e1.trans e2) r2 (.bl false) w3
    | true =>
      rw [if_pos rfl] at w3 ⊢
      have er2 := (er.keep (e1.keep rl)).keep (e2.keep r1)
      refine ⟨W2, S2, env, _, r2, er2, w3, fun W3 S3 H3 dz z e3 r3 p3 w4 => ?_⟩
      obtain ⟨k', ek', w5⟩ := w4
      refine ⟨W3, S3, dy, dz, k', r3, p2.keep (e3.keep r2), p3, ek', k', rfl, ?_⟩
      cases k' with
      | false =>
        rw [if_neg Bool.false_ne_true] at w5 ⊢
        exact ok W3 S3 H3 _ _ ((e1.trans e2).trans e3) r3 (.bl false) w5
      | true =>
        rw [if_pos rfl] at w5 ⊢
        refine ⟨W3, S3, env, _, r3, er2.keep (e3.keep r2), w5, fun W4 S4 H4 dw w4 e4 r4 p4 w6 => ?_⟩
        obtain ⟨k'', ek'', w7⟩ := w6
        exact ⟨W4, S4, dz, dw, k'', r4, p3.keep (e4.keep r3), p4, ek'', ok W4 S4 H4 _ _ (((e1.trans e2).trans e3).trans e4) r4 (.bl k'') w7⟩
  · refine PT.imp (Ch.pt_chain3 (op_cmp g.hK o g.units) (op_cmp g.hK o' g.units) (op_cmp g.hK o'' g.units) (ia l h2) (ib r h3) (id t h4) (ie u h5) hm) fun σ H Q ⟨W, S, env, q, rl, er, w, ok⟩ => ?_
    simp only [wpT, wpE] at w
    refine ⟨W, S, env, _, rl, er, w, fun W1 S1 H1 dx x e1 r1 p1 w1 => ?_⟩
    refine ⟨W1, S1, env, _, r1, er.keep (e1.keep rl), w1, fun W2 S2 H2 dy y e2 r2 p2 w2 => ?_⟩
    obtain ⟨k, ek, w3⟩ := w2
    refine ⟨W2, S2, dx, dy, k, r2, p1.keep (e2.keep r1), p2, ek, k, rfl, ?_⟩
    cases k with
    | false =>
      rw [if_neg Bool.false_ne_true] at w3 ⊢
      obtain ⟨k', ek', hq⟩ := w3
      cases ek'
      exact ⟨false, rfl, ok W2 S2 H2 _ (e1.trans e2) r2 hq⟩
    | true =>
      rw [if_pos rfl] at w3 ⊢
      have er2 := (er.keep (e1.keep rl)).keep (e2.keep r1)
      refine ⟨W2, S2, env, _, r2, er2, w3, fun W3 S3 H3 dz z e3 r3 p3 w4 => ?_⟩
      obtain ⟨k', ek', w5⟩ := w4
      refine ⟨W3, S3, dy, dz, k', r3, p2.keep (e3.keep r2), p3, ek', k', rfl, ?_⟩
      cases k' with
      | false =>
        rw [if_neg Bool.false_ne_true] at w5 ⊢
        obtain ⟨k2, ek2, hq⟩ := w5
        cases ek2
        exact ⟨false, rfl, ok W3 S3 H3 _ ((e1.trans e2).trans e3) r3 hq⟩
      | true =>
        rw [if_pos rfl] at w5 ⊢
        refine ⟨W3, S3, env, _, r3, er2.keep (e3.keep r2), w5, fun W4 S4 H4 dw w4 e4 r4 p4 w6 => ?_⟩
        obtain ⟨k'', ek'', k3, ek3, hq⟩ := w6
        cases ek3
        exact ⟨W4, S4, dz, dw, k'', r4, p3.keep (e4.keep r3), p4, ek'', k'', rfl, ok W4 S4 H4 _ (((e1.trans e2).trans e3).trans e4) r4 hq⟩
theorem le_andor (g : Good X K c n G) {a b : E} {y z : Expr} {rest : List Expr} {p : Pos} (iy : PE X y (LE K (wpE c.T G noX a))) :
    (PE X (.BoolOp .And (z :: rest) p) (LE K (wpE c.T G noX b)) → PE X (.BoolOp .And (y :: z :: rest) p) (LE K (wpE c.T G noX (.and a b)))) ∧ (PE X (.BoolOp .Or (z :: rest) p) (LE K (wpE c.T G noX b)) → PE X (.BoolOp .Or (y :: z :: rest) p) (LE K (wpE c.T G noX (.or a b)))) := by
  refine ⟨fun iz => PE.imp (pe_andT iy iz) fun σ H Q ⟨W, S, env, q, rl, er, w, ok⟩ => ?_, fun iz => PE.imp (pe_orT iy iz) fun σ H Q ⟨W, S, env, q, rl, er, w, ok⟩ => ?_⟩
  · simp only [wpE] at w
    refine ⟨W, S, env, _, rl, er, w, fun W1 S1 H1 dx x e1 r1 p1 w1 => ?_⟩
    obtain ⟨k, ek, w2⟩ := w1
    refine ⟨k, g.hK ▸ tru_of r1 p1 ek, ?_⟩
    cases k with
    | false =>
      rw [if_neg Bool.false_ne_true] at w2 ⊢
      exact ok W1 S1 H1 dx x e1 r1 p1 w2
    | true =>
      rw [if_pos rfl] at w2 ⊢
      exact ⟨W1, S1, env, _, r1, er.keep (e1.keep rl), w2, fun W2 S2 H2 dy y e2 r2 p2 w3 => ok W2 S2 H2 dy y (e1.trans e2) r2 p2 w3⟩
  · simp only [wpE] at w
    refine ⟨W, S, env, _, rl, er, w, fun W1 S1 H1 dx x e1 r1 p1 w1 => ?_⟩
    obtain ⟨k, ek, w2⟩ := w1
    refine ⟨k, g.hK ▸ tru_of r1 p1 ek, ?_⟩
    cases k with
    | true =>
      rw [if_pos rfl] at w2 ⊢
      exact ok W1 S1 H1 dx x e1 r1 p1 w2
    | false =>
      rw [if_neg Bool.false_ne_true] at w2 ⊢
      exact ⟨W1, S1, env, _, r1, er.keep (e1.keep rl), w2, fun W2 S2 H2 dy y e2 r2 p2 w3 => ok W2 S2 H2 dy y (e1.trans e2) r2 p2 w3⟩
theorem le_not (g : Good X K c n G) {a : E} {x : Expr} (h : ckE (.not a) c x = true) (ia : ∀ y, ckE a c y = true → PE X y (LE K (wpE c.T G noX a))) : PE X x (LE K (wpE c.T G noX (.not a))) := by
  obtain ⟨y, p, rfl, h1⟩ := ck_not h
  refine PE.imp (pe_notT (ia y h1)) fun σ H Q ⟨W, S, env, q, rl, er, w, ok⟩ => ?_
  simp only [wpE] at w
  refine ⟨W, S, env, _, rl, er, w, fun W1 S1 H1 dx x e1 r1 p1 w1 => ?_⟩
  obtain ⟨k, ek, w2⟩ := w1
  exact ⟨k, g.hK ▸ tru_of r1 p1 ek, ok W1 S1 H1 _ _ e1 r1 (.bl _) w2⟩
theorem le_neg (g : Good X K c n G) {a : E} {x : Expr} (h : ckE (.neg a) c x = true) (ia : ∀ y, ckE a c y = true → PE X y (LE K (wpE c.T G noX a))) : PE X x (LE K (wpE c.T G noX (.neg a))) := by
  obtain ⟨y, p, rfl, h1⟩ := ck_neg h
  refine PE.imp (pe_un un_neg (ia y h1)) fun σ H Q ⟨W, S, env, q, rl, er, w, ok⟩ => ?_
  simp only [wpE] at w
  refine ⟨W, S, env, _, rl, er, w, fun W1 S1 H1 dx x e1 r1 p1 w1 => ?_⟩
  obtain ⟨i, rfl, w2⟩ := w1
  cases p1
  exact ⟨i, rfl, ok W1 S1 H1 _ _ e1 r1 (.int _) w2⟩
theorem le_ife (g : Good X K c n G) {t a b : E} {x : Expr} (h : ckE (.ife t a b) c x = true) (it : ∀ y, ckE t c y = true → PT X y (LT K (wpT c.T G noX t))) (ia : ∀ y, ckE a c y = true → PE X y (LE K (wpE c.T G noX a)))
    (ib : ∀ y, ckE b c y = true → PE X y (LE K (wpE c.T G noX b))) : PE X x (LE K (wpE c.T G noX (.ife t a b))) := by
  obtain ⟨u, y, z, p, rfl, h1, h2, h3⟩ := ck_ife h
  refine PE.imp (pe_ifExp (it u h1) (ia y h2) (ib z h3)) fun σ H Q ⟨W, S, env, q, rl, er, w, ok⟩ => ?_
  simp only [wpE] at w
  refine ⟨W, S, env, fun k S1 => if k = true then wpE c.T G noX a env S1 q else wpE c.T G noX b env S1 q, rl, er, w, fun W1 S1 H1 k e1 r1 w1 => ?_⟩
  cases k with
  | true =>
    rw [if_pos rfl] at w1 ⊢
    exact ⟨W1, S1, env, _, r1, er.keep (e1.keep rl), w1, fun W2 S2 H2 dy y e2 r2 p2 w3 => ok W2 S2 H2 dy y (e1.trans e2) r2 p2 w3⟩
  | false =>
    rw [if_neg Bool.false_ne_true] at w1 ⊢
    exact ⟨W1, S1, env, _, r1, er.keep (e1.keep rl), w1, fun W2 S2 H2 dy y e2 r2 p2 w3 => ok W2 S2 H2 dy y (e1.trans e2) r2 p2 w3⟩
theorem le_ix (g : Good X K c n G) {a b : E} {x : Expr} (h : ckE (.ix a b) c x = true) (ia : ∀ y, ckE a c y = true → PE X y (LE K (wpE c.T G noX a))) (ib : ∀ y, ckE b c y = true → PE X y (LE K (wpE c.T G noX b))) :
    PE X x (LE K (wpE c.T G noX (.ix a b))) := by
  obtain ⟨l, r, p, rfl, h2, h3⟩ := ck_ix h
  refine PE.imp (pe_ix (ix_all g.hK (by have := g.units; omega)) (ia l h2) (ib r h3) (ck_plain h3)) fun σ H Q w => ?_
  simp only [wpE] at w
  refine le_two (op := fun S x y q => ∃ z, ixD S x y = some z ∧ q z S) (fun _ _ _ z => z) (fun _ _ _ z => z) ?_ σ H Q w
  rintro W S H dx dy x y q Q rl px py ⟨z, e, hq⟩ k
  exact ⟨W, S, dx, dy, z, rl, px, py, e, fun W' H' v e' r' p' => k W' S H' z v e' r' p' hq⟩
/-- a display's length, an argument list -/
theorem le_tup (g : Good X K c n G) {es : Es} {x : Expr} (h : ckE (.tup es) c x = true) (ia : ∀ y, ckEs es c y = true → PA X y (LA K (wpEs c.T G noX es))) : PE X x (LE K (wpE c.T G noX (.tup es))) := by
  obtain ⟨xs, k, p, rfl, h1⟩ := ck_tup h
  refine PE.imp (pe_tup (ia xs h1)) fun σ H Q ⟨W, S, env, q, rl, er, w, ok⟩ => ?_
  simp only [wpE] at w
  refine ⟨W, S, env, _, rl, er, w, fun W1 S1 H1 ds vs e1 r1 p1 w1 => ?_⟩
  refine ⟨?_, Out.tup (S := S1) (fun W' H' v e' r' p' => ok W' S1 H' _ v (e1.trans e') r' p' w1.2) r1 p1⟩
  rw [← p1.length]; exact Nat.le_trans w1.1 (by decide)
theorem le_lst (g : Good X K c n G) {es : Es} {x : Expr} (h : ckE (.lst es) c x = true) (ia : ∀ y, ckEs es c y = true → PA X y (LA K (wpEs c.T G noX es))) : PE X x (LE K (wpE c.T G noX (.lst es))) := by
  obtain ⟨xs, p, rfl, h1⟩ := ck_lst h
  refine PE.imp (pe_lst (ia xs h1)) fun σ H Q ⟨W, S, env, q, rl, er, w, ok⟩ => ?_
  simp only [wpE] at w
  refine ⟨W, S, env, _, rl, er, w, fun W1 S1 H1 ds vs e1 r1 p1 w1 => ?_⟩
  refine ⟨?_, Out.lst (S := S1) (fun W' H' v e' r' p' => ok W' S1 H' _ v (e1.trans e') r' p' w1.2) r1 p1⟩
  rw [← p1.length]; exact Nat.le_trans w1.1 (by decide)
theorem le_mls (g : Good X K c n G) {es : Es} {x : Expr} (h : ckE (.mls es) c x = true) (ia : ∀ y, ckEs es c y = true → PA X y (LA K (wpEs c.T G noX es))) : PE X x (LE K (wpE c.T G noX (.mls es))) := by
  obtain ⟨xs, p, rfl, h1⟩ := ck_mls h
  refine PE.imp (pe_lst (ia xs h1)) fun σ H Q ⟨W, S, env, q, rl, er, w, ok⟩ => ?_
  simp only [wpE] at w
  refine ⟨W, S, env, _, rl, er, w, fun W1 S1 H1 ds vs e1 r1 p1 w1 => ?_⟩
  refine ⟨?_, Out.mls (S := S1) (fun m hm W' H' v e' r' p' => ok W' _ H' _ v (e1.trans e') r' p' (w1.2 m hm)) r1 p1⟩
  rw [← p1.length]; exact Nat.le_trans w1.1 (by decide)
theorem le_fz (g : Good X K c n G) {a : E} {x : Expr} (ia : PE X x (LE K (wpE c.T G noX a))) : PE X x (LE K (wpE c.T G noX (.fz a))) := by
  refine PE.imp ia fun σ H Q ⟨W, S, env, q, rl, er, w, ok⟩ => ?_
  simp only [wpE] at w
  refine ⟨W, S, env, _, rl, er, w, fun W1 S1 H1 dx x e1 r1 p1 w1 => ?_⟩
  obtain ⟨m, xs, rfl, hm, hq⟩ := w1
  obtain ⟨a, ha, r2, e2, p2⟩ := rel_fz r1 hm
  cases p1 with
  | loc e =>
    rw [ha] at e; cases e
    exact ok _ _ _ _ _ (e1.trans e2) r2 p2 hq
end
end Mi
set_option maxHeartbeats 4000000
/-! MiR: a list or a tuple backwards. -/
namespace Mi
open PySem PySem.Spec PyProof.Rows L2
section
variable {prog : Program} {w : World} {A : Around} {E : Value → Shared → Prop} {s : Shared}
theorem back_pick (xs : Array Value) : ((List.range xs.size).filterMap fun (k : Nat) => xs[(((xs.size : Nat) : Int) - 1 + (k : Int) * (-1)).toNat]?).toArray = xs.toList.reverse.toArray := by
  have e : (List.range xs.size).filterMap (fun (k : Nat) => xs[(((xs.size : Nat) : Int) - 1 + (k : Int) * (-1)).toNat]?) = xs.toList.reverse := by
    obtain ⟨l⟩ := xs
    apply List.ext_getElem?
    intro i
    have all : ∀ (n : Nat) (f : Nat → Option Value), (∀ k, k < n → (f k).isSome = true) → ∀ i : Nat, ((List.range n).filterMap f)[i]? = if i < n then f i else none := by
      intro n f
      induction n with
      | zero => intro _ i; simp
      | succ n ih =>
        intro h i
        rw [List.range_succ, List.filterMap_append]
        obtain ⟨y, hy⟩ := Option.isSome_iff_exists.mp (h n (by omega))
        have len : ((List.range n).filterMap f).length = n := by
          have q := ih (fun k hk => h k (by omega))
          have a1 := q n
          rw [if_neg (by omega)] at a1
          have a2 := List.getElem?_eq_none_iff.mp a1
          refine Nat.le_antisymm a2 ?_
          cases n with
          | zero => omega
          | succ m =>
            have b1 := q m
            rw [if_pos (by omega)] at b1
            obtain ⟨y', hy'⟩ := Option.isSome_iff_exists.mp (h m (by omega))
            rw [hy'] at b1
            have b2 := (List.getElem?_eq_some_iff.mp b1).1
            omega
        by_cases hi : i < n
        · rw [List.getElem?_append_left (by omega), ih (fun k hk => h k (by omega)), if_pos hi, if_pos (by omega)]
        · rw [List.getElem?_append_right (by omega), len]
          by_cases e : i = n
          · subst e; simp [hy]
          · rw [if_neg (by omega)]
            have : i - n ≠ 0 := by omega
            simp [hy, this]
    have hs : (⟨l⟩ : Array Value).size = l.length := rfl
    rw [hs, all l.length]
    · by_cases hi : i < l.length
      · rw [if_pos hi]
        have t : (((l.length : Nat) : Int) - 1 + (i : Int) * (-1)).toNat = l.length - 1 - i := by omega
        rw [t]
        simp [List.getElem?_reverse hi]
      · rw [if_neg hi, List.getElem?_eq_none (by simp; omega)]
    · intro k hk
      have t : (((l.length : Nat) : Int) - 1 + (k : Int) * (-1)).toNat = l.length - 1 - k := by omega
      rw [t]
      have : l.length - 1 - k < l.length := by omega
      simp [this]
  rw [e]
theorem tup_back {t sl : Addr} {items : Array Value} {vs : Value} {Q : Value → Shared → Prop} (ht : IsTup s.heap t items) (hs : s.heap.IsSliceOf sl .none .none vs) (ps : IsPart vs (some (-1)))
    (h : Q (.ref s.heap.objs.size) { s with heap := s.heap.push { cls := .type "tuple", data := .seq items.toList.reverse.toArray } }) (hsz : items.size ≤ sizeLine) : wpAny (model prog w) A (getItem (.ref t) (.ref sl)) Q E s := by
  have fits : sizeOk (.seq items.toList.reverse.toArray) := by
    show items.toList.reverse.toArray.size ≤ sizeLine
    rw [List.size_toArray, List.length_reverse, Array.length_toList]
    exact hsz
  obtain ⟨os, e1, e2, e3⟩ := id hs
  have tS : s.TypeIs (.ref sl) "slice" := ⟨os, e1, e2⟩
  unfold getItem
  try with_reducible apply wpAny_holding
  first | apply wpAny_bind (wpAny_pure _) | skip
  refine wpAny_bind (wpAny_sequenceKey ht.typeIs (by decide) ?_)
  refine wpAny_bind (wpAny_callSpecial?_slot (name := Str.ofString "__getitem__") ht.typeIs PyProof.Rows.slot_tuple_getitem (wpAny_call_entry PyProof.Rows.slot_tuple_getitem ht.typeIs entry_tuple_getitem ?_ (args_tuple_getitem _ _)))
  show wpAny _ _ (Builtin.Tuple.tupleItemsOf (.ref t) >>= _) _ _ s
  refine wpAny_bind (tupleItemsOf_ ht (wpAny_bind (wpAny_typeOf tS ?_)))
  rw [if_pos (by decide)]
  have parts : ∀ {A' : Around} {E' : Value → Shared → Prop} {Q' : Int × Int × Nat → Shared → Prop}, Q' (((items.size : Nat) : Int) - 1, -1, items.size) s → wpAny (model prog w) A' (Builtin.Slice.sliceApplied (.ref sl) (pure (items.size : Int))) Q' E' s := fun {A' E' Q'} hq => by
    unfold Builtin.Slice.sliceApplied Builtin.Slice.sliceFields
    refine wpAny_bind (wpAny_bind (wpAny_field e1 e3 (x := .none) rfl (wpAny_bind (wpAny_field e1 e3 (x := .none) rfl (wpAny_bind (wpAny_field e1 e3 (x := vs) rfl (wpAny_pure ?_)))))))
    refine wpAny_bind (HT.slicePart_ ps ?_)
    show wpAny _ _ (if ((-1 : Int) == 0) = true then _ else _) _ _ s
    rw [if_neg (by decide)]
    refine wpAny_bind (HT.slicePart_ .none (wpAny_bind (HT.slicePart_ .none (wpAny_bind (wpAny_pure ?_)))))
    show wpAny _ _ (match Builtin.Slice.sliceAdjust none none (-1) (items.size : Int) with | (lo, hi) => pure (lo, (-1 : Int), Builtin.Slice.slicePlaces lo hi (-1))) _ _ s
    have a1 : Builtin.Slice.sliceAdjust none none (-1) (items.size : Int) = ((items.size : Int) - 1, -1) := by
      unfold Builtin.Slice.sliceAdjust
      simp
    rw [a1]
    show wpAny _ _ (pure ((items.size : Int) - 1, (-1 : Int), Builtin.Slice.slicePlaces ((items.size : Int) - 1) (-1) (-1))) _ _ s
    have a2 : Builtin.Slice.slicePlaces ((items.size : Int) - 1) (-1) (-1) = items.size := by
      unfold Builtin.Slice.slicePlaces
      simp
      first | omega | (split <;> omega) | trace_state
    rw [a2]
    exact wpAny_pure hq
  refine wpAny_bind (parts ?_)
  show wpAny _ _ (if (((items.size : Int) - 1) == 0 && (-1 : Int) == 1 && items.size == items.size) = true then _ else _) _ _ s
  rw [if_neg (by simp), back_pick]
  first
    | exact wpAny_bind (m := Builtin.Tuple.tupleExact _) (wpAny_newObj_type (wpAny_pure ⟨_, rfl, wpAny_pure h⟩) fits)
    | exact wpAny_bind (m := Builtin.Tuple.tupleExact _) (wpAny_newObj_type (wpAny_bind (wpAny_pure (wpAny_pure ⟨_, rfl, wpAny_pure h⟩))) fits)
    | exact wpAny_bind (wpAny_bind (m := Builtin.Tuple.tupleExact _) (wpAny_newObj_type (wpAny_pure (wpAny_pure ⟨_, rfl, wpAny_pure h⟩)) fits))
    | exact wpAny_bind (wpAny_bind (m := Builtin.Tuple.tupleExact _) (wpAny_newObj_type (wpAny_pure ⟨_, rfl, wpAny_pure h⟩) fits))
end
/-- x[::-1], x a list or a tuple -/
def tRevA (K : PySem.W.Frag) (te : TE) : TE := fun σ H Q => te σ H fun x H1 => ∃ a xs, x = .ref a ∧ ((SqL K H1 a xs ∧ ∀ p, H1 p = none → Q (.ref p) (upd H1 p (.lst xs.reverse))) ∨ (SqT K H1 a xs ∧ ∀ p, H1 p = none → Q (.ref p) (upd H1 p (.tup xs.reverse))))
theorem pe_revA {X : Cx} {e : Expr} {te : TE} {k : Nat} {p1 p2 p3 pos : Pos} (he : PE X e te) : PE X (.Subscript e (.Slice none none (some (.UnaryOp .USub (.Constant (.int 1) k p1) p2)) p3) pos) (tRevA X.K te) := by
  refine ⟨fun pins s σ H Q I h => Subscript_ (thn (he.run pins s σ H _ I h) fun v s1 ⟨x, H1, I1, r1, a, xs, ex, q⟩ => ?_)⟩
  subst ex
  cases r1
  have hst : PO X (some (.UnaryOp .USub (.Constant (.int 1) k p1) p2)) (tPart (tUn (rU fun i => .int (-i)) (tC (.int 1)))) := po_some (pe_un un_neg pe_int)
  refine wpAny_Slice (thn (po_none.run pins s1 σ H1 (fun o H2 => o = none ∧ H2 = H1) I1 ⟨rfl, rfl⟩) fun vl s2 ⟨l, H2, I2, pl, el, e2⟩ => ?_)
  subst el e2
  refine thn (po_none.run pins s2 σ H2 (fun o H3 => o = none ∧ H3 = H2) I2 ⟨rfl, rfl⟩) fun vu s3 ⟨u, H3, I3, pu, eu, e3⟩ => ?_
  subst eu e3
  refine thn (hst.run pins s3 σ H3 (fun o H4 => o = some (-1) ∧ H4 = H3) I3 ⟨1, rfl, -1, rfl, rfl, rfl⟩) fun vs s4 ⟨o, H4, I4, ps, eo, e4⟩ => ?_
  subst eo e4
  have I5 : Inv X pins σ H4 { s4 with heap := s4.heap.push { cls := .type "slice", data := .fields #[vl, vu, vs] } } := I4.kept (t' := s4.toks) fun b ob q => Heap.get?_push_of_some _ q
  show wpAny (model X.prog X.w) X.A (subscriptTail e (.Slice none none (some (.UnaryOp .USub (.Constant (.int 1) k p1) p2)) p3) (.ref a) (.ref s4.heap.objs.size)) (EP X pins σ Q) X.xe { s4 with heap := s4.heap.push { cls := .type "slice", data := .fields #[vl, vu, vs] } }
  rcases q with ⟨hx, q⟩ | ⟨hx, q⟩
  · obtain ⟨its, r, ht, hz⟩ := I5.list hx
    have hlen := r.length
    refine tail_any (ops := [.ref a, .ref s4.heap.objs.size]) ht.isList.typeIs (PySem.slot_list_getitem.lookup) ?_ (by with_unfolding_all rfl)
    refine wpAny_getItem_list_slice ht.isList (Heap.IsSliceOf.new _ vl vu vs) pl pu ps (by decide) ?_ (by rw [List.size_toArray]; omega)
    rw [PySem.W.krv_pick]
    exact ⟨.ref _, _, I5.laid (t' := s4.toks) (o := .lst xs.reverse) (fun b ob q => Heap.get?_push_of_some _ q) (Nat.le_refl _) ⟨by rw [List.length_reverse]; exact hz, _, 0, r.reverse, Heap.get?_push_size _ rfl⟩, rfl, q _ (I5.hok.fresh (Nat.le_refl _))⟩
  · obtain ⟨its, r, ht, hz⟩ := I5.tuple hx
    have hlen := r.length
    cases pl
    cases pu
    refine tail_any (ops := [.ref a, .ref s4.heap.objs.size]) ht.typeIs (PyProof.Rows.slot_tuple_getitem.lookup) ?_ (by with_unfolding_all rfl)
    refine tup_back ht (Heap.IsSliceOf.new _ .none .none vs) ps ?_ (by rw [List.size_toArray]; omega)
    exact ⟨.ref _, _, I5.laid (t' := s4.toks) (o := .tup xs.reverse) (fun b ob q => Heap.get?_push_of_some _ q) (Nat.le_refl _) ⟨by rw [List.length_reverse]; exact hz, _, r.reverse, ⟨_, Heap.get?_push_size _ rfl, rfl, _, rfl⟩⟩, rfl, q _ (I5.hok.fresh (Nat.le_refl _))⟩
end Mi
set_option maxHeartbeats 4000000
/-! Mi10: the small language is right: slices, arguments, calls. -/
namespace Mi
open PySem PySem.Spec PyProof.Rows L2

section
variable {X : Cx} {K : Frg} {c : SC} {n : Nat} {G : GT}

theorem la_nil : PA X [] (LA K (wpEs c.T G noX .nil)) := PA.imp pa_nil fun σ H Q ⟨W, S, env, q, rl, er, w, ok⟩ => by
  simp only [wpEs] at w
  exact ok W S H [] [] (Ext.refl _ _ _) rl .nil w
theorem la_cons {e : E} {es : Es} {x : Expr} {xs : List Expr} (h : ckE e c x = true) (ie : PE X x (LE K (wpE c.T G noX e))) (is : PA X xs (LA K (wpEs c.T G noX es))) : PA X (x :: xs) (LA K (wpEs c.T G noX (.cons e es))) :=
  PA.imp (pa_cons ie is (ck_star h)) fun σ H Q ⟨W, S, env, q, rl, er, w, ok⟩ => by
    simp only [wpEs] at w
    refine ⟨W, S, env, _, rl, er, w, fun W1 S1 H1 dx x e1 r1 p1 w1 => ?_⟩
    exact ⟨W1, S1, env, _, r1, er.keep (e1.keep rl), w1, fun W2 S2 H2 ds vs e2 r2 p2 w2 => ok W2 S2 H2 _ _ (e1.trans e2) r2 (.cons (p1.keep (e2.keep r1)) p2) w2⟩

/-- a slice's part -/
def LO (K : Frg) (t : Env → Sto → (Option Int → Sto → Prop) → Prop) : TO := fun σ H Q => ∃ W S env q, Rel K W S H ∧ EnvR K W H env σ ∧ t env S q ∧ ∀ W' S' H' o, Ext W S H W' S' H' → Rel K W' S' H' → q o S' → Q o H'
def wpO (T : Tab) (G : GT) (es : Es) (env : Env) (S : Sto) (q : Option Int → Sto → Prop) : Prop := wpEs T G noX es env S fun ds S' => ∃ is, intsD ds = some is ∧ q is[0]? S'
theorem lo_nil : PO X none (LO K (wpO c.T G .nil)) := ⟨fun pins s σ H Q I ⟨W, S, env, q, rl, er, w, ok⟩ => by
  simp only [wpO, wpEs] at w
  obtain ⟨is, hi, hq⟩ := w
  cases hi
  exact po_none.run pins s σ H Q I (ok W S H none (Ext.refl _ _ _) rl hq)⟩
theorem lo_one {e : E} {x : Expr} (ie : PE X x (LE K (wpE c.T G noX e))) : PO X (some x) (LO K (wpO c.T G (.cons e .nil))) := ⟨fun pins s σ H Q I ⟨W, S, env, q, rl, er, w, ok⟩ => by
  refine (po_some ie).run pins s σ H Q I ?_
  simp only [wpO, wpEs] at w
  refine ⟨W, S, env, _, rl, er, w, fun W1 S1 H1 dx x e1 r1 p1 w1 => ?_⟩
  obtain ⟨is, hi, hq⟩ := w1
  cases p1 with
  | int i =>
    cases hi
    exact ⟨i, rfl, ok W1 S1 H1 _ e1 r1 hq⟩
  | _ => cases hi⟩
theorem le_sl (g : Good X K c n G) {a : E} {lo hi : Es} {x : Expr} (h : ckE (.sl a lo hi) c x = true) (ia : ∀ y, ckE a c y = true → PE X y (LE K (wpE c.T G noX a))) (il : ∀ y, ckO lo c y = true → PO X y (LO K (wpO c.T G lo))) (ih : ∀ y, ckO hi c y = true → PO X y (LO K (wpO c.T G hi))) :
    PE X x (LE K (wpE c.T G noX (.sl a lo hi))) := by
  obtain ⟨y, l, u, p', p, rfl, h1, h2, h3⟩ := ck_sl h
  refine PE.imp (pe_slice (sl_all g.hK) (ia y h1) (il l h2) (ih u h3)) fun σ H Q ⟨W, S, env, q, rl, er, w, ok⟩ => ?_
  simp only [wpE] at w
  refine ⟨W, S, env, _, rl, er, w, fun W1 S1 H1 dx x e1 r1 p1 w1 => ?_⟩
  refine ⟨W1, S1, env, fun o S2 => wpO c.T G hi env S2 fun o' S3 => ∃ z, slD S3 dx o o' = some z ∧ q z S3, r1, er.keep (e1.keep rl), ?_, fun W2 S2 H2 o e2 r2 w2 => ?_⟩
  · unfold wpO
    exact w1
  refine ⟨W2, S2, env, _, r2, (er.keep (e1.keep rl)).keep (e2.keep r1), w2, fun W3 S3 H3 o' e3 r3 w3 => ?_⟩
  obtain ⟨z, ez, hq⟩ := w3
  exact ⟨W3, S3, dx, z, r3, (p1.keep (e2.keep r1)).keep (e3.keep r2), ez, fun W' H' v e' r' p' => ok W' S3 H' z v (((e1.trans e2).trans e3).trans e') r' p' hq⟩
theorem le_rev (g : Good X K c n G) {a : E} {x : Expr} (h : ckE (.rev a) c x = true) (ia : ∀ y, ckE a c y = true → PE X y (LE K (wpE c.T G noX a))) : PE X x (LE K (wpE c.T G noX (.rev a))) := by
  obtain ⟨y, k, p1, p2, p3, p, rfl, h1⟩ := ck_rev h
  refine PE.imp (pe_revA (ia y h1)) fun σ H Q ⟨W, S, env, q, rl, er, w, ok⟩ => ?_
  simp only [wpE] at w
  refine ⟨W, S, env, _, rl, er, w, fun W1 S1 H1 dx x e1 r1 p1 w1 => ?_⟩
  obtain ⟨z, ez, hq⟩ := w1
  have lst : ∀ {xs : List D}, lstD S1 dx = some xs → z = .lst xs.reverse → ∃ a vs, x = V.ref a ∧ ((SqL X.K H1 a vs ∧ ∀ p, H1 p = none → Q (.ref p) (upd H1 p (.lst vs.reverse))) ∨ (SqT X.K H1 a vs ∧ ∀ p, H1 p = none → Q (.ref p) (upd H1 p (.tup vs.reverse)))) := fun {xs} hl e => by
    subst e
    obtain ⟨b, vs, rfl, l, qs⟩ := lst_of r1 p1 hl
    exact ⟨b, vs, rfl, .inl ⟨SqL.of l, Out.lst (S := S1) (fun W' H' v e' r' p' => ok W' S1 H' _ v (e1.trans e') r' p' hq) r1 qs.reverse⟩⟩
  have viaL : (lstD S1 dx).map (fun xs => D.lst xs.reverse) = some z → ∃ a vs, x = V.ref a ∧ ((SqL X.K H1 a vs ∧ ∀ p, H1 p = none → Q (.ref p) (upd H1 p (.lst vs.reverse))) ∨ (SqT X.K H1 a vs ∧ ∀ p, H1 p = none → Q (.ref p) (upd H1 p (.tup vs.reverse)))) := fun hz => by
    cases c' : lstD S1 dx with
    | none => rw [c'] at hz; cases hz
    | some xs => rw [c'] at hz; cases hz; exact lst c' rfl
  cases p1 with
  | tup f qs =>
    cases ez
    exact ⟨_, _, rfl, .inr ⟨g.hK ▸ f.sq, Out.tup (S := S1) (fun W' H' v e' r' p' => ok W' S1 H' _ v (e1.trans e') r' p' hq) r1 qs.reverse⟩⟩
  | _ => exact viaL ez

/-! ### built-in functions -/
theorem es_any {args : List Expr} {es : Es} {env : PySem.Env} (h : ckEs es c args = true) : ∀ pos, (backTo pos (starEach args env)).any (·.1) = false := by
  intro pos
  induction args generalizing es with
  | nil => rfl
  | cons x xs ih =>
    cases es with
    | nil => simp [ckEs] at h
    | cons e es =>
      simp only [ckEs, Bool.and_eq_true] at h
      rw [ck_star h.1]
      show (backTo pos ((false, eval x env) :: starEach xs env)).any (·.1) = false
      show ((false, _) :: backTo pos (starEach xs env)).any (·.1) = false
      rw [List.any_cons, ih h.2]; rfl
theorem es_hd {a : Expr} {args : List Expr} {es : Es} {env : PySem.Env} (h : ckEs es c (a :: args) = true) : starEach (a :: args) env = (false, eval a env) :: starEach args env ∧ ∃ es', ckEs es' c args = true := by
  cases es with
  | nil => simp [ckEs] at h
  | cons e es =>
    simp only [ckEs, Bool.and_eq_true] at h
    exact ⟨ck_star h.1, es, h.2⟩
theorem le_bif (g : Good X K c n G) {b : Bi} {es : Es} {x : Expr} (h : ckE (.bif b es) c x = true) (ia : ∀ y, ckEs es c y = true → PA X y (LA K (wpEs c.T G noX es))) : PE X x (LE K (wpE c.T G noX (.bif b es))) := by
  obtain ⟨nm, p', a, args, p, rfl, h1, h2, h3⟩ := ck_bif h
  obtain ⟨st, es', hes⟩ := es_hd (env := X.env) h3
  have e1 := eqb h1
  subst e1
  have hm : X.mg (biNm b) = none := g.bi _ (by cases b <;> decide)
  have key : ∀ {r : List V → Hp → VK → Prop}, (∀ vs H Q, rBi K b vs H Q → r vs H Q) → ∀ σ H Q, LE K (wpE c.T G noX (.bif b es)) σ H Q → tCB r (LA K (wpEs c.T G noX es)) σ H Q := fun {r} hr σ H Q ⟨W, S, env, q, rl, er, w, ok⟩ => by
    simp only [wpE] at w
    refine ⟨W, S, env, _, rl, er, w, fun W1 S1 H1 ds vs e1 r1 p1 w1 => ?_⟩
    obtain ⟨z, ez, hq⟩ := w1
    exact hr _ _ _ ⟨W1, S1, ds, z, r1, p1, ez, fun W' H' v e' r' p' => ok W' S1 H' z v (e1.trans e') r' p' hq⟩
  cases b with
  | len => exact PE.imp (pe_callB (bi_len g.hK) (g.gl h2) hm (by decide +kernel) (ia _ h3) (by decide) (by decide) st (es_any hes p)) (key fun _ _ _ z => z)
  | repr => exact PE.imp (pe_callB (bi_repr g.hK g.grd (by have := g.units; omega)) (g.gl h2) hm (by decide +kernel) (ia _ h3) (by decide) (by decide) st (es_any hes p)) (key fun _ _ _ z => z)
  | str => exact PE.imp (pe_callTy (bi_str g.hK) (g.gl h2) hm (by decide +kernel) (ia _ h3) (by decide) (by decide) st (es_any hes p)) (key fun _ _ _ z => z)
  | int => exact PE.imp (pe_callTy (bi_int g.hK) (g.gl h2) hm (by decide +kernel) (ia _ h3) (by decide) (by decide) st (es_any hes p)) (key fun _ _ _ z => z)
  | tuple => exact PE.imp (pe_callTy (bi_tuple g.hK) (g.gl h2) hm (by decide +kernel) (ia _ h3) (by decide) (by decide) st (es_any hes p)) (key fun _ _ _ z => z)
  | list => exact PE.imp (pe_callTy (bi_list g.hK) (g.gl h2) hm (by decide +kernel) (ia _ h3) (by decide) (by decide) st (es_any hes p)) (key fun _ _ _ z => z)
  | max1 => exact PE.imp (pe_callB (bi_max1 g.hK g.calm) (g.gl h2) hm (by decide +kernel) (ia _ h3) (by decide) (by decide) st (es_any hes p)) (key fun _ _ _ z => z)
  | min1 => exact PE.imp (pe_callB (bi_min1 g.hK g.calm) (g.gl h2) hm (by decide +kernel) (ia _ h3) (by decide) (by decide) st (es_any hes p)) (key fun _ _ _ z => z)
  | max2 => exact PE.imp (pe_callB (bi_max2 g.hK g.calm) (g.gl h2) hm (by decide +kernel) (ia _ h3) (by decide) (by decide) st (es_any hes p)) (key fun _ _ _ z => z)
  | min2 => exact PE.imp (pe_callB (bi_min2 g.hK g.calm) (g.gl h2) hm (by decide +kernel) (ia _ h3) (by decide) (by decide) st (es_any hes p)) (key fun _ _ _ z => z)
  | sum => exact PE.imp (pe_callB (bi_sum g.hK g.calm) (g.gl h2) hm (by decide +kernel) (ia _ h3) (by decide) (by decide) st (es_any hes p)) (key fun _ _ _ z => z)
  | all => exact PE.imp (pe_callB (bi_all g.hK g.calm) (g.gl h2) hm (by decide +kernel) (ia _ h3) (by decide) (by decide) st (es_any hes p)) (key fun _ _ _ z => z)
  | any => exact PE.imp (pe_callB (bi_any g.hK g.calm) (g.gl h2) hm (by decide +kernel) (ia _ h3) (by decide) (by decide) st (es_any hes p)) (key fun _ _ _ z => z)

theorem ty_boot (t : Nat) : bootBuiltins (Str.ofString (tyNm t)) = some (.type (tyNm t)) ∧ Str.ofString (tyNm t) ∈ biAll ∧ Str.ofString (tyNm t) ≠ "__name__" ∧ (Str.ofString (tyNm t) == ("__debug__" : Str)) = false := by
  have h5 : ∀ t, 5 ≤ t → tyNm t = "dict" := fun t h => by
    match t, h with
    | t + 5, _ => rfl
  have ht : t = 0 ∨ t = 1 ∨ t = 2 ∨ t = 3 ∨ t = 4 ∨ 5 ≤ t := by omega
  rcases ht with rfl | rfl | rfl | rfl | rfl | h
  · exact ⟨by decide +kernel, by decide, by decide, by decide⟩
  · exact ⟨by decide +kernel, by decide, by decide, by decide⟩
  · exact ⟨by decide +kernel, by decide, by decide, by decide⟩
  · exact ⟨by decide +kernel, by decide, by decide, by decide⟩
  · exact ⟨by decide +kernel, by decide, by decide, by decide⟩
  · rw [h5 t h]; exact ⟨by decide +kernel, by decide, by decide, by decide⟩
theorem le_isi (g : Good X K c n G) {a : E} {t : Nat} {x : Expr} (h : ckE (.isi a t) c x = true) (ia : ∀ y, ckE a c y = true → PE X y (LE K (wpE c.T G noX a))) : PE X x (LE K (wpE c.T G noX (.isi a t))) := by
  obtain ⟨nm, p1, v, ny, p2, p, rfl, h1, h2, h3, h4, h5⟩ := ck_isi h
  have e1 := eqb h1
  have e3 := eqb h3
  subst e1 e3
  obtain ⟨b1, b2, b3, b4⟩ := ty_boot t
  have hm : X.mg "isinstance" = none := g.bi _ (by decide)
  have pt : PE X (.Name (Str.ofString (tyNm t)) p2) (tC (.ty (tyNm t))) := pe_bltn (g.gl h4) (g.bi _ b2) b1 rfl b3 b4
  have pa : PA X [v, .Name (Str.ofString (tyNm t)) p2] (tCons (LE K (wpE c.T G noX a)) (tCons (tC (.ty (tyNm t))) tNil)) := pa_cons (ia v h5) (pa_cons pt pa_nil) (ck_star h5)
  refine PE.imp (pe_callB (isi_all g.hK t) (g.gl h2) hm (by decide +kernel) pa (by decide) (by decide) (ck_star h5) (by rfl)) fun σ H Q ⟨W, S, env, q, rl, er, w, ok⟩ => ?_
  simp only [wpE] at w
  refine ⟨W, S, env, _, rl, er, w, fun W1 S1 H1 dx x e1 r1 p1 w1 => ?_⟩
  obtain ⟨k, ek, hq⟩ := w1
  exact ⟨W1, S1, dx, x, k, rfl, r1, p1, ek, ok W1 S1 H1 _ _ e1 r1 (.bl k) hq⟩
theorem le_mli (g : Good X K c n G) {a : E} {x : Expr} (h : ckE (.mli a) c x = true) (ia : ∀ y, ckE a c y = true → PE X y (LE K (wpE c.T G noX a))) : PE X x (LE K (wpE c.T G noX (.mli a))) := by
  obtain ⟨nm, p1, v, p, rfl, h1, h2, h3⟩ := ck_mli h
  have e1 := eqb h1
  subst e1
  have hm : X.mg "list" = none := g.bi _ (by decide)
  refine PE.imp (pe_callTy call_list_of (g.gl h2) hm (by decide +kernel) (pa_cons (ia v h3) pa_nil (ck_star h3)) (by decide) (by decide) (ck_star h3) (by rfl)) fun σ H Q ⟨W, S, env, q, rl, er, w, ok⟩ => ?_
  simp only [wpE] at w
  refine ⟨W, S, env, _, rl, er, w, fun W1 S1 H1 dx x e1 r1 p1 w1 => ?_⟩
  obtain ⟨xs, exs, hq⟩ := w1
  obtain ⟨b, vs, rfl, sq, qs⟩ := seq_or g.hK r1 p1 exs
  refine ⟨b, vs, rfl, ?_, Out.mls (S := S1) (fun m hm W' H' v e' r' p' => ok W' _ H' _ v (e1.trans e') r' p' (hq m hm)) r1 qs⟩
  rcases sq with h | ⟨h, _⟩
  · exact .inl h
  · exact .inr h
theorem le_mdc (g : Good X K c n G) {a : E} {x : Expr} (h : ckE (.mdc a) c x = true) (ia : ∀ y, ckE a c y = true → PE X y (LE K (wpE c.T G noX a))) : PE X x (LE K (wpE c.T G noX (.mdc a))) := by
  obtain ⟨nm, p1, v, p, rfl, h1, h2, h3⟩ := ck_mdc h
  have e1 := eqb h1
  subst e1
  have hm : X.mg "dict" = none := g.bi _ (by decide)
  refine PE.imp (pe_callTy call_dictD (g.gl h2) hm (by decide +kernel) (pa_cons (ia v h3) pa_nil (ck_star h3)) (by decide) (by decide) (ck_star h3) (by rfl)) fun σ H Q ⟨W, S, env, q, rl, er, w, ok⟩ => ?_
  simp only [wpE] at w
  refine ⟨W, S, env, _, rl, er, w, fun W1 S1 H1 dx x e1 r1 p1 w1 => ?_⟩
  obtain ⟨n, kvs, rfl, hn, hq⟩ := w1
  cases p1 with
  | loc he =>
    obtain ⟨vs, lv, qs⟩ := loc_dic r1 hn he
    refine ⟨_, vs, rfl, .inl lv, fun a ha => ?_⟩
    obtain ⟨m, hm, r', e, hr⟩ := rel_new r1 ha (.dic kvs) (.dK vs) fun W' H' k h => ⟨vs, h, qs.keep k⟩
    exact ok _ _ _ _ _ (e1.trans e) r' (.loc hr) (hq m hm)
end
end Mi
set_option maxHeartbeats 4000000
/-! Mi11: the small language is right: methods, calls, tests, walks. -/
namespace Mi
open PySem PySem.Spec PyProof.Rows L2

section
variable {X : Cx} {K : Frg} {c : SC} {n : Nat} {G : GT}

/-! ### calls of the program's own defs -/
theorem run_d (g : Good X K c n G) {a : Addr} {gf : List D → Sto → Q1 → XD → Prop} (F : FnD X.prog X.w K X.mg X.base n a gf) {pins : List (Addr × Obj)} {σ : L2.St} {H : Hp} {s : Shared} {us : List Value} {vs : List V} {W : Wd} {S : Sto} {ds : List D} {q : Q1} {Q : VK}
    (I : Inv X pins σ H s) (rv : Vals vs us) (rl : Rel K W S H) (rp : Reps K W H ds vs) (hg : gf ds S q noX) (ok : ∀ W' H' v d S', Ext W S H W' S' H' → Rel K W' S' H' → Rep K W' H' d v → q d S' → Q v H') :
    wpAny (model X.prog X.w) X.A (call (.ref a) us) (EP X pins σ Q) X.xe s := by
  have E0 := I.env0
  rw [g.hK] at E0
  refine wpAny_call (codeAny_mono (F.2 X.A X.stack s H us vs W S ds q Q g.room g.grd E0 rv rl rp hg ok) fun r s' hq => ?_)
  cases r with
  | error e => exact False.elim hq
  | ok fl =>
    cases fl with
    | ret u => exact I.after hq
    | next => exact False.elim hq
    | brk => exact False.elim hq
    | cont => exact False.elim hq
theorem le_call (g : Good X K c n G) {f : Nat} {es : Es} {x : Expr} (h : ckE (.call f es) c x = true) (ia : ∀ y, ckEs es c y = true → PA X y (LA K (wpEs c.T G noX es))) : PE X x (LE K (wpE c.T G noX (.call f es))) := by
  obtain ⟨nm, p', args, p, rfl, h1, h2, h3, h4⟩ := ck_call h
  obtain ⟨o1, _, _⟩ := odd_of (by simpa using h3)
  obtain ⟨a, hm, F⟩ := g.fns f nm (eqb h1)
  have hk : PySem.W.keepIn X.K (.ref a) = true := by rw [g.hK]; exact F.1
  refine ⟨fun pins s σ H Q I ⟨W, S, env, q, rl, er, w, ok⟩ => wpAny_Call_Name_kw (ld_glob I (g.gl h2) hm ?_ o1)⟩
  simp only [wpE] at w
  cases args with
  | nil =>
    have en : es = .nil := by cases es with
      | nil => rfl
      | cons _ _ => simp [ckEs] at h4
    subst en
    simp only [wpEs] at w
    exact PySem.W.callWith_K0 I.kIn hk (run_d g F I .nil rl .nil w fun W' H' v d S' e r p hq => ok W' S' H' d v e r p hq)
  | cons y ys =>
    obtain ⟨st, es', hes⟩ := es_hd (env := X.env) h4
    have step : wpAny (model X.prog X.w) X.A (spliced (backTo p (starEach (y :: ys) X.env))) (AP X pins σ fun vs H1 => ∃ W1 S1 ds, Ext W S H W1 S1 H1 ∧ Rel K W1 S1 H1 ∧ Reps K W1 H1 ds vs ∧ G f ds S1 q noX) X.xe s :=
      (ia _ h4).run p pins s σ H _ I ⟨W, S, env, _, rl, er, w, fun W1 S1 H1 ds vs e1 r1 p1 w1 => ⟨W1, S1, ds, e1, r1, p1, w1⟩⟩
    refine PySem.W.callWith_K (h₀ := X.base) I.ok.mod.kin hk (thn step fun us s1 hh => ?_) st (es_any hes p)
    obtain ⟨vs, H1, I1, rv, W1, S1, ds, e1, r1, p1, w1⟩ := hh
    exact ⟨I1.kIn, run_d g F I1 rv r1 p1 w1 fun W' H' v d S' e r p hq => ok W' S' H' d v (e1.trans e) r p hq⟩

/-! ### methods -/
theorem ab_of {v : Expr} (h : notCall v = true) {m : Str} {env : PySem.Env} : attributeBase v m env (eval v env) = eval v env := by
  cases v <;> first | rfl | (simp [notCall] at h; done)
theorem lst_ty {W : Wd} {S : Sto} {H : Hp} {d : D} {v : V} (g : Good X K c n G) (r : Rel K W S H) (p : Rep K W H d v) (h : kindD S d = some "list") : tyV X.K "list" v H := by
  cases p with
  | lst _ e _ => exact .inl ⟨rfl, _, SqL.of e⟩
  | @loc m a e =>
    dsimp only [kindD] at h
    split at h
    · rename_i xs hx
      obtain ⟨vs, l, _⟩ := loc_lst r hx e
      exact .inl ⟨rfl, _, SqL.of l⟩
    · exact absurd h (by decide)
    · exact absurd h (by simp)
  | _ => exact absurd h (by first | decide | simp [kindD])
theorem dic_ty {W : Wd} {S : Sto} {H : Hp} {d : D} {v : V} (r : Rel K W S H) (p : Rep K W H d v) (h : kindD S d = some "dict") : ∃ m a kvs vs, d = .loc m ∧ v = .ref a ∧ S m = some (.dic kvs) ∧ W.rho m = some a ∧ H a = some (.dK vs) := by
  cases p with
  | @loc m a e =>
    dsimp only [kindD] at h
    split at h
    · exact absurd h (by decide)
    · rename_i xs hx
      obtain ⟨vs, l, _⟩ := loc_dic r hx e
      exact ⟨m, a, xs, vs, rfl, rfl, hx, e, l⟩
    · exact absurd h (by simp)
  | _ => exact absurd h (by first | decide | simp [kindD])
theorem key_of {W : Wd} {H : Hp} {d : D} {v : V} {k : Key} (p : Rep K W H d v) (h : keyD d = some k) : v = kV k := by
  cases p <;> first | (cases h; rfl) | cases h
theorem es_one {es : Es} {y : Expr} (h : ckEs es c [y] = true) : ∃ e, es = .cons e .nil ∧ ckE e c y = true := by
  cases es with
  | nil => simp [ckEs] at h
  | cons e es =>
    simp only [ckEs, Bool.and_eq_true] at h
    cases es with
    | nil => exact ⟨e, rfl, h.1⟩
    | cons _ _ => exact absurd h.2 (by simp [ckEs])
theorem es_two {es : Es} {y z : Expr} (h : ckEs es c [y, z] = true) : ∃ e f, es = .cons e (.cons f .nil) ∧ ckE e c y = true ∧ ckE f c z = true := by
  cases es with
  | nil => simp [ckEs] at h
  | cons e es =>
    simp only [ckEs, Bool.and_eq_true] at h
    obtain ⟨f, rfl, h2⟩ := es_one h.2
    exact ⟨e, f, rfl, h.1, h2⟩
theorem le_meth (g : Good X K c n G) {m : Mt} {o : E} {es : Es} {x : Expr} (h : ckE (.meth m o es) c x = true) (io : ∀ y, ckE o c y = true → PE X y (LE K (wpE c.T G noX o)))
    (i1 : ∀ (e : E) (y : Expr), es = .cons e .nil → ckE e c y = true → PE X y (LE K (wpE c.T G noX e))) (i2 : ∀ (e f : E) (y : Expr), es = .cons e (.cons f .nil) → (ckE e c y = true → PE X y (LE K (wpE c.T G noX e))) ∧ (ckE f c y = true → PE X y (LE K (wpE c.T G noX f)))) :
    PE X x (LE K (wpE c.T G noX (.meth m o es))) := by
  obtain ⟨v, nm, ap, args, p, rfl, h1, h2, h3, h4, h5, h6⟩ := ck_meth h
  have e1 := eqb h1
  subst e1
  have hu : X.A.units + 1 < cLine := by have := g.units; omega
  cases m with
  | append =>
    match args, h5, h4 with
    | [y], _, h4 =>
      obtain ⟨e, rfl, hy⟩ := es_one h4
      refine PE.imp (pe_bm PySem.F.plainAttrs_list PySem.F.slot_list_append PySem.F.type_list_append mt_append (io v h3) (pa_cons (i1 e y rfl hy) pa_nil (ck_star hy)) (ab_of h6) (by rw [ck_star hy]; rfl) h2 (ck_star hy) rfl) fun σ H Q ⟨W, S, env, q, rl, er, w, ok⟩ => ?_
      simp only [wpE, wpEs] at w
      refine ⟨W, S, env, _, rl, er, w, fun W1 S1 H1 dx x e1 r1 p1 w1 => ⟨lst_ty g r1 p1 w1.1, ?_⟩⟩
      refine ⟨W1, S1, env, _, r1, er.keep (e1.keep rl), w1.2, fun W2 S2 H2 dy y e2 r2 p2 w2 => ?_⟩
      obtain ⟨z, ez, hq⟩ := w2
      have p1' := p1.keep (e2.keep r1)
      cases p1' with
      | @loc mm a he =>
        dsimp only [mtD] at ez
        split at ez
        · rename_i xs hx
          split at ez
          · rename_i hl
            cases ez
            obtain ⟨vs, l, qs⟩ := loc_lst r2 hx he
            obtain ⟨r3, e3⟩ := rel_put r2 hx he (.lst (xs ++ [dy])) (.lst (vs ++ [y])) fun H' k e => ⟨_, e, (qs.keep k).append (.cons (p2.keep k) .nil)⟩
            exact ⟨a, vs, y, rfl, rfl, l, by rw [← qs.length]; exact Nat.lt_trans hl (by decide), ok _ _ _ _ _ ((e1.trans e2).trans e3) r3 .non hq⟩
          · cases ez
        · cases ez
        · cases ez
      | _ => cases ez
  | extend =>
    match args, h5, h4 with
    | [y], _, h4 =>
      obtain ⟨e, rfl, hy⟩ := es_one h4
      refine PE.imp (pe_bm PySem.F.plainAttrs_list PySem.F.slot_list_extend PySem.F.type_list_extend mt_extend (io v h3) (pa_cons (i1 e y rfl hy) pa_nil (ck_star hy)) (ab_of h6) (by rw [ck_star hy]; rfl) h2 (ck_star hy) rfl) fun σ H Q ⟨W, S, env, q, rl, er, w, ok⟩ => ?_
      simp only [wpE, wpEs] at w
      refine ⟨W, S, env, _, rl, er, w, fun W1 S1 H1 dx x e1 r1 p1 w1 => ⟨lst_ty g r1 p1 w1.1, ?_⟩⟩
      refine ⟨W1, S1, env, _, r1, er.keep (e1.keep rl), w1.2, fun W2 S2 H2 dy y e2 r2 p2 w2 => ?_⟩
      obtain ⟨z, ez, hq⟩ := w2
      have p1' := p1.keep (e2.keep r1)
      cases p1' with
      | @loc mm a he =>
        dsimp only [mtD] at ez
        split at ez
        · rename_i xs hx
          split at ez
          · rename_i ys hy
            split at ez
            · rename_i hl
              cases ez
              obtain ⟨vs, l, qs⟩ := loc_lst r2 hx he
              obtain ⟨b, us, rfl, l2, qs2⟩ := lst_of r2 p2 hy
              obtain ⟨r3, e3⟩ := rel_put r2 hx he (.lst (xs ++ ys)) (.lst (vs ++ us)) fun H' k e => ⟨_, e, (qs.keep k).append (qs2.keep k)⟩
              exact ⟨a, b, vs, us, rfl, rfl, l, l2, by rw [← qs.length, ← qs2.length]; exact Nat.le_trans (Nat.le_of_lt hl) (by decide), ok _ _ _ _ _ ((e1.trans e2).trans e3) r3 .non hq⟩
            · cases ez
          · cases ez
        · cases ez
        · cases ez
      | _ => cases ez
  | pop0 =>
    match args, h5, h4 with
    | [], _, h4 =>
      have en : es = .nil := by cases es with
        | nil => rfl
        | cons _ _ => simp [ckEs] at h4
      subst en
      refine PE.imp (pe_bm0 PySem.F.plainAttrs_list PySem.F.slot_list_pop PySem.F.type_list_pop mt_pop (io v h3) (ab_of h6) h2) fun σ H Q ⟨W, S, env, q, rl, er, w, ok⟩ => ?_
      simp only [wpE, wpEs] at w
      refine ⟨W, S, env, _, rl, er, w, fun W1 S1 H1 dx x e1 r1 p1 w1 => ⟨lst_ty g r1 p1 w1.1, ?_⟩⟩
      obtain ⟨_, z, ez, hq⟩ := w1
      cases p1 with
      | @loc mm a he =>
        dsimp only [mtD] at ez
        split at ez
        · rename_i xs hx
          obtain ⟨vs, l, qs⟩ := loc_lst r1 hx he
          cases cc : xs[xs.length - 1]? with
          | none => rw [cc] at ez; cases ez
          | some d =>
            rw [cc] at ez; cases ez
            obtain ⟨u, hu, pu⟩ := qs.get cc
            rw [qs.length] at hu
            have qd : Reps K W1 H1 xs.dropLast vs.dropLast := by
              rw [List.dropLast_eq_take, List.dropLast_eq_take, qs.length]
              exact qs.take _
            obtain ⟨r3, e3⟩ := rel_put r1 hx he (.lst xs.dropLast) (.lst vs.dropLast) fun H' k e => ⟨_, e, qd.keep k⟩
            exact ⟨a, vs, u, rfl, rfl, l, hu, ok _ _ _ _ _ (e1.trans e3) r3 (pu.keep (e3.keep r1)) hq⟩
        · cases ez
        · cases ez
      | _ => cases ez
  | get1 =>
    match args, h5, h4 with
    | [y], _, h4 =>
      obtain ⟨e, rfl, hy⟩ := es_one h4
      refine PE.imp (pe_dget1 hu (io v h3) (i1 e y rfl hy) ⟨ab_of h6, by rw [ck_star hy]; rfl, h2, by rw [ck_star hy]; rfl⟩) fun σ H Q ⟨W, S, env, q, rl, er, w, ok⟩ => ?_
      simp only [wpE, wpEs] at w
      refine ⟨W, S, env, _, rl, er, w, fun W1 S1 H1 dx x e1 r1 p1 w1 => ?_⟩
      obtain ⟨mm, a, kvs0, vs0, rfl, rfl, _, hr, l0⟩ := dic_ty r1 p1 w1.1
      refine ⟨a, rfl, .inl ⟨_, .inl l0⟩, W1, S1, env, _, r1, er.keep (e1.keep rl), w1.2, fun W2 S2 H2 dy y e2 r2 p2 w2 => ?_⟩
      obtain ⟨z, ez, hq⟩ := w2
      dsimp only [mtD] at ez
      split at ez
      · cases ez
      · rename_i kvs hx
        cases ck : keyD dy with
        | none => rw [ck] at ez; cases ez
        | some k =>
          rw [ck] at ez; cases ez; dsimp only at hq
          obtain ⟨vs, l, qs⟩ := loc_dic r2 hx (e2.rho _ _ hr)
          have ey := key_of p2 ck
          subst ey
          refine ⟨_, DGet.k l, ?_⟩
          cases cl : lkD kvs k with
          | none =>
            rw [(qs.look k).2 cl]
            rw [cl] at hq
            exact ok _ _ _ _ _ (e1.trans e2) r2 .non hq
          | some d =>
            obtain ⟨u, hu, pu⟩ := (qs.look k).1 d cl
            rw [hu]
            rw [cl] at hq
            exact ok _ _ _ _ _ (e1.trans e2) r2 pu hq
      · cases ez
  | get2 =>
    match args, h5, h4 with
    | [y, y2], _, h4 =>
      obtain ⟨e, f, rfl, hy, hy2⟩ := es_two h4
      refine PE.imp (pe_dget2 hu (io v h3) ((i2 e f y rfl).1 hy) ((i2 e f y2 rfl).2 hy2) ⟨ab_of h6, by rw [ck_star hy, ck_star hy2]; rfl, h2, by rw [ck_star hy, ck_star hy2]; rfl⟩) fun σ H Q ⟨W, S, env, q, rl, er, w, ok⟩ => ?_
      simp only [wpE, wpEs] at w
      refine ⟨W, S, env, _, rl, er, w, fun W1 S1 H1 dx x e1 r1 p1 w1 => ?_⟩
      obtain ⟨mm, a, kvs0, vs0, rfl, rfl, _, hr, l0⟩ := dic_ty r1 p1 w1.1
      refine ⟨a, rfl, .inl ⟨_, .inl l0⟩, W1, S1, env, _, r1, er.keep (e1.keep rl), w1.2, fun W2 S2 H2 dy y e2 r2 p2 w2 => ?_⟩
      refine ⟨W2, S2, env, _, r2, (er.keep (e1.keep rl)).keep (e2.keep r1), w2, fun W3 S3 H3 dz y3 e3 r3 p3 w3 => ?_⟩
      obtain ⟨z, ez, hq⟩ := w3
      dsimp only [mtD] at ez
      split at ez
      · cases ez
      · rename_i kvs hx
        cases ck : keyD dy with
        | none => rw [ck] at ez; cases ez
        | some k =>
          rw [ck] at ez; cases ez; dsimp only at hq
          obtain ⟨vs, l, qs⟩ := loc_dic r3 hx (e3.rho _ _ (e2.rho _ _ hr))
          have ey := key_of p2 ck
          subst ey
          refine ⟨_, DGet.k l, ?_⟩
          cases cl : lkD kvs k with
          | none =>
            rw [(qs.look k).2 cl]
            rw [cl] at hq
            exact ok _ _ _ _ _ ((e1.trans e2).trans e3) r3 p3 hq
          | some d =>
            obtain ⟨u, hu, pu⟩ := (qs.look k).1 d cl
            rw [hu]
            rw [cl] at hq
            exact ok _ _ _ _ _ ((e1.trans e2).trans e3) r3 pu hq
      · cases ez
end
end Mi
set_option maxHeartbeats 4000000
/-! Mi12: the small language is right: tests, targets, walks. -/
namespace Mi
open PySem PySem.Spec PyProof.Rows L2

section
variable {X : Cx} {K : Frg} {c : SC} {n : Nat} {G : GT}

/-! ### tests -/
/-- a value taken as a test, where the model looks at it so -/
theorem lt_truth (g : Good X K c n G) {e : E} {x : Expr} (ie : PE X x (LE K (wpE c.T G noX e))) (he : ∀ whole, isTrue x X.env whole = (do let v ← whole; standAt x.pos; holding [v] (truthy v))) : PT X x (LT K (wpT c.T G noX e)) :=
  PT.imp (pt_truth ie he) fun σ H Q ⟨W, S, env, q, rl, er, w, ok⟩ => by
    refine ⟨W, S, env, _, rl, er, w, fun W1 S1 H1 dx x e1 r1 p1 w1 => ?_⟩
    obtain ⟨k, ek, hq⟩ := w1
    exact ⟨k, g.hK ▸ tru_of r1 p1 ek, ok W1 S1 H1 k e1 r1 hq⟩
theorem lt_not (g : Good X K c n G) {a : E} {y : Expr} {p : Pos} (ia : PT X y (LT K (wpT c.T G noX a))) : PT X (.UnaryOp .Not y p) (LT K (wpT c.T G noX (.not a))) :=
  PT.imp (pt_not ia) fun σ H Q ⟨W, S, env, q, rl, er, w, ok⟩ => by
    simp only [wpT, wpE] at w
    refine ⟨W, S, env, fun k S1 => ∃ k', truD S1 (.bl (!k)) = some k' ∧ q k' S1, rl, er, w, fun W1 S1 H1 k e1 r1 w1 => ?_⟩
    obtain ⟨k', ek, hq⟩ := w1
    cases ek
    exact ok W1 S1 H1 _ e1 r1 hq
theorem lt_cmp (g : Good X K c n G) {o : Cp} {a b : E} {x : Expr} (h : ckE (.cmp o a b) c x = true) (ia : ∀ y, ckE a c y = true → PE X y (LE K (wpE c.T G noX a))) (ib : ∀ y, ckE b c y = true → PE X y (LE K (wpE c.T G noX b))) :
    PT X x (LT K (wpT c.T G noX (.cmp o a b))) := by
  obtain ⟨l, q, r, p, rfl, h1, h2, h3, h4⟩ := ck_cmp h
  rw [← eqb h1]
  have hm : behindInMarks (cpE o) r = false := by
    cases r <;> first | rfl | (simp [notSet] at h4; done)
  refine PT.imp (pt_cmpR (op_cmp g.hK o g.units) (ia l h2) (ib r h3) hm) fun σ H Q ⟨W, S, env, q, rl, er, w, ok⟩ => ?_
  simp only [wpT, wpE] at w
  refine ⟨W, S, env, _, rl, er, w, fun W1 S1 H1 dx x e1 r1 p1 w1 => ?_⟩
  refine ⟨W1, S1, env, _, r1, er.keep (e1.keep rl), w1, fun W2 S2 H2 dy y e2 r2 p2 w2 => ?_⟩
  obtain ⟨k, ek, k', ek', hq⟩ := w2
  cases ek'
  exact ⟨W2, S2, dx, dy, k, r2, p1.keep (e2.keep r1), p2, ek, k, rfl, ok W2 S2 H2 _ (e1.trans e2) r2 hq⟩
theorem lt_chn (g : Good X K c n G) {o o' : Cp} {a b d : E} {x : Expr} (h : ckE (.chn o o' a b d) c x = true) (ia : ∀ y, ckE a c y = true → PE X y (LE K (wpE c.T G noX a))) (ib : ∀ y, ckE b c y = true → PE X y (LE K (wpE c.T G noX b)))
    (id : ∀ y, ckE d c y = true → PE X y (LE K (wpE c.T G noX d))) : PT X x (LT K (wpT c.T G noX (.chn o o' a b d))) := by
  obtain ⟨l, q, q', r, t, p, rfl, h1, h1', h2, h3, h3', h4⟩ := ck_chn h
  rw [← eqb h1, ← eqb h1']
  have hm : lastMarks [cpE o, cpE o'] [r, t] = false := by
    show behindInMarks (cpE o') t = false
    cases t <;> first | rfl | (simp [notSet] at h4; done)
  refine PT.imp (pt_chain (op_cmp g.hK o g.units) (op_cmp g.hK o' g.units) (ia l h2) (ib r h3) (id t h3') hm) fun σ H Q ⟨W, S, env, q, rl, er, w, ok⟩ => ?_
  simp only [wpT, wpE] at w
  refine ⟨W, S, env, _, rl, er, w, fun W1 S1 H1 dx x e1 r1 p1 w1 => ?_⟩
  refine ⟨W1, S1, env, _, r1, er.keep (e1.keep rl), w1, fun W2 S2 H2 dy y e2 r2 p2 w2 => ?_⟩
  obtain ⟨k, ek, w3⟩ := w2
  refine ⟨W2, S2, dx, dy, k, r2, p1.keep (e2.keep r1), p2, ek, k, rfl, ?_⟩
  cases k with
  | false =>
    rw [if_neg Bool.false_ne_true] at w3 ⊢
    obtain ⟨k', ek', hq⟩ := w3
    cases ek'
    exact ⟨false, rfl, ok W2 S2 H2 _ (e1.trans e2) r2 hq⟩
  | true =>
    rw [if_pos rfl] at w3 ⊢
    refine ⟨W2, S2, env, _, r2, (er.keep (e1.keep rl)).keep (e2.keep r1), w3, fun W3 S3 H3 dz z e3 r3 p3 w4 => ?_⟩
    obtain ⟨k', ek', k'', ek'', hq⟩ := w4
    cases ek''
    exact ⟨W3, S3, dy, dz, k', r3, p2.keep (e3.keep r2), p3, ek', k', rfl, ok W3 S3 H3 _ ((e1.trans e2).trans e3) r3 hq⟩
theorem pw_or1' {a : Expr} {p : Pos} {op : BoolOp} {t : TT} (h : PT X a t) : PW X (.BoolOp op [a] p) t := by
  cases op with
  | And => exact pw_and1 h
  | Or => exact pw_or1 h
theorem lt_and {a b : E} {y z : Expr} {rest : List Expr} {p : Pos} (iy : PT X y (LT K (wpT c.T G noX a))) (iz : PW X (.BoolOp .And (z :: rest) p) (LT K (wpT c.T G noX b))) : PW X (.BoolOp .And (y :: z :: rest) p) (LT K (wpT c.T G noX (.and a b))) := by
  have h := pw_and iy iz
  refine ⟨fun whole pins s σ H Q I ⟨W, S, env, q, rl, er, w, ok⟩ => h.run whole pins s σ H Q I ?_⟩
  simp only [wpT, wpE] at w
  refine ⟨W, S, env, fun k S1 => if k = true then wpT c.T G noX b env S1 q else q false S1, rl, er, ?_, fun W1 S1 H1 k e1 r1 w1 => ?_⟩
  · have conv : (fun (x : D) (S1 : Sto) => ∃ k, truD S1 x = some k ∧ if k = true then wpE c.T G noX b env S1 (fun x S1 => ∃ k, truD S1 x = some k ∧ q k S1) else ∃ k, truD S1 x = some k ∧ q k S1) = (fun x S1 => ∃ k, truD S1 x = some k ∧ if k = true then wpT c.T G noX b env S1 q else q false S1) := by
      funext x S1
      apply propext
      refine ⟨fun ⟨k, ek, hk⟩ => ⟨k, ek, ?_⟩, fun ⟨k, ek, hk⟩ => ⟨k, ek, ?_⟩⟩
      · cases k with
        | true => rw [if_pos rfl] at hk ⊢; exact hk
        | false =>
          rw [if_neg Bool.false_ne_true] at hk ⊢
          obtain ⟨k', ek', hq⟩ := hk
          rw [ek] at ek'; cases ek'; exact hq
      · cases k with
        | true => rw [if_pos rfl] at hk ⊢; exact hk
        | false => rw [if_neg Bool.false_ne_true] at hk ⊢; exact ⟨false, ek, hk⟩
    rw [conv] at w
    exact w
  · cases k with
    | true =>
      rw [if_pos rfl] at w1 ⊢
      exact ⟨W1, S1, env, q, r1, er.keep (e1.keep rl), w1, fun W2 S2 H2 k2 e2 r2 w3 => ok W2 S2 H2 k2 (e1.trans e2) r2 w3⟩
    | false =>
      rw [if_neg Bool.false_ne_true] at w1 ⊢
      exact ok W1 S1 H1 _ e1 r1 w1
theorem lt_or {a b : E} {y z : Expr} {rest : List Expr} {p : Pos} (iy : PT X y (LT K (wpT c.T G noX a))) (iz : PW X (.BoolOp .Or (z :: rest) p) (LT K (wpT c.T G noX b))) : PW X (.BoolOp .Or (y :: z :: rest) p) (LT K (wpT c.T G noX (.or a b))) := by
  have h := pw_or iy iz
  refine ⟨fun whole pins s σ H Q I ⟨W, S, env, q, rl, er, w, ok⟩ => h.run whole pins s σ H Q I ?_⟩
  simp only [wpT, wpE] at w
  refine ⟨W, S, env, fun k S1 => if k = true then q true S1 else wpT c.T G noX b env S1 q, rl, er, ?_, fun W1 S1 H1 k e1 r1 w1 => ?_⟩
  · have conv : (fun (x : D) (S1 : Sto) => ∃ k, truD S1 x = some k ∧ if k = true then (∃ k, truD S1 x = some k ∧ q k S1) else wpE c.T G noX b env S1 (fun x S1 => ∃ k, truD S1 x = some k ∧ q k S1)) = (fun x S1 => ∃ k, truD S1 x = some k ∧ if k = true then q true S1 else wpT c.T G noX b env S1 q) := by
      funext x S1
      apply propext
      refine ⟨fun ⟨k, ek, hk⟩ => ⟨k, ek, ?_⟩, fun ⟨k, ek, hk⟩ => ⟨k, ek, ?_⟩⟩
      · cases k with
        | false => rw [if_neg Bool.false_ne_true] at hk ⊢; exact hk
        | true =>
          rw [if_pos rfl] at hk ⊢
          obtain ⟨k', ek', hq⟩ := hk
          rw [ek] at ek'; cases ek'; exact hq
      · cases k with
        | false => rw [if_neg Bool.false_ne_true] at hk ⊢; exact hk
        | true => rw [if_pos rfl] at hk ⊢; exact ⟨true, ek, hk⟩
    rw [conv] at w
    exact w
  · cases k with
    | false =>
      rw [if_neg Bool.false_ne_true] at w1 ⊢
      exact ⟨W1, S1, env, q, r1, er.keep (e1.keep rl), w1, fun W2 S2 H2 k2 e2 r2 w3 => ok W2 S2 H2 k2 (e1.trans e2) r2 w3⟩
    | true =>
      rw [if_pos rfl] at w1 ⊢
      exact ok W1 S1 H1 _ e1 r1 w1
theorem lt_ife (g : Good X K c n G) {t a b : E} {x : Expr} (h : ckE (.ife t a b) c x = true) (it : ∀ y, ckE t c y = true → PT X y (LT K (wpT c.T G noX t))) (ia : ∀ y, ckE a c y = true → PT X y (LT K (wpT c.T G noX a)))
    (ib : ∀ y, ckE b c y = true → PT X y (LT K (wpT c.T G noX b))) : PT X x (LT K (wpT c.T G noX (.ife t a b))) := by
  obtain ⟨u, y, z, p, rfl, h1, h2, h3⟩ := ck_ife h
  refine ⟨fun pins s σ H Q I ⟨W, S, env, q, rl, er, w, ok⟩ => ?_⟩
  rw [arm_isTrue_IfExp]
  simp only [wpT, wpE] at w
  refine wpAny_bind (thn ((it u h1).run pins s σ H (fun k H1 => if k = true then LT K (wpT c.T G noX a) σ H1 Q else LT K (wpT c.T G noX b) σ H1 Q) I ⟨W, S, env, fun k S1 => if k = true then wpT c.T G noX a env S1 q else wpT c.T G noX b env S1 q, rl, er, w, fun W1 S1 H1 k e1 r1 w1 => ?_⟩) fun k s1 ⟨H1, I1, q1⟩ => ?_)
  · cases k with
    | true =>
      rw [if_pos rfl] at w1 ⊢
      exact ⟨W1, S1, env, q, r1, er.keep (e1.keep rl), w1, fun W2 S2 H2 k2 e2 r2 w3 => ok W2 S2 H2 k2 (e1.trans e2) r2 w3⟩
    | false =>
      rw [if_neg Bool.false_ne_true] at w1 ⊢
      exact ⟨W1, S1, env, q, r1, er.keep (e1.keep rl), w1, fun W2 S2 H2 k2 e2 r2 w3 => ok W2 S2 H2 k2 (e1.trans e2) r2 w3⟩
  · cases k with
    | true =>
      rw [if_pos rfl] at q1 ⊢
      exact (ia y h2).run pins s1 σ H1 Q I1 q1
    | false =>
      rw [if_neg Bool.false_ne_true] at q1
      rw [if_neg Bool.false_ne_true]
      exact (ib z h3).run pins s1 σ H1 Q I1 q1

/-! ### targets -/
def LG (K : Frg) (t : Tg) : TG := fun v σ H Q => ∃ W S env d env', Rel K W S H ∧ EnvR K W H env σ ∧ Rep K W H d v ∧ bindT t d env = some env' ∧ ∀ σ', EnvR K W H env' σ' → (∀ i, i ∉ tgSlots t → (σ' : List (Option V))[i]? = (σ : List (Option V))[i]?) → σ'.length = σ.length → Q σ' H
theorem ck_name {i : Nat} {x : Expr} {is : List Nat} {es : List Expr} (h : ckNames c (i :: is) (x :: es) = true) : ∃ nm p, x = .Name nm p ∧ c.N[i]? = some nm ∧ stoB c nm = true ∧ ckNames c is es = true := by
  cases x <;> first
    | (simp [ckNames] at h; done)
    | (simp only [ckNames, Bool.and_eq_true] at h; exact ⟨_, _, rfl, eqb h.1.1, h.1.2, h.2⟩)
theorem sto_of (g : Good X K c n G) {x : Str} (h : stoB c x = true) : Loc X.env.scope x ∧ (X.fn x = true ∨ X.env.scope.names.lookup x = some .local) := by
  unfold stoB at h
  rw [g.sc]
  split at h
  · rename_i e; exact ⟨.inl e, .inr e⟩
  · rename_i e; exact ⟨.inr e, .inl (g.fc _ h)⟩
  · cases h
theorem lg_names (g : Good X K c n G) : ∀ {is : List Nat} {es : List Expr}, ckNames c is es = true → ∃ t : TGs, PGs X es t ∧ (assignEach es X.env).length = is.length ∧ (assignEach es X.env).findIdx? (·.1) = none ∧
    ∀ W H env env' σ ds vs Q, EnvR K W H env σ → Reps K W H ds vs → setAll is ds env = some env' → (∀ σ', EnvR K W H env' σ' → (∀ i, i ∉ is → (σ' : List (Option V))[i]? = (σ : List (Option V))[i]?) → σ'.length = σ.length → Q σ' H) → t vs σ H Q := by
  intro is
  induction is with
  | nil =>
    intro es h
    cases es with
    | nil =>
      refine ⟨gNil, pgs_nil, rfl, rfl, fun W H env env' σ ds vs Q er rp hs hq => ?_⟩
      cases rp with
      | nil => cases hs; exact ⟨rfl, hq σ er (fun _ _ => rfl) rfl⟩
      | cons _ _ => cases hs
    | cons _ _ => simp [ckNames] at h
  | cons i is ih =>
    intro es h
    cases es with
    | nil => simp [ckNames] at h
    | cons x es =>
      obtain ⟨nm, p, rfl, h1, h2, h3⟩ := ck_name h
      obtain ⟨t, pt, hl, hf, ht⟩ := ih h3
      obtain ⟨l1, l2⟩ := sto_of g h2
      refine ⟨gCons (gName i) t, pgs_cons (pg_name (by rw [g.hN]; exact g.nd) (by rw [g.hN]; exact h1) l1 l2) pt, ?_, ?_, fun W H env env' σ ds vs Q er rp hs hq => ?_⟩
      · show (assignEach es X.env).length + 1 = is.length + 1
        rw [hl]
      · show ((false, assign (.Name nm p) X.env) :: assignEach es X.env).findIdx? (·.1) = none
        rw [List.findIdx?_cons, hf]; rfl
      · cases rp with
        | nil => cases hs
        | @cons d v ds vs pd ps =>
          refine ⟨v, vs, rfl, ht W H (env.set i (some d)) env' (σ.set i (some v)) ds vs Q (er.set pd) ps hs fun σ' e' o' l' => hq σ' e' (fun j hj => ?_) (by rw [l', List.length_set])⟩
          rw [o' j (fun hm => hj (List.mem_cons_of_mem _ hm))]
          exact List.getElem?_set_ne (fun e => hj (by rw [← e]; exact List.mem_cons_self))
theorem lg_tg (g : Good X K c n G) {t : Tg} {x : Expr} (h : ckTg c t x = true) : PG X x (LG K t) := by
  cases t with
  | nm i =>
    have hx : ∃ nm p, x = .Name nm p ∧ c.N[i]? = some nm ∧ stoB c nm = true := by
      cases x <;> first
        | (simp [ckTg] at h; done)
        | (simp only [ckTg, Bool.and_eq_true] at h; exact ⟨_, _, rfl, eqb h.1, h.2⟩)
    obtain ⟨nm, p, rfl, h1, h2⟩ := hx
    obtain ⟨l1, l2⟩ := sto_of g h2
    refine ⟨fun pins s σ H v u Q I r ⟨W, S, env, d, env', rl, er, pd, hb, hq⟩ => (pg_name (pos := p) (by rw [g.hN]; exact g.nd) (by rw [g.hN]; exact h1) l1 l2).run pins s σ H v u Q I r ?_⟩
    cases hb
    exact hq _ (er.set pd) (fun j hj => List.getElem?_set_ne (fun e => hj (by rw [← e]; exact List.mem_cons_self))) (List.length_set ..)
  | tp is =>
    have hx : ∃ es k p, x = .Tuple es k p ∧ ckNames c is es = true := by
      cases x <;> first
        | (simp [ckTg] at h; done)
        | (simp only [ckTg] at h; exact ⟨_, _, _, rfl, h⟩)
    obtain ⟨es, k, p, rfl, h1⟩ := hx
    obtain ⟨t, pt, hl, hf, ht⟩ := lg_names g h1
    refine ⟨fun pins s σ H v u Q I r ⟨W, S, env, d, env', rl, er, pd, hb, hq⟩ => (pg_tup (pos := p) (k := k) (n := is.length) g.calm pt hl hf).run pins s σ H v u Q I r ?_⟩
    dsimp only [bindT] at hb
    cases pd with
    | tup f ps =>
      refine ⟨_, _, rfl, g.hK ▸ f.sq, ?_, ht W H env env' σ _ _ Q er ps hb hq⟩
      rw [← ps.length]
      suffices ∀ (is : List Nat) (ds : List D) (e e' : Env), setAll is ds e = some e' → ds.length = is.length from this _ _ _ _ hb
      intro is
      induction is with
      | nil => intro ds e e' h; cases ds with
        | nil => rfl
        | cons _ _ => cases h
      | cons i is ih => intro ds e e' h; cases ds with
        | nil => cases h
        | cons d ds => rw [List.length_cons, List.length_cons, ih ds _ _ h]
    | _ => cases hb
end
end Mi
set_option maxHeartbeats 4000000
/-! MiN: enumerate over a tuple. -/
namespace En
open PySem PySem.Spec PyProof.Rows L2
section
variable {prog : Program} {w : World} {A : Around} {E : Value → Shared → Prop} {s : Shared}
/-- the next one of a tuple's iterator -/
theorem next_tup {j t : Addr} {n : Nat} {xs : Array Value} {y : Value} {Q : Value → Shared → Prop} (hj : s.heap.IsTupleIter j t n) (ht : s.heap.IsTuple t xs) (hy : xs[n]? = some y)
    (k : ∀ g, g.IsTupleIter j t (n + 1) → Heap.SameBut j s.heap g → Q y { s with heap := g }) : wpAny (model prog w) A (Builtin.SmallTypes.nextOf (.ref j)) Q E s := by
  obtain ⟨ob, e1, e2, e3⟩ := id hj
  obtain ⟨ot, f1, _, m, f2⟩ := ht
  unfold Builtin.SmallTypes.nextOf
  refine wpAny_bind (wpAny_callSpecial?_slot (name := Str.ofString "__next__") hj.typeIs F.slot_tuple_iterator_next (wpAny_call_entry F.slot_tuple_iterator_next hj.typeIs F.entry_tuple_iterator_next ?_ (F.args_tuple_iterator_next_1 _)))
  show wpAny _ _ (field (.ref j) 0 >>= _) _ _ s
  refine wpAny_bind (wpAny_field e1 e3 (x := .ref t) rfl ?_)
  show wpAny _ _ (if (Value.ref t == Value.none) = true then _ else _) _ _ s
  refine (if_neg (show ¬ ((Value.ref t == Value.none) = true) from Bool.false_ne_true)).symm ▸ ?_
  show wpAny _ _ (field (.ref j) 1 >>= _) _ _ s
  refine wpAny_bind (wpAny_field e1 e3 (x := .int n 0) rfl ?_)
  show wpAny _ _ (seqItems? (.ref t) >>= _) _ _ s
  refine wpAny_bind (wpAny_seqItems f1 f2 ?_)
  simp only [Int.toNat_natCast, hy]
  refine wpAny_bind (wpAny_setField e1 e3 (by simp) (wpAny_pure ⟨y, rfl, wpAny_pure (k _ ⟨_, Heap.get?_update_self _ e1 (Obj.isFreed_of_fields (Obj.data_mapFields e3 _)), (Obj.cls_mapFields ..).trans e2, ?_⟩ (Heap.SameBut.update ..))⟩))
  rw [Obj.data_mapFields e3]
  simp [rawInt]
theorem next_tup_end {j t : Addr} {n : Nat} {xs : Array Value} {Q : Value → Shared → Prop} (hh : A.handled = none) (hj : s.heap.IsTupleIter j t n) (ht : s.heap.IsTuple t xs) (hy : xs[n]? = none)
    (k : ∀ g z, Heap.ExtBut j s.heap g → (∃ o, g.get? z = some o ∧ o.cls = .type "StopIteration") → E (.ref z) { s with heap := g }) : wpAny (model prog w) A (Builtin.SmallTypes.nextOf (.ref j)) Q E s := by
  obtain ⟨ob, e1, e2, e3⟩ := id hj
  obtain ⟨ot, f1, _, m, f2⟩ := ht
  unfold Builtin.SmallTypes.nextOf
  refine wpAny_bind (wpAny_callSpecial?_slot (name := Str.ofString "__next__") hj.typeIs F.slot_tuple_iterator_next (wpAny_call_entry F.slot_tuple_iterator_next hj.typeIs F.entry_tuple_iterator_next ?_ (F.args_tuple_iterator_next_1 _)))
  show wpAny _ _ (field (.ref j) 0 >>= _) _ _ s
  refine wpAny_bind (wpAny_field e1 e3 (x := .ref t) rfl ?_)
  show wpAny _ _ (if (Value.ref t == Value.none) = true then _ else _) _ _ s
  refine (if_neg (show ¬ ((Value.ref t == Value.none) = true) from Bool.false_ne_true)).symm ▸ ?_
  show wpAny _ _ (field (.ref j) 1 >>= _) _ _ s
  refine wpAny_bind (wpAny_field e1 e3 (x := .int n 0) rfl ?_)
  show wpAny _ _ (seqItems? (.ref t) >>= _) _ _ s
  refine wpAny_bind (wpAny_seqItems f1 f2 ?_)
  simp only [Int.toNat_natCast, hy]
  refine wpAny_bind (wpAny_rule (wpAny_bind (wpAny_setField e1 e3 (by simp) ?_)))
  show wpAny _ _ (newExc (.type "StopIteration") [] >>= _) _ _ _
  refine wpAny_bind ?_
  simp only [newExc, newTuple]
  refine wpAny_bind (wpAny_newObj_type ?_ (by size_fits)) 
  refine wpAny_bind (m := firstArgMember _ _) (wpAny_of_eq (a := Value.none) (by first | rfl | (simp only [firstArgMember]; rfl)) (wpAny_newObj_type ?_ (by size_fits)))
  simp only [raiseNew]
  refine wpAny_bind (wpAny_handled ?_)
  first | rw [show A.in1.handled = none from hh] | rw [hh]
  exact wpAny_bind (wpAny_pure (wpAny_throw (k _ _ (((Heap.SameBut.update ..).extBut.push _).push _) ⟨_, Heap.get?_push_size _ rfl, rfl⟩)))
/-- enumerate's next pair -/
theorem en_item {e j t : Addr} {n : Nat} {xs : Array Value} {y old : Value} {Q : Value → Shared → Prop} (he : IsEnum s.heap e j n old) (hj : s.heap.IsTupleIter j t n) (ht : s.heap.IsTuple t xs) (hy : xs[n]? = some y) (hne : e ≠ j)
    (k : ∀ g, IsEnumOut g e j ((n : Int) + 1) y s.heap.objs.size → g.IsTupleIter j t (n + 1) → g.get? s.heap.objs.size = some { cls := .type "tuple", data := .seq #[.int n s.toks, y] } → g.objs.size = s.heap.objs.size + 1 →
      (∀ b o, b ≠ e → b ≠ j → s.heap.get? b = some o → g.get? b = some o) → Q (.ref s.heap.objs.size) { s with heap := g, toks := s.toks + 1 }) :
    wpAny (model prog w) A (Builtin.«enumerate.__next__» ⟨[.ref e], []⟩) (fun fin s' => ∃ v, fin = .done (.ret v) ∧ Q v s') E s := by
  obtain ⟨hp, gs, dr, tk, os⟩ := s
  show wpAny _ _ (field (.ref e) 2 >>= _) _ _ _
  refine wpAny_bind (wpAny_field he rfl (x := .ref j) rfl (wpAny_bind (next_tup hj ht hy fun g1 j1 b1 => ?_)))
  have b1 : Heap.SameBut j hp g1 := b1
  have a1 : IsEnum g1 e j n old := (b1.2 e hne).trans he
  show wpAny _ _ (field (.ref e) 3 >>= _) _ _ ⟨g1, gs, dr, tk, os⟩
  refine wpAny_bind (wpAny_field a1 rfl (x := rawInt n) rfl ?_)
  show wpAny _ _ (field (.ref e) 4 >>= _) _ _ ⟨g1, gs, dr, tk, os⟩
  refine wpAny_bind (wpAny_field a1 rfl (x := .none) rfl ?_)
  show wpAny _ _ (mkInt n >>= _) _ _ ⟨g1, gs, dr, tk, os⟩
  refine wpAny_bind (wpAny_mkInt ?_)
  show wpAny _ _ (setField (.ref e) 3 (rawInt ((n : Int) + 1)) >>= _) _ _ ⟨g1, gs, dr, tk + 1, os⟩
  refine wpAny_bind (wpAny_setField_rec a1 (by simp) fun g2 a2 b2 => ?_)
  have b2 : Heap.SameBut e g1 g2 := b2
  have a2 : IsEnum g2 e j ((n : Int) + 1) old := a2
  show wpAny _ _ (setField (.ref e) 4 .none >>= _) _ _ ⟨g2, gs, dr, tk + 1, os⟩
  refine wpAny_bind (wpAny_setField_rec a2 (by simp) fun g3 a3 b3 => ?_)
  have b3 : Heap.SameBut e g2 g3 := b3
  have a3 : IsEnum g3 e j ((n : Int) + 1) old := a3
  show wpAny _ _ (newTuple [.int n tk, y] >>= _) _ _ ⟨g3, gs, dr, tk + 1, os⟩
  refine wpAny_bind (wpAny_newTuple ?_)
  have a4 : IsEnum (g3.push { cls := .type "tuple", data := .seq #[.int n tk, y] }) e j ((n : Int) + 1) old := Heap.get?_push_of_some _ a3
  generalize q4 : g3.push { cls := .type "tuple", data := .seq #[.int n tk, y] } = g4 at a4
  have z3 : g3.objs.size = hp.objs.size := by rw [b3.1, b2.1, b1.1]
  have le : e < hp.objs.size := Heap.lt_size he
  have t4 : g4.get? hp.objs.size = some { cls := .type "tuple", data := .seq #[.int n tk, y] } := by rw [← q4, ← z3]; exact Heap.get?_push_size _ rfl
  have z4 : g4.objs.size = hp.objs.size + 1 := by rw [← q4, Heap.size_push, z3]
  have r4 : ∀ b o, b ≠ e → b ≠ j → hp.get? b = some o → g4.get? b = some o := fun b o n1 n2 h => by
    rw [← q4]
    exact Heap.get?_push_of_some _ (b3.extBut b o n1 (b2.extBut b o n1 (b1.extBut b o n2 h)))
  have j4 : g4.IsTupleIter j t (n + 1) := by
    rw [← q4]
    obtain ⟨o, ho, r⟩ := (j1.extBut b2.extBut (Ne.symm hne)).extBut b3.extBut (Ne.symm hne)
    exact ⟨o, Heap.get?_push_of_some _ ho, r⟩
  show wpAny _ _ (Builtin.SmallTypes.ownedTupleIsFree (.ref e) >>= _) _ _ ⟨g4, gs, dr, tk + 1, os⟩
  rw [z3]
  refine wpAny_bind ?_
  unfold Builtin.SmallTypes.ownedTupleIsFree
  refine wpAny_bind (wpAny_field a4 rfl (x := .none) rfl (wpAny_pure ?_))
  simp only [if_true]
  refine wpAny_bind (wpAny_rule (wpAny_bind (wpAny_field a4 rfl (x := old) rfl ?_)))
  refine wpAny_bind (wpAny_setField_rec a4 (by simp) fun g5 a5 b5 => ?_)
  have b5 : Heap.SameBut e g4 g5 := b5
  have a5 : IsEnum g5 e j ((n : Int) + 1) y := a5
  show wpAny _ _ (Builtin.SmallTypes.ownedTupleHandOut (.ref e) (.ref hp.objs.size) >>= _) _ _ ⟨g5, gs, dr, tk + 1, os⟩
  refine wpAny_bind ?_
  unfold Builtin.SmallTypes.ownedTupleHandOut
  refine wpAny_bind (wpAny_setField_rec a5 (by simp) fun g6 a6 b6 => ?_)
  have b6 : Heap.SameBut e g5 g6 := b6
  have a6 : IsEnumOut g6 e j ((n : Int) + 1) y hp.objs.size := a6
  refine wpAny_setField_rec a6 (by simp) fun g7 a7 b7 => ?_
  have b7 : Heap.SameBut e g6 g7 := b7
  have a7 : IsEnumOut g7 e j ((n : Int) + 1) y hp.objs.size := a7
  have ne : hp.objs.size ≠ e := Nat.ne_of_gt le
  refine wpAny_bind (wpAny_letGo (wpAny_pure ⟨_, rfl, k g7 a7 (((j4.extBut b5.extBut (Ne.symm hne)).extBut b6.extBut (Ne.symm hne)).extBut b7.extBut (Ne.symm hne)) (b7.extBut _ _ ne (b6.extBut _ _ ne (b5.extBut _ _ ne t4))) (by rw [b7.1, b6.1, b5.1, z4]) fun b o n1 n2 h => b7.extBut b o n1 (b6.extBut b o n1 (b5.extBut b o n1 (r4 b o n1 n2 h)))⟩))
theorem py_item {e j t : Addr} {n : Nat} {xs : Array Value} {y old : Value} {Q : Option Value → Shared → Prop} (he : IsEnum s.heap e j n old) (hj : s.heap.IsTupleIter j t n) (ht : s.heap.IsTuple t xs) (hy : xs[n]? = some y) (hne : e ≠ j)
    (k : ∀ g, IsEnumOut g e j ((n : Int) + 1) y s.heap.objs.size → g.IsTupleIter j t (n + 1) → g.get? s.heap.objs.size = some { cls := .type "tuple", data := .seq #[.int n s.toks, y] } → g.objs.size = s.heap.objs.size + 1 →
      (∀ b o, b ≠ e → b ≠ j → s.heap.get? b = some o → g.get? b = some o) → Q (some (.ref s.heap.objs.size)) { s with heap := g, toks := s.toks + 1 }) :
    wpAny (model prog w) A (pyNext (.ref e)) Q E s := by
  have ty : s.TypeIs (.ref e) "enumerate" := ⟨_, he, rfl⟩
  unfold pyNext
  exact wpAny_bind (wpAny_attempt (wpAny_callSpecial?_slot (name := Str.ofString "__next__") ty F.slot_enumerate_next (wpAny_call_entry F.slot_enumerate_next ty F.entry_enumerate_next (en_item he hj ht hy hne fun g a b c d r => wpAny_pure (k g a b c d r)) (F.args_enumerate_next_1 _))))
theorem py_end {e j t : Addr} {n : Nat} {xs : Array Value} {old : Value} {Q : Option Value → Shared → Prop} (hh : A.handled = none) (he : IsEnum s.heap e j n old) (hj : s.heap.IsTupleIter j t n) (ht : s.heap.IsTuple t xs) (hy : xs[n]? = none)
    (k : ∀ g, Heap.ExtBut j s.heap g → Q none { s with heap := g }) : wpAny (model prog w) A (pyNext (.ref e)) Q E s := by
  have ty : s.TypeIs (.ref e) "enumerate" := ⟨_, he, rfl⟩
  unfold pyNext
  refine wpAny_bind (wpAny_attempt (wpAny_callSpecial?_slot (name := Str.ofString "__next__") ty F.slot_enumerate_next (wpAny_call_entry F.slot_enumerate_next ty F.entry_enumerate_next ?_ (F.args_enumerate_next_1 _))))
  show wpAny _ _ (field (.ref e) 2 >>= _) _ _ _
  refine wpAny_bind (wpAny_field he rfl (x := .ref j) rfl (wpAny_bind (next_tup_end hh hj ht hy fun g z a c => ?_)))
  obtain ⟨o, ho, hc⟩ := c
  exact wpAny_bind (wpAny_isInstance (T := "StopIteration") (b := true) ⟨o, ho, hc⟩ isSubtype_stop (wpAny_pure (k _ a)))
theorem new_enum (l : Addr) (items : Array Value) (m : Nat) (dct : Option Addr) (sl : Array (Option Value)) :
    Meets (Builtin.«enumerate.__new__» ⟨[.type "enumerate", .ref l], []⟩) (fun _ R s => s.heap.get? l = some { cls := .type "tuple", dict := dct, data := .seq items m, slots := sl } ∧
      R (.ok (.ret (.ref (s.heap.push { cls := .type "tuple_iterator", data := .fields #[.ref l, .int 0 0] }).objs.size)))
        { s with heap := (s.heap.push { cls := .type "tuple_iterator", data := .fields #[.ref l, .int 0 0] }).push { cls := .type "enumerate", data := .fields #[.none, .bool false, .ref s.heap.objs.size, rawInt 0, .none, .none] } }) :=
  .of_wp fun prog w A R s h => by
    obtain ⟨hp, g, d, tk, os⟩ := s
    obtain ⟨hl, h⟩ := h
    have hsub := sub_enumerate
    have hT : Heap.IsTuple (Shared.heap ⟨hp, g, d, tk, os⟩) l items := ⟨_, hl, rfl, m, rfl⟩
    wp_walk using AutoSeq1.wpAny_loadPart' hl
    refine wpAny_stack_any fun st => wpAny_pure ?_
    split
    · rename_i c _ _ _ _ _
      cases (c == Value.type "enumerate")
      all_goals
        wp_walk using AutoSeq1.wpAny_loadPart' hl, wpAny_pyIter_tuple hT
        exact ⟨_, rfl, h⟩
    · wp_walk using AutoSeq1.wpAny_loadPart' hl, wpAny_pyIter_tuple hT
      exact ⟨_, rfl, h⟩
theorem call_enum {l : Addr} {items : Array Value} {Q : Value → Shared → Prop} (hT : s.heap.IsTuple l items)
    (k : ∀ g, IsEnum g (s.heap.objs.size + 1) s.heap.objs.size 0 .none → g.IsTupleIter s.heap.objs.size l 0 → g.objs.size = s.heap.objs.size + 2 → (∀ b o, s.heap.get? b = some o → g.get? b = some o) → Q (.ref (s.heap.objs.size + 1)) { s with heap := g }) :
    wpAny (model prog w) A (call (.type "enumerate") [.ref l]) Q E s := by
  obtain ⟨⟨c, dct, dt, sl⟩, hl, hc, m, hd⟩ := hT
  have hc : c = .type "tuple" := hc
  have hd : dt = .seq items m := hd
  subst hc hd
  refine callType_new F.called_enumerate (by decide) (F.typeCall_enumerate_1 _) (F.newCall_enumerate_1 _) (fun obj => F.args_object_init_2 obj _) F.entry_enumerate_new (new_enum l items m dct sl) ⟨hl, ?_⟩
  have z1 : (s.heap.push { cls := .type "tuple_iterator", data := .fields #[.ref l, .int 0 0] }).objs.size = s.heap.objs.size + 1 := Heap.size_push ..
  show _ ∧ _
  rw [z1]
  have a1 : IsEnum ((s.heap.push { cls := .type "tuple_iterator", data := .fields #[.ref l, .int 0 0] }).push { cls := .type "enumerate", data := .fields #[.none, .bool false, .ref s.heap.objs.size, rawInt 0, .none, .none] }) (s.heap.objs.size + 1) s.heap.objs.size 0 .none := by
    have q := Heap.get?_push_size (s.heap.push { cls := .type "tuple_iterator", data := .fields #[.ref l, .int 0 0] }) (o := { cls := .type "enumerate", data := .fields #[.none, .bool false, .ref s.heap.objs.size, rawInt 0, .none, .none] }) rfl
    rw [z1] at q
    exact q
  exact ⟨⟨_, a1, rfl⟩, k _ a1 ⟨_, Heap.get?_push_of_some _ (Heap.get?_push_size _ rfl), rfl, rfl⟩ (by rw [Heap.size_push, z1]) fun b o x => Heap.get?_push_of_some _ (Heap.get?_push_of_some _ x)⟩
end
/-- the tuple at a, each item in a new pair with its place -/
def IteT (K : PySem.W.Frag) (a : Addr) : It :=
  ⟨fun i H => ∃ (xs : List V) (x : V), SqT K H a xs ∧ xs[i]? = some x, fun i H v H' => ∃ T x, v = .ref T ∧ H T = none ∧ H' = upd H T (.tup [.int (i : Nat), x]) ∧ ∀ xs, SqT K H a xs → xs[i]? = some x, fun i H => ∃ xs : List V, SqT K H a xs ∧ xs.length ≤ i⟩
theorem turn_enumT {P : Program} {w : World} {K : PySem.W.Frag} {elts : List Expr} {kk : Nat} {tpos : Pos} (a e it : Addr) :
    Turn P w K (.Tuple elts kk tpos) (IteT K a) [e, it] e (fun i h => (∃ old, IsEnum h e it ((i : Nat) : Int) old) ∧ h.IsTupleIter it a i ∧ e ≠ it) where
  mem := by simp
  obj := fun i h st b hb => by
    obtain ⟨⟨old, h1⟩, ⟨o, h2, _, h3⟩, _⟩ := st
    have z : b = e ∨ b = it := by simpa using hb
    rcases z with rfl | rfl
    · exact ⟨_, h1, fun v q => nomatch q⟩
    · exact ⟨o, h2, fun v q => by rw [h3] at q; cases q⟩
  keep := fun i h h' st k => by
    obtain ⟨⟨old, h1⟩, h2, h3⟩ := st
    exact ⟨⟨old, k e (by simp) _ h1⟩, h2.at fun o q => k it (by simp) o q, h3⟩
  item := by
    intro X hP hw hK hc i pins s σ H E I hf st hg
    subst hP hw hK
    obtain ⟨⟨old, h1⟩, h2, hne⟩ := st
    obtain ⟨xs, x, hq, hx⟩ := hg
    obtain ⟨its, rv, p, hz⟩ := I.tuple hq
    obtain ⟨u, hu, ru⟩ := rv.get hx
    have le : e < s.heap.objs.size := Heap.lt_size h1
    have li : it < s.heap.objs.size := by obtain ⟨_, q, _⟩ := h2; exact Heap.lt_size q
    refine py_item h1 h2 (show s.heap.IsTuple a its.toArray from p) (y := u) (by simpa using hu) hne fun g ho hit hT hsz hk => ?_
    refine ⟨_, rfl, wpAny_letOwnedTupleGo_enum (s := { s with heap := g, toks := s.toks + 1 }) ho fun g2 he2 sb => ?_⟩
    have hT2 : g2.get? s.heap.objs.size = some { cls := .type "tuple", data := .seq #[.int i s.toks, u] } := (sb.2 _ (Nat.ne_of_gt le)).trans hT
    have new : ObjOk X.prog X.w (upd H s.heap.objs.size (.tup [.int (i : Nat), x])) g2 s.heap.objs.size (.tup [.int (i : Nat), x]) := ⟨by show 2 ≤ sizeLine; decide, [.int i s.toks, u], .cons ⟨_, rfl⟩ (.cons ru .nil), ⟨_, hT2, rfl, _, rfl⟩⟩
    have I1 : Inv X pins σ (upd H s.heap.objs.size (.tup [.int (i : Nat), x])) { s with heap := g2, toks := s.toks + 1 } :=
      I.turnedNew (ch := [e, it]) (fun b ob hb q => (sb.2 b (fun z => hb (by simp [z]))).trans (hk b ob (fun z => hb (by simp [z])) (fun z => hb (by simp [z])) q)) hf (Nat.le_refl _) new
    refine ⟨.ref s.heap.objs.size, _, I1, rfl, ⟨_, x, rfl, I.hok.fresh (Nat.le_refl _), rfl, fun ys hy => by rw [I.tuple_inj hy hq]; exact hx⟩, ⟨⟨u, ?_⟩, hit.at fun o q => (sb.2 it (Ne.symm hne)).trans q, hne⟩, fun b hb => ?_⟩
    · rw [show ((i + 1 : Nat) : Int) = (i : Int) + 1 by omega]
      exact he2
    · have lb : b < s.heap.objs.size := by
        have z : b = e ∨ b = it := by simpa using hb
        rcases z with rfl | rfl
        · exact le
        · exact li
      rw [upd_ne (Nat.ne_of_lt lb)]
      exact (hf b hb).1
  done := by
    intro X hP hw hK hc i pins s σ H E I hf st hg
    subst hP hw hK
    obtain ⟨⟨old, h1⟩, h2, hne⟩ := st
    obtain ⟨xs, hq, hx⟩ := hg
    obtain ⟨its, rv, p, hz⟩ := I.tuple hq
    obtain ⟨f0, f1, f2, f3, f4, f5⟩ := hf it (by simp)
    have hl := rv.length
    exact py_end (I.ok.hd hc) h1 h2 (show s.heap.IsTuple a its.toArray from p) (by simp; omega) fun g eb => ⟨rfl, I.turned (t' := s.toks) (fun b o hb q => eb b o hb q) f0 f1 f3 f4 f5⟩
  self := fun A i s Q E st h => by
    obtain ⟨⟨_, h1⟩, _⟩ := st
    exact wpAny_pyIter_enum h1 h
/-- over a list or a tuple, with places -/
def iEn (K : PySem.W.Frag) (ta : TA) : TI := fun σ H R => ta σ H fun vs H1 => ∃ a, vs = [.ref a] ∧ (((∃ xs, SqL K H1 a xs) ∧ R (Ite K a) H1) ∨ ((∃ xs, SqT K H1 a xs) ∧ R (IteT K a) H1))
theorem pi_en {X : Cx} {e : Expr} {ta : TA} {p pos tpos : Pos} {elts : List Expr} {kk : Nat} (hg : Gl X "enumerate") (hm : X.mg "enumerate" = none) (ha : PA X [e] ta) (hs : starEach [e] X.env = [(false, eval e X.env)]) :
    PI X (.Tuple elts kk tpos) (.Call (.Name "enumerate" p) [e] [] pos) (iEn X.K ta) := by
  refine ⟨fun pins s σ H R I h => ?_⟩
  refine Call_ (ld_blt I hg hm boot_enumerate (PyProof.Rows.callWith_type1 (thn (ha.run pos pins s σ H _ I h) fun us s1 ⟨vs, H1, I1, r1, q1⟩ => ?_) hs rfl))
  obtain ⟨a, rfl, q⟩ := q1
  obtain rfl := Vals.ref1 r1
  have fin : ∀ b, b ∈ [s1.heap.objs.size + 1, s1.heap.objs.size] → FpOk X pins H1 b := fun b hb => by
    have hle : s1.heap.objs.size ≤ b := by
      have z : b = s1.heap.objs.size + 1 ∨ b = s1.heap.objs.size := by simpa using hb
      rcases z with rfl | rfl
      · exact Nat.le_add_right _ _
      · exact Nat.le_refl _
    exact I1.fpOk hle (I1.hok.fresh hle)
  rcases q with ⟨⟨xs, hq⟩, q⟩ | ⟨⟨xs, hq⟩, q⟩
  · obtain ⟨its, rv, p', hz⟩ := I1.list hq
    refine call_enumerate_list p'.isList fun g he hit hsz hk => wpAny_pyIter_enum he ?_
    exact ⟨s1.heap.objs.size + 1, [s1.heap.objs.size + 1, s1.heap.objs.size], _, _, H1, rfl, I1.kept (t' := s1.toks) hk, turn_enum a (s1.heap.objs.size + 1) s1.heap.objs.size, ⟨⟨.none, he⟩, hit, Nat.succ_ne_self _⟩, fin, q⟩
  · obtain ⟨its, rv, p', hz⟩ := I1.tuple hq
    refine call_enum (show s1.heap.IsTuple a its.toArray from p') fun g he hit hsz hk => wpAny_pyIter_enum he ?_
    exact ⟨s1.heap.objs.size + 1, [s1.heap.objs.size + 1, s1.heap.objs.size], _, _, H1, rfl, I1.kept (t' := s1.toks) hk, turn_enumT a (s1.heap.objs.size + 1) s1.heap.objs.size, ⟨⟨.none, he⟩, hit, Nat.succ_ne_self _⟩, fin, q⟩
end En
set_option maxHeartbeats 4000000
/-! Mi13: the small language is right: what is walked. -/
namespace Mi
open PySem PySem.Spec PyProof.Rows L2

/-- J walks xs, while chk stands -/
def Real (K : Frg) (J : L2.It) (xs : List D) (chk : Sto → Prop) (W0 : Wd) (H0 : Hp) : Prop := ∀ W S H (i : Nat), Keep W0 H0 W H → Rel K W S H → chk S →
  (xs.length ≤ i → J.stop i H) ∧ ∀ d, xs[i]? = some d → J.go i H ∧ ∀ x H', J.yld i H x H' → ∃ W', Ext W S H W' S H' ∧ Rel K W' S H' ∧ Rep K W' H' d x
def LI (K : Frg) (t : Env → Sto → (List D → (Sto → Prop) → Sto → Prop) → Prop) : TI := fun σ H R => ∃ W S env q, Rel K W S H ∧ EnvR K W H env σ ∧ t env S q ∧ ∀ W' S' H' xs chk (J : L2.It), Ext W S H W' S' H' → Rel K W' S' H' → Real K J xs chk W' H' → q xs chk S' → R J H'

section
variable {X : Cx} {K : Frg} {c : SC} {n : Nat} {G : GT} {tg : Expr}
theorem PI.imp {x : Expr} {t t' : TI} (h : PI X tg x t) (i : ∀ σ H R, t' σ H R → t σ H R) : PI X tg x t' := ⟨fun pins s σ H R I q => h.run pins s σ H R I (i σ H R q)⟩

/-- over a list or a tuple -/
def iSeq (K : PySem.W.Frag) (tl : TE) : TI := fun σ H R => tl σ H fun x H1 => ∃ a, x = .ref a ∧ (((∃ xs, SqL K H1 a xs) ∧ R (Itl K a) H1) ∨ ((∃ xs, SqT K H1 a xs) ∧ R (Itt K a) H1))
theorem pi_seq {l : Expr} {tl : TE} (hl : PE X l tl) : PI X tg l (iSeq X.K tl) := by
  refine ⟨fun pins s σ H R I h => thn (hl.run pins s σ H _ I h) fun v s1 ⟨x, H1, I1, r1, a, e, q⟩ => ?_⟩
  subst e
  cases r1
  rcases q with ⟨⟨xs, hq⟩, q⟩ | ⟨⟨xs, hq⟩, q⟩
  · obtain ⟨its, rv, p, hz⟩ := I1.list hq
    refine wpAny_pyIter_list p.isList ⟨s1.heap.objs.size, [s1.heap.objs.size], _, _, H1, rfl, I1.kept (t' := s1.toks) fun b o e => Heap.get?_push_of_some _ e, turn_list a _, ⟨_, Heap.get?_push_size _ rfl, rfl, rfl⟩, fun b hb => ?_, q⟩
    obtain rfl : b = s1.heap.objs.size := by simpa using hb
    exact I1.fpOk (Nat.le_refl _) (I1.hok.fresh (Nat.le_refl _))
  · obtain ⟨its, rv, p, hz⟩ := I1.tuple hq
    refine wpAny_pyIter_tuple (show s1.heap.IsTuple a its.toArray from p) ⟨s1.heap.objs.size, [s1.heap.objs.size], _, _, H1, rfl, I1.kept (t' := s1.toks) fun b o e => Heap.get?_push_of_some _ e, turn_tuple a _, ⟨_, Heap.get?_push_size _ rfl, rfl, rfl⟩, fun b hb => ?_, q⟩
    obtain rfl : b = s1.heap.objs.size := by simpa using hb
    exact I1.fpOk (Nat.le_refl _) (I1.hok.fresh (Nat.le_refl _))
/-- the place of what is walked, as long as chk stands -/
theorem seq_now {x : D} {xs : List D} {a : Addr} {W0 : Wd} {S0 : Sto} {H0 : Hp} (r0 : Rel K W0 S0 H0) (p0 : Rep K W0 H0 x (.ref a)) (h0 : seqD S0 x = some xs) (hX : X.K = K.K) :
    ((∃ vs, SqL X.K H0 a vs) ∧ ∀ W S H, Keep W0 H0 W H → Rel K W S H → chkD x xs S → ∃ vs, SqL X.K H a vs ∧ Reps K W H xs vs) ∨ ((∃ vs, SqT X.K H0 a vs) ∧ ∀ W S H, Keep W0 H0 W H → Rel K W S H → chkD x xs S → ∃ vs, SqT X.K H a vs ∧ Reps K W H xs vs) := by
  cases p0 with
  | tup f q => cases h0; exact .inr ⟨⟨_, hX ▸ f.sq⟩, fun W S H k r _ => ⟨_, hX ▸ (f.keep k).sq, q.keep k⟩⟩
  | lst z e q => cases h0; exact .inl ⟨⟨_, SqL.of e⟩, fun W S H k r _ => ⟨_, SqL.of ((k.fz _ z).2.trans e), q.keep k⟩⟩
  | scr f => cases h0; exact .inl ⟨⟨_, hX ▸ f.sq⟩, fun W S H k r _ => ⟨_, hX ▸ (f.keep k).sq, .ints _⟩⟩
  | @loc m a e =>
    dsimp only [seqD] at h0
    split at h0
    · rename_i ys hy
      cases h0
      obtain ⟨vs, l, q⟩ := loc_lst r0 hy e
      refine .inl ⟨⟨_, SqL.of l⟩, fun W S H k r hc => ?_⟩
      obtain ⟨us, l', q'⟩ := loc_lst r hc (k.rho _ _ e)
      exact ⟨us, SqL.of l', q'⟩
    · cases h0
  | _ => cases h0
theorem real_l {a : Addr} {xs : List D} {chk : Sto → Prop} {W0 : Wd} {H0 : Hp} (h : ∀ W S H, Keep W0 H0 W H → Rel K W S H → chk S → ∃ vs, SqL X.K H a vs ∧ Reps K W H xs vs) : Real K (Itl X.K a) xs chk W0 H0 := fun W S H i k r hc => by
  obtain ⟨vs, l, q⟩ := h W S H k r hc
  refine ⟨fun hi => ⟨vs, l, by rw [← q.length]; exact hi⟩, fun d hd => ?_⟩
  obtain ⟨v, hv, pv⟩ := q.get hd
  refine ⟨⟨vs, v, l, hv⟩, fun x H' y => ?_⟩
  obtain ⟨e, hy⟩ := y
  have := hy vs l
  rw [hv] at this; cases this
  subst e
  exact ⟨W, Ext.refl _ _ _, r, pv⟩
theorem real_t {a : Addr} {xs : List D} {chk : Sto → Prop} {W0 : Wd} {H0 : Hp} (h : ∀ W S H, Keep W0 H0 W H → Rel K W S H → chk S → ∃ vs, SqT X.K H a vs ∧ Reps K W H xs vs) : Real K (Itt X.K a) xs chk W0 H0 := fun W S H i k r hc => by
  obtain ⟨vs, l, q⟩ := h W S H k r hc
  refine ⟨fun hi => ⟨vs, l, by rw [← q.length]; exact hi⟩, fun d hd => ?_⟩
  obtain ⟨v, hv, pv⟩ := q.get hd
  refine ⟨⟨vs, v, l, hv⟩, fun x H' y => ?_⟩
  obtain ⟨e, hy⟩ := y
  have := hy vs l
  rw [hv] at this; cases this
  subst e
  exact ⟨W, Ext.refl _ _ _, r, pv⟩
theorem li_seq (g : Good X K c n G) {e : E} {x : Expr} (ie : PE X x (LE K (wpE c.T G noX e))) : PI X tg x (LI K (wpI c.T G noX (.seq e))) :=
  PI.imp (pi_seq ie) fun σ H R ⟨W, S, env, q, rl, er, w, ok⟩ => by
    simp only [wpI] at w
    refine ⟨W, S, env, _, rl, er, w, fun W1 S1 H1 dx x e1 r1 p1 w1 => ?_⟩
    obtain ⟨xs, hx, hq⟩ := w1
    obtain ⟨a, vs, ev, _, _⟩ := seq_of r1 p1 hx
    subst ev
    refine ⟨a, rfl, ?_⟩
    rcases seq_now (X := X) r1 p1 hx g.hK with ⟨h1, h2⟩ | ⟨h1, h2⟩
    · exact .inl ⟨h1, ok W1 S1 H1 xs _ _ e1 r1 (real_l h2) hq⟩
    · exact .inr ⟨h1, ok W1 S1 H1 xs _ _ e1 r1 (real_t h2) hq⟩
theorem rngD_get : ∀ (m : Nat) (lo : Int) (i : Nat), (rngD lo m)[i]? = if i < m then some (.int (lo + i)) else none
  | 0, lo, i => by simp [rngD]
  | m + 1, lo, 0 => by simp [rngD]
  | m + 1, lo, i + 1 => by
    rw [rngD, List.getElem?_cons_succ, rngD_get m (lo + 1) i]
    by_cases h : i < m
    · rw [if_pos h, if_pos (by omega)]; congr 2; omega
    · rw [if_neg h, if_neg (by omega)]
theorem rngD_length : ∀ (m : Nat) (lo : Int), (rngD lo m).length = m
  | 0, _ => rfl
  | m + 1, lo => by rw [rngD, List.length_cons, rngD_length]
theorem real_r {lo : Int} {m : Nat} {W0 : Wd} {H0 : Hp} : Real K (Itr lo m) (rngD lo m) (fun _ => True) W0 H0 := fun W S H i k r _ => by
  refine ⟨fun hi => by rw [rngD_length] at hi; exact hi, fun d hd => ?_⟩
  rw [rngD_get] at hd
  split at hd
  · rename_i h
    cases hd
    refine ⟨h, fun x H' y => ?_⟩
    obtain ⟨e, ex⟩ := y
    subst e ex
    exact ⟨W, Ext.refl _ _ _, r, .int _⟩
  · cases hd
theorem li_rng (g : Good X K c n G) {es : Es} {x : Expr} (h : ckI (.rng es) c tg x = true) (ia : ∀ y, ckEs es c y = true → PA X y (LA K (wpEs c.T G noX es))) : PI X tg x (LI K (wpI c.T G noX (.rng es))) := by
  have hx : ∃ nm p' a args p, x = .Call (.Name nm p') (a :: args) [] p ∧ nm = "range" ∧ glbB c.sc nm = true ∧ ckEs es c (a :: args) = true ∧ args.length ≤ 1 := by
    unfold ckI at h
    split at h
    all_goals first | (exact absurd h Bool.false_ne_true) | (cases (‹It.rng es = _›))
    simp only [Bool.and_eq_true, decide_eq_true_eq] at h
    exact ⟨_, _, _, _, _, rfl, eqb h.1.1.1, h.1.1.2, h.1.2, h.2⟩
  obtain ⟨nm, p', a, args, p, rfl, rfl, h2, h3, h4⟩ := hx
  have hm : X.mg "range" = none := g.bi _ (by decide)
  obtain ⟨st, es', hes⟩ := es_hd (env := X.env) h3
  match args, h3, hes, h4, st with
  | [], h3, hes, _, st =>
    obtain ⟨e, rfl, _⟩ := es_one h3
    refine PI.imp (pi_range1 (g.gl h2) hm (ia _ h3) (by rw [st]; rfl)) fun σ H R ⟨W, S, env, q, rl, er, w, ok⟩ => ?_
    simp only [wpI, wpEs] at w
    refine ⟨W, S, env, fun ds S1 => ∃ j, ds = [.int j] ∧ -(2 ^ 62) ≤ j ∧ j < 2 ^ 62 ∧ q (rngD 0 j.toNat) (fun _ => True) S1, rl, er, ?_, fun W1 S1 H1 ds vs e1 r1 p1 w1 => ?_⟩
    · simp only [wpEs]
      have conv : (fun (x : D) (S1 : Sto) => rngW [x] fun xs => q xs (fun _ => True) S1) = fun x S1 => ∃ j, [x] = [D.int j] ∧ -(2 ^ 62) ≤ j ∧ j < 2 ^ 62 ∧ q (rngD 0 j.toNat) (fun _ => True) S1 := by
        funext x S1
        apply propext
        unfold rngW
        cases x <;> first
          | (refine ⟨fun h => h.elim, fun ⟨j, h, _⟩ => ?_⟩; cases h; done)
          | (refine ⟨fun h => ⟨_, rfl, h⟩, fun ⟨j, h, k⟩ => ?_⟩; cases h; exact k)
      rw [← conv]
      exact w
    · obtain ⟨j, rfl, b1, b2, hq⟩ := w1
      cases p1 with
      | cons pi pn =>
        cases pi
        cases pn
        exact ⟨j, rfl, b1, b2, ok W1 S1 H1 _ _ _ e1 r1 real_r hq⟩
  | [b], h3, hes, _, st =>
    obtain ⟨e, f, rfl, ka, kb⟩ := es_two h3
    refine PI.imp (pi_range2 (g.gl h2) hm (ia _ h3) (by rw [st, ck_star kb]; rfl) (by rw [ck_star kb]; rfl)) fun σ H R ⟨W, S, env, q, rl, er, w, ok⟩ => ?_
    simp only [wpI, wpEs] at w
    refine ⟨W, S, env, fun ds S1 => ∃ i j, ds = [.int i, .int j] ∧ (-(2 ^ 62) ≤ i ∧ i < 2 ^ 62 ∧ -(2 ^ 62) ≤ j ∧ j < 2 ^ 62) ∧ q (rngD i (j - i).toNat) (fun _ => True) S1, rl, er, ?_, fun W1 S1 H1 ds vs e1 r1 p1 w1 => ?_⟩
    · simp only [wpEs]
      have conv : ∀ x : D, (fun (y : D) (S1 : Sto) => rngW [x, y] fun xs => q xs (fun _ => True) S1) = fun y S1 => ∃ i j, [x, y] = [D.int i, D.int j] ∧ (-(2 ^ 62) ≤ i ∧ i < 2 ^ 62 ∧ -(2 ^ 62) ≤ j ∧ j < 2 ^ 62) ∧ q (rngD i (j - i).toNat) (fun _ => True) S1 := by
        intro x
        funext y S1
        apply propext
        unfold rngW
        cases x <;> first
          | (refine ⟨fun h => h.elim, fun ⟨i, j, h, _⟩ => ?_⟩; cases h; done)
          | (cases y <;> first
              | (refine ⟨fun h => h.elim, fun ⟨i, j, h, _⟩ => ?_⟩; cases h; done)
              | (refine ⟨fun h => ⟨_, _, rfl, ⟨h.1, h.2.1, h.2.2.1, h.2.2.2.1⟩, h.2.2.2.2⟩, fun ⟨i, j, h, k, l⟩ => ?_⟩; cases h; exact ⟨k.1, k.2.1, k.2.2.1, k.2.2.2, l⟩))
      simp only [conv] at w
      exact w
    · obtain ⟨i, j, rfl, b1, hq⟩ := w1
      cases p1 with
      | cons pi pn =>
        cases pi
        cases pn with
        | cons pj pn =>
          cases pj
          cases pn
          exact ⟨i, j, rfl, b1, ok W1 S1 H1 _ _ _ e1 r1 real_r hq⟩
/-- backwards -/
theorem real_v {a : Addr} {xs : List D} {chk : Sto → Prop} {W0 : Wd} {H0 : Hp} (h : ∀ W S H, Keep W0 H0 W H → Rel K W S H → chk S → ∃ vs, SqL X.K H a vs ∧ Reps K W H xs vs) : Real K (Itv X.K a xs.length) xs.reverse chk W0 H0 := fun W S H i k r hc => by
  obtain ⟨vs, l, q⟩ := h W S H k r hc
  refine ⟨fun hi => by rw [List.length_reverse] at hi; exact hi, fun d hd => ?_⟩
  have hl : i < xs.length := by
    have := (List.getElem?_eq_some_iff.mp hd).1
    rwa [List.length_reverse] at this
  rw [List.getElem?_reverse hl] at hd
  obtain ⟨v, hv, pv⟩ := q.get hd
  refine ⟨⟨hl, vs, v, l, hv⟩, fun x H' y => ?_⟩
  obtain ⟨e, hy⟩ := y
  have := hy vs l
  rw [hv] at this; cases this
  subst e
  exact ⟨W, Ext.refl _ _ _, r, pv⟩
theorem real_vt {a : Addr} {xs : List D} {chk : Sto → Prop} {W0 : Wd} {H0 : Hp} (h : ∀ W S H, Keep W0 H0 W H → Rel K W S H → chk S → ∃ vs, SqT X.K H a vs ∧ Reps K W H xs vs) : Real K (RT.ItvT X.K a xs.length) xs.reverse chk W0 H0 := fun W S H i k r hc => by
  obtain ⟨vs, l, q⟩ := h W S H k r hc
  refine ⟨fun hi => by rw [List.length_reverse] at hi; exact hi, fun d hd => ?_⟩
  have hl : i < xs.length := by
    have := (List.getElem?_eq_some_iff.mp hd).1
    rwa [List.length_reverse] at this
  rw [List.getElem?_reverse hl] at hd
  obtain ⟨v, hv, pv⟩ := q.get hd
  refine ⟨⟨hl, vs, v, l, hv⟩, fun x H' y => ?_⟩
  obtain ⟨e, hy⟩ := y
  have := hy vs l
  rw [hv] at this; cases this
  subst e
  exact ⟨W, Ext.refl _ _ _, r, pv⟩
theorem ck_rvs {e : E} {x : Expr} (h : ckI (.rvs e) c tg x = true) : ∃ p' v p, x = .Call (.Name "reversed" p') [v] [] p ∧ glbB c.sc "reversed" = true ∧ ckE e c v = true := by
  unfold ckI at h
  split at h
  all_goals first | (exact absurd h Bool.false_ne_true) | (cases (‹It.rvs e = _›))
  simp only [Bool.and_eq_true] at h
  have := eqb h.1.1
  subst this
  exact ⟨_, _, _, rfl, h.1.2, h.2⟩
theorem li_rvs (g : Good X K c n G) {e : E} {x : Expr} (h : ckI (.rvs e) c tg x = true) (ie : ∀ y, ckE e c y = true → PE X y (LE K (wpE c.T G noX e))) : PI X tg x (LI K (wpI c.T G noX (.rvs e))) := by
  obtain ⟨p', v, p, rfl, h2, h3⟩ := ck_rvs h
  have hm : X.mg "reversed" = none := g.bi _ (by decide)
  refine PI.imp (RT.pi_revA (g.gl h2) hm (ie v h3) (ck_star h3)) fun σ H R ⟨W, S, env, q, rl, er, w, ok⟩ => ?_
  simp only [wpI] at w
  refine ⟨W, S, env, _, rl, er, w, fun W1 S1 H1 dx x e1 r1 p1 w1 => ?_⟩
  obtain ⟨xs, hx, hq⟩ := w1
  obtain ⟨a, vs, ev, _, _⟩ := seq_of r1 p1 hx
  subst ev
  rcases seq_now (X := X) r1 p1 hx g.hK with ⟨⟨vs, h1⟩, h2⟩ | ⟨⟨vs, h1⟩, h2⟩
  · have hc : chkD dx xs S1 := by
      cases p1 with
      | loc e => dsimp only [seqD] at hx; dsimp only [chkD]; split at hx <;> first | (cases hx; assumption) | cases hx
      | _ => trivial
    obtain ⟨us, l, qs⟩ := h2 W1 S1 H1 Keep.refl r1 hc
    refine ⟨a, us, rfl, .inl ⟨l, ?_⟩⟩
    rw [← qs.length]
    exact ok W1 S1 H1 _ _ _ e1 r1 (real_v h2) hq
  · have hc : chkD dx xs S1 := by
      cases p1 with
      | loc e => dsimp only [seqD] at hx; dsimp only [chkD]; split at hx <;> first | (cases hx; assumption) | cases hx
      | _ => trivial
    obtain ⟨us, l, qs⟩ := h2 W1 S1 H1 Keep.refl r1 hc
    refine ⟨a, us, rfl, .inr ⟨l, ?_⟩⟩
    rw [← qs.length]
    exact ok W1 S1 H1 _ _ _ e1 r1 (real_vt h2) hq
/-! with places -/
theorem enumD_get : ∀ (xs : List D) (lo i : Nat), (enumD lo xs)[i]? = (xs[i]?).map fun x => .tup [.int ((lo + i : Nat) : Int), x]
  | [], lo, i => by simp [enumD]
  | x :: xs, lo, 0 => by simp [enumD]
  | x :: xs, lo, i + 1 => by
    rw [enumD, List.getElem?_cons_succ, enumD_get xs (lo + 1) i, List.getElem?_cons_succ]
    congr 2
    funext y
    congr 3
    omega
theorem enumD_length : ∀ (xs : List D) (lo : Nat), (enumD lo xs).length = xs.length
  | [], _ => rfl
  | x :: xs, lo => by rw [enumD, List.length_cons, List.length_cons, enumD_length]
theorem pair_new {W : Wd} {S : Sto} {H : Hp} {T : Addr} {d : D} {v : V} {i : Nat} (r : Rel K W S H) (hT : H T = none) (p : Rep K W H d v) : ∃ W', Ext W S H W' S (upd H T (.tup [.int (i : Nat), v])) ∧ Rel K W' S (upd H T (.tup [.int (i : Nat), v])) ∧ Rep K W' (upd H T (.tup [.int (i : Nat), v])) (.tup [.int ((0 + i : Nat) : Int), d]) (.ref T) := by
  obtain ⟨r', e⟩ := rel_frz r hT (.tup [.int (i : Nat), v])
  have z : ((0 + i : Nat) : Int) = (i : Int) := by omega
  rw [z]
  exact ⟨_, e, r', .tup (.inl ⟨.inl rfl, upd_same⟩) (.cons (.int _) (.cons (p.keep (e.keep r)) .nil))⟩
theorem real_el {a : Addr} {xs : List D} {chk : Sto → Prop} {W0 : Wd} {H0 : Hp} (h : ∀ W S H, Keep W0 H0 W H → Rel K W S H → chk S → ∃ vs, SqL X.K H a vs ∧ Reps K W H xs vs) : Real K (Ite X.K a) (enumD 0 xs) chk W0 H0 := fun W S H i k r hc => by
  obtain ⟨vs, l, q⟩ := h W S H k r hc
  refine ⟨fun hi => ⟨vs, l, by rw [enumD_length] at hi; rw [← q.length]; exact hi⟩, fun d hd => ?_⟩
  rw [enumD_get] at hd
  cases hx : xs[i]? with
  | none => rw [hx] at hd; cases hd
  | some d' =>
    rw [hx] at hd
    cases hd
    obtain ⟨v, hv, pv⟩ := q.get hx
    refine ⟨⟨vs, v, l, hv⟩, fun x H' y => ?_⟩
    obtain ⟨T, x', ex, hT, eH, hy⟩ := y
    have := hy vs l
    rw [hv] at this; cases this
    subst ex eH
    exact pair_new r hT pv
theorem real_et {a : Addr} {xs : List D} {chk : Sto → Prop} {W0 : Wd} {H0 : Hp} (h : ∀ W S H, Keep W0 H0 W H → Rel K W S H → chk S → ∃ vs, SqT X.K H a vs ∧ Reps K W H xs vs) : Real K (En.IteT X.K a) (enumD 0 xs) chk W0 H0 := fun W S H i k r hc => by
  obtain ⟨vs, l, q⟩ := h W S H k r hc
  refine ⟨fun hi => ⟨vs, l, by rw [enumD_length] at hi; rw [← q.length]; exact hi⟩, fun d hd => ?_⟩
  rw [enumD_get] at hd
  cases hx : xs[i]? with
  | none => rw [hx] at hd; cases hd
  | some d' =>
    rw [hx] at hd
    cases hd
    obtain ⟨v, hv, pv⟩ := q.get hx
    refine ⟨⟨vs, v, l, hv⟩, fun x H' y => ?_⟩
    obtain ⟨T, x', ex, hT, eH, hy⟩ := y
    have := hy vs l
    rw [hv] at this; cases this
    subst ex eH
    exact pair_new r hT pv
theorem ck_enm {e : E} {x : Expr} (h : ckI (.enm e) c tg x = true) : ∃ es kk tp p' v p, tg = .Tuple es kk tp ∧ x = .Call (.Name "enumerate" p') [v] [] p ∧ glbB c.sc "enumerate" = true ∧ ckE e c v = true := by
  unfold ckI at h
  split at h
  all_goals first | (exact absurd h Bool.false_ne_true) | (cases (‹It.enm e = _›))
  simp only [Bool.and_eq_true] at h
  have := eqb h.1.1
  subst this
  exact ⟨_, _, _, _, _, _, rfl, rfl, h.1.2, h.2⟩
theorem li_enm (g : Good X K c n G) {e : E} {x : Expr} (h : ckI (.enm e) c tg x = true) (ie : ∀ y, ckE e c y = true → PE X y (LE K (wpE c.T G noX e))) : PI X tg x (LI K (wpI c.T G noX (.enm e))) := by
  obtain ⟨es, kk, tp, p', v, p, rfl, rfl, h2, h3⟩ := ck_enm h
  have hm : X.mg "enumerate" = none := g.bi _ (by decide)
  refine PI.imp (En.pi_en (g.gl h2) hm (pa_cons (ie v h3) pa_nil (ck_star h3)) (by rw [ck_star h3]; rfl)) fun σ H R ⟨W, S, env, q, rl, er, w, ok⟩ => ?_
  simp only [wpI] at w
  refine ⟨W, S, env, _, rl, er, w, fun W1 S1 H1 dx x e1 r1 p1 w1 => ?_⟩
  obtain ⟨xs, hx, hq⟩ := w1
  obtain ⟨a, vs, ev, _, _⟩ := seq_of r1 p1 hx
  subst ev
  refine ⟨a, rfl, ?_⟩
  rcases seq_now (X := X) r1 p1 hx g.hK with ⟨h1, h2⟩ | ⟨h1, h2⟩
  · exact .inl ⟨h1, ok W1 S1 H1 _ _ _ e1 r1 (real_el h2) hq⟩
  · exact .inr ⟨h1, ok W1 S1 H1 _ _ _ e1 r1 (real_et h2) hq⟩
end
end Mi
set_option maxHeartbeats 4000000
/-! Mi14: the small language is right: comprehensions. -/
namespace Mi
open PySem PySem.Spec PyProof.Rows L2

theorem wipe_get (σ : L2.St) (vs : List Nat) (i : Nat) : (L2.wipe σ vs : List (Option V))[i]? = if i ∈ vs then (if i < σ.length then some none else none) else (σ : List (Option V))[i]? := by
  induction vs with
  | nil => simp [L2.wipe]
  | cons v vs ih =>
    show ((L2.wipe σ vs).set v none : List (Option V))[i]? = _
    by_cases e : v = i
    · subst e
      by_cases hl : v < σ.length
      · rw [List.getElem?_set_self (by rw [wipe_length]; exact hl), if_pos List.mem_cons_self, if_pos hl]
      · rw [List.getElem?_eq_none (by rw [List.length_set, wipe_length]; omega), if_pos List.mem_cons_self, if_neg hl]
    · rw [List.getElem?_set_ne e, ih]
      by_cases hm : i ∈ vs
      · rw [if_pos hm, if_pos (List.mem_cons_of_mem _ hm)]
      · rw [if_neg hm, if_neg (fun h => (List.mem_cons.mp h).elim (fun q => e q.symm) hm)]
theorem wipe_back {σ σ2 : L2.St} {vs is : List Nat} (hs : ∀ i ∈ is, i ∈ vs) (h : ∀ i, i ∉ is → (σ2 : List (Option V))[i]? = (L2.wipe σ vs : List (Option V))[i]?) (hl : σ2.length = (L2.wipe σ vs).length) : L2.wipe σ2 vs = L2.wipe σ vs := by
  apply List.ext_getElem?
  intro i
  rw [wipe_get]
  have hl' : σ2.length = σ.length := by rw [hl, wipe_length]
  by_cases hm : i ∈ vs
  · rw [if_pos hm, wipe_get, if_pos hm, hl']
  · rw [if_neg hm, h i (fun q => hm (hs i q))]
theorem own_snd (N : List Str) (own : List Nat) : (ownOf N own).map (·.2) = own := by
  unfold ownOf
  rw [List.map_map]
  exact List.map_id own

section
variable {X : Cx} {K : Frg} {c : SC} {n : Nat} {G : GT}
theorem Good.blk (g : Good X K c n G) (scope : Scope) (s : Shared) (H : Hp) (C : Addr) (cl : List (Str × Addr)) (fp : List Addr) : Good (X.blk s H scope (compEnvC scope cl C X.env) fp) K (inner c scope) n G :=
  ⟨g.hK, g.hN, by show relS scope X.env.scope = relS scope c.sc; rw [g.sc], fun x h => h, g.nd, g.calm, g.room, g.grd, g.bi, g.cst, g.fns, PassesOwn.never⟩

/-- a comprehension's if -/
def wpC (T : Tab) (G : GT) (d : Es) (e1 : Env) (S : Sto) (q : Bool → Sto → Prop) : Prop := wpEs T G noX d e1 S fun ds S2 => match ds with
  | [] => q true S2
  | x :: _ => ∃ k, truD S2 x = some k ∧ q k S2
/-- the turns of a comprehension -/
theorem lc_turns (g : Good X K c n G) {e : E} {t : Tg} {d : Es} {own : List Nat} {q' : List D → Sto → Prop}
    {σ : L2.St} {env : Env} {J : L2.It} {xs : List D} {chk : Sto → Prop} {W1 : Wd} {S1 : Sto} {H1 : Hp} {Q : VK} (hown : ∀ i ∈ tgSlots t, i ∈ own)
    (r1 : Rel K W1 S1 H1) (er : EnvR K W1 H1 env σ) (rj : Real K J xs chk W1 H1) {p : Addr} (hp : H1 p = none)
    (w : lcL chk (fun x => bindT t x (wipeD env own)) (wpC c.T G d) (wpE c.T G noX e) xs [] S1 q')
    (ok : ∀ W S H ys vs, Ext W1 S1 H1 W S H → Rel K W S H → ¬ Ins S W p → ¬ W.fz p → H p = some (.lst vs) → Reps K W H ys vs → q' ys S → Q (.ref p) H) :
    ∃ Wv : Nat → Nat → Hp → Prop, (∃ m, Wv 0 m (upd H1 p (.lst []))) ∧ ∀ i m H, Wv i m H →
      (J.stop i H ∧ Q (.ref p) H) ∨ (J.go i H ∧ ∃ Nx : Hp → Prop, (∀ H', Nx H' → ∃ m', m' < m ∧ Wv (i + 1) m' H') ∧ ∀ x H', J.yld i H x H' → LG K t x (L2.wipe σ own) H' fun σ2 H2 => L2.wipe σ2 own = L2.wipe σ own ∧
        LT K (wpC c.T G d) σ2 H2 fun b H3 => if b = true then LE K (wpE c.T G noX e) σ2 H3 fun y H4 => ∃ acc, H4 p = some (.lst acc) ∧ acc.length < sizeLine ∧ Nx (upd H4 p (.lst (acc ++ [y]))) else Nx H3) := by
  have n1 : ¬ Ins S1 W1 p := fun ⟨m, u, h1, h2⟩ => by
    obtain ⟨a, h3, h4⟩ := r1.dom m u h1
    rw [h2] at h3; cases h3
    exact h4.there hp
  have n2 : ¬ W1.fz p := fun z => (r1.sep p z).1 hp
  refine ⟨fun i m H => m = xs.length - i ∧ i ≤ xs.length ∧ ∃ W S ys vs, Ext W1 S1 H1 W S H ∧ Rel K W S H ∧ ¬ Ins S W p ∧ ¬ W.fz p ∧ H p = some (.lst vs) ∧ Reps K W H ys vs ∧ lcL chk (fun x => bindT t x (wipeD env own)) (wpC c.T G d) (wpE c.T G noX e) (xs.drop i) ys S q', ⟨xs.length, rfl, Nat.zero_le _, W1, S1, [], [], ?_⟩, ?_⟩
  · obtain ⟨r2, k2⟩ := rel_other r1 n1 n2 (.lst [])
    exact ⟨(Ext.refl W1 S1 H1).other hp _, r2, n1, n2, upd_same, .nil, w⟩
  rintro i m H ⟨rfl, hi, W, S, ys, vs, ex, r, m1, m2, hl, qs, wl⟩
  have kp : Keep W1 H1 W H := ex.keep r1
  by_cases hlt : i < xs.length
  · right
    rw [List.drop_eq_getElem_cons hlt] at wl
    obtain ⟨hc, e1, hb, wl⟩ := wl
    obtain ⟨_, go⟩ := rj W S H i kp r hc
    obtain ⟨hgo, hy⟩ := go xs[i] (by simp [hlt])
    refine ⟨hgo, fun H' => ∃ W S ys vs, Ext W1 S1 H1 W S H' ∧ Rel K W S H' ∧ ¬ Ins S W p ∧ ¬ W.fz p ∧ H' p = some (.lst vs) ∧ Reps K W H' ys vs ∧ lcL chk (fun x => bindT t x (wipeD env own)) (wpC c.T G d) (wpE c.T G noX e) (xs.drop (i + 1)) ys S q', fun H' h => ⟨xs.length - (i + 1), by omega, rfl, hlt, h⟩, fun x H' y => ?_⟩
    obtain ⟨W2, x2, r2, pd⟩ := hy x H' y
    have tr : ∀ {W3 : Wd} {S3 : Sto} {H3 : Hp}, Ext W S H W3 S3 H3 → H3 p = H p ∧ ¬ Ins S3 W3 p ∧ ¬ W3.fz p := fun {W3 S3 H3} z => by
      obtain ⟨z1, z2, z3⟩ := z.fr p (by rw [hl]; simp) m1
      exact ⟨z1, z2, fun q => m2 (z3 q)⟩
    refine ⟨W2, S, wipeD env own, xs[i], e1, r2, ((er.keep kp).keep (x2.keep r)).wipe own, pd, hb, fun σ2 er2 o2 l2 => ⟨wipe_back hown o2 l2, ?_⟩⟩
    refine ⟨W2, S, e1, fun b S1 => if b = true then wpE c.T G noX e e1 S1 (fun y S2 => ys.length < 1000000 ∧ lcL chk (fun x => bindT t x (wipeD env own)) (wpC c.T G d) (wpE c.T G noX e) (xs.drop (i + 1)) (ys ++ [y]) S2 q') else lcL chk (fun x => bindT t x (wipeD env own)) (wpC c.T G d) (wpE c.T G noX e) (xs.drop (i + 1)) ys S1 q', r2, er2, wl, fun W3 S3 H3 b x3 r3 w3 => ?_⟩
    cases b with
    | false =>
      rw [if_neg Bool.false_ne_true] at w3 ⊢
      obtain ⟨t1, t2, t3⟩ := tr (x2.trans x3)
      exact ⟨W3, S3, ys, vs, ex.trans (x2.trans x3), r3, t2, t3, t1.trans hl, qs.keep ((x2.trans x3).keep r), w3⟩
    | true =>
      rw [if_pos rfl] at w3 ⊢
      refine ⟨W3, S3, e1, _, r3, er2.keep (x3.keep r2), w3, fun W4 S4 H4 dy y x4 r4 p4 w4 => ?_⟩
      obtain ⟨t1, t2, t3⟩ := tr ((x2.trans x3).trans x4)
      obtain ⟨wlen, w5⟩ := w4
      have q4 := qs.keep (((x2.trans x3).trans x4).keep r)
      refine ⟨vs, t1.trans hl, by rw [← q4.length]; exact Nat.lt_trans wlen (by decide), ?_⟩
      obtain ⟨r5, k5⟩ := rel_other r4 t2 t3 (.lst (vs ++ [y]))
      exact ⟨W4, S4, ys ++ [dy], vs ++ [y], (ex.trans ((x2.trans x3).trans x4)).other hp _, r5, t2, t3, upd_same, (q4.keep k5).append (.cons (p4.keep k5) .nil), w5⟩
  · left
    have e : i = xs.length := by omega
    subst e
    rw [List.drop_length] at wl
    obtain ⟨st, _⟩ := rj W S H xs.length kp r wl.1
    exact ⟨st (Nat.le_refl _), ok W S H ys vs ex r m1 m2 hl qs wl.2⟩

theorem lt_conds (g : Good X K c n G) {d : Es} {ifs : List Expr} (h : ckEs d c ifs = true) (hl : ifs.length ≤ 1) (it : ∀ (e : E) (y : Expr), d = .cons e .nil → ckE e c y = true → PT X y (LT K (wpT c.T G noX e))) : PTs X ifs (LT K (wpC c.T G d)) := by
  match ifs, hl, h with
  | [], _, h =>
    have en : d = .nil := by cases d with
      | nil => rfl
      | cons _ _ => simp [ckEs] at h
    subst en
    refine ⟨fun pins s σ H Q I ⟨W, S, env, q, rl, er, w, ok⟩ => pts_nil.run pins s σ H Q I ?_⟩
    simp only [wpC, wpEs] at w
    exact ok W S H true (Ext.refl _ _ _) rl w
  | [x], _, h =>
    obtain ⟨e, rfl, hx⟩ := es_one h
    refine ⟨fun pins s σ H Q I ⟨W, S, env, q, rl, er, w, ok⟩ => (pts_one (it e x rfl hx)).run pins s σ H Q I ?_⟩
    simp only [wpC, wpEs] at w
    exact ⟨W, S, env, q, rl, er, w, ok⟩
theorem le_lcs (g : Good X K c n G) {e : E} {t : Tg} {it : It} {d : Es} {own : List Nat} {y tg iter : Expr} {ifs : List Expr} {scope : Scope} {p : Pos} (h2 : blkC c.N c.sc scope (ownOf c.N own) = true) (hown : (tgSlots t).all (own.contains ·) = true)
    (ii : PI X tg iter (LI K (wpI c.T G noX it))) (hs : notSet iter = true) (it' : ∀ X', Good X' K (inner c scope) n G → PG X' tg (LG K t)) (ic : ∀ X', Good X' K (inner c scope) n G → PTs X' ifs (LT K (wpC c.T G d))) (ie : ∀ X', Good X' K (inner c scope) n G → PE X' y (LE K (wpE c.T G noX e))) :
    PE X (.ListComp y [⟨tg, iter, ifs, 0⟩] scope p) (tLc (LI K (wpI c.T G noX it)) (LG K t) (LT K (wpC c.T G d)) (LE K (wpE c.T G noX e)) own) ∧ BlkOk X.N X.env.scope scope (ownOf c.N own) ∧ (∀ i ∈ tgSlots t, i ∈ own) ∧ ∀ x, foldedSetIterable iter X.env x = pure x := by
  have ok : BlkOk X.N X.env.scope scope (ownOf c.N own) := blkOk_by (by rw [g.hN, g.sc]; exact h2)
  have hf : ∀ x, foldedSetIterable iter X.env x = pure x := by
    intro x
    cases iter <;> first | rfl | (simp [notSet] at hs; done)
  have ho : ∀ i ∈ tgSlots t, i ∈ own := fun i hi => by
    have := List.all_eq_true.mp hown i hi
    simpa using this
  have h := pe_lc (pos := p) g.calm (by rw [g.hN]; exact g.nd) ii ok (fun s H C cl fp => it' _ (g.blk scope s H C cl fp)) (fun s H C cl fp => ic _ (g.blk scope s H C cl fp)) (fun s H C cl fp => ie _ (g.blk scope s H C cl fp)) hf
  rw [own_snd] at h
  exact ⟨h, ok, ho, hf⟩
theorem lc_all (g : Good X K c n G) {e : E} {t : Tg} {it : It} {d : Es} {own : List Nat} (ho : ∀ i ∈ tgSlots t, i ∈ own) (mut_ : Bool) :
    ∀ σ H Q, LE K (wpE c.T G noX (if mut_ = true then .mlc e t it d own else .lc e t it d own)) σ H Q → tLc (LI K (wpI c.T G noX it)) (LG K t) (LT K (wpC c.T G d)) (LE K (wpE c.T G noX e)) own σ H Q := by
  intro σ H Q ⟨W, S, env, q, rl, er, w, ok⟩
  cases mut_ with
  | false =>
    rw [if_neg Bool.false_ne_true] at w
    simp only [wpE] at w
    refine ⟨W, S, env, _, rl, er, w, fun W1 S1 H1 xs chk J e1 r1 rj w1 p hp => ?_⟩
    refine lc_turns g ho r1 (er.keep (e1.keep rl)) rj hp w1 fun W2 S2 H2 ys vs e2 r2 m1 m2 hl qs hq => ?_
    obtain ⟨r3, k3⟩ := rel_stop r2 m1 (by rw [hl]; simp)
    have e3 := e2.stop hp
    exact ok _ _ _ _ _ (e1.trans e3) r3 (.lst (.inl rfl) hl (qs.keep k3)) hq
  | true =>
    rw [if_pos rfl] at w
    simp only [wpE] at w
    refine ⟨W, S, env, _, rl, er, w, fun W1 S1 H1 xs chk J e1 r1 rj w1 p hp => ?_⟩
    refine lc_turns g ho r1 (er.keep (e1.keep rl)) rj hp w1 fun W2 S2 H2 ys vs e2 r2 m1 m2 hl qs hq => ?_
    obtain ⟨m, hm, r3, k3, hr, e3⟩ := rel_come r2 m1 m2 hl qs
    exact ok _ _ _ _ _ (e1.trans (e3 e2 hp)) r3 (.loc hr) (hq m hm)
end
end Mi
set_option maxHeartbeats 4000000
/-! MiD: dict(enumerate(..)) of a tuple. -/
namespace En
open PySem PySem.Spec PyProof.Rows L2 PySem.W
section
variable {prog : Program} {w : World} {A : Around} {E : Value → Shared → Prop} {s : Shared}
theorem en_itemH {e j t T : Addr} {n : Nat} {xs : Array Value} {y old : Value} {f : Bool} {oT : Obj} {Q : Value → Shared → Prop} (he : IsEnumHeld s.heap e j n old T f) (hT : s.heap.get? T = some oT) (n1 : T ≠ e) (n2 : T ≠ j)
    (hj : s.heap.IsTupleIter j t n) (ht : s.heap.IsTuple t xs) (hy : xs[n]? = some y) (hne : e ≠ j)
    (k : ∀ g, IsEnumHeld g e j ((n : Int) + 1) old T true → g.IsTupleIter j t (n + 1) → g.get? s.heap.objs.size = some { cls := .type "tuple", data := .seq #[.int n s.toks, y] } → g.objs.size = s.heap.objs.size + 1 →
      (∀ b o, b ≠ e → b ≠ j → s.heap.get? b = some o → g.get? b = some o) → Q (.ref s.heap.objs.size) { s with heap := g, toks := s.toks + 1 }) :
    wpAny (model prog w) A (Builtin.«enumerate.__next__» ⟨[.ref e], []⟩) (fun fin s' => ∃ v, fin = .done (.ret v) ∧ Q v s') E s := by
  obtain ⟨hp, gs, dr, tk, os⟩ := s
  show wpAny _ _ (field (.ref e) 2 >>= _) _ _ _
  refine wpAny_bind (wpAny_field he rfl (x := .ref j) rfl (wpAny_bind (next_tup hj ht hy fun g1 j1 b1 => ?_)))
  have b1 : Heap.SameBut j hp g1 := b1
  have a1 : IsEnumHeld g1 e j n old T f := (b1.2 e hne).trans he
  show wpAny _ _ (field (.ref e) 3 >>= _) _ _ ⟨g1, gs, dr, tk, os⟩
  refine wpAny_bind (wpAny_field a1 rfl (x := rawInt n) rfl ?_)
  show wpAny _ _ (field (.ref e) 4 >>= _) _ _ ⟨g1, gs, dr, tk, os⟩
  refine wpAny_bind (wpAny_field a1 rfl (x := .none) rfl ?_)
  show wpAny _ _ (mkInt n >>= _) _ _ ⟨g1, gs, dr, tk, os⟩
  refine wpAny_bind (wpAny_mkInt ?_)
  show wpAny _ _ (setField (.ref e) 3 (rawInt ((n : Int) + 1)) >>= _) _ _ ⟨g1, gs, dr, tk + 1, os⟩
  refine wpAny_bind (wpAny_setField_rec a1 (by simp) fun g2 a2 b2 => ?_)
  have b2 : Heap.SameBut e g1 g2 := b2
  have a2 : IsEnumHeld g2 e j ((n : Int) + 1) old T f := a2
  show wpAny _ _ (setField (.ref e) 4 .none >>= _) _ _ ⟨g2, gs, dr, tk + 1, os⟩
  refine wpAny_bind (wpAny_setField_rec a2 (by simp) fun g3 a3 b3 => ?_)
  have b3 : Heap.SameBut e g2 g3 := b3
  have a3 : IsEnumHeld g3 e j ((n : Int) + 1) old T f := a3
  show wpAny _ _ (newTuple [.int n tk, y] >>= _) _ _ ⟨g3, gs, dr, tk + 1, os⟩
  refine wpAny_bind (wpAny_newTuple ?_)
  have a4 : IsEnumHeld (g3.push { cls := .type "tuple", data := .seq #[.int n tk, y] }) e j ((n : Int) + 1) old T f := Heap.get?_push_of_some _ a3
  generalize q4 : g3.push { cls := .type "tuple", data := .seq #[.int n tk, y] } = g4 at a4
  have z3 : g3.objs.size = hp.objs.size := by rw [b3.1, b2.1, b1.1]
  have le : e < hp.objs.size := Heap.lt_size he
  have t4 : g4.get? hp.objs.size = some { cls := .type "tuple", data := .seq #[.int n tk, y] } := by rw [← q4, ← z3]; exact Heap.get?_push_size _ rfl
  have z4 : g4.objs.size = hp.objs.size + 1 := by rw [← q4, Heap.size_push, z3]
  have r4 : ∀ b o, b ≠ e → b ≠ j → hp.get? b = some o → g4.get? b = some o := fun b o m1 m2 h => by
    rw [← q4]
    exact Heap.get?_push_of_some _ (b3.extBut b o m1 (b2.extBut b o m1 (b1.extBut b o m2 h)))
  have j4 : g4.IsTupleIter j t (n + 1) := by
    rw [← q4]
    obtain ⟨o, ho, r⟩ := (j1.extBut b2.extBut (Ne.symm hne)).extBut b3.extBut (Ne.symm hne)
    exact ⟨o, Heap.get?_push_of_some _ ho, r⟩
  show wpAny _ _ (Builtin.SmallTypes.ownedTupleIsFree (.ref e) >>= _) _ _ ⟨g4, gs, dr, tk + 1, os⟩
  rw [z3]
  refine wpAny_bind (wpAny_tupleHeld_enum (s := ⟨g4, gs, dr, tk + 1, os⟩) a4 (r4 T oT n1 n2 hT) fun g5 a5 b5 => ?_)
  have b5 : Heap.SameBut e g4 g5 := b5
  simp only [Bool.false_eq_true, if_false]
  exact wpAny_pure ⟨_, rfl, k g5 a5 (j4.extBut b5.extBut (Ne.symm hne)) (b5.extBut _ _ (Nat.ne_of_gt le) t4) (by show g5.objs.size = hp.objs.size + 1; rw [b5.1, z4]) fun b o m1 m2 h => b5.extBut b o m1 (r4 b o m1 m2 h)⟩
theorem py_itemH {e j t T : Addr} {n : Nat} {xs : Array Value} {y old : Value} {f : Bool} {oT : Obj} {Q : Option Value → Shared → Prop} (he : IsEnumHeld s.heap e j n old T f) (hT : s.heap.get? T = some oT) (n1 : T ≠ e) (n2 : T ≠ j)
    (hj : s.heap.IsTupleIter j t n) (ht : s.heap.IsTuple t xs) (hy : xs[n]? = some y) (hne : e ≠ j)
    (k : ∀ g, IsEnumHeld g e j ((n : Int) + 1) old T true → g.IsTupleIter j t (n + 1) → g.get? s.heap.objs.size = some { cls := .type "tuple", data := .seq #[.int n s.toks, y] } → g.objs.size = s.heap.objs.size + 1 →
      (∀ b o, b ≠ e → b ≠ j → s.heap.get? b = some o → g.get? b = some o) → Q (some (.ref s.heap.objs.size)) { s with heap := g, toks := s.toks + 1 }) :
    wpAny (model prog w) A (pyNext (.ref e)) Q E s := by
  have ty : s.TypeIs (.ref e) "enumerate" := ⟨_, he, rfl⟩
  unfold pyNext
  exact wpAny_bind (wpAny_attempt (wpAny_callSpecial?_slot (name := Str.ofString "__next__") ty F.slot_enumerate_next (wpAny_call_entry F.slot_enumerate_next ty F.entry_enumerate_next (en_itemH he hT n1 n2 hj ht hy hne fun g a b c d r => wpAny_pure (k g a b c d r)) (F.args_enumerate_next_1 _))))
theorem py_endH {e j t T : Addr} {n : Nat} {xs : Array Value} {old : Value} {f : Bool} {Q : Option Value → Shared → Prop} (hh : A.handled = none) (he : IsEnumHeld s.heap e j n old T f) (hj : s.heap.IsTupleIter j t n) (ht : s.heap.IsTuple t xs) (hy : xs[n]? = none)
    (k : ∀ g, Heap.ExtBut j s.heap g → Q none { s with heap := g }) : wpAny (model prog w) A (pyNext (.ref e)) Q E s := by
  have ty : s.TypeIs (.ref e) "enumerate" := ⟨_, he, rfl⟩
  unfold pyNext
  refine wpAny_bind (wpAny_attempt (wpAny_callSpecial?_slot (name := Str.ofString "__next__") ty F.slot_enumerate_next (wpAny_call_entry F.slot_enumerate_next ty F.entry_enumerate_next ?_ (F.args_enumerate_next_1 _))))
  show wpAny _ _ (field (.ref e) 2 >>= _) _ _ _
  refine wpAny_bind (wpAny_field he rfl (x := .ref j) rfl (wpAny_bind (next_tup_end hh hj ht hy fun g z a c => ?_)))
  obtain ⟨o, ho, hc⟩ := c
  exact wpAny_bind (wpAny_isInstance (T := "StopIteration") (b := true) ⟨o, ho, hc⟩ isSubtype_stop (wpAny_pure (k _ a)))
end
section
variable {prog : Program} {w : World}
theorem arg_tup (e j l : Addr) (h1 : e ≠ j) (h2 : l ≠ e) (h3 : l ≠ j) (xs : Array Value) :
    PairArg prog w "enumerate" e [e, j, l] [e, j] xs.size (fun i k v => (∃ t, k = .int i t) ∧ xs[i]? = some v) (fun h => (∃ old, IsEnum h e j 0 old) ∧ h.IsTupleIter j l 0 ∧ h.IsTuple l xs) where
  type := fun s ok => by
    obtain ⟨⟨_, he⟩, _⟩ := ok
    exact ⟨_, he, rfl⟩
  notDict := by decide
  keep := fun h h' ok hk => by
    obtain ⟨⟨old, he⟩, ⟨o, a1, a2⟩, ⟨o', b1, b2⟩⟩ := ok
    exact ⟨⟨old, hk _ _ he⟩, ⟨o, hk _ _ a1, a2⟩, ⟨o', hk _ _ b1, b2⟩⟩
  there := fun h ok b hb => by
    obtain ⟨⟨old, he⟩, ⟨o, a1, _⟩, ⟨o', b1, _⟩⟩ := ok
    simp only [List.mem_cons, List.not_mem_nil, or_false] at hb
    rcases hb with rfl | rfl | rfl
    · exact ⟨_, he⟩
    · exact ⟨_, a1⟩
    · exact ⟨_, b1⟩
  sub := fun b hb => by
    simp at hb ⊢
    rcases hb with rfl | rfl <;> simp
  noKeys := fun A s Q E hA ok h => by
    obtain ⟨⟨_, he⟩, _⟩ := ok
    exact getAttrOr_miss_enumerate he rfl rfl rfl enumerate_no_keys (by decide +kernel) hA h
  iter := fun A s d Q E hA ok hd hdf h => by
    obtain ⟨⟨old, he⟩, hj, hl⟩ := ok
    simp only [List.mem_cons, List.not_mem_nil, or_false, not_or] at hdf
    obtain ⟨de, dj, dl⟩ := hdf
    refine wpAny_pyIter_enum he (h e [e, j] (fun i h => h.IsTupleIter j l i ∧ h.IsTuple l xs ∧ ((∃ old, IsEnum h e j i old) ∨ ∃ old T f oT, IsEnumHeld h e j i old T f ∧ h.get? T = some oT ∧ T ≠ e ∧ T ≠ j ∧ T ≠ d)) s.heap s.toks ?_ ⟨hj, hl, .inl ⟨old, he⟩⟩ (fun _ _ z => z) fun b hb => .inl hb)
    exact {
      off := fun hm => by
        simp only [List.mem_cons, List.not_mem_nil, or_false] at hm
        rcases hm with x | x
        · exact de x
        · exact dj x
      frame := fun i g1 g2 st hk => by
        obtain ⟨⟨o, a1, a2⟩, ⟨o', b1, b2⟩, st⟩ := st
        refine ⟨⟨o, hk _ _ (Ne.symm dj) a1, a2⟩, ⟨o', hk _ _ (Ne.symm dl) b1, b2⟩, ?_⟩
        rcases st with ⟨old, x⟩ | ⟨old, T, f, oT, x, hT, r1, r2, r3⟩
        · exact .inl ⟨old, hk _ _ (Ne.symm de) x⟩
        · exact .inr ⟨old, T, f, oT, hk _ _ (Ne.symm de) x, hk _ _ r3 hT, r1, r2, r3⟩
      item := fun i s1 Q1 E1 hi st hds hQ => by
        obtain ⟨a, b, st⟩ := st
        have ex := Array.getElem?_eq_getElem hi
        have ec : ((i + 1 : Nat) : Int) = (i : Int) + 1 := by omega
        have nj : s1.heap.objs.size ≠ j := by
          obtain ⟨_, x, _⟩ := a
          exact Nat.ne_of_gt (Heap.lt_size x)
        have tl : ∀ {g : Heap}, (∀ b o, b ≠ e → b ≠ j → s1.heap.get? b = some o → g.get? b = some o) → g.IsTuple l xs := fun hk => by
          obtain ⟨o, x, y⟩ := b
          exact ⟨o, hk l o h2 h3 x, y⟩
        rcases st with ⟨old, x⟩ | ⟨old, T, f, oT, x, hT, r1, r2, r3⟩
        · refine py_item x a b ex h1 fun g ho hit hT hsz hk => ?_
          exact hQ s1.heap.objs.size _ _ g (s1.toks + 1) ⟨⟨_, rfl⟩, ex⟩ (.inl ⟨_, hT, rfl, _, rfl⟩)
            ⟨hit, tl hk, .inr ⟨_, s1.heap.objs.size, false, _, (by rw [ec]; exact ho), hT, Nat.ne_of_gt (Heap.lt_size x), nj, Nat.ne_of_gt hds⟩⟩ fun b o hb z => hk b o (fun y => hb (by simp [y])) (fun y => hb (by simp [y])) z
        · refine py_itemH x hT r1 r2 a b ex h1 fun g ho hit hT' hsz hk => ?_
          exact hQ s1.heap.objs.size _ _ g (s1.toks + 1) ⟨⟨_, rfl⟩, ex⟩ (.inl ⟨_, hT', rfl, _, rfl⟩)
            ⟨hit, tl hk, .inr ⟨old, T, true, oT, (by rw [ec]; exact ho), hk _ _ r1 r2 hT, r1, r2, r3⟩⟩ fun b o hb z => hk b o (fun y => hb (by simp [y])) (fun y => hb (by simp [y])) z
      done := fun s1 Q1 E1 st hQ => by
        obtain ⟨a, b, st⟩ := st
        have hx : xs[xs.size]? = none := Array.getElem?_eq_none (Nat.le_refl _)
        rcases st with ⟨old, x⟩ | ⟨old, T, f, oT, x, hT, r1, r2, r3⟩
        · exact py_end hA x a b hx fun g hk => hQ g s1.toks fun b o hb z => hk b o (fun y => hb (by simp [y])) z
        · exact py_endH hA x a b hx fun g hk => hQ g s1.toks fun b o hb z => hk b o (fun y => hb (by simp [y])) z }
end
end En
set_option maxHeartbeats 4000000
/-! MiE: dict(enumerate(..)). -/
namespace En
open PySem PySem.Spec PyProof.Rows L2
/-- numbered from n on -/
def numK {α : Type} : Nat → List α → List (Key × α)
  | _, [] => []
  | n, x :: xs => (.inl (n : Int), x) :: numK (n + 1) xs
theorem numK_len {α : Type} : ∀ (xs : List α) (n : Nat), (numK n xs).length = xs.length
  | [], _ => rfl
  | x :: xs, n => by rw [numK, List.length_cons, List.length_cons, numK_len]
theorem numK_get {α : Type} : ∀ (xs : List α) (n i : Nat), (numK n xs)[i]? = (xs[i]?).map fun x => (.inl ((n + i : Nat) : Int), x)
  | [], n, i => by simp [numK]
  | x :: xs, n, 0 => by simp [numK]
  | x :: xs, n, i + 1 => by
    rw [numK, List.getElem?_cons_succ, numK_get xs (n + 1) i, List.getElem?_cons_succ]
    congr 2
    funext y
    congr 2
    omega
theorem numK_kv : ∀ {xs : List V} {us : List Value} (n : Nat), Vals xs us → KV (numK n xs) (numK n us)
  | _, _, _, .nil => .nil
  | _, _, n, .cons a b => .cons ⟨rfl, a⟩ (numK_kv (n + 1) b)
theorem have_num {P : Program} {w : World} (us : List Value) : PySem.PairsHave (mixKind P w) us.toArray.size (fun i k v => (∃ t, k = .int i t) ∧ us.toArray[i]? = some v) (numK 0 us) := by
  refine ⟨by rw [numK_len]; simp, fun i key v h => ?_⟩
  obtain ⟨⟨t, rfl⟩, hv⟩ := h
  have hv : us[i]? = some v := by simpa using hv
  refine ⟨.inl ((0 + i : Nat) : Int), by rw [numK_get, hv]; rfl, ?_⟩
  rw [Nat.zero_add]
  exact kV_is (k := .inl (i : Int)) (u := .int i t) ⟨t, rfl⟩
def tDen (K : PySem.W.Frag) (te : TE) : TE := fun σ H Q => te σ H fun x H1 => ∃ a xs, x = .ref a ∧ (SqL K H1 a xs ∨ SqT K H1 a xs) ∧ ∀ p, H1 p = none → Q (.ref p) (upd H1 p (.dK (mergeK [] (numK 0 xs))))
theorem pe_den {X : Cx} {v : Expr} {p1 p2 p3 p4 : Pos} {te : TE} (hc : X.calm = true) (g1 : Gl X "dict") (m1 : X.mg "dict" = none) (g2 : Gl X "enumerate") (m2 : X.mg "enumerate" = none) (hv : PE X v te) (hs : starEach [v] X.env = [(false, eval v X.env)]) :
    PE X (.Call (.Name "dict" p1) [.Call (.Name "enumerate" p2) [v] [] p3] [] p4) (tDen X.K te) := by
  refine ⟨fun pins s σ H Q I h => ?_⟩
  refine Call_ (ld_blt I g1 m1 (show bootBuiltins "dict" = some (.type "dict") by decide +kernel) (PyProof.Rows.callWith_type1 ?_ rfl rfl))
  show wpAny _ _ (spliced [(false, eval (.Call (.Name "enumerate" p2) [v] [] p3) X.env)]) _ _ s
  refine Calls.spliced_cons ?_
  refine Call_ (ld_blt I g2 m2 boot_enumerate (PyProof.Rows.callWith_type1 ?_ hs rfl))
  rw [hs]
  show wpAny _ _ (spliced [(false, eval v X.env)]) _ _ s
  refine Calls.spliced_cons (thn (hv.run pins s σ H _ I h) fun u s1 ⟨x, H1, I1, r1, a, xs, ex, hq, q⟩ => Calls.spliced_nil ?_)
  subst ex
  cases (show u = Value.ref a from r1)
  have big : s1.heap.objs.size + 2 ≠ sysModules := Nat.ne_of_gt (Nat.lt_of_lt_of_le I1.big (Nat.le_add_right _ 2))
  have fin : ∀ (us : List Value) (g g' : Heap) (tk : Tok), Vals xs us → us.length ≤ sizeLine → g.objs.size = s1.heap.objs.size + 2 → (∀ b o, s1.heap.get? b = some o → g.get? b = some o) → g'.DictOf (mixKind X.prog X.w) (s1.heap.objs.size + 2) (merged [] (numK 0 us)) →
      (∀ b o, b ∉ [s1.heap.objs.size + 1, s1.heap.objs.size] → g.get? b = some o → g'.get? b = some o) → EP X pins σ Q (.ref (s1.heap.objs.size + 2)) { s1 with heap := g', toks := tk } := by
    intro us g g' tk rv hl hz hk hd hk'
    have len : (mergeK [] (numK 0 xs)).length ≤ sizeLine := by
      refine Nat.le_trans (length_mergeK _ []) ?_
      rw [List.length_nil, Nat.zero_add, numK_len, rv.length]
      exact hl
    refine ⟨.ref (s1.heap.objs.size + 2), _, I1.laid (t' := tk) (h' := g') (a := s1.heap.objs.size + 2) (fun b o e => hk' b o (fun z => ?_) (hk b o e)) (Nat.le_add_right _ _) (show ObjOk X.prog X.w _ _ _ (.dK (mergeK [] (numK 0 xs))) from ⟨len, beq_eq_false_iff_ne.mpr big, merged [] (numK 0 us), KV.merge (numK_kv 0 rv) .nil, hd⟩), rfl, q _ (I1.hok.fresh (Nat.le_add_right _ _))⟩
    have lb := Heap.lt_size e
    simp only [List.mem_cons, List.not_mem_nil, or_false] at z
    rcases z with z | z
    · rw [z] at lb; exact absurd lb (Nat.not_lt.mpr (Nat.le_succ _))
    · rw [z] at lb; exact Nat.lt_irrefl _ lb
  rcases hq with hq | hq
  · obtain ⟨its, rv, p, hz⟩ := I1.list hq
    refine call_enumerate_list p.isList fun g he hit hsz hk => Calls.spliced_nil ?_
    have lt : a < s1.heap.objs.size := by obtain ⟨_, z, _⟩ := p.isList; exact Heap.lt_size z
    refine PySem.call_dict_pairs (s := { s1 with heap := g }) (knd := mixKind X.prog X.w) (PySem.PairArg.enumerate (s1.heap.objs.size + 1) s1.heap.objs.size a (Nat.succ_ne_self _) (Nat.ne_of_lt (Nat.lt_succ_of_lt lt)) (Nat.ne_of_lt lt) its.toArray) (I1.ok.hd hc) ⟨⟨_, he⟩, hit, p.isList.at fun o z => hk _ o z⟩ (have_num its) (by rw [List.size_toArray, ← rv.length]; exact hz) fun h' tk hd hk' => ?_
    rw [hsz] at hd ⊢
    exact fin its g h' tk rv (by rw [← rv.length]; exact hz) hsz hk hd hk'
  · obtain ⟨its, rv, p, hz⟩ := I1.tuple hq
    refine call_enum (show s1.heap.IsTuple a its.toArray from p) fun g he hit hsz hk => Calls.spliced_nil ?_
    have pt : s1.heap.IsTuple a its.toArray := p
    have lt : a < s1.heap.objs.size := by obtain ⟨_, z, _⟩ := pt; exact Heap.lt_size z
    have pg : g.IsTuple a its.toArray := by obtain ⟨o, z, r⟩ := pt; exact ⟨o, hk _ o z, r⟩
    refine PySem.call_dict_pairs (s := { s1 with heap := g }) (knd := mixKind X.prog X.w) (arg_tup (s1.heap.objs.size + 1) s1.heap.objs.size a (Nat.succ_ne_self _) (Nat.ne_of_lt (Nat.lt_succ_of_lt lt)) (Nat.ne_of_lt lt) its.toArray) (I1.ok.hd hc) ⟨⟨_, he⟩, hit, pg⟩ (have_num its) (by rw [List.size_toArray, ← rv.length]; exact hz) fun h' tk hd hk' => ?_
    rw [hsz] at hd ⊢
    exact fin its g h' tk rv (by rw [← rv.length]; exact hz) hsz hk hd hk'
end En
set_option maxHeartbeats 4000000
/-! Mi15: dict displays; every expression. -/
namespace Mi
open PySem PySem.Spec PyProof.Rows L2

theorem rel_comeO {K : Frg} {W : Wd} {S : Sto} {H : Hp} (r : Rel K W S H) {p : Addr} (n1 : ¬ Ins S W p) (n2 : ¬ W.fz p) (o : Ob) (q : ∀ W', Keep W H W' H → ObR K W' H p o) :
    ∃ n, S n = none ∧ Rel K (W.new n p) (put S n o) H ∧ Keep W H (W.new n p) H ∧ (W.new n p).rho n = some p ∧ ∀ {W1 : Wd} {S1 : Sto} {H1 : Hp}, Ext W1 S1 H1 W S H → H1 p = none → Ext W1 S1 H1 (W.new n p) (put S n o) H := by
  obtain ⟨N, hN⟩ := r.bd
  have hS : S N = none := by
    cases e : S N with
    | none => rfl
    | some u => obtain ⟨a, h, _⟩ := r.dom N u e; rw [hN N (Nat.le_refl _)] at h; cases h
  have hr : (W.new N p).rho N = some p := if_pos rfl
  have hr2 : ∀ m, m ≠ N → (W.new N p).rho m = W.rho m := fun m h => if_neg h
  have k : Keep W H (W.new N p) H := ⟨fun m a h => by
    by_cases e : m = N
    · subst e; rw [hN _ (Nat.le_refl _)] at h; cases h
    · rw [hr2 m e]; exact h, fun b h => ⟨h, rfl⟩⟩
  have insb : ∀ b, Ins (put S N o) (W.new N p) b → b = p ∨ Ins S W b := fun b ⟨m, v, h1, h2⟩ => by
    by_cases e : m = N
    · subst e; rw [hr] at h2; cases h2; exact .inl rfl
    · rw [hr2 m e] at h2; rw [put_ne e] at h1; exact .inr ⟨m, v, h1, h2⟩
  refine ⟨N, hS, ⟨⟨N + 1, fun n h => by rw [hr2 n (by omega)]; exact hN n (by omega)⟩, fun m v z => ?_, fun i j b x y h1 h2 h3 h4 => ?_, fun b z => ⟨(r.sep b z).1, fun y => ?_⟩⟩, k, hr, fun {W1 S1 H1} e hp => ⟨fun m a z => k.rho m a (e.rho m a z), e.fz, fun a h1 h2 => ⟨(e.fr a h1 h2).1, fun y => ?_, (e.fr a h1 h2).2.2⟩⟩⟩
  · by_cases e : m = N
    · subst e; rw [put_same] at z; cases z
      exact ⟨p, hr, q _ k⟩
    · rw [put_ne e] at z
      obtain ⟨b, h1, h2⟩ := r.dom m v z
      exact ⟨b, (hr2 m e).trans h1, h2.keep k rfl⟩
  · by_cases e : i = N
    · subst e
      by_cases e' : j = i
      · exact e'.symm
      · exfalso
        rw [hr] at h3; cases h3
        rw [hr2 j e'] at h4; rw [put_ne e'] at h2
        exact n1 ⟨j, y, h2, h4⟩
    · rw [hr2 i e] at h3; rw [put_ne e] at h1
      by_cases e' : j = N
      · exfalso
        subst e'
        rw [hr] at h4; cases h4
        exact n1 ⟨i, x, h1, h3⟩
      · rw [hr2 j e'] at h4; rw [put_ne e'] at h2
        exact r.inj i j b x y h1 h2 h3 h4
  · rcases insb b y with z' | z'
    · subst z'; exact n2 z
    · exact (r.sep b z).2 z'
  · rcases insb a y with z' | z'
    · subst z'; exact h1 hp
    · exact (e.fr a h1 h2).2.1 z'

section
variable {X : Cx} {K : Frg} {c : SC} {n : Nat} {G : GT}

/-- the pairs of a dict display -/
def DP (X : Cx) (K : Frg) (c : SC) (G : GT) (es : Es) (ks : List Key) (keys : List (Option Expr)) (vals : List Expr) : Prop := ∀ pos, ∃ trs, PPs X pos keys vals trs ∧
  ∀ W S H env σ q Q, Rel K W S H → EnvR K W H env σ → wpEs c.T G noX es env S q → (∀ W' S' H' ds vs, Ext W S H W' S' H' → Rel K W' S' H' → Reps K W' H' ds vs → ds.length = ks.length → q ds S' → Q ((ks.zip vs).map fun kv => (kV kv.1, kv.2)) H') → tPairs trs σ H Q
theorem pe_key {k : Key} {e : Expr} (h : keyE k e = true) : PE X e (tC (kV k)) := by
  unfold keyE at h
  split at h
  · rw [← eqb h]; exact pe_int
  · rw [← eqb h]; exact pe_str
  · cases h
theorem dp_nil : DP X K c G .nil [] [] [] := fun pos => ⟨[], pps_nil, fun W S H env σ q Q r er w ok => by
  simp only [wpEs] at w
  exact ok W S H [] [] (Ext.refl _ _ _) r .nil rfl w⟩
theorem dp_cons {e : E} {es : Es} {k : Key} {ks : List Key} {y ye : Expr} {keys : List (Option Expr)} {vals : List Expr} (hk : keyE k ye = true) (ie : PE X y (LE K (wpE c.T G noX e))) (is : DP X K c G es ks keys vals) : DP X K c G (.cons e es) (k :: ks) (some ye :: keys) (y :: vals) := fun pos => by
  obtain ⟨trs, hp, ht⟩ := is pos
  refine ⟨_, pps_cons (pe_key hk) ie hp, fun W S H env σ q Q r er w ok => ?_⟩
  simp only [wpEs] at w
  show tC (kV k) σ H _
  refine ⟨W, S, env, _, r, er, w, fun W1 S1 H1 dx x e1 r1 p1 w1 => ?_⟩
  refine ht W1 S1 H1 env σ _ _ r1 (er.keep (e1.keep r)) w1 fun W2 S2 H2 ds vs e2 r2 p2 hl w2 => ?_
  exact ok W2 S2 H2 (dx :: ds) (x :: vs) (e1.trans e2) r2 (.cons (p1.keep (e2.keep r1)) p2) (by simp [hl]) w2
theorem merge_id : ∀ (more acc : List (Key × V)), ((acc ++ more).map (·.1)).Nodup → mergeK acc more = acc ++ more
  | [], acc, _ => by simp [mergeK]
  | p :: more, acc, h => by
    have hn : valV acc p.1 = none := by
      unfold valV
      rw [Option.map_eq_none_iff, List.find?_eq_none]
      intro x hx
      rw [List.map_append, List.nodup_append] at h
      have := h.2.2 x.1 (List.mem_map_of_mem hx) p.1 (by simp)
      simpa using this
    show mergeK (putK acc p.1 p.2) more = _
    rw [putK_new p.2 hn, merge_id more (acc ++ [(p.1, p.2)]) (by simpa using h)]
    simp
theorem kr_zip {W : Wd} {H : Hp} : ∀ {ks : List Key} {ds : List D} {vs : List V}, Reps K W H ds vs → KR K W H (ks.zip ds) (ks.zip vs)
  | [], _, _, _ => by simpa using KR.nil
  | _ :: _, _, _, .nil => .nil
  | _ :: _, _, _, .cons a r => .cons a (kr_zip r)
theorem le_dic (g : Good X K c n G) {ks : List Key} {es : Es} {x : Expr} (h : ckE (.dic ks es) c x = true) (ia : ∀ keys vals, keysE ks keys = true → ckEs es c vals = true → keys.length = vals.length → DP X K c G es ks keys vals) : PE X x (LE K (wpE c.T G noX (.dic ks es))) := by
  obtain ⟨keys, vals, p, rfl, h1, h2, h3, h4, h5⟩ := ck_dic h
  cases keys with
  | nil =>
    cases vals with
    | cons _ _ => cases h5
    | nil =>
      have en : es = .nil := by cases es with
        | nil => rfl
        | cons _ _ => simp [ckEs] at h2
      subst en
      refine PE.imp pe_dnewK fun σ H Q ⟨W, S, env, q, r, er, w, ok⟩ a ha => ?_
      simp only [wpE, wpEs] at w
      obtain ⟨m, hm, r', e, hr⟩ := rel_new r ha (.dic (ks.zip [])) (.dK []) fun W' H' k h => ⟨[], h, by simpa using KR.nil⟩
      exact ok _ _ _ _ _ e r' (.loc hr) (w m hm)
  | cons k0 keys =>
    have hkl : ∀ {ks : List Key} {keys : List (Option Expr)}, keysE ks keys = true → ks.length = keys.length ∧ keys.all (·.isSome) = true := by
      intro ks
      induction ks with
      | nil => intro keys h; cases keys with
        | nil => exact ⟨rfl, rfl⟩
        | cons _ _ => simp [keysE] at h
      | cons k ks ih =>
        intro keys h
        match keys, h with
        | some e :: keys, h =>
          simp only [keysE, Bool.and_eq_true] at h
          obtain ⟨a, b⟩ := ih h.2
          exact ⟨by simp [a], by simpa using b⟩
        | none :: _, h => simp [keysE] at h
        | [], h => simp [keysE] at h
    obtain ⟨kl, ka⟩ := hkl h1
    obtain ⟨trs, hp, ht⟩ := ia _ _ h1 h2 h5 p
    refine PE.imp (pe_disp hp ka h5 (by simp) (by rw [← kl]; exact h4)) fun σ H Q ⟨W, S, env, q, r, er, w, ok⟩ a ha => ?_
    simp only [wpE] at w
    have n1 : ¬ Ins S W a := fun ⟨m, u, z1, z2⟩ => by
      obtain ⟨b, z3, z4⟩ := r.dom m u z1
      rw [z2] at z3; cases z3
      exact z4.there ha
    have n2 : ¬ W.fz a := fun z => (r.sep a z).1 ha
    obtain ⟨r1, k1⟩ := rel_other r n1 n2 (.dK [])
    refine ht W S _ env σ _ _ r1 (er.keep k1) w fun W2 S2 H2 ds vs e2 r2 p2 hl w2 => ?_
    obtain ⟨t1, t2, t3⟩ := e2.fr a (by rw [upd_same]; simp) n1
    have t4 : ¬ W2.fz a := fun z => n2 (t3 z)
    have lvs : vs.length = ks.length := p2.length ▸ hl
    refine ⟨t1.trans upd_same, ks.zip vs, rfl, by rw [List.length_zip]; omega, ?_⟩
    rw [merge_id _ [] (by rw [List.nil_append, List.map_fst_zip (by omega)]; exact h3), List.nil_append]
    obtain ⟨r3, k3⟩ := rel_other r2 t2 t4 (.dK (ks.zip vs))
    obtain ⟨m, hm, r4, k4, hr, e4⟩ := rel_comeO r3 t2 t4 (.dic (ks.zip ds)) fun W' k => ⟨_, upd_same, (kr_zip (p2.keep k3)).keep k⟩
    exact ok _ _ _ _ _ (e4 ((((Ext.refl W S H).other ha (.dK [])).trans e2).other ha (.dK (ks.zip vs))) ha) r4 (.loc hr) (w2 m hm)
theorem numK_keys {α : Type} : ∀ (xs : List α) (n : Nat), ∀ k ∈ (En.numK n xs).map (·.1), ∃ m : Nat, n ≤ m ∧ k = .inl (m : Int)
  | [], _, k, h => by cases h
  | x :: xs, n, k, h => by
    rw [En.numK, List.map_cons] at h
    rcases List.mem_cons.mp h with rfl | h
    · exact ⟨n, Nat.le_refl _, rfl⟩
    · obtain ⟨m, h1, h2⟩ := numK_keys xs (n + 1) k h
      exact ⟨m, by omega, h2⟩
theorem numK_nodup {α : Type} : ∀ (xs : List α) (n : Nat), ((En.numK n xs).map (·.1)).Nodup
  | [], _ => List.nodup_nil
  | x :: xs, n => by
    rw [En.numK, List.map_cons, List.nodup_cons]
    refine ⟨fun h => ?_, numK_nodup xs (n + 1)⟩
    obtain ⟨m, h1, h2⟩ := numK_keys xs (n + 1) _ h
    have : (n : Int) = (m : Int) := by simpa using h2
    omega
theorem kr_num {W : Wd} {H : Hp} : ∀ {ds : List D} {vs : List V} (n : Nat), Reps K W H ds vs → KR K W H (numD n ds) (En.numK n vs)
  | _, _, _, .nil => .nil
  | _, _, n, .cons a r => .cons a (kr_num (n + 1) r)
theorem le_den (g : Good X K c n G) {a : E} {x : Expr} (h : ckE (.den a) c x = true) (ia : ∀ y, ckE a c y = true → PE X y (LE K (wpE c.T G noX a))) : PE X x (LE K (wpE c.T G noX (.den a))) := by
  obtain ⟨nm, p1, ny, p2, v, p3, p, rfl, h1, h2, h3, h4, h5⟩ := ck_den h
  have e1 := eqb h1
  have e2 := eqb h3
  subst e1 e2
  refine PE.imp (En.pe_den g.calm (g.gl h2) (g.bi _ (by decide)) (g.gl h4) (g.bi _ (by decide)) (ia v h5) (by rw [ck_star h5]; rfl)) fun σ H Q ⟨W, S, env, q, rl, er, w, ok⟩ => ?_
  simp only [wpE] at w
  refine ⟨W, S, env, _, rl, er, w, fun W1 S1 H1 dx x e1 r1 p1 w1 => ?_⟩
  obtain ⟨xs, exs, hq⟩ := w1
  obtain ⟨b, vs, rfl, sq, qs⟩ := seq_of r1 p1 exs
  refine ⟨b, vs, rfl, ?_, fun a ha => ?_⟩
  · rw [g.hK]
    cases sq with
    | l z => exact .inl z
    | t z => exact .inr z
  · rw [merge_id _ [] (by rw [List.nil_append]; exact numK_nodup vs 0), List.nil_append]
    obtain ⟨m, hm, r', e, hr⟩ := rel_new r1 ha (.dic (numD 0 xs)) (.dK (En.numK 0 vs)) fun W' H' k h => ⟨_, h, (kr_num 0 qs).keep k⟩
    exact ok _ _ _ _ _ (e1.trans e) r' (.loc hr) (hq m hm)
end
end Mi
set_option maxHeartbeats 4000000
/-! Mi16: the small language is right: every expression. -/
namespace Mi
open PySem PySem.Spec PyProof.Rows L2

def SE (e : E) : Prop := ∀ {X : Cx} {K : Frg} {c : SC} {n : Nat} {G : GT} {x : Expr}, Good X K c n G → ckE e c x = true →
  PE X x (LE K (wpE c.T G noX e)) ∧ PT X x (LT K (wpT c.T G noX e)) ∧ ∀ op l p, x = .BoolOp op l p → PW X x (LT K (wpT c.T G noX e))
def AllE (P : E → Prop) : Es → Prop
  | .nil => True
  | .cons e es => P e ∧ AllE P es
def SI (it : It) : Prop := ∀ {X : Cx} {K : Frg} {c : SC} {n : Nat} {G : GT} {tg x : Expr}, Good X K c n G → ckI it c tg x = true → PI X tg x (LI K (wpI c.T G noX it)) ∧ notSet x = true
def plainT : Expr → Bool
  | .BoolOp .. => false
  | .Compare .. => false
  | .UnaryOp .Not _ _ => false
  | .IfExp .. => false
  | .NamedExpr .. => false
  | _ => true
theorem isTrue_plain {x : Expr} (h : plainT x = true) (env : PySem.Env) : ∀ whole, isTrue x env whole = (do let v ← whole; standAt x.pos; holding [v] (truthy v)) := by
  intro whole
  cases x <;> first
    | rfl
    | (simp [plainT] at h; done)
    | (rename_i op _ _; cases op <;> first | rfl | (simp [plainT] at h; done))
theorem plain_bool {op : BoolOp} {l : List Expr} {p : Pos} (h : plainT (.BoolOp op l p) = true) : False := by simp [plainT] at h
/-- what is no test of its own -/
theorem se_plain {e : E} (hp : ∀ {c : SC} {x : Expr}, ckE e c x = true → plainT x = true) (h : ∀ {X : Cx} {K : Frg} {c : SC} {n : Nat} {G : GT} {x : Expr}, Good X K c n G → ckE e c x = true → PE X x (LE K (wpE c.T G noX e))) : SE e := by
  intro X K c n G x g hc
  refine ⟨h g hc, lt_truth g (h g hc) (isTrue_plain (hp hc) _), fun op l p ex => ?_⟩
  subst ex
  exact (plain_bool (hp hc)).elim
/-- a test that is no and, no or -/
theorem se_test {e : E} (hp : ∀ {c : SC} {x : Expr} {op : BoolOp} {l : List Expr} {p : Pos}, ckE e c x = true → x = .BoolOp op l p → False) (h : ∀ {X : Cx} {K : Frg} {c : SC} {n : Nat} {G : GT} {x : Expr}, Good X K c n G → ckE e c x = true → PE X x (LE K (wpE c.T G noX e)) ∧ PT X x (LT K (wpT c.T G noX e))) : SE e := by
  intro X K c n G x g hc
  exact ⟨(h g hc).1, (h g hc).2, fun op l p ex => (hp hc ex).elim⟩

section
variable {X : Cx} {K : Frg} {c : SC} {n : Nat} {G : GT}
theorem es_pa (g : Good X K c n G) : ∀ {es : Es}, AllE SE es → ∀ xs, ckEs es c xs = true → PA X xs (LA K (wpEs c.T G noX es))
  | .nil, _, [], _ => la_nil
  | .nil, _, _ :: _, h => by simp [ckEs] at h
  | .cons e es, _, [], h => by simp [ckEs] at h
  | .cons e es, ⟨ie, is⟩, x :: xs, h => by
    simp only [ckEs, Bool.and_eq_true] at h
    exact la_cons h.1 (ie g h.1).1 (es_pa g is xs h.2)
theorem es_po (g : Good X K c n G) : ∀ {es : Es}, AllE SE es → ∀ o, ckO es c o = true → PO X o (LO K (wpO c.T G es))
  | .nil, _, none, _ => lo_nil
  | .nil, _, some _, h => by simp [ckO] at h
  | .cons e .nil, ⟨ie, _⟩, some x, h => by
    simp only [ckO] at h
    exact lo_one (ie g h).1
  | .cons e .nil, _, none, h => by simp [ckO] at h
  | .cons e (.cons _ _), _, o, h => by cases o <;> simp [ckO] at h
theorem es_dp (g : Good X K c n G) : ∀ {es : Es}, AllE SE es → ∀ {ks : List Key} {keys vals}, keysE ks keys = true → ckEs es c vals = true → keys.length = vals.length → DP X K c G es ks keys vals
  | .nil, _, ks, keys, vals, hk, h, hl => by
    cases vals with
    | cons _ _ => simp [ckEs] at h
    | nil =>
      cases keys with
      | cons _ _ => cases hl
      | nil => cases ks with
        | nil => exact dp_nil
        | cons _ _ => simp [keysE] at hk
  | .cons e es, ⟨ie, is⟩, ks, keys, vals, hk, h, hl => by
    cases vals with
    | nil => simp [ckEs] at h
    | cons y vals =>
      simp only [ckEs, Bool.and_eq_true] at h
      cases ks with
      | nil => cases keys with
        | nil => cases hl
        | cons _ _ => simp [keysE] at hk
      | cons k ks =>
        match keys, hk, hl with
        | some ye :: keys, hk, hl =>
          simp only [keysE, Bool.and_eq_true] at hk
          exact dp_cons hk.1 (ie g h.1).1 (es_dp g is hk.2 h.2 (by simpa using hl))
        | none :: _, hk, _ => simp [keysE] at hk
        | [], hk, _ => simp [keysE] at hk
theorem es_conds (g : Good X K c n G) {d : Es} (id : AllE SE d) : ∀ (e : E) (y : Expr), d = .cons e .nil → ckE e c y = true → PT X y (LT K (wpT c.T G noX e)) := fun e y q h => by
  subst q
  exact (id.1 g h).2.1
end

theorem se_var (i : Nat) : SE (.var i) := se_plain (fun h => by obtain ⟨_, _, rfl, _⟩ := ck_var h; rfl) fun g h => le_var g h
theorem se_int (i : Int) : SE (.int i) := se_plain (fun h => by obtain ⟨_, _, _, rfl, _⟩ := ck_int h; rfl) fun g h => by
  obtain ⟨_, _, _, rfl, e⟩ := ck_int h
  rw [← eqb e]
  exact le_lit pe_int (fun _ _ => .int i) fun env S q w => by simpa only [wpE] using w
theorem se_str (x : Str) : SE (.str x) := se_plain (fun h => by obtain ⟨_, _, _, rfl, _⟩ := ck_str h; rfl) fun g h => by
  obtain ⟨_, _, _, rfl, e⟩ := ck_str h
  rw [← eqb e]
  exact le_lit pe_str (fun _ _ => .str x) fun env S q w => by simpa only [wpE] using w
theorem se_bl (b : Bool) : SE (.bl b) := se_plain (fun h => by obtain ⟨_, _, _, rfl, _⟩ := ck_bl h; rfl) fun g h => by
  obtain ⟨_, _, _, rfl, e⟩ := ck_bl h
  rw [← eqb e]
  exact le_lit pe_bl (fun _ _ => .bl b) fun env S q w => by simpa only [wpE] using w
theorem se_non : SE .non := se_plain (fun h => by obtain ⟨_, _, rfl⟩ := ck_non h; rfl) fun g h => by
  obtain ⟨_, _, rfl⟩ := ck_non h
  exact le_lit pe_non (fun _ _ => .non) fun env S q w => by simpa only [wpE] using w
theorem se_cst (i : Nat) : SE (.cst i) := se_plain (fun h => by obtain ⟨_, _, rfl, _⟩ := ck_cst h; rfl) fun g h => le_cst g h
theorem se_tup (es : Es) (is : AllE SE es) : SE (.tup es) := se_plain (fun h => by obtain ⟨_, _, _, rfl, _⟩ := ck_tup h; rfl) fun g h => le_tup g h (es_pa g is)
theorem se_lst (es : Es) (is : AllE SE es) : SE (.lst es) := se_plain (fun h => by obtain ⟨_, _, rfl, _⟩ := ck_lst h; rfl) fun g h => le_lst g h (es_pa g is)
theorem se_mls (es : Es) (is : AllE SE es) : SE (.mls es) := se_plain (fun h => by obtain ⟨_, _, rfl, _⟩ := ck_mls h; rfl) fun g h => le_mls g h (es_pa g is)
theorem se_dic (ks : List Key) (es : Es) (is : AllE SE es) : SE (.dic ks es) := se_plain (fun h => by obtain ⟨_, _, _, rfl, _⟩ := ck_dic h; rfl) fun g h => le_dic g h fun keys vals a b d => es_dp g is a b d
theorem se_bin (o : Op) (a b : E) (ia : SE a) (ib : SE b) : SE (.bin o a b) := se_plain (fun h => by obtain ⟨_, _, _, _, rfl, _⟩ := ck_bin h; rfl) fun g h => le_bin g h (fun y h => (ia g h).1) fun y h => (ib g h).1
theorem se_cmp (o : Cp) (a b : E) (ia : SE a) (ib : SE b) : SE (.cmp o a b) := se_test (fun h e => by obtain ⟨_, _, _, _, rfl, _⟩ := ck_cmp h; cases e) fun g h => ⟨le_cmp g h (fun y h => (ia g h).1) fun y h => (ib g h).1, lt_cmp g h (fun y h => (ia g h).1) fun y h => (ib g h).1⟩
theorem se_chn (o p : Cp) (a b d : E) (ia : SE a) (ib : SE b) (id : SE d) : SE (.chn o p a b d) := se_test (fun h e => by obtain ⟨_, _, _, _, _, _, rfl, _⟩ := ck_chn h; cases e) fun g h =>
  ⟨le_chn g h (fun y h => (ia g h).1) (fun y h => (ib g h).1) fun y h => (id g h).1, lt_chn g h (fun y h => (ia g h).1) (fun y h => (ib g h).1) fun y h => (id g h).1⟩
theorem se_and (a b : E) (ia : SE a) (ib : SE b) : SE (.and a b) := by
  intro X K c n G x g h
  obtain ⟨y, z, rest, p, rfl, h1, h2⟩ := ck_and h
  have hz : PE X (.BoolOp .And (z :: rest) p) (LE K (wpE c.T G noX b)) ∧ PW X (.BoolOp .And (z :: rest) p) (LT K (wpT c.T G noX b)) := by
    cases rest with
    | nil => exact ⟨pe_one (ib g h2).1, pw_and1 (ib g h2).2.1⟩
    | cons r rest => exact ⟨(ib g h2).1, (ib g h2).2.2 _ _ _ rfl⟩
  have hw := lt_and (ia g h1).2.1 hz.2
  exact ⟨(le_andor g (ia g h1).1).1 hz.1, hw.pt, fun _ _ _ _ => hw⟩
theorem se_or (a b : E) (ia : SE a) (ib : SE b) : SE (.or a b) := by
  intro X K c n G x g h
  obtain ⟨y, z, rest, p, rfl, h1, h2⟩ := ck_or h
  have hz : PE X (.BoolOp .Or (z :: rest) p) (LE K (wpE c.T G noX b)) ∧ PW X (.BoolOp .Or (z :: rest) p) (LT K (wpT c.T G noX b)) := by
    cases rest with
    | nil => exact ⟨pe_one (ib g h2).1, pw_or1 (ib g h2).2.1⟩
    | cons r rest => exact ⟨(ib g h2).1, (ib g h2).2.2 _ _ _ rfl⟩
  have hw := lt_or (ia g h1).2.1 hz.2
  exact ⟨(le_andor g (ia g h1).1).2 hz.1, hw.pt, fun _ _ _ _ => hw⟩
theorem se_not (a : E) (ia : SE a) : SE (.not a) := se_test (fun h e => by obtain ⟨_, _, rfl, _⟩ := ck_not h; cases e) fun g h => ⟨le_not g h fun y h => (ia g h).1, by
  obtain ⟨_, _, rfl, h1⟩ := ck_not h
  exact lt_not g (ia g h1).2.1⟩
theorem se_neg (a : E) (ia : SE a) : SE (.neg a) := se_plain (fun h => by obtain ⟨_, _, rfl, _⟩ := ck_neg h; rfl) fun g h => le_neg g h fun y h => (ia g h).1
theorem se_ife (t a b : E) (it : SE t) (ia : SE a) (ib : SE b) : SE (.ife t a b) := se_test (fun h e => by obtain ⟨_, _, _, _, rfl, _⟩ := ck_ife h; cases e) fun g h =>
  ⟨le_ife g h (fun y h => (it g h).2.1) (fun y h => (ia g h).1) fun y h => (ib g h).1, lt_ife g h (fun y h => (it g h).2.1) (fun y h => (ia g h).2.1) fun y h => (ib g h).2.1⟩
theorem se_ix (a b : E) (ia : SE a) (ib : SE b) : SE (.ix a b) := se_plain (fun h => by obtain ⟨_, _, _, rfl, _⟩ := ck_ix h; rfl) fun g h => le_ix g h (fun y h => (ia g h).1) fun y h => (ib g h).1
theorem se_sl (a : E) (lo hi : Es) (ia : SE a) (il : AllE SE lo) (ih : AllE SE hi) : SE (.sl a lo hi) := se_plain (fun h => by obtain ⟨_, _, _, _, _, rfl, _⟩ := ck_sl h; rfl) fun g h => le_sl g h (fun y h => (ia g h).1) (es_po g il) (es_po g ih)
theorem se_rev (a : E) (ia : SE a) : SE (.rev a) := se_plain (fun h => by obtain ⟨_, _, _, _, _, _, rfl, _⟩ := ck_rev h; rfl) fun g h => le_rev g h fun y h => (ia g h).1
theorem se_call (f : Nat) (es : Es) (is : AllE SE es) : SE (.call f es) := se_plain (fun h => by obtain ⟨_, _, _, _, rfl, _⟩ := ck_call h; rfl) fun g h => le_call g h (es_pa g is)
theorem se_bif (b : Bi) (es : Es) (is : AllE SE es) : SE (.bif b es) := se_plain (fun h => by obtain ⟨_, _, _, _, _, rfl, _⟩ := ck_bif h; rfl) fun g h => le_bif g h (es_pa g is)
theorem se_isi (a : E) (t : Nat) (ia : SE a) : SE (.isi a t) := se_plain (fun h => by obtain ⟨_, _, _, _, _, _, rfl, _⟩ := ck_isi h; rfl) fun g h => le_isi g h fun y h => (ia g h).1
theorem se_mli (a : E) (ia : SE a) : SE (.mli a) := se_plain (fun h => by obtain ⟨_, _, _, _, rfl, _⟩ := ck_mli h; rfl) fun g h => le_mli g h fun y h => (ia g h).1
theorem se_meth (m : Mt) (o : E) (es : Es) (io : SE o) (is : AllE SE es) : SE (.meth m o es) := se_plain (fun h => by obtain ⟨_, _, _, _, _, rfl, _⟩ := ck_meth h; rfl) fun g h =>
  le_meth g h (fun y h => (io g h).1) (fun e y q h' => by subst q; exact (is.1 g h').1) fun e f y q => by subst q; exact ⟨fun h' => (is.1 g h').1, fun h' => (is.2.1 g h').1⟩
theorem se_fld (o : E) (f : Str) (io : SE o) : SE (.fld o f) := fun g h => by simp [ckE] at h
theorem se_mth (m : Nat) (o : E) (es : Es) (io : SE o) (is : AllE SE es) : SE (.mth m o es) := fun g h => by simp [ckE] at h
theorem se_mk (c : Nat) (es : Es) (is : AllE SE es) : SE (.mk c es) := fun g h => by simp [ckE] at h
theorem se_lc (e : E) (t : Tg) (it : It) (d : Es) (own : List Nat) (ie : SE e) (ii : SI it) (id : AllE SE d) : SE (.lc e t it d own) := se_plain (fun h => by obtain ⟨_, _, _, _, _, _, rfl, _⟩ := ck_lc h; rfl) fun g h => by
  obtain ⟨y, tg, iter, ifs, scope, p, rfl, h1, h2, h3, h4, h5, h6, h7⟩ := ck_lc h
  obtain ⟨a, _, ho, _⟩ := le_lcs (p := p) g h2 h7 (ii g h1).1 (ii g h1).2 (fun X' g' => lg_tg g' h3) (fun X' g' => lt_conds g' h5 h6 (es_conds g' id)) fun X' g' => (ie g' h4).1
  exact PE.imp a (lc_all g ho false)
theorem se_mlc (e : E) (t : Tg) (it : It) (d : Es) (own : List Nat) (ie : SE e) (ii : SI it) (id : AllE SE d) : SE (.mlc e t it d own) := se_plain (fun h => by obtain ⟨_, _, _, _, _, _, rfl, _⟩ := ck_mlc h; rfl) fun g h => by
  obtain ⟨y, tg, iter, ifs, scope, p, rfl, h1, h2, h3, h4, h5, h6, h7⟩ := ck_mlc h
  obtain ⟨a, _, ho, _⟩ := le_lcs (p := p) g h2 h7 (ii g h1).1 (ii g h1).2 (fun X' g' => lg_tg g' h3) (fun X' g' => lt_conds g' h5 h6 (es_conds g' id)) fun X' g' => (ie g' h4).1
  exact PE.imp a (lc_all g ho true)
theorem se_fz (a : E) (ia : SE a) : SE (.fz a) := se_plain (fun {c x} h => by
    simp only [ckE, Bool.and_eq_true] at h
    cases x <;> first | rfl | (simp [fzOk] at h; done)) fun g h => le_fz g (ia g (by simp only [ckE, Bool.and_eq_true] at h; exact h.2)).1
theorem se_chn3 (o p r : Cp) (a b d e : E) (ia : SE a) (ib : SE b) (id : SE d) (ie : SE e) : SE (.chn3 o p r a b d e) := se_test (fun h e => by obtain ⟨_, _, _, _, _, _, _, _, rfl, _⟩ := ck_chn3 h; cases e) fun g h =>
  le_chn3 g h (fun y h => (ia g h).1) (fun y h => (ib g h).1) (fun y h => (id g h).1) fun y h => (ie g h).1
theorem se_mdc (a : E) (ia : SE a) : SE (.mdc a) := se_plain (fun h => by obtain ⟨_, _, _, _, rfl, _⟩ := ck_mdc h; rfl) fun g h => le_mdc g h fun y h => (ia g h).1
theorem se_den (a : E) (ia : SE a) : SE (.den a) := se_plain (fun h => by obtain ⟨_, _, _, _, _, _, _, rfl, _⟩ := ck_den h; rfl) fun g h => le_den g h fun y h => (ia g h).1
theorem si_seq (e : E) (ie : SE e) : SI (.seq e) := fun g h => by
  simp only [ckI, Bool.and_eq_true] at h
  exact ⟨li_seq g (ie g h.1).1, h.2⟩
theorem si_rng (es : Es) (is : AllE SE es) : SI (.rng es) := fun {X K c n G tg x} g h => ⟨li_rng g h (es_pa g is), by
  unfold ckI at h
  split at h
  all_goals first | (exact absurd h Bool.false_ne_true) | (cases (‹It.rng es = _›))
  rfl⟩
theorem si_enm (e : E) (ie : SE e) : SI (.enm e) := fun {X K c n G tg x} g h => ⟨li_enm g h fun y h => (ie g h).1, by
  obtain ⟨_, _, _, _, _, _, rfl, rfl, _⟩ := ck_enm h
  rfl⟩
theorem si_zip (a b : E) (ia : SE a) (ib : SE b) : SI (.zip a b) := fun g h => by simp [ckI] at h
theorem si_rvs (e : E) (ie : SE e) : SI (.rvs e) := fun {X K c n G tg x} g h => ⟨li_rvs g h fun y h => (ie g h).1, by
  obtain ⟨_, _, _, rfl, _⟩ := ck_rvs h
  rfl⟩
theorem sE (e : E) : SE e := by
  induction e using E.rec (motive_2 := AllE SE) (motive_3 := SI) with
  | var i => exact se_var i
  | int i => exact se_int i
  | str i => exact se_str i
  | bl i => exact se_bl i
  | non => exact se_non
  | cst i => exact se_cst i
  | tup es is => exact se_tup es is
  | lst es is => exact se_lst es is
  | mls es is => exact se_mls es is
  | dic ks es is => exact se_dic ks es is
  | bin o a b ia ib => exact se_bin o a b ia ib
  | cmp o a b ia ib => exact se_cmp o a b ia ib
  | chn o p a b d ia ib id => exact se_chn o p a b d ia ib id
  | and a b ia ib => exact se_and a b ia ib
  | or a b ia ib => exact se_or a b ia ib
  | not a ia => exact se_not a ia
  | neg a ia => exact se_neg a ia
  | ife t a b it ia ib => exact se_ife t a b it ia ib
  | ix a b ia ib => exact se_ix a b ia ib
  | sl a lo hi ia il ih => exact se_sl a lo hi ia il ih
  | rev a ia => exact se_rev a ia
  | call f es is => exact se_call f es is
  | «bif» b es is => exact se_bif b es is
  | isi a t ia => exact se_isi a t ia
  | mli a ia => exact se_mli a ia
  | meth m o es io is => exact se_meth m o es io is
  | fld o f io => exact se_fld o f io
  | mth m o es io is => exact se_mth m o es io is
  | mk c es is => exact se_mk c es is
  | lc e t it d own ie ii id => exact se_lc e t it d own ie ii id
  | mlc e t it d own ie ii id => exact se_mlc e t it d own ie ii id
  | fz a ia => exact se_fz a ia
  | chn3 o p r a b d e ia ib id ie => exact se_chn3 o p r a b d e ia ib id ie
  | mdc a ia => exact se_mdc a ia
  | den a ia => exact se_den a ia
  | nil => exact True.intro
  | cons e es ie is => exact ⟨ie, is⟩
  | seq e ie => exact si_seq e ie
  | rng es is => exact si_rng es is
  | enm e ie => exact si_enm e ie
  | zip a b ia ib => exact si_zip a b ia ib
  | rvs e ie => exact si_rvs e ie
theorem sAll : ∀ es : Es, AllE SE es
  | .nil => True.intro
  | .cons e es => ⟨sE e, sAll es⟩
theorem sI : ∀ it : It, SI it
  | .seq e => si_seq e (sE e)
  | .rng es => si_rng es (sAll es)
  | .enm e => si_enm e (sE e)
  | .zip a b => si_zip a b (sE a) (sE b)
  | .rvs e => si_rvs e (sE e)
end Mi
set_option maxHeartbeats 4000000
/-! Mi17: the small language is right: statements. -/
namespace Mi
open PySem PySem.Spec PyProof.Rows L2

/-- a statement's reading -/
structure LSat (K : Frg) (W : Wd) (S : Sto) (H : Hp) (k : En) (D : Ends) : Prop where
  nx : ∀ W' S' H' env' σ', Ext W S H W' S' H' → Rel K W' S' H' → EnvR K W' H' env' σ' → k.nx env' S' → D.nx σ' H'
  bk : ∀ W' S' H' env' σ', Ext W S H W' S' H' → Rel K W' S' H' → EnvR K W' H' env' σ' → k.bk env' S' → D.bk σ' H'
  ct : ∀ W' S' H' env' σ', Ext W S H W' S' H' → Rel K W' S' H' → EnvR K W' H' env' σ' → k.ct env' S' → D.ct σ' H'
  rt : ∀ W' S' H' d v, Ext W S H W' S' H' → Rel K W' S' H' → Rep K W' H' d v → k.rt d S' → D.rt v H'
theorem LSat.ext {K : Frg} {W W1 : Wd} {S S1 : Sto} {H H1 : Hp} {k : En} {D : Ends} (l : LSat K W S H k D) (e : Ext W S H W1 S1 H1) : LSat K W1 S1 H1 k D :=
  ⟨fun _ _ _ _ _ x => l.nx _ _ _ _ _ (e.trans x), fun _ _ _ _ _ x => l.bk _ _ _ _ _ (e.trans x), fun _ _ _ _ _ x => l.ct _ _ _ _ _ (e.trans x), fun _ _ _ _ _ x => l.rt _ _ _ _ _ (e.trans x)⟩
def LS (K : Frg) (t : En → Env → Sto → Prop) : TS := fun D σ H => ∃ W S env k, Rel K W S H ∧ EnvR K W H env σ ∧ t k env S ∧ LSat K W S H k D

theorem PS.imp {X : Cx} {st : Stmt} {t t' : TS} (h : PS X st t) (i : ∀ D σ H, t' D σ H → t D σ H) : PS X st t' := ⟨fun pins s σ H D I q => h.run pins s σ H D I (i D σ H q)⟩
theorem PSs.imp {X : Cx} {st : List Stmt} {t t' : TS} (h : PSs X st t) (i : ∀ D σ H, t' D σ H → t D σ H) : PSs X st t' := ⟨fun pins s σ H D I q => h.run pins s σ H D I (i D σ H q)⟩

section
variable {X : Cx} {K : Frg} {c : SC} {n : Nat} {G : GT}
theorem sw_none {v : Expr} (h : isComp v = false) (t : Option Expr) (l : Nat) (env : PySem.Env) : swapsWith v t l env = pure false := by
  cases v <;> first | rfl | (simp [isComp] at h; done)
theorem sw_sole {v : Expr} (h : isComp v = false) {t : Expr} {l : Nat} {env : PySem.Env} : swapsWithSole [t] v l env = pure false := sw_none h _ _ _
theorem sto_name {tg : Expr} {e : Expr} (h : isTup e = false) (env : PySem.Env) : swappedStores [tg] e env = pure none := by
  cases tg <;> first | rfl | (cases e <;> first | rfl | (simp [isTup] at h; done))
theorem set_to {te : TE} {i : Nat} {D : Ends} {σ : L2.St} {H : Hp} {e : E} {k : En} {W : Wd} {S : Sto} {env : Env} (hte : ∀ σ H Q, LE K (wpE c.T G noX e) σ H Q → te σ H Q)
    (rl : Rel K W S H) (er : EnvR K W H env σ) (w : wpS c.T G noX (.set i e) k env S) (l : LSat K W S H k D) : tAsg te (gName i) D σ H := by
  simp only [wpS] at w
  refine hte σ H _ ⟨W, S, env, _, rl, er, w, fun W1 S1 H1 dx x e1 r1 p1 w1 => ?_⟩
  exact l.nx W1 S1 H1 _ _ e1 r1 ((er.keep (e1.keep rl)).set p1) w1
theorem sw_false {c : SC} {env : PySem.Env} (hs : env.scope = c.sc) {x : Str} {p : Pos} {l : Nat} {a : Expr} {g : List Comprehension} {scope : Scope} {q : Pos} (hk : c.sc.kind = .function) (h : swaps c x p.line a g scope q = false) :
    swapsWith (.ListComp a g scope q) (some (.Name x p)) l env = pure false := by
  have hb : env.blockKind = .function := by unfold Env.blockKind; rw [hs, hk]; rfl
  have ky : env.kindOf x = c.sc.names.lookup x := by show env.scope.names.lookup x = _; rw [hs]
  unfold swapsWith
  unfold swaps at h
  simp only [hb, ky]
  simp only [Bool.and_assoc] at h ⊢
  have e0 : ((PySem.ScopeKind.function == PySem.ScopeKind.function) = true) := rfl
  first
    | (rw [e0, Bool.true_and, h]; rfl)
    | (simp only [h]; rfl)
    | (simp [h])
theorem ps_setE (g : Good X K c n G) {i : Nat} {e : E} {x : Str} {p pos : Pos} {v : Expr} (h1 : c.N[i]? = some x) (h2 : stoB c x = true) (h3 : ckE e c v = true) (h4 : (!isComp v || (c.sc.kind == .function && !isFz e)) = true) :
    PS X (.Assign [.Name x p] v pos) (LS K (wpS c.T G noX (.set i e))) := by
  obtain ⟨lo, fn⟩ := sto_of g h2
  by_cases hc : isComp v = true
  · rw [hc] at h4
    simp only [Bool.not_true, Bool.false_or, Bool.and_eq_true] at h4
    have hk : c.sc.kind = .function := eqb h4.1
    obtain ⟨a, gs, scope, q, rfl⟩ : ∃ a gs scope q, v = .ListComp a gs scope q := by
      cases e with
      | lc e t it d own => obtain ⟨y, tg, iter, ifs, scope, p, rfl, _⟩ := ck_lc h3; exact ⟨_, _, _, _, rfl⟩
      | mlc e t it d own => obtain ⟨y, tg, iter, ifs, scope, p, rfl, _⟩ := ck_mlc h3; exact ⟨_, _, _, _, rfl⟩
      | fz _ => exact absurd h4.2 (by simp [isFz])
      | _ => cases v <;> first | (simp [isComp] at hc; done) | (simp [ckE] at h3; done)
    by_cases hs : swaps c x p.line a gs scope q = true
    · have hsw : swapsWith (.ListComp a gs scope q) (some (.Name x p)) pos.line X.env = pure true := by
        unfold swaps at hs
        simp only [Bool.and_eq_true] at hs
        refine sw_true (by rw [g.sc]; exact hk) (by rw [g.sc]; exact eqb hs.1.1) hs.1.2 ?_
        simpa using hs.2
      have hyl : X.env.scope.names.lookup x = some .local := by
        unfold swaps at hs
        simp only [Bool.and_eq_true] at hs
        rw [g.sc]; exact eqb hs.1.1
      have fin : ∀ {e' : E} {t : Tg} {it : It} {d : Es} {own : List Nat} (m : Bool), e = (if m = true then E.mlc e' t it d own else E.lc e' t it d own) → (∃ y tg iter ifs, Expr.ListComp a gs scope q = .ListComp y [⟨tg, iter, ifs, 0⟩] scope q ∧ ckI it c tg iter = true ∧ blkC c.N c.sc scope (ownOf c.N own) = true ∧ ckTg (inner c scope) t tg = true ∧ ckE e' (inner c scope) y = true ∧ ckEs d (inner c scope) ifs = true ∧ ifs.length ≤ 1 ∧ (tgSlots t).all (own.contains ·) = true) →
          PS X (.Assign [.Name x p] (.ListComp a gs scope q) pos) (LS K (wpS c.T G noX (.set i e))) := by
        rintro e' t it d own m rfl ⟨y, tg, iter, ifs, ex, k1, k2, k3, k4, k5, k6, k7⟩
        cases ex
        obtain ⟨_, ok, ho, hf⟩ := le_lcs (p := q) g k2 k7 (sI it g k1).1 (sI it g k1).2 (fun X' g' => lg_tg g' k3) (fun X' g' => lt_conds g' k5 k6 (es_conds g' (sAll d))) fun X' g' => (sE e' g' k4).1
        refine PS.imp (ps_setLc g.calm (by rw [g.hN]; exact g.nd) (by rw [g.hN]; exact h1) hyl hsw (sI it g k1).1 ok (fun s H C cl fp => lg_tg (g.blk scope s H C cl fp) k3) (fun s H C cl fp => lt_conds (g.blk scope s H C cl fp) k5 k6 (es_conds (g.blk scope s H C cl fp) (sAll d))) (fun s H C cl fp => (sE e' (g.blk scope s H C cl fp) k4).1) hf) fun D σ H ⟨W, S, env, k, rl, er, w, l⟩ => ?_
        rw [own_snd]
        exact set_to (lc_all g ho m) rl er w l
      cases e with
      | lc e t it d own => obtain ⟨y, tg, iter, ifs, scope, p, ex, k⟩ := ck_lc h3; cases ex; exact fin false rfl ⟨_, tg, iter, ifs, rfl, k⟩
      | mlc e t it d own => obtain ⟨y, tg, iter, ifs, scope, p, ex, k⟩ := ck_mlc h3; cases ex; exact fin true rfl ⟨_, tg, iter, ifs, rfl, k⟩
      | fz _ => exact absurd h4.2 (by simp [isFz])
      | _ => simp [ckE] at h3
    · exact PS.imp (ps_set (by rw [g.hN]; exact g.nd) (by rw [g.hN]; exact h1) lo (sE e g h3).1 (sw_false g.sc hk (by simpa using hs)) fn) fun D σ H ⟨W, S, env, k, rl, er, w, l⟩ => set_to (fun _ _ _ z => z) rl er w l
  · exact PS.imp (ps_set (by rw [g.hN]; exact g.nd) (by rw [g.hN]; exact h1) lo (sE e g h3).1 (sw_none (by simpa using hc) _ _ _) fn) fun D σ H ⟨W, S, env, k, rl, er, w, l⟩ => set_to (fun _ _ _ z => z) rl er w l

theorem ps_setTE (g : Good X K c n G) {is : List Nat} {e : E} {tg : Expr} {pos : Pos} {v : Expr} (h1 : ckTg c (.tp is) tg = true) (h3 : ckE e c v = true) (h4 : isTup v = false) (h5 : isComp v = false) :
    PS X (.Assign [tg] v pos) (LS K (wpS c.T G noX (.setT is e))) := by
  obtain ⟨ts, k, p, rfl⟩ : ∃ ts k p, tg = .Tuple ts k p := by
    cases tg <;> first | exact ⟨_, _, _, rfl⟩ | (simp [ckTg] at h1; done)
  refine PS.imp (ps_asg (sE e g h3).1 (lg_tg g h1) (sw_sole h5) (sto_name h4 _) rfl) fun D σ H ⟨W, S, env, k, rl, er, w, l⟩ => ?_
  simp only [wpS] at w
  refine ⟨W, S, env, _, rl, er, w, fun W1 S1 H1 dx x e1 r1 p1 w1 => ?_⟩
  obtain ⟨env', hb, hn⟩ := w1
  exact ⟨W1, S1, env, dx, env', r1, er.keep (e1.keep rl), p1, hb, fun σ' er' _ _ => l.nx W1 S1 H1 env' σ' e1 r1 er' hn⟩

def rSet : TSet := fun o i v H Q => rSetL o i v H Q ∨ rSetD o i v H Q
theorem set_any (hu : X.A.units + 1 < cLine) : PSet X rSet := by
  intro pins s σ H o i v ov iv u Q I ro ri rv h
  rcases h with h | h
  · exact set_list pins s σ H o i v ov iv u Q I ro ri rv h
  · exact set_dict hu pins s σ H o i v ov iv u Q I ro ri rv h
theorem ck_asg {k : E} {b : Expr} (h : ckE k c b = true) {a : Expr} {p : Pos} {env : PySem.Env} (v : Value) : assign (.Subscript a b p) env v = (do
      let ov ← holding [v] (eval a env)
      let iv ← holding [v, ov] (eval b env)
      standAt p
      holding [v, ov, iv] (setItem ov iv v)
      release [v, ov, iv] []) := by
  have key : ∀ (a d e : Option Expr) (p : Pos), b ≠ .Slice a d e p := by
    intro a d e p q
    subst q
    induction k using E.rec (motive_2 := fun _ => True) (motive_3 := fun _ => True) with
    | fz e ih => exact ih (by simp only [ckE, Bool.and_eq_true] at h; exact h.2)
    | _ => first | trivial | (simp [ckE] at h)
  cases b <;> first
    | rfl
    | exact absurd rfl (key _ _ _ _)
theorem ps_setIE (g : Good X K c n G) {o k e : E} {a b v : Expr} {p pos : Pos} (h1 : ckE o c a = true) (h2 : ckE k c b = true) (h3 : ckE e c v = true) (h5 : isComp v = false) :
    PS X (.Assign [.Subscript a b p] v pos) (LS K (wpS c.T G noX (.setI o k e))) := by
  refine PS.imp (ps_asg (sE e g h3).1 (pg_sub (sE o g h1).1 (sE k g h2).1 (set_any (by have := g.units; omega)) (ck_asg h2)) (sw_sole h5) rfl rfl) fun D σ H ⟨W, S, env, k', rl, er, w, l⟩ => ?_
  simp only [wpS] at w
  refine ⟨W, S, env, _, rl, er, w, fun W1 S1 H1 dv v e1 r1 p1 w1 => ?_⟩
  refine ⟨W1, S1, env, _, r1, er.keep (e1.keep rl), w1, fun W2 S2 H2 dx x e2 r2 p2 w2 => ?_⟩
  refine ⟨W2, S2, env, _, r2, (er.keep (e1.keep rl)).keep (e2.keep r1), w2, fun W3 S3 H3 dy y e3 r3 p3 w3 => ?_⟩
  obtain ⟨S4, hs, hn⟩ := w3
  have er3 := ((er.keep (e1.keep rl)).keep (e2.keep r1)).keep (e3.keep r2)
  have pv := (p1.keep (e2.keep r1)).keep (e3.keep r2)
  have px := p2.keep (e3.keep r2)
  cases px with
  | @loc m ad he =>
    dsimp only [setIx] at hs
    split at hs
    · rename_i xs hx
      obtain ⟨vs, lv, qs⟩ := loc_lst r3 hx he
      split at hs
      · rename_i i
        cases ej : ixN xs.length i with
        | none => rw [ej] at hs; cases hs
        | some j =>
          rw [ej] at hs; cases hs
          cases p3
          obtain ⟨r4, e4⟩ := rel_put r3 hx he (.lst (xs.set j dv)) (.lst (vs.set j v)) fun H' k e => ⟨_, e, (qs.keep k).set j (pv.keep k)⟩
          exact .inl ⟨ad, vs, i, j, rfl, rfl, lv, by rw [← qs.length]; exact ej, l.nx _ _ _ _ _ (((e1.trans e2).trans e3).trans e4) r4 (er3.keep (e4.keep r3)) hn⟩
      · cases hs
    · rename_i kvs hx
      obtain ⟨vs, lv, qs⟩ := loc_dic r3 hx he
      cases ek : keyD dy with
      | none => rw [ek] at hs; cases hs
      | some ky =>
        rw [ek] at hs
        dsimp only at hs
        split at hs
        · rename_i hl
          cases hs
          have ey := key_of p3 ek
          subst ey
          have hlen : vs.length < sizeLine := by
            have : kvs.length = vs.length := by
              clear hx lv hl hn
              induction qs with
              | nil => rfl
              | cons _ _ ih => simp [ih]
            rw [← this]; exact Nat.lt_trans hl (by decide)
          obtain ⟨r4, e4⟩ := rel_put r3 hx he (.dic (putD kvs ky dv)) (.dK (putK vs ky v)) fun H' k e => ⟨_, e, (qs.keep k).put ky (pv.keep k)⟩
          exact .inr ⟨ad, _, rfl, DPut.k lv hlen, l.nx _ _ _ _ _ (((e1.trans e2).trans e3).trans e4) r4 (er3.keep (e4.keep r3)) hn⟩
        · cases hs
    · cases hs
  | _ => cases hs

/-- what is asked of a block, and of one of its statements -/
def SB (b : List St) : Prop := ∀ (X : Cx) (K : Frg) (c : SC) (n : Nat) (G : GT) (xs : List Stmt), Good X K c n G → ckSs b c xs = true → PSs X xs (LS K (wpSs c.T G noX b))
def S1 (s : St) : Prop := ∀ (X : Cx) (K : Frg) (c : SC) (n : Nat) (G : GT) (x : Stmt), Good X K c n G → ckS s c x = true → PS X x (LS K (wpS c.T G noX s))

theorem ps_ifE (g : Good X K c n G) {t : E} {a b : List St} {x : Expr} {y z : List Stmt} {p : Pos} (h1 : ckE t c x = true) (h2 : ckSs a c y = true) (h3 : ckSs b c z = true) (ia : SB a) (ib : SB b) :
    PS X (.If x y z p) (LS K (wpS c.T G noX (.ifs t a b))) := by
  refine PS.imp (ps_if (sE t g h1).2.1 (ia _ _ _ _ _ _ g h2) (ib _ _ _ _ _ _ g h3)) fun D σ H ⟨W, S, env, k, rl, er, w, l⟩ => ?_
  simp only [wpS] at w
  refine ⟨W, S, env, _, rl, er, w, fun W1 S1 H1 d e1 r1 w1 => ?_⟩
  cases d with
  | true => exact ⟨W1, S1, env, k, r1, er.keep (e1.keep rl), by simpa using w1, l.ext e1⟩
  | false => exact ⟨W1, S1, env, k, r1, er.keep (e1.keep rl), by simpa using w1, l.ext e1⟩
theorem ps_whE (g : Good X K c n G) {t : E} {b : List St} {x : Expr} {y : List Stmt} {p : Pos} (h1 : ckE t c x = true) (h2 : ckSs b c y = true) (ib : SB b) :
    PS X (.While x y [] p) (LS K (wpS c.T G noX (.wh t b))) := by
  refine PS.imp (ps_while g.po (sE t g h1).2.1 (ib _ _ _ _ _ _ g h2)) fun D σ H ⟨W, S, env, k, rl, er, w, l⟩ => ?_
  simp only [wpS] at w
  obtain ⟨m, w⟩ := w
  refine ⟨fun m σ' H' => ∃ W' S' env', Ext W S H W' S' H' ∧ Rel K W' S' H' ∧ EnvR K W' H' env' σ' ∧ whL (wpT c.T G noX t) (wpSs c.T G noX b) k m env' S', ⟨m, W, S, env, Ext.refl _ _ _, rl, er, w⟩, ?_⟩
  rintro m σ' H' ⟨W', S', env', ex, r', er', w'⟩
  cases m with
  | zero => exact w'.elim
  | succ m =>
    refine ⟨W', S', env', _, r', er', w', fun W1 S1 H1 d e1 r1 w1 => ?_⟩
    have er1 := er'.keep (e1.keep r')
    cases d with
    | false =>
      rw [if_neg Bool.false_ne_true] at w1
      show D.nx σ' H1
      exact l.nx W1 S1 H1 env' σ' (ex.trans e1) r1 er1 w1
    | true =>
      rw [if_pos rfl] at w1
      show ∃ N : L2.St → Hp → Prop, _
      refine ⟨fun σ2 H2 => ∃ W2 S2 env2, Ext W S H W2 S2 H2 ∧ Rel K W2 S2 H2 ∧ EnvR K W2 H2 env2 σ2 ∧ whL (wpT c.T G noX t) (wpSs c.T G noX b) k m env2 S2, fun σ2 H2 q => ⟨m, Nat.lt_succ_self m, q⟩, ?_⟩
      refine ⟨W1, S1, env', _, r1, er1, w1, ⟨fun W2 S2 H2 env2 σ2 e2 r2 er2 q => ⟨W2, S2, env2, (ex.trans e1).trans e2, r2, er2, q⟩, fun W2 S2 H2 env2 σ2 e2 r2 er2 q => l.nx _ _ _ _ _ ((ex.trans e1).trans e2) r2 er2 q, fun W2 S2 H2 env2 σ2 e2 r2 er2 q => ⟨W2, S2, env2, (ex.trans e1).trans e2, r2, er2, q⟩, fun W2 S2 H2 d v e2 r2 p2 q => l.rt _ _ _ _ _ ((ex.trans e1).trans e2) r2 p2 q⟩⟩
theorem ps_forIE (g : Good X K c n G) {t : Tg} {it : It} {b : List St} {tg iter : Expr} {y : List Stmt} {p : Pos} (h1 : ckI it c tg iter = true) (h2 : ckTg c t tg = true) (h3 : ckSs b c y = true) (ib : SB b) :
    PS X (.For tg iter y [] p) (LS K (wpS c.T G noX (.for_ t it b))) := by
  have hf : ∀ x, foldedSetIterable iter X.env x = pure x := by
    intro x
    have hs := (sI it g h1).2
    cases iter <;> first | rfl | (simp [notSet] at hs; done)
  refine PS.imp (ps_for g.po g.calm (sI it g h1).1 (lg_tg g h2) (ib _ _ _ _ _ _ g h3) hf) fun D σ H ⟨W, S, env, k, rl, er, w, l⟩ => ?_
  simp only [wpS] at w
  refine ⟨W, S, env, _, rl, er, w, fun W1 S1 H1 xs chk J e1 r1 rj w1 => ?_⟩
  refine ⟨fun i m σ' H' => m = xs.length - i ∧ i ≤ xs.length ∧ ∃ W' S' env', Ext W1 S1 H1 W' S' H' ∧ Rel K W' S' H' ∧ EnvR K W' H' env' σ' ∧ forL chk (bindT t) (wpSs c.T G noX b) k (xs.drop i) env' S', ⟨xs.length, rfl, Nat.zero_le _, W1, S1, env, Ext.refl _ _ _, r1, er.keep (e1.keep rl), w1⟩, ?_⟩
  rintro i m σ' H' ⟨rfl, hi, W', S', env', ex, r', er', w'⟩
  have kp := ex.keep r1
  by_cases hlt : i < xs.length
  · right
    rw [List.drop_eq_getElem_cons hlt] at w'
    obtain ⟨hc, env2, hb, w'⟩ := w'
    obtain ⟨_, go⟩ := rj W' S' H' i kp r' hc
    obtain ⟨hgo, hy⟩ := go xs[i] (by simp [hlt])
    refine ⟨hgo, fun σ2 H2 => ∃ W2 S2 env2, Ext W1 S1 H1 W2 S2 H2 ∧ Rel K W2 S2 H2 ∧ EnvR K W2 H2 env2 σ2 ∧ forL chk (bindT t) (wpSs c.T G noX b) k (xs.drop (i + 1)) env2 S2, fun σ2 H2 q => ⟨xs.length - (i + 1), by omega, rfl, hlt, q⟩, fun x H2 y => ?_⟩
    obtain ⟨W2, x2, r2, pd⟩ := hy x H2 y
    refine ⟨W2, S', env', xs[i], env2, r2, er'.keep (x2.keep r'), pd, hb, fun σ2 er2 _ _ => ?_⟩
    have ee := ex.trans x2
    refine ⟨W2, S', env2, _, r2, er2, w', ⟨fun W3 S3 H3 env3 σ3 e3 r3 er3 q => ⟨W3, S3, env3, ee.trans e3, r3, er3, q⟩, fun W3 S3 H3 env3 σ3 e3 r3 er3 q => l.nx _ _ _ _ _ ((e1.trans ee).trans e3) r3 er3 q, fun W3 S3 H3 env3 σ3 e3 r3 er3 q => ⟨W3, S3, env3, ee.trans e3, r3, er3, q⟩, fun W3 S3 H3 d v e3 r3 p3 q => l.rt _ _ _ _ _ ((e1.trans ee).trans e3) r3 p3 q⟩⟩
  · left
    have e : i = xs.length := by omega
    subst e
    rw [List.drop_length] at w'
    obtain ⟨st, _⟩ := rj W' S' H' xs.length kp r' w'.1
    exact ⟨st (Nat.le_refl _), l.nx _ _ _ _ _ (e1.trans ex) r' er' w'.2⟩
end

theorem ck_ss_cons {s : St} {ss : List St} {c : SC} {x : Stmt} {xs : List Stmt} (h : ckSs (s :: ss) c (x :: xs) = true) : ckS s c x = true ∧ ckSs ss c xs = true := by
  simpa only [ckSs, Bool.and_eq_true] using h
theorem sb_nil : SB [] := by
  intro X K c n G xs g h
  cases xs with
  | cons _ _ => simp [ckSs] at h
  | nil =>
      refine PSs.imp pss_nil fun D σ H ⟨W, S, env, k, rl, er, w, l⟩ => ?_
      simp only [wpSs] at w
      exact l.nx W S H env σ (Ext.refl _ _ _) rl er w
theorem sb_cons {s : St} {ss : List St} (is : S1 s) (iss : SB ss) : SB (s :: ss) := by
  intro X K c n G xs g h
  cases xs with
  | nil => simp [ckSs] at h
  | cons x xs =>
    obtain ⟨h1, h2⟩ := ck_ss_cons h
    refine PSs.imp (pss_cons (is _ _ _ _ _ _ g h1) (iss _ _ _ _ _ _ g h2)) fun D σ H ⟨W, S, env, k, rl, er, w, l⟩ => ?_
    simp only [wpSs] at w
    exact ⟨W, S, env, _, rl, er, w, ⟨fun W1 S1 H1 env1 σ1 e1 r1 er1 q => ⟨W1, S1, env1, k, r1, er1, q, l.ext e1⟩, l.bk, l.ct, l.rt⟩⟩
mutual
theorem sS : ∀ s : St, S1 s
  | .set i e => by
    intro X K c n G x g h
    unfold ckS at h
    split at h
    all_goals first | (exact absurd h Bool.false_ne_true) | (cases (‹St.set i e = _›))
    simp only [Bool.and_eq_true] at h
    exact ps_setE g (eqb h.1.1.1) h.1.1.2 h.1.2 h.2
  | .setT is e => by
    intro X K c n G x g h
    unfold ckS at h
    split at h
    all_goals first | (exact absurd h Bool.false_ne_true) | (cases (‹St.setT is e = _›))
    simp only [Bool.and_eq_true, Bool.not_eq_true'] at h
    exact ps_setTE g h.1.1.1 h.1.1.2 h.1.2 h.2
  | .setI o k e => by
    intro X K c n G x g h
    unfold ckS at h
    split at h
    all_goals first | (exact absurd h Bool.false_ne_true) | (cases (‹St.setI o k e = _›))
    simp only [Bool.and_eq_true, Bool.not_eq_true'] at h
    exact ps_setIE g h.1.1.1 h.1.1.2 h.1.2 h.2
  | .setF o f e => by
    intro X K c n G x g h
    simp [ckS] at h
  | .ifs t a b => by
    intro X K c n G x g h
    unfold ckS at h
    split at h
    all_goals first | (exact absurd h Bool.false_ne_true) | (cases (‹St.ifs t a b = _›))
    simp only [Bool.and_eq_true] at h
    exact ps_ifE g h.1.1 h.1.2 h.2 (sSs a) (sSs b)
  | .wh t b => by
    intro X K c n G x g h
    unfold ckS at h
    split at h
    all_goals first | (exact absurd h Bool.false_ne_true) | (cases (‹St.wh t b = _›))
    simp only [Bool.and_eq_true] at h
    exact ps_whE g h.1 h.2 (sSs b)
  | .for_ t it b => by
    intro X K c n G x g h
    unfold ckS at h
    split at h
    all_goals first | (exact absurd h Bool.false_ne_true) | (cases (‹St.for_ t it b = _›))
    simp only [Bool.and_eq_true] at h
    exact ps_forIE g h.1.1 h.1.2 h.2 (sSs b)
  | .ret e => by
    intro X K c n G x g h
    unfold ckS at h
    split at h
    all_goals first | (exact absurd h Bool.false_ne_true) | (cases (‹St.ret e = _›))
    exact PS.imp (ps_ret (sE e g h).1) fun D σ H ⟨W, S, env, k, rl, er, w, l⟩ => by
      simp only [wpS] at w
      exact ⟨W, S, env, _, rl, er, w, l.rt⟩
  | .retN => by
    intro X K c n G x g h
    unfold ckS at h
    split at h
    all_goals first | (exact absurd h Bool.false_ne_true) | (cases (‹St.retN = _›)) | skip
    exact PS.imp ps_retN fun D σ H ⟨W, S, env, k, rl, er, w, l⟩ => by
      simp only [wpS] at w
      exact l.rt W S H _ _ (Ext.refl _ _ _) rl .non w
  | .ex e => by
    intro X K c n G x g h
    unfold ckS at h
    split at h
    all_goals first | (exact absurd h Bool.false_ne_true) | (cases (‹St.ex e = _›))
    simp only [Bool.and_eq_true, Bool.not_eq_true'] at h
    exact PS.imp (ps_expr (sE e g h.1).1 (sw_none h.2 _ _ _)) fun D σ H ⟨W, S, env, k, rl, er, w, l⟩ => by
      simp only [wpS] at w
      exact ⟨W, S, env, _, rl, er, w, fun W1 S1 H1 dx x e1 r1 p1 w1 => l.nx W1 S1 H1 env σ e1 r1 (er.keep (e1.keep rl)) w1⟩
  | .brk => by
    intro X K c n G x g h
    unfold ckS at h
    split at h
    all_goals first | (exact absurd h Bool.false_ne_true) | (cases (‹St.brk = _›)) | skip
    exact PS.imp ps_break fun D σ H ⟨W, S, env, k, rl, er, w, l⟩ => by
      simp only [wpS] at w
      exact l.bk W S H _ _ (Ext.refl _ _ _) rl er w
  | .cont => by
    intro X K c n G x g h
    unfold ckS at h
    split at h
    all_goals first | (exact absurd h Bool.false_ne_true) | (cases (‹St.cont = _›)) | skip
    exact PS.imp ps_continue fun D σ H ⟨W, S, env, k, rl, er, w, l⟩ => by
      simp only [wpS] at w
      exact l.ct W S H _ _ (Ext.refl _ _ _) rl er w
  | .pass => by
    intro X K c n G x g h
    unfold ckS at h
    split at h
    all_goals first | (exact absurd h Bool.false_ne_true) | (cases (‹St.pass = _›)) | skip
    exact PS.imp ps_pass fun D σ H ⟨W, S, env, k, rl, er, w, l⟩ => by
      simp only [wpS] at w
      exact l.nx W S H _ _ (Ext.refl _ _ _) rl er w
theorem sSs : ∀ ss : List St, SB ss
  | [] => sb_nil
  | s :: ss => sb_cons (sS s) (sSs ss)
end
end Mi
set_option maxHeartbeats 4000000
/-! Mi18: a def by its body; a law's end. -/
namespace Mi
open PySem PySem.Spec PyProof.Rows L2

def startD (N : List Str) (ds : List D) : Env := ds.map some ++ List.replicate (N.length - ds.length) none
def bodyEn (q : Q1) : En := { nx := fun _ S' => ∃ S'', Sub S'' S' ∧ q .non S'', rt := fun d S' => ∃ S'', Sub S'' S' ∧ q d S'', bk := fun _ _ => False, ct := fun _ _ => False }

theorem Reps.getD : ∀ {K : Frg} {W : Wd} {H : Hp} {ds : List D} {vs : List V}, Reps K W H ds vs → ∀ (i : Nat) (d : D), ds[i]? = some d → ∃ v, vs[i]? = some v ∧ Rep K W H d v := fun r i d h => r.get h
theorem env_start {K : Frg} {W : Wd} {H : Hp} {N : List Str} {ds : List D} {vs : List V} (r : Reps K W H ds vs) : EnvR K W H (startD N ds) (L2.start N vs) := by
  have hl := r.length
  refine ⟨by unfold startD L2.start; simp [hl], fun i d h => ?_⟩
  unfold startD at h
  unfold L2.start
  by_cases hi : i < ds.length
  · rw [List.getElem?_append_left (by simpa using hi), List.getElem?_map] at h
    cases e : ds[i]? with
    | none => rw [e] at h; cases h
    | some d' =>
      rw [e] at h; cases h
      obtain ⟨v, hv, pv⟩ := r.get e
      exact ⟨v, by rw [List.getElem?_append_left (by simpa using hl ▸ hi), List.getElem?_map, hv]; rfl, pv⟩
  · rw [List.getElem?_append_right (by simpa using hi), List.getElem?_replicate] at h
    split at h <;> cases h

/-- what the module holds, for bodies -/
structure MCx (P : Program) (w : World) (K : Frg) (mg : Str → Option Value) (T : Tab) : Prop where
  bi : ∀ x, x ∈ biAll → mg x = none
  cst : ∀ (i : Nat) (p : Str × D), T.cst[i]? = some p → ∃ u v, mg p.1 = some u ∧ RelV v u ∧ ∀ W H, Rep K W H p.2 v
/-- the defs of the table keep their promises -/
def Fns (P : Program) (w : World) (K : Frg) (mg : Str → Option Value) (base : Heap) (T : Tab) (n : Nat) (G : GT) : Prop := ∀ (f : Nat) (x : Str), T.fn[f]? = some x → ∃ a, mg x = some (.ref a) ∧ FnD P w K mg base n a (G f)

theorem fnd_of {P : Program} {w : World} {K : Frg} {mg : Str → Option Value} {base : Heap} {x qual : Str} {params : Arguments} {body : List Stmt} {scope : Scope} {f : Addr} {fd : FuncData} (F : FunD K.K x qual params body scope [] [] f fd)
    {c : SC} {ps : List Str} (S : FnScope c.N ps scope) (hsc : c.sc = scope) (bind : ∀ (s : Shared) (us : List Value), us.length = ps.length → BindsTo s fd ⟨us, []⟩ (ps.zip us))
    {b : List St} (ck : ckSs b c body = true) {k : Nat} {G : GT} (M : MCx P w K mg c.T) (fns : Fns P w K mg base c.T k G) {g : List D → Sto → Q1 → XD → Prop}
    (len : ∀ ds S q, g ds S q noX → ds.length = ps.length) (hb : ∀ ds S q, g ds S q noX → wpSs c.T G noX b (bodyEn q) (startD c.N ds) S) : FnD P w K mg base (k + 1) f g := by
  refine ⟨F.kp, fun A outer s H us vs W S0 ds q Q hr hg e0 rv rl rp hgd ok => ?_⟩
  have hds := len _ _ _ hgd
  have hl : vs.length = ps.length := rp.length ▸ hds
  have hu : us.length = ps.length := rv.length ▸ hl
  have hbind := bind s us hu
  obtain ⟨oc, od, dV, kV, doc, pm, an, cdv, ct, osl, rfl, lk, hcd, _, _⟩ := F.ex
  have KX : K.K.In s.heap := e0.mod.kin.keeps fun b o e => (e0.bs b o e).1
  have lim : s.heap.NoLimit := e0.mod.nolimit.keeps fun b o e => (e0.bs b o e).1
  have hkind : ∀ y ∈ ps.zip us, scope.names.lookup y.1 = some .local ∨ (scope.names.lookup y.1 = some .cell ∧ ((cellsFrom (s.heap.objs.size + 1) scope.names []).lookup y.1).isSome = true) := fun ⟨n, v⟩ hy => by
    rcases S.par n (List.of_mem_zip hy).1 with q | q
    · exact .inl q
    · exact .inr ⟨q, PySem.W.cellsFrom_some _ _ _ (.inl q)⟩
  refine codeAny_call_function hr.depth (KX _ _ lk) rfl S.co S.gen rfl (PySem.W.codeRec_of KX hcd) (hbind _ _ _ _ ?_)
  refine wpAny_newFunctionEnv_cells S.kind hkind fun env he s1 x => ?_
  subst he
  refine ⟨lim.keeps x.toInCall.keep, codeAny_func ?_⟩
  have hroom := hr.deeper (envOfC qual scope s.heap.objs.size f cdv)
  have I : Inv (cxOf CX0 P w K.K mg base c.N qual scope f cdv A outer s H fun _ _ _ => False) [] (L2.start c.N vs) H s1 := inv_start S hr.hd e0 hl rv x
  have gd : Good (cxOf CX0 P w K.K mg base c.N qual scope f cdv A outer s H fun _ _ _ => False).nox K c k G :=
    ⟨rfl, rfl, hsc.symm, fun _ _ => rfl, S.nd, rfl, hroom, hg, M.bi, M.cst, fns, PassesOwn.never⟩
  have body := (sSs b _ _ _ _ _ _ gd ck).nox
  have hq : LS K (wpSs c.T G noX b) { nx := fun _ H' => Q .non H', rt := Q } (L2.start c.N vs) H := by
    refine ⟨W, S0, startD c.N ds, bodyEn q, rl, env_start rp, hb _ _ _ hgd, ⟨fun W' S' H' env' σ' e r er h => ?_, fun W' S' H' env' σ' e r er h => h, fun W' S' H' env' σ' e r er h => h, fun W' S' H' d v e r p h => ?_⟩⟩
    · obtain ⟨S'', hs, h⟩ := h
      obtain ⟨r2, e2⟩ := rel_sub r hs
      exact ok W' H' .non .non S'' (e.trans e2) r2 .non h
    · obtain ⟨S'', hs, h⟩ := h
      obtain ⟨r2, e2⟩ := rel_sub r hs
      exact ok W' H' v d S'' (e.trans e2) r2 p h
  refine wpAny_mono (body.run [] s1 (L2.start c.N vs) H _ I hq) (fun fl s' hs => ?_) fun e s' hs => hs
  have fin : ∀ {σ' : L2.St} {H' : Hp} {v : V} {u : Value}, Inv (cxOf CX0 P w K.K mg base c.N qual scope f cdv A outer s H fun _ _ _ => False) [] σ' H' s' → RelV v u → Q v H' → CE outer P w H s Q u s' :=
    fun {σ' H' v u} J rv q => ⟨v, H', J.os, J.bare, J.base, J.hok, rv, q⟩
  cases fl with
  | ret u =>
    obtain ⟨v, σ', H', J, rv, q⟩ := hs
    exact fin J rv q
  | next =>
    obtain ⟨σ', H', J, q⟩ := hs
    exact fin (v := V.non) (u := Value.none) J rfl q
  | brk =>
    obtain ⟨_, _, _, q⟩ := hs
    exact False.elim q
  | cont =>
    obtain ⟨_, _, _, q⟩ := hs
    exact False.elim q

/-- the law's promise, at the heap behind the top -/
theorem law_callD {P : Program} {w : World} {K : Frg} {mg mb : Str → Option Value} {k : Nat} {fa a : Addr} {s₁ : Shared} {vs : List Value} {ns : List Int} {g : List D → Sto → Q1 → XD → Prop}
    (KX : K.K.In s₁.heap) (hns : s₁.heap.Ns mainGlobals mg) (hb : s₁.heap.Ns builtinsNs mb) (hbb : ∀ x : Str, x ≠ "__name__" → mb x = bootBuiltins x) (hlim : s₁.heap.NoLimit) (hg : s₁.gens = #[])
    (ha : s₁.heap.get? a = some { cls := .type "list", data := .seq vs.toArray }) (hi : IntsAre vs ns) (hl : ns.length ≤ sizeLine) (hr : Room k callerA)
    (F : ∀ base : Heap, K.K.In base → base.Ns mainGlobals mg → FnD P w K mg base k fa g) (hgd : g [.scr ns] (fun _ => none) (fun d _ => d = .bl true) noX) :
    codeAny (model P w) callerA (.call (.ref fa) ⟨[.ref a], []⟩) (fun r s' => r = .ok (.ret (.bool true)) ∧ OldK s₁.heap s'.heap ∧ s'.os = s₁.os ∧ AllBare s'.gens) s₁ := by
  have rv := vals_ints hi
  have lenV := hi.length
  have core : ∀ H : Hp, Only H → SqL K.K H a (ns.map V.int) → HOk P w H s₁.heap → (∀ b, H b ≠ none → b = a) → (H a ≠ none → K.K.lookup a = none) →
      codeAny (model P w) callerA (.call (.ref fa) ⟨[.ref a], []⟩) (fun r s' => r = .ok (.ret (.bool true)) ∧ OldK s₁.heap s'.heap ∧ s'.os = s₁.os ∧ AllBare s'.gens) s₁ := by
    intro H hO hS hok hA hK
    have base_of : ∀ {b : Addr} {o : Obj}, s₁.heap.get? b = some o → H b = none → (hidT s₁.heap H).get? b = some o := fun e n => hidT_get e n
    have noA : ∀ {b : Addr} {o : Obj} {es : Array DictEntry} {ep : Nat}, s₁.heap.get? b = some o → o.data = .dict es ep → H b = none := fun {b o es ep} e d => by
      cases q : H b with
      | none => rfl
      | some u =>
        have e' : b = a := hA b (by rw [q]; simp)
        subst e'
        rw [ha] at e; cases e
        have d' : Data.seq vs.toArray _ = Data.dict es ep := d
        cases d'
    have nsK : ∀ {b : Addr} {m : Str → Option Value}, s₁.heap.Ns b m → (hidT s₁.heap H).Ns b m := fun {b m} ⟨o, es, ep, e, d, r⟩ => ⟨o, es, ep, base_of e (noA e d), d, r⟩
    have hKb : K.K.In (hidT s₁.heap H) := fun b o e => base_of (KX b o e) (by
      cases q : H b with
      | none => rfl
      | some u =>
        have e' : b = a := hA b (by rw [q]; simp)
        subst e'
        rw [hK (by rw [q]; simp)] at e; cases e)
    have hM : Mod K.K mg (hidT s₁.heap H) := ⟨hKb, nsK hns, ⟨mb, nsK hb, hbb⟩, let ⟨mc, h1, h2⟩ := hlim; ⟨mc, nsK h1, h2⟩⟩
    have e0 : Env0 P w K.K mg (hidT s₁.heap H) callerA [] s₁ H := ⟨rfl, hM, fun b o e => of_hidT e, Nat.le_of_eq (hidT_size _ _), trivial, fun b hb => absurd (show b ∈ ([] : List Addr) from hb) (by simp), hok, .of_eq hg⟩
    have noI : ∀ (W : Wd) (b : Addr), ¬ Ins (fun _ => none) W b := fun W b ⟨m, o, h, _⟩ => by cases h
    have hR : ∃ W : Wd, Rel K W (fun _ => none) H ∧ Rep K W H (.scr ns) (.ref a) := by
      rcases hS with h | h
      · refine ⟨⟨fun _ => none, fun b => b = a⟩, ⟨⟨0, fun _ _ => rfl⟩, fun n o e => (by cases e), fun n m b o u e => (by cases e), fun b e => ⟨?_, noI _ b⟩⟩, .scr (.inl ⟨rfl, h⟩)⟩
        subst e
        rcases h with h | ⟨o, h⟩ <;> (rw [h]; simp)
      · exact ⟨⟨fun _ => none, fun _ => False⟩, ⟨⟨0, fun _ _ => rfl⟩, fun n o e => (by cases e), fun n m b o u e => (by cases e), fun b e => e.elim⟩, .scr (.inr fun H' => .inr h)⟩
    obtain ⟨W, rl, rp⟩ := hR
    refine codeAny_mono ((F _ hKb (nsK hns)).2 callerA [] s₁ H [.ref a] [.ref a] W (fun _ => none) [.scr ns] _ (fun v _ => v = .bl true) hr rfl e0 (.cons rfl .nil) rl (.cons rp .nil) hgd fun W' H' v d S' _ _ p e => ?_) fun r s' h => ?_
    · subst e
      cases p
      rfl
    cases r with
    | error e => exact False.elim h
    | ok fl =>
      cases fl with
      | next => exact False.elim h
      | brk => exact False.elim h
      | cont => exact False.elim h
      | ret u =>
        obtain ⟨v, H', os, bare, un, hok', r', q⟩ := h
        have q' : v = .bl true := q
        subst q'
        obtain rfl : u = Value.bool true := r'
        refine ⟨rfl, OldK.of_keep fun b o e => ?_, os, bare⟩
        cases q : H b with
        | none => exact un.keep b o e q (by intro z; exact absurd (show b ∈ ([] : List Addr) from z) (by simp)) (by simp)
        | some u =>
          rcases hO b with z | ⟨ob, xs, z⟩
          · rw [q] at z; cases z
          · have z2 := un.frzs b ob _ z
            obtain ⟨e1, _⟩ := hok b _ z
            obtain ⟨e2, _⟩ := hok' b _ z2
            rw [e] at e1; cases e1
            exact e2
  cases hk : K.K.lookup a with
  | some o =>
    have e := KX a o hk
    rw [ha] at e
    cases e
    refine core (fun _ => none) (fun _ => .inl rfl) (.inr ⟨_, vs.toArray, _, hk, rfl, rfl, rfl, by rw [List.size_toArray, lenV]; exact hl, by simpa using rv⟩) (fun b u z => by have z' : (none : Option HO) = some u := z; cases z') (fun b z => absurd rfl z) fun z => absurd rfl z
  | none =>
    refine core (fun b => if b = a then some (.frz { cls := .type "list", data := .seq vs.toArray } (.lst (ns.map V.int))) else none) (fun b => ?_) (.inl (.inr ⟨{ cls := .type "list", data := .seq vs.toArray }, if_pos rfl⟩)) (fun b u z => ?_) (fun b z => ?_) fun _ => hk
    · by_cases hb : b = a
      · exact .inr ⟨_, _, if_pos hb⟩
      · exact .inl (if_neg hb)
    · by_cases hb : b = a
      · have z' := (if_pos hb).symm.trans z
        cases z'
        subst hb
        exact ⟨ha, by rw [List.length_map]; exact hl, vs, _, rv, ha⟩
      · have z' := (if_neg hb).symm.trans z
        cases z'
    · by_cases hb : b = a
      · exact hb
      · exact absurd (if_neg hb) z
theorem walk_ofD {l : PySem.W.OpenLaw} {n k : Nat} {q : Program} {loose : List Str} {XP : (Str → Option Value) → Heap → Prop} {YP : World → Heap → Prop} {d : DefRec}
    (hn : l.most = some n) (hn2 : n ≤ sizeLine) (hdf : d.params.defaults = []) (hr : Room k callerA)
    (F : ∀ (w : World) (mg : Str → Option Value) (fa : Addr) (h : Heap), YP w h → h.Ns mainGlobals mg → mg d.name = some (.ref fa) →
      ∃ (K : Frg) (g : List D → Sto → Q1 → XD → Prop), K.K.In h ∧ (∀ (ns : List Int), ns.length ≤ n → g [.scr ns] (fun _ => none) (fun d _ => d = .bl true) noX) ∧
        ∀ base : Heap, K.K.In base → base.Ns mainGlobals mg → FnD l.prog w K mg base k fa g) :
    PySem.W.WalkO q loose XP YP l.row.toRowW d [] (fun f vs => PySem.call f vs) := by
  refine Att.attach_call hn hdf fun w s₀ s₁ mg mb fa o pm cd doc a vs ns G Y ho hd hcd hmg hobj hints hlen hg => ?_
  obtain ⟨K, g, KX, hgd, hF⟩ := F w mg fa _ Y G.T.g hmg
  exact law_callD KX G.T.g G.T.b G.T.builtins G.T.nolimit hg hobj hints (Nat.le_trans hlen hn2) hr hF (hgd ns hlen)
end Mi
set_option maxHeartbeats 4000000
namespace K48
open PySem PySem.Spec PyProof.Rows L2 Mi
abbrev Pr : Program := PySem.Challenge.pw_wovenrows_k48_whole_worth_lies_in_range
abbrev top (i : Nat) : Stmt := Pr.main.body.getD i (.Pass ⟨0, 0, 0, 0⟩)
def T : Mi.Tab := ⟨["joined", "worth_by", "worth", "reckoned_range", "asked_range", "range_by", "range_of", "_law_new_tape", "_law_draw", "_law_figure", "_law_expression", "_law_worth", "_law_some_range", "_law_within", "law"], [("SIZE", .int 1000000), ("MOST", .int 999999), ("ALL", .tup [.int 0, .int 999999]), ("NOTHING", .tup [.int 0, .int 0])]⟩
/-- joined -/
def N0 : List Str := ["word", "one", "other"]
def c0 : SC := ⟨N0, defScope (top 2), fun _ => true, T⟩
def b0 : List Mi.St := [.ifs (.cmp .eq (.var 0) (.str "plus")) [.ret (.bin .mod (.bin .add (.var 1) (.var 2)) (.cst 0))] [], .ifs (.cmp .eq (.var 0) (.str "less")) [.ret (.bin .mod (.bin .sub (.var 1) (.var 2)) (.cst 0))] [], .ifs (.cmp .eq (.var 0) (.str "times")) [.ret (.bin .mod (.bin .mul (.var 1) (.var 2)) (.cst 0))] [], .ifs (.cmp .eq (.var 0) (.str "over")) [.ret (.ife (.cmp .eq (.var 2) (.int 0)) .non (.bin .fdiv (.var 1) (.var 2)))] [], .ret (.ife (.cmp .eq (.var 0) (.str "below")) (.bif .int (.cons (.cmp .lt (.var 1) (.var 2)) .nil)) (.bif .int (.cons (.cmp .eq (.var 1) (.var 2)) .nil)))]
theorem ck0 : ckSs b0 c0 (defBody (top 2)) = true := by decide +kernel
theorem sc0 : FnScope N0 ["word", "one", "other"] (defScope (top 2)) := ⟨rfl, rfl, rfl, by decide +kernel, rfl, by decide +kernel, by decide +kernel⟩
def d0 : He.DefD := ⟨("joined", none), "joined", "joined", defArgs (top 2), defBody (top 2), defScope (top 2), [], []⟩
/-- worth_by -/
def N1 : List Str := ["expression", "given", "held", "word", "one", "other"]
def c1 : SC := ⟨N1, defScope (top 3), fun _ => true, T⟩
def b1 : List Mi.St := [.set 3 (.ix (.var 0) (.int 0)), .ifs (.cmp .eq (.var 3) (.str "num")) [.ret (.ix (.var 0) (.int 1))] [], .ifs (.cmp .eq (.var 3) (.str "in")) [.ret (.var 1)] [], .ifs (.cmp .eq (.var 3) (.str "at")) [.ret (.meth .get2 (.var 2) (.cons (.ix (.var 0) (.int 1)) (.cons (.int 0) .nil)))] [], .set 4 (.call 1 (.cons (.ix (.var 0) (.int 1)) (.cons (.var 1) (.cons (.var 2) .nil)))), .set 5 (.call 1 (.cons (.ix (.var 0) (.int 2)) (.cons (.var 1) (.cons (.var 2) .nil)))), .ifs (.or (.cmp .is_ (.var 4) .non) (.cmp .is_ (.var 5) .non)) [.ret .non] [], .ret (.call 0 (.cons (.var 3) (.cons (.var 4) (.cons (.var 5) .nil))))]
theorem ck1 : ckSs b1 c1 (defBody (top 3)) = true := by decide +kernel
theorem sc1 : FnScope N1 ["expression", "given", "held"] (defScope (top 3)) := ⟨rfl, rfl, rfl, by decide +kernel, rfl, by decide +kernel, by decide +kernel⟩
def d1 : He.DefD := ⟨("worth_by", none), "worth_by", "worth_by", defArgs (top 3), defBody (top 3), defScope (top 3), [], []⟩
/-- worth -/
def N2 : List Str := ["expression", "given", "values"]
def c2 : SC := ⟨N2, defScope (top 4), fun _ => true, T⟩
def b2 : List Mi.St := [.ret (.call 1 (.cons (.var 0) (.cons (.var 1) (.cons (.den (.var 2)) .nil))))]
theorem ck2 : ckSs b2 c2 (defBody (top 4)) = true := by decide +kernel
theorem sc2 : FnScope N2 ["expression", "given", "values"] (defScope (top 4)) := ⟨rfl, rfl, rfl, by decide +kernel, rfl, by decide +kernel, by decide +kernel⟩
def d2 : He.DefD := ⟨("worth", none), "worth", "worth", defArgs (top 4), defBody (top 4), defScope (top 4), [], []⟩
/-- reckoned_range -/
def N3 : List Str := ["word", "one", "other", "a", "b", "c", "d"]
def c3 : SC := ⟨N3, defScope (top 9), fun _ => true, T⟩
def b3 : List Mi.St := [.setT [3, 4] (.var 1), .setT [5, 6] (.var 2), .ifs (.cmp .eq (.var 0) (.str "over")) [.ret (.ife (.cmp .eq (.var 6) (.int 0)) .non (.tup (.cons (.bin .fdiv (.var 3) (.var 6)) (.cons (.bin .fdiv (.var 4) (.bif .max2 (.cons (.var 5) (.cons (.int 1) .nil)))) .nil))))] [], .ifs (.cmp .eq (.var 0) (.str "plus")) [.ret (.ife (.cmp .le (.bin .add (.var 4) (.var 6)) (.cst 1)) (.tup (.cons (.bin .add (.var 3) (.var 5)) (.cons (.bin .add (.var 4) (.var 6)) .nil))) (.cst 2))] [], .ifs (.cmp .eq (.var 0) (.str "less")) [.ret (.ife (.cmp .ge (.var 3) (.var 6)) (.tup (.cons (.bin .sub (.var 3) (.var 6)) (.cons (.bin .sub (.var 4) (.var 5)) .nil))) (.cst 2))] [], .ret (.ife (.cmp .le (.bin .mul (.var 4) (.var 6)) (.cst 1)) (.tup (.cons (.bin .mul (.var 3) (.var 5)) (.cons (.bin .mul (.var 4) (.var 6)) .nil))) (.cst 2))]
theorem ck3 : ckSs b3 c3 (defBody (top 9)) = true := by decide +kernel
theorem sc3 : FnScope N3 ["word", "one", "other"] (defScope (top 9)) := ⟨rfl, rfl, rfl, by decide +kernel, rfl, by decide +kernel, by decide +kernel⟩
def d3 : He.DefD := ⟨("reckoned_range", none), "reckoned_range", "reckoned_range", defArgs (top 9), defBody (top 9), defScope (top 9), [], []⟩
/-- asked_range -/
def N4 : List Str := ["word", "one", "other", "a", "b", "c", "d"]
def c4 : SC := ⟨N4, defScope (top 10), fun _ => true, T⟩
def b4 : List Mi.St := [.setT [3, 4] (.var 1), .setT [5, 6] (.var 2), .ifs (.cmp .eq (.var 0) (.str "below")) [.ifs (.cmp .lt (.var 4) (.var 5)) [.ret (.tup (.cons (.int 1) (.cons (.int 1) .nil)))] [], .ret (.ife (.cmp .ge (.var 3) (.var 6)) (.tup (.cons (.int 0) (.cons (.int 0) .nil))) (.tup (.cons (.int 0) (.cons (.int 1) .nil))))] [], .ifs (.or (.cmp .lt (.var 4) (.var 5)) (.cmp .lt (.var 6) (.var 3))) [.ret (.tup (.cons (.int 0) (.cons (.int 0) .nil)))] [], .ret (.ife (.chn3 .eq .eq .eq (.var 3) (.var 4) (.var 5) (.var 6)) (.tup (.cons (.int 1) (.cons (.int 1) .nil))) (.tup (.cons (.int 0) (.cons (.int 1) .nil))))]
theorem ck4 : ckSs b4 c4 (defBody (top 10)) = true := by decide +kernel
theorem sc4 : FnScope N4 ["word", "one", "other"] (defScope (top 10)) := ⟨rfl, rfl, rfl, by decide +kernel, rfl, by decide +kernel, by decide +kernel⟩
def d4 : He.DefD := ⟨("asked_range", none), "asked_range", "asked_range", defArgs (top 10), defBody (top 10), defScope (top 10), [], []⟩
/-- range_by -/
def N5 : List Str := ["expression", "state", "word", "one", "other", "given", "held", "out"]
def c5 : SC := ⟨N5, defScope (top 11), fun _ => true, T⟩
def b5 : List Mi.St := [.setT [5, 6, 7] (.var 1), .set 2 (.ix (.var 0) (.int 0)), .ifs (.cmp .eq (.var 2) (.str "num")) [.ret (.tup (.cons (.ix (.var 0) (.int 1)) (.cons (.ix (.var 0) (.int 1)) .nil)))] [], .ifs (.cmp .eq (.var 2) (.str "in")) [.ret (.var 5)] [], .ifs (.cmp .eq (.var 2) (.str "out")) [.ret (.var 7)] [], .ifs (.cmp .eq (.var 2) (.str "at")) [.ret (.meth .get2 (.var 6) (.cons (.ix (.var 0) (.int 1)) (.cons (.cst 3) .nil)))] [], .set 3 (.call 5 (.cons (.ix (.var 0) (.int 1)) (.cons (.var 1) .nil))), .set 4 (.call 5 (.cons (.ix (.var 0) (.int 2)) (.cons (.var 1) .nil))), .ifs (.or (.cmp .is_ (.var 3) .non) (.cmp .is_ (.var 4) .non)) [.ret .non] [], .ifs (.or (.cmp .eq (.var 2) (.str "below")) (.cmp .eq (.var 2) (.str "like"))) [.ret (.call 4 (.cons (.var 2) (.cons (.var 3) (.cons (.var 4) .nil))))] [], .ret (.call 3 (.cons (.var 2) (.cons (.var 3) (.cons (.var 4) .nil))))]
theorem ck5 : ckSs b5 c5 (defBody (top 11)) = true := by decide +kernel
theorem sc5 : FnScope N5 ["expression", "state"] (defScope (top 11)) := ⟨rfl, rfl, rfl, by decide +kernel, rfl, by decide +kernel, by decide +kernel⟩
def d5 : He.DefD := ⟨("range_by", none), "range_by", "range_by", defArgs (top 11), defBody (top 11), defScope (top 11), [], []⟩
/-- range_of -/
def N6 : List Str := ["expression", "given", "ranges"]
def c6 : SC := ⟨N6, defScope (top 12), fun _ => true, T⟩
def b6 : List Mi.St := [.ret (.call 5 (.cons (.var 0) (.cons (.tup (.cons (.var 1) (.cons (.var 2) (.cons .non .nil)))) .nil)))]
theorem ck6 : ckSs b6 c6 (defBody (top 12)) = true := by decide +kernel
theorem sc6 : FnScope N6 ["expression", "given", "ranges"] (defScope (top 12)) := ⟨rfl, rfl, rfl, by decide +kernel, rfl, by decide +kernel, by decide +kernel⟩
def d6 : He.DefD := ⟨("range_of", none), "range_of", "range_of", defArgs (top 12), defBody (top 12), defScope (top 12), [], []⟩
/-- _law_new_tape -/
def N7 : List Str := ["_law_script"]
def c7 : SC := ⟨N7, defScope (top 14), fun _ => true, T⟩
def b7 : List Mi.St := [.ret (.mls (.cons (.sl (.var 0) .nil (.cons (.int 63) .nil)) (.cons (.int 0) (.cons (.int 0) .nil))))]
theorem ck7 : ckSs b7 c7 (defBody (top 14)) = true := by decide +kernel
theorem sc7 : FnScope N7 ["_law_script"] (defScope (top 14)) := ⟨rfl, rfl, rfl, by decide +kernel, rfl, by decide +kernel, by decide +kernel⟩
def d7 : He.DefD := ⟨("_law_new_tape", none), "_law_new_tape", "_law_new_tape", defArgs (top 14), defBody (top 14), defScope (top 14), [], []⟩
/-- _law_draw -/
def N8 : List Str := ["_law_tape", "_law_many", "_law_spot", "_law_cell", "_law_seed", "_law_found"]
def c8 : SC := ⟨N8, defScope (top 15), fun _ => true, T⟩
def b8 : List Mi.St := [.ifs (.cmp .gt (.ix (.var 0) (.int 2)) (.int 0)) [.set 5 (.bin .mod (.ix (.var 0) (.int 2)) (.var 1)), .setI (.var 0) (.int 2) (.bin .fdiv (.ix (.var 0) (.int 2)) (.var 1)), .ret (.var 5)] [], .set 2 (.ix (.var 0) (.int 1)), .setI (.var 0) (.int 1) (.bin .add (.var 2) (.int 1)), .set 3 (.int 0), .ifs (.cmp .gt (.bif .len (.cons (.ix (.var 0) (.int 0)) .nil)) (.int 0)) [.set 3 (.ix (.ix (.var 0) (.int 0)) (.bin .mod (.var 2) (.bif .len (.cons (.ix (.var 0) (.int 0)) .nil))))] [], .ifs (.and (.cmp .ge (.var 3) (.bin .pow (.int 10) (.int 18))) (.cmp .lt (.var 2) (.bif .len (.cons (.ix (.var 0) (.int 0)) .nil)))) [.setI (.var 0) (.int 2) (.bin .fdiv (.var 3) (.var 1)), .ret (.bin .mod (.var 3) (.var 1))] [], .set 4 (.bin .mod (.bin .mul (.bin .add (.bin .add (.bin .mod (.var 3) (.int 1000003)) (.bin .mul (.bin .mul (.int 31) (.var 2)) (.var 2))) (.int 7)) (.int 48271)) (.int 999983)), .ret (.bin .mod (.bin .mod (.bin .mul (.bin .mod (.bin .add (.bin .mul (.var 4) (.int 69621)) (.bin .mul (.var 2) (.int 7919))) (.int 999979)) (.int 16807)) (.int 524287)) (.var 1))]
theorem ck8 : ckSs b8 c8 (defBody (top 15)) = true := by decide +kernel
theorem sc8 : FnScope N8 ["_law_tape", "_law_many"] (defScope (top 15)) := ⟨rfl, rfl, rfl, by decide +kernel, rfl, by decide +kernel, by decide +kernel⟩
def d8 : He.DefD := ⟨("_law_draw", none), "_law_draw", "_law_draw", defArgs (top 15), defBody (top 15), defScope (top 15), [], []⟩
/-- _law_figure -/
def N9 : List Str := ["_law_tape"]
def c9 : SC := ⟨N9, defScope (top 16), fun _ => true, T⟩
def b9 : List Mi.St := [.ret (.ix (.lst (.cons (.int 0) (.cons (.int 1) (.cons (.int 2) (.cons (.int 3) (.cons (.int 7) (.cons (.int 999999) (.cons (.int 500000) (.cons (.int 999998) (.cons (.int 10) .nil)))))))))) (.call 8 (.cons (.var 0) (.cons (.int 9) .nil))))]
theorem ck9 : ckSs b9 c9 (defBody (top 16)) = true := by decide +kernel
theorem sc9 : FnScope N9 ["_law_tape"] (defScope (top 16)) := ⟨rfl, rfl, rfl, by decide +kernel, rfl, by decide +kernel, by decide +kernel⟩
def d9 : He.DefD := ⟨("_law_figure", none), "_law_figure", "_law_figure", defArgs (top 16), defBody (top 16), defScope (top 16), [], []⟩
/-- _law_expression -/
def N10 : List Str := ["_law_tape", "_law_deep", "_law_leaves", "_law_way", "_law_word", "_law_one", "_law_some"]
def c10 : SC := ⟨N10, defScope (top 17), fun _ => true, T⟩
def b10 : List Mi.St := [.set 3 (.call 8 (.cons (.var 0) (.cons (.int 8) .nil))), .ifs (.or (.cmp .lt (.var 1) (.int 2)) (.cmp .lt (.var 3) (.int 4))) [.set 6 (.bin .add (.lst (.cons (.tup (.cons (.str "num") (.cons (.call 9 (.cons (.var 0) .nil)) .nil))) (.cons (.tup (.cons (.str "at") (.cons (.call 8 (.cons (.var 0) (.cons (.int 3) .nil))) .nil))) (.cons (.tup (.cons (.str "num") (.cons (.call 8 (.cons (.var 0) (.cons (.int 4) .nil))) .nil))) (.cons (.tup (.cons (.str "in") .nil)) .nil))))) (.var 2)), .ret (.ix (.var 6) (.call 8 (.cons (.var 0) (.cons (.bif .len (.cons (.var 6) .nil)) .nil))))] [], .set 4 (.ix (.lst (.cons (.str "plus") (.cons (.str "less") (.cons (.str "times") (.cons (.str "over") (.cons (.str "below") (.cons (.str "like") .nil))))))) (.call 8 (.cons (.var 0) (.cons (.int 6) .nil)))), .set 5 (.call 10 (.cons (.var 0) (.cons (.bin .sub (.var 1) (.int 1)) (.cons (.var 2) .nil)))), .ret (.tup (.cons (.var 4) (.cons (.var 5) (.cons (.call 10 (.cons (.var 0) (.cons (.bin .sub (.var 1) (.int 1)) (.cons (.var 2) .nil)))) .nil))))]
theorem ck10 : ckSs b10 c10 (defBody (top 17)) = true := by decide +kernel
theorem sc10 : FnScope N10 ["_law_tape", "_law_deep", "_law_leaves"] (defScope (top 17)) := ⟨rfl, rfl, rfl, by decide +kernel, rfl, by decide +kernel, by decide +kernel⟩
def d10 : He.DefD := ⟨("_law_expression", none), "_law_expression", "_law_expression", defArgs (top 17), defBody (top 17), defScope (top 17), [], []⟩
/-- _law_worth -/
def N11 : List Str := ["_law_made", "_law_given", "_law_held", "_law_word", "_law_one", "_law_other"]
def c11 : SC := ⟨N11, defScope (top 18), fun _ => true, T⟩
def b11 : List Mi.St := [.set 3 (.ix (.var 0) (.int 0)), .ifs (.cmp .eq (.var 3) (.str "num")) [.ret (.ix (.var 0) (.int 1))] [], .ifs (.cmp .eq (.var 3) (.str "in")) [.ret (.var 1)] [], .ifs (.cmp .eq (.var 3) (.str "at")) [.ret (.meth .get2 (.var 2) (.cons (.ix (.var 0) (.int 1)) (.cons (.int 0) .nil)))] [], .set 4 (.call 11 (.cons (.ix (.var 0) (.int 1)) (.cons (.var 1) (.cons (.var 2) .nil)))), .set 5 (.call 11 (.cons (.ix (.var 0) (.int 2)) (.cons (.var 1) (.cons (.var 2) .nil)))), .ifs (.or (.cmp .is_ (.var 4) .non) (.or (.cmp .is_ (.var 5) .non) (.and (.cmp .eq (.var 3) (.str "over")) (.cmp .eq (.var 5) (.int 0))))) [.ret .non] [], .ifs (.or (.cmp .eq (.var 3) (.str "below")) (.cmp .eq (.var 3) (.str "like"))) [.ret (.ife (.cmp .eq (.var 3) (.str "below")) (.bif .int (.cons (.cmp .lt (.var 4) (.var 5)) .nil)) (.bif .int (.cons (.cmp .eq (.var 4) (.var 5)) .nil)))] [], .ifs (.cmp .eq (.var 3) (.str "over")) [.ret (.bin .fdiv (.var 4) (.var 5))] [], .ret (.bin .mod (.ife (.cmp .eq (.var 3) (.str "times")) (.bin .mul (.var 4) (.var 5)) (.ife (.cmp .eq (.var 3) (.str "plus")) (.bin .add (.var 4) (.var 5)) (.bin .sub (.var 4) (.var 5)))) (.int 1000000))]
theorem ck11 : ckSs b11 c11 (defBody (top 18)) = true := by decide +kernel
theorem sc11 : FnScope N11 ["_law_made", "_law_given", "_law_held"] (defScope (top 18)) := ⟨rfl, rfl, rfl, by decide +kernel, rfl, by decide +kernel, by decide +kernel⟩
def d11 : He.DefD := ⟨("_law_worth", none), "_law_worth", "_law_worth", defArgs (top 18), defBody (top 18), defScope (top 18), [], []⟩
/-- _law_some_range -/
def N12 : List Str := ["_law_tape", "_law_one", "_law_other"]
def c12 : SC := ⟨N12, defScope (top 19), fun _ => true, T⟩
def b12 : List Mi.St := [.set 1 (.call 9 (.cons (.var 0) .nil)), .set 2 (.ix (.lst (.cons (.var 1) (.cons (.call 9 (.cons (.var 0) .nil)) (.cons (.call 9 (.cons (.var 0) .nil)) (.cons (.bif .min2 (.cons (.int 999999) (.cons (.bin .add (.var 1) (.int 1)) .nil))) .nil))))) (.call 8 (.cons (.var 0) (.cons (.int 4) .nil)))), .ret (.tup (.cons (.bif .min2 (.cons (.var 1) (.cons (.var 2) .nil))) (.cons (.bif .max2 (.cons (.var 1) (.cons (.var 2) .nil))) .nil)))]
theorem ck12 : ckSs b12 c12 (defBody (top 19)) = true := by decide +kernel
theorem sc12 : FnScope N12 ["_law_tape"] (defScope (top 19)) := ⟨rfl, rfl, rfl, by decide +kernel, rfl, by decide +kernel, by decide +kernel⟩
def d12 : He.DefD := ⟨("_law_some_range", none), "_law_some_range", "_law_some_range", defArgs (top 19), defBody (top 19), defScope (top 19), [], []⟩
/-- _law_within -/
def N13 : List Str := ["_law_tape", "_law_found", "_law_low", "_law_high"]
def c13 : SC := ⟨N13, defScope (top 20), fun _ => true, T⟩
def b13 : List Mi.St := [.setT [2, 3] (.var 1), .ret (.ix (.lst (.cons (.var 2) (.cons (.var 3) (.cons (.bin .add (.var 2) (.call 8 (.cons (.var 0) (.cons (.bin .add (.bin .sub (.var 3) (.var 2)) (.int 1)) .nil)))) .nil)))) (.call 8 (.cons (.var 0) (.cons (.int 3) .nil))))]
theorem ck13 : ckSs b13 c13 (defBody (top 20)) = true := by decide +kernel
theorem sc13 : FnScope N13 ["_law_tape", "_law_found"] (defScope (top 20)) := ⟨rfl, rfl, rfl, by decide +kernel, rfl, by decide +kernel, by decide +kernel⟩
def d13 : He.DefD := ⟨("_law_within", none), "_law_within", "_law_within", defArgs (top 20), defBody (top 20), defScope (top 20), [], []⟩
/-- law -/
def N14 : List Str := ["_law_script", "_law_tape", "_law_k", "_law_made", "_law_given", "_law_ranges", "_law_found", "_law_turn", "_law_number", "_law_values", "_law_due", "_law_local", "_law_one"]
def c14 : SC := ⟨N14, defScope (top 21), fun _ => true, T⟩
def b14 : List Mi.St := [.set 1 (.call 7 (.cons (.var 0) .nil)), .for_ (.nm 2) (.rng (.cons (.int 12) .nil)) [.set 3 (.call 10 (.cons (.var 1) (.cons (.int 4) (.cons (.lst .nil) .nil)))), .set 4 (.call 12 (.cons (.var 1) .nil)), .set 5 (.lc (.call 12 (.cons (.var 1) .nil)) (.nm 11) (.rng (.cons (.int 3) .nil)) .nil [11]), .set 6 (.call 6 (.cons (.var 3) (.cons (.var 4) (.cons (.den (.var 5)) .nil)))), .for_ (.nm 7) (.rng (.cons (.int 8) .nil)) [.set 8 (.call 13 (.cons (.var 1) (.cons (.var 4) .nil))), .set 9 (.bif .tuple (.cons (.lc (.call 13 (.cons (.var 1) (.cons (.var 12) .nil))) (.nm 12) (.seq (.var 5)) .nil [12]) .nil)), .set 10 (.call 11 (.cons (.var 3) (.cons (.var 8) (.cons (.den (.var 9)) .nil)))), .ifs (.cmp .ne (.bif .repr (.cons (.call 2 (.cons (.var 3) (.cons (.var 8) (.cons (.var 9) .nil)))) .nil)) (.bif .repr (.cons (.var 10) .nil))) [.ret (.bl false)] [], .ifs (.and (.cmp .nis (.var 10) .non) (.or (.cmp .is_ (.var 6) .non) (.not (.chn .le .le (.ix (.var 6) (.int 0)) (.var 10) (.ix (.var 6) (.int 1)))))) [.ret (.bl false)] []]], .ret (.bl true)]
theorem ck14 : ckSs b14 c14 (defBody (top 21)) = true := by decide +kernel
theorem sc14 : FnScope N14 ["_law_script"] (defScope (top 21)) := ⟨rfl, rfl, rfl, by decide +kernel, rfl, by decide +kernel, by decide +kernel⟩
def d14 : He.DefD := ⟨("law", none), "law", "law", defArgs (top 21), defBody (top 21), defScope (top 21), [], []⟩
end K48

set_option maxHeartbeats 4000000
/-! Mi19: steps of the small language. -/
namespace Mi
open PySem

def BinW (o : Op) (S : Sto) (x y : D) (q : Q1) : Prop := ∃ z, binD o S x y = some z ∧ q z S
def CmpW (o : Cp) (S : Sto) (x y : D) (q : Bool → Prop) : Prop := ∃ k, cmpD o S x y = some k ∧ q k
def TruW (S : Sto) (x : D) (q : Bool → Prop) : Prop := ∃ k, truD S x = some k ∧ q k
def IxW (S : Sto) (x y : D) (q : Q1) : Prop := ∃ z, ixD S x y = some z ∧ q z S
def BifW (b : Bi) (S : Sto) (ds : List D) (q : Q1) : Prop := ∃ z, biD b S ds = some z ∧ q z S
def IteW (b : Bool) (p q : Prop) : Prop := if b = true then p else q
def IsiW (S : Sto) (x : D) (t : Nat) (q : Q1) : Prop := ∃ k, isiD S x t = some k ∧ q (.bl k) S
def NegW (S : Sto) (x : D) (q : Q1) : Prop := ∃ i, x = .int i ∧ q (.int (-i)) S
def LoW (l : List D) (k : List Int → Prop) : Prop := ∃ l', intsD l = some l' ∧ k l'
def SlW (S : Sto) (x : D) (lo hi : Option Int) (q : Q1) : Prop := ∃ z, slD S x lo hi = some z ∧ q z S
def RevW (S : Sto) (x : D) (q : Q1) : Prop := ∃ z, revD S x = some z ∧ q z S
def KindW (S : Sto) (x : D) (m : Mt) (p : Prop) : Prop := kindD S x = some (mtTy m) ∧ p
def MtW (m : Mt) (S : Sto) (x : D) (ds : List D) (q : Q1) : Prop := ∃ z, mtD m S x ds = some z ∧ q z.1 z.2
def McW (S : Sto) (x : D) (q : Q1) : Prop := ∃ n kvs, x = .loc n ∧ S n = some (.dic kvs) ∧ ∀ m, S m = none → q (.loc m) (put S m (.dic kvs))
def SetW (S : Sto) (o k v : D) (q : Sto → Prop) : Prop := ∃ S4, setIx S o k v = some S4 ∧ q S4

section
variable {T : Tab} {G : GT} {xd : XD} {env : Env} {S : Sto} {q : Q1} {e a b c o : E} {es : Es} {d : D} {i j : Nat}
theorem w_var (h : env[i]? = some (some d)) (k : q d S) : wpE T G xd (.var i) env S q := by rw [wpE]; exact ⟨d, h, k⟩
theorem w_int {i : Int} (k : q (.int i) S) : wpE T G xd (.int i) env S q := by rw [wpE]; exact k
theorem w_str {i : Str} (k : q (.str i) S) : wpE T G xd (.str i) env S q := by rw [wpE]; exact k
theorem w_bl {i : Bool} (k : q (.bl i) S) : wpE T G xd (.bl i) env S q := by rw [wpE]; exact k
theorem w_non (k : q .non S) : wpE T G xd .non env S q := by rw [wpE]; exact k
theorem w_cst {p : Str × D} (h : T.cst[i]? = some p) (k : q p.2 S) : wpE T G xd (.cst i) env S q := by rw [wpE]; exact ⟨p, h, k⟩
theorem w_tup (k : wpEs T G xd es env S fun ds S1 => ds.length ≤ 100000 ∧ q (.tup ds) S1) : wpE T G xd (.tup es) env S q := by rw [wpE]; exact k
theorem w_lst (k : wpEs T G xd es env S fun ds S1 => ds.length ≤ 100000 ∧ q (.lst ds) S1) : wpE T G xd (.lst es) env S q := by rw [wpE]; exact k
theorem w_mls (k : wpEs T G xd es env S fun ds S1 => ds.length ≤ 100000 ∧ ∀ n, S1 n = none → q (.loc n) (put S1 n (.lst ds))) : wpE T G xd (.mls es) env S q := by rw [wpE]; exact k
theorem w_dic {ks : List L2.Key} (k : wpEs T G xd es env S fun ds S1 => ∀ n, S1 n = none → q (.loc n) (put S1 n (.dic (ks.zip ds)))) : wpE T G xd (.dic ks es) env S q := by rw [wpE]; exact k
theorem w_bin {o : Op} (k : wpE T G xd a env S fun x S1 => wpE T G xd b env S1 fun y S2 => BinW o S2 x y q) : wpE T G xd (.bin o a b) env S q := by rw [wpE]; exact k
theorem w_cmp {o : Cp} (k : wpE T G xd a env S fun x S1 => wpE T G xd b env S1 fun y S2 => CmpW o S2 x y fun k => q (.bl k) S2) : wpE T G xd (.cmp o a b) env S q := by rw [wpE]; exact k
theorem w_chn {o p : Cp} (k : wpE T G xd a env S fun x S1 => wpE T G xd b env S1 fun y S2 => CmpW o S2 x y fun k => IteW k (wpE T G xd c env S2 fun z S3 => CmpW p S3 y z fun k' => q (.bl k') S3) (q (.bl false) S2)) : wpE T G xd (.chn o p a b c) env S q := by rw [wpE]; exact k
theorem w_and (k : wpE T G xd a env S fun x S1 => TruW S1 x fun k => IteW k (wpE T G xd b env S1 q) (q x S1)) : wpE T G xd (.and a b) env S q := by rw [wpE]; exact k
theorem w_or (k : wpE T G xd a env S fun x S1 => TruW S1 x fun k => IteW k (q x S1) (wpE T G xd b env S1 q)) : wpE T G xd (.or a b) env S q := by rw [wpE]; exact k
theorem w_not (k : wpE T G xd a env S fun x S1 => TruW S1 x fun k => q (.bl (!k)) S1) : wpE T G xd (.not a) env S q := by rw [wpE]; exact k
theorem w_neg (k : wpE T G xd a env S fun x S1 => NegW S1 x q) : wpE T G xd (.neg a) env S q := by rw [wpE]; exact k
theorem w_ife (k : wpE T G xd c env S fun x S1 => TruW S1 x fun k => IteW k (wpE T G xd a env S1 q) (wpE T G xd b env S1 q)) : wpE T G xd (.ife c a b) env S q := by rw [wpE]; exact k
theorem w_ix (k : wpE T G xd a env S fun x S1 => wpE T G xd b env S1 fun y S2 => IxW S2 x y q) : wpE T G xd (.ix a b) env S q := by rw [wpE]; exact k
theorem w_sl {lo hi : Es} (k : wpE T G xd a env S fun x S1 => wpEs T G xd lo env S1 fun l S2 => LoW l fun l' => wpEs T G xd hi env S2 fun h S3 => LoW h fun h' => SlW S3 x l'[0]? h'[0]? q) : wpE T G xd (.sl a lo hi) env S q := by rw [wpE]; exact k
theorem w_rev (k : wpE T G xd a env S fun x S1 => RevW S1 x q) : wpE T G xd (.rev a) env S q := by rw [wpE]; exact k
theorem w_call {f : Nat} (k : wpEs T G xd es env S fun ds S1 => G f ds S1 q xd) : wpE T G xd (.call f es) env S q := by rw [wpE]; exact k
theorem w_bif {b : Bi} (k : wpEs T G xd es env S fun ds S1 => BifW b S1 ds q) : wpE T G xd (.bif b es) env S q := by rw [wpE]; exact k
theorem w_isi {t : Nat} (k : wpE T G xd a env S fun x S1 => IsiW S1 x t q) : wpE T G xd (.isi a t) env S q := by rw [wpE]; exact k
theorem w_mli (k : wpE T G xd a env S fun x S1 => ∃ xs, seqD S1 x = some xs ∧ ∀ n, S1 n = none → q (.loc n) (put S1 n (.lst xs))) : wpE T G xd (.mli a) env S q := by rw [wpE]; exact k
theorem w_meth {m : Mt} (k : wpE T G xd o env S fun x S1 => KindW S1 x m (wpEs T G xd es env S1 fun ds S2 => MtW m S2 x ds q)) : wpE T G xd (.meth m o es) env S q := by rw [wpE]; exact k
theorem w_fz (k : wpE T G xd e env S fun x S1 => ∃ n xs, x = .loc n ∧ S1 n = some (.lst xs) ∧ q (.lst xs) (del S1 n)) : wpE T G xd (.fz e) env S q := by rw [wpE]; exact k
theorem w_chn3 {o p r : Cp} {a b c d : E} (k : wpE T G xd a env S fun x S1 => wpE T G xd b env S1 fun y S2 => CmpW o S2 x y fun k => IteW k (wpE T G xd c env S2 fun z S3 => CmpW p S3 y z fun k' => IteW k' (wpE T G xd d env S3 fun w S4 => CmpW r S4 z w fun k'' => q (.bl k'') S4) (q (.bl false) S3)) (q (.bl false) S2)) : wpE T G xd (.chn3 o p r a b c d) env S q := by rw [wpE]; exact k
theorem w_mdc (k : wpE T G xd a env S fun x S1 => McW S1 x q) : wpE T G xd (.mdc a) env S q := by rw [wpE]; exact k
theorem w_den (k : wpE T G xd a env S fun x S1 => ∃ xs, seqD S1 x = some xs ∧ ∀ m, S1 m = none → q (.loc m) (put S1 m (.dic (numD 0 xs)))) : wpE T G xd (.den a) env S q := by rw [wpE]; exact k
theorem w_nil {q : List D → Sto → Prop} (k : q [] S) : wpEs T G xd .nil env S q := by rw [wpEs]; exact k
theorem w_cons {q : List D → Sto → Prop} (k : wpE T G xd e env S fun x S1 => wpEs T G xd es env S1 fun xs S2 => q (x :: xs) S2) : wpEs T G xd (.cons e es) env S q := by rw [wpEs]; exact k
theorem w_rng {q : List D → (Sto → Prop) → Sto → Prop} (k : wpEs T G xd es env S fun ds S1 => rngW ds fun xs => q xs (fun _ => True) S1) : wpI T G xd (.rng es) env S q := by rw [wpI]; exact k
theorem w_seq {q : List D → (Sto → Prop) → Sto → Prop} (k : wpE T G xd e env S fun x S1 => ∃ xs, seqD S1 x = some xs ∧ q xs (chkD x xs) S1) : wpI T G xd (.seq e) env S q := by rw [wpI]; exact k
theorem w_enm {q : List D → (Sto → Prop) → Sto → Prop} (k : wpE T G xd e env S fun x S1 => ∃ xs, seqD S1 x = some xs ∧ q (enumD 0 xs) (chkD x xs) S1) : wpI T G xd (.enm e) env S q := by rw [wpI]; exact k
theorem w_rvs {q : List D → (Sto → Prop) → Sto → Prop} (k : wpE T G xd e env S fun x S1 => ∃ xs, seqD S1 x = some xs ∧ q xs.reverse (chkD x xs) S1) : wpI T G xd (.rvs e) env S q := by rw [wpI]; exact k
/-! statements -/
variable {s : St} {ss : List St} {nx bk ct : Env → Sto → Prop} {rt : Q1}
theorem w_end (k : nx env S) : wpSs T G xd [] ⟨nx, rt, bk, ct⟩ env S := by rw [wpSs]; exact k
theorem w_then (k : wpS T G xd s ⟨fun e S1 => wpSs T G xd ss ⟨nx, rt, bk, ct⟩ e S1, rt, bk, ct⟩ env S) : wpSs T G xd (s :: ss) ⟨nx, rt, bk, ct⟩ env S := by rw [wpSs]; exact k
theorem w_set (k : wpE T G xd e env S fun x S1 => nx (env.set i (some x)) S1) : wpS T G xd (.set i e) ⟨nx, rt, bk, ct⟩ env S := by rw [wpS]; exact k
theorem w_setT {is : List Nat} (k : wpE T G xd e env S fun x S1 => ∃ env', bindT (.tp is) x env = some env' ∧ nx env' S1) : wpS T G xd (.setT is e) ⟨nx, rt, bk, ct⟩ env S := by rw [wpS]; exact k
theorem w_setI (k : wpE T G xd e env S fun v S1 => wpE T G xd a env S1 fun x S2 => wpE T G xd b env S2 fun y S3 => SetW S3 x y v fun S4 => nx env S4) : wpS T G xd (.setI a b e) ⟨nx, rt, bk, ct⟩ env S := by rw [wpS]; exact k
theorem w_ifs {a b : List St} (k : wpE T G xd c env S fun x S1 => TruW S1 x fun k => IteW k (wpSs T G xd a ⟨nx, rt, bk, ct⟩ env S1) (wpSs T G xd b ⟨nx, rt, bk, ct⟩ env S1)) : wpS T G xd (.ifs c a b) ⟨nx, rt, bk, ct⟩ env S := by rw [wpS, wpT]; exact k
theorem w_for {t : Tg} {it : It} {b : List St} (k : wpI T G xd it env S fun xs chk S1 => forL chk (bindT t) (wpSs T G xd b) ⟨nx, rt, bk, ct⟩ xs env S1) : wpS T G xd (.for_ t it b) ⟨nx, rt, bk, ct⟩ env S := by rw [wpS]; exact k
theorem w_wh {b : List St} (k : ∃ n, whL (wpT T G xd c) (wpSs T G xd b) ⟨nx, rt, bk, ct⟩ n env S) : wpS T G xd (.wh c b) ⟨nx, rt, bk, ct⟩ env S := by rw [wpS]; exact k
theorem w_ret (k : wpE T G xd e env S rt) : wpS T G xd (.ret e) ⟨nx, rt, bk, ct⟩ env S := by rw [wpS]; exact k
theorem w_retN (k : rt .non S) : wpS T G xd .retN ⟨nx, rt, bk, ct⟩ env S := by rw [wpS]; exact k
theorem w_ex (k : wpE T G xd e env S fun _ S1 => nx env S1) : wpS T G xd (.ex e) ⟨nx, rt, bk, ct⟩ env S := by rw [wpS]; exact k
theorem w_brk (k : bk env S) : wpS T G xd .brk ⟨nx, rt, bk, ct⟩ env S := by rw [wpS]; exact k
theorem w_cont (k : ct env S) : wpS T G xd .cont ⟨nx, rt, bk, ct⟩ env S := by rw [wpS]; exact k
theorem w_pass (k : nx env S) : wpS T G xd .pass ⟨nx, rt, bk, ct⟩ env S := by rw [wpS]; exact k
theorem w_body {b : List St} {q : Q1} (k : wpSs T G xd b ⟨fun _ S' => ∃ S'', Sub S'' S' ∧ q .non S'', fun d S' => ∃ S'', Sub S'' S' ∧ q d S'', fun _ _ => False, fun _ _ => False⟩ env S) : wpSs T G xd b (bodyEn q) env S := k
end
section
variable {S : Sto} {q : Q1} {qb : Bool → Prop} {A B : Prop} {i j : Int} {x y z : D}
theorem ite_dec {p : Prop} [Decidable p] (h : p → A) (k : ¬ p → B) : IteW (decide p) A B := by
  unfold IteW
  by_cases e : p
  · rw [if_pos (decide_eq_true e)]; exact h e
  · rw [if_neg (by simpa using e)]; exact k e
theorem ite_ndec {p : Prop} [Decidable p] (h : ¬ p → A) (k : p → B) : IteW (!decide p) A B := by
  unfold IteW
  by_cases e : p
  · rw [if_neg (by simpa using e)]; exact k e
  · rw [if_pos (by simpa using e)]; exact h e
theorem ite_no {p : Prop} [Decidable p] (h : ¬ p) (k : B) : IteW (decide p) A B := ite_dec (fun e => absurd e h) fun _ => k
theorem ite_yes {p : Prop} [Decidable p] (h : p) (k : A) : IteW (decide p) A B := ite_dec (fun _ => k) fun e => absurd h e
theorem ite_nno {p : Prop} [Decidable p] (h : p) (k : B) : IteW (!decide p) A B := ite_ndec (fun e => absurd h e) fun _ => k
theorem ite_nyes {p : Prop} [Decidable p] (h : ¬ p) (k : A) : IteW (!decide p) A B := ite_ndec (fun _ => k) fun e => absurd e h
theorem ite_t (h : A) : IteW true A B := by unfold IteW; rw [if_pos rfl]; exact h
theorem ite_f (h : B) : IteW false A B := by unfold IteW; rw [if_neg Bool.false_ne_true]; exact h
theorem ite_b {b : Bool} (h : b = true → A) (k : b = false → B) : IteW b A B := by
  cases b with
  | true => exact ite_t (h rfl)
  | false => exact ite_f (k rfl)
theorem ite_nb {b : Bool} (h : b = false → A) (k : b = true → B) : IteW (!b) A B := by
  cases b with
  | true => exact ite_f (k rfl)
  | false => exact ite_t (h rfl)
theorem tru_bl {b : Bool} (k : qb b) : TruW S (.bl b) qb := ⟨b, rfl, k⟩
theorem tru_int (k : qb (decide (i ≠ 0))) : TruW S (.int i) qb := ⟨_, rfl, by
  have : (i != 0) = decide (i ≠ 0) := by by_cases h : i = 0 <;> simp [h]
  rw [this]; exact k⟩
theorem tru_ok {b : Bool} (h : truD S x = some b) (k : qb b) : TruW S x qb := ⟨b, h, k⟩
theorem bin_add (k : q (.int (i + j)) S) : BinW .add S (.int i) (.int j) q := ⟨_, rfl, k⟩
theorem bin_sub (k : q (.int (i - j)) S) : BinW .sub S (.int i) (.int j) q := ⟨_, rfl, k⟩
theorem bin_mul (h : (-(2 ^ 64) < i ∧ i < 2 ^ 64) ∨ (-(2 ^ 64) < j ∧ j < 2 ^ 64)) (k : q (.int (i * j)) S) : BinW .mul S (.int i) (.int j) q := ⟨_, by
  show (if mulOk i j = true then some (D.int (i * j)) else none) = _
  rw [if_pos (by unfold mulOk; simpa using h)], k⟩
theorem bin_fdiv (h : 0 < j ∧ j < 2 ^ 64) (k : q (.int (i / j)) S) : BinW .fdiv S (.int i) (.int j) q := ⟨_, if_pos h, k⟩
theorem bin_mod (h : 0 < j) (k : q (.int (i % j)) S) : BinW .mod S (.int i) (.int j) q := ⟨_, if_pos h, k⟩
theorem bin_pow (h : 0 ≤ j ∧ j ≤ 100 ∧ 0 ≤ i ∧ i ≤ 10) (k : q (.int (i ^ j.toNat)) S) : BinW .pow S (.int i) (.int j) q := ⟨_, if_pos h, k⟩
theorem bin_addT {a b : List D} (h : a.length + b.length ≤ sizeLine) (k : q (.tup (a ++ b)) S) : BinW .add S (.tup a) (.tup b) q := ⟨_, if_pos h, k⟩
theorem bin_addL {a b : List D} (h : a.length + b.length ≤ sizeLine) (k : q (.lst (a ++ b)) S) : BinW .add S (.lst a) (.lst b) q := ⟨_, by
  show (if a.length + b.length ≤ sizeLine then some (D.lst (a ++ b)) else none) = _
  rw [if_pos h], k⟩
theorem bin_addS {a b : Str} (h : a.length + b.length ≤ sizeLine) (k : q (.str (a ++ b)) S) : BinW .add S (.str a) (.str b) q := ⟨_, if_pos h, k⟩
theorem cmp_lt (k : qb (decide (i < j))) : CmpW .lt S (.int i) (.int j) qb := ⟨_, rfl, k⟩
theorem cmp_le (k : qb (decide (i ≤ j))) : CmpW .le S (.int i) (.int j) qb := ⟨_, rfl, k⟩
theorem cmp_gt (k : qb (decide (j < i))) : CmpW .gt S (.int i) (.int j) qb := ⟨_, rfl, k⟩
theorem cmp_ge (k : qb (decide (j ≤ i))) : CmpW .ge S (.int i) (.int j) qb := ⟨_, rfl, k⟩
theorem cmp_eqI (k : qb (decide (i = j))) : CmpW .eq S (.int i) (.int j) qb := ⟨_, rfl, k⟩
theorem cmp_neI (k : qb (!decide (i = j))) : CmpW .ne S (.int i) (.int j) qb := ⟨_, rfl, k⟩
theorem cmp_eqS {a b : Str} (k : qb (decide (a = b))) : CmpW .eq S (.str a) (.str b) qb := ⟨_, rfl, k⟩
theorem cmp_neS {a b : Str} (k : qb (!decide (a = b))) : CmpW .ne S (.str a) (.str b) qb := ⟨_, rfl, k⟩
theorem cmp_of {o : Cp} {b : Bool} (h : cmpD o S x y = some b) (k : qb b) : CmpW o S x y qb := ⟨b, h, k⟩
theorem ixw_of (h : ixD S x y = some z) (k : q z S) : IxW S x y q := ⟨z, h, k⟩
theorem ix_dic {n : Nat} {kvs : List (L2.Key × D)} {x : Str} (h : S n = some (.dic kvs)) (h2 : lkD kvs (.inr x) = some z) (k : q z S) : IxW S (.loc n) (.str x) q := ⟨z, by
  simp only [ixD, h]; exact h2, k⟩
theorem ix_dicI {n : Nat} {kvs : List (L2.Key × D)} (h : S n = some (.dic kvs)) (h2 : lkD kvs (.inl i) = some z) (k : q z S) : IxW S (.loc n) (.int i) q := ⟨z, by
  simp only [ixD, h]; exact h2, k⟩
theorem ix_mls {n : Nat} {xs : List D} (h : S n = some (.lst xs)) (h2 : L2.atI xs i = some z) (k : q z S) : IxW S (.loc n) (.int i) q := ⟨z, by
  simp only [ixD, h]; exact h2, k⟩
theorem ix_lst {xs : List D} (h2 : L2.atI xs i = some z) (k : q z S) : IxW S (.lst xs) (.int i) q := ⟨z, h2, k⟩
theorem ix_tup {xs : List D} (h2 : L2.atI xs i = some z) (k : q z S) : IxW S (.tup xs) (.int i) q := ⟨z, h2, k⟩
theorem set_dic {n : Nat} {kvs : List (L2.Key × D)} {x : Str} {v : D} {q : Sto → Prop} (h : S n = some (.dic kvs)) (hl : kvs.length < 1000000) (k : q (put S n (.dic (putD kvs (.inr x) v)))) : SetW S (.loc n) (.str x) v q := ⟨_, by
  simp only [setIx, h, keyD, if_pos hl], k⟩
theorem set_dicI {n : Nat} {kvs : List (L2.Key × D)} {v : D} {q : Sto → Prop} (h : S n = some (.dic kvs)) (hl : kvs.length < 1000000) (k : q (put S n (.dic (putD kvs (.inl i) v)))) : SetW S (.loc n) (.int i) v q := ⟨_, by
  simp only [setIx, h, keyD, if_pos hl], k⟩
theorem set_mls {n j : Nat} {xs : List D} {v : D} {q : Sto → Prop} (h : S n = some (.lst xs)) (hj : L2.ixN xs.length i = some j) (k : q (put S n (.lst (xs.set j v)))) : SetW S (.loc n) (.int i) v q := ⟨_, by
  simp only [setIx, h, hj, Option.map_some], k⟩
theorem bif_of {b : Bi} {ds : List D} (h : biD b S ds = some z) (k : q z S) : BifW b S ds q := ⟨z, h, k⟩
theorem len_tup {xs : List D} (k : q (.int (xs.length : Int)) S) : BifW .len S [.tup xs] q := ⟨_, rfl, k⟩
theorem len_lst {xs : List D} (k : q (.int (xs.length : Int)) S) : BifW .len S [.lst xs] q := ⟨_, rfl, k⟩
theorem len_mls {n : Nat} {xs : List D} (h : S n = some (.lst xs)) (k : q (.int (xs.length : Int)) S) : BifW .len S [.loc n] q := ⟨_, by
  show (lenD S (.loc n)).map _ = _
  simp only [lenD, seqD, h, Option.map_some], k⟩
theorem int_bl {b : Bool} (k : q (.int (if b then 1 else 0)) S) : BifW .int S [.bl b] q := ⟨_, rfl, k⟩
theorem max_2 (k : q (.int (max i j)) S) : BifW .max2 S [.int i, .int j] q := ⟨_, rfl, k⟩
theorem min_2 (k : q (.int (min i j)) S) : BifW .min2 S [.int i, .int j] q := ⟨_, rfl, k⟩
theorem tuple_lst {xs : List D} (k : q (.tup xs) S) : BifW .tuple S [.lst xs] q := ⟨_, rfl, k⟩
theorem list_tup {xs : List D} (k : q (.lst xs) S) : BifW .list S [.tup xs] q := ⟨_, rfl, k⟩
theorem neg_int (k : q (.int (-i)) S) : NegW S (.int i) q := ⟨i, rfl, k⟩
theorem lo_nil' {k : List Int → Prop} (h : k []) : LoW [] k := ⟨[], rfl, h⟩
theorem lo_one' {k : List Int → Prop} (h : k [i]) : LoW [.int i] k := ⟨[i], rfl, h⟩
theorem sl_tup {xs : List D} {lo hi : Option Int} (k : q (.tup (cutD xs lo hi)) S) : SlW S (.tup xs) lo hi q := ⟨_, rfl, k⟩
theorem sl_lst {xs : List D} {lo hi : Option Int} (k : q (.lst (cutD xs lo hi)) S) : SlW S (.lst xs) lo hi q := ⟨_, rfl, k⟩
theorem sl_scr {xs : List Int} {lo hi : Option Int} (k : q (.lst ((cutD xs lo hi).map .int)) S) : SlW S (.scr xs) lo hi q := ⟨_, rfl, k⟩
theorem rev_tup {xs : List D} (k : q (.tup xs.reverse) S) : RevW S (.tup xs) q := ⟨_, rfl, k⟩
theorem rev_lst {xs : List D} (k : q (.lst xs.reverse) S) : RevW S (.lst xs) q := ⟨_, rfl, k⟩
theorem isi_non0 (k : q (.bl false) S) : IsiW S (.non) 0 q := ⟨_, by kernel_rfl, k⟩
theorem isi_non1 (k : q (.bl false) S) : IsiW S (.non) 1 q := ⟨_, by kernel_rfl, k⟩
theorem isi_non2 (k : q (.bl false) S) : IsiW S (.non) 2 q := ⟨_, by kernel_rfl, k⟩
theorem isi_non3 (k : q (.bl false) S) : IsiW S (.non) 3 q := ⟨_, by kernel_rfl, k⟩
theorem isi_non4 (k : q (.bl false) S) : IsiW S (.non) 4 q := ⟨_, by kernel_rfl, k⟩
theorem isi_bl0 {b : Bool} (k : q (.bl true) S) : IsiW S (.bl b) 0 q := ⟨_, by kernel_rfl, k⟩
theorem isi_bl1 {b : Bool} (k : q (.bl true) S) : IsiW S (.bl b) 1 q := ⟨_, by kernel_rfl, k⟩
theorem isi_bl2 {b : Bool} (k : q (.bl false) S) : IsiW S (.bl b) 2 q := ⟨_, by kernel_rfl, k⟩
theorem isi_bl3 {b : Bool} (k : q (.bl false) S) : IsiW S (.bl b) 3 q := ⟨_, by kernel_rfl, k⟩
theorem isi_bl4 {b : Bool} (k : q (.bl false) S) : IsiW S (.bl b) 4 q := ⟨_, by kernel_rfl, k⟩
theorem isi_int0 (k : q (.bl true) S) : IsiW S (.int i) 0 q := ⟨_, by kernel_rfl, k⟩
theorem isi_int1 (k : q (.bl false) S) : IsiW S (.int i) 1 q := ⟨_, by kernel_rfl, k⟩
theorem isi_int2 (k : q (.bl false) S) : IsiW S (.int i) 2 q := ⟨_, by kernel_rfl, k⟩
theorem isi_int3 (k : q (.bl false) S) : IsiW S (.int i) 3 q := ⟨_, by kernel_rfl, k⟩
theorem isi_int4 (k : q (.bl false) S) : IsiW S (.int i) 4 q := ⟨_, by kernel_rfl, k⟩
theorem isi_str0 {x : Str} (k : q (.bl false) S) : IsiW S (.str x) 0 q := ⟨_, by kernel_rfl, k⟩
theorem isi_str1 {x : Str} (k : q (.bl false) S) : IsiW S (.str x) 1 q := ⟨_, by kernel_rfl, k⟩
theorem isi_str2 {x : Str} (k : q (.bl true) S) : IsiW S (.str x) 2 q := ⟨_, by kernel_rfl, k⟩
theorem isi_str3 {x : Str} (k : q (.bl false) S) : IsiW S (.str x) 3 q := ⟨_, by kernel_rfl, k⟩
theorem isi_str4 {x : Str} (k : q (.bl false) S) : IsiW S (.str x) 4 q := ⟨_, by kernel_rfl, k⟩
theorem isi_tup0 {xs : List D} (k : q (.bl false) S) : IsiW S (.tup xs) 0 q := ⟨_, by kernel_rfl, k⟩
theorem isi_tup1 {xs : List D} (k : q (.bl false) S) : IsiW S (.tup xs) 1 q := ⟨_, by kernel_rfl, k⟩
theorem isi_tup2 {xs : List D} (k : q (.bl false) S) : IsiW S (.tup xs) 2 q := ⟨_, by kernel_rfl, k⟩
theorem isi_tup3 {xs : List D} (k : q (.bl true) S) : IsiW S (.tup xs) 3 q := ⟨_, by kernel_rfl, k⟩
theorem isi_tup4 {xs : List D} (k : q (.bl false) S) : IsiW S (.tup xs) 4 q := ⟨_, by kernel_rfl, k⟩
theorem isi_lst0 {xs : List D} (k : q (.bl false) S) : IsiW S (.lst xs) 0 q := ⟨_, by kernel_rfl, k⟩
theorem isi_lst1 {xs : List D} (k : q (.bl false) S) : IsiW S (.lst xs) 1 q := ⟨_, by kernel_rfl, k⟩
theorem isi_lst2 {xs : List D} (k : q (.bl false) S) : IsiW S (.lst xs) 2 q := ⟨_, by kernel_rfl, k⟩
theorem isi_lst3 {xs : List D} (k : q (.bl false) S) : IsiW S (.lst xs) 3 q := ⟨_, by kernel_rfl, k⟩
theorem isi_lst4 {xs : List D} (k : q (.bl true) S) : IsiW S (.lst xs) 4 q := ⟨_, by kernel_rfl, k⟩
theorem ite_nt (h : B) : IteW (!true) A B := ite_f h
theorem ite_nf (h : A) : IteW (!false) A B := ite_t h
theorem sub_put {n : Nat} {o : Ob} (h : S n = none) : Sub S (put S n o) := fun m u e => by
  by_cases q : m = n
  · subst q; rw [h] at e; cases e
  · rw [put_ne q]; exact e
theorem mc_dic {n : Nat} {kvs : List (L2.Key × D)} (h : S n = some (.dic kvs)) (k : ∀ m, S m = none → q (.loc m) (put S m (.dic kvs))) : McW S (.loc n) q := ⟨n, kvs, rfl, h, k⟩
theorem bin_mulL {xs : List D} (h : -(2 ^ 63) ≤ i ∧ i < 2 ^ 63 ∧ xs.length * i.toNat ≤ sizeLine) (k : q (.lst (List.replicate i.toNat xs).flatten) S) : BinW .mul S (.lst xs) (.int i) q := ⟨_, if_pos h, k⟩
theorem cmp_eqD (h : dicEq S x y = true) (k : qb true) : CmpW .eq S x y qb := ⟨true, if_pos h, k⟩
theorem cmp_neD (h : dicEq S x y = true) (k : qb false) : CmpW .ne S x y qb := ⟨false, if_pos h, k⟩
theorem sub_end {S' : Sto} {d : D} (k : q d S') : ∃ S'', Sub S'' S' ∧ q d S'' := ⟨S', Sub.refl _, k⟩
/-! loops -/
/-- by an invariant over what is left -/
theorem for_by {chk : Sto → Prop} {bd : D → Env → Option Env} {body : En → Env → Sto → Prop} {nx bk ct : Env → Sto → Prop} {rt : Q1} (I : List D → Env → Sto → Prop) (hc : ∀ xs e S, I xs e S → chk S)
    (step : ∀ x xs e S, I (x :: xs) e S → ∀ nx' : Env → Sto → Prop, (∀ e' S', I xs e' S' → nx' e' S') → ∃ e1, bd x e = some e1 ∧ body ⟨nx', rt, nx, nx'⟩ e1 S)
    (fin : ∀ e S, I [] e S → nx e S) : ∀ xs e S, I xs e S → forL chk bd body ⟨nx, rt, bk, ct⟩ xs e S
  | [], e, S, h => ⟨hc _ _ _ h, fin e S h⟩
  | x :: xs, e, S, h => by
    obtain ⟨e1, h1, h2⟩ := step x xs e S h (forL chk bd body ⟨nx, rt, bk, ct⟩ xs) (for_by I hc step fin xs)
    exact ⟨hc _ _ _ h, e1, h1, h2⟩
theorem for_nil {chk : Sto → Prop} {bd : D → Env → Option Env} {body : En → Env → Sto → Prop} {nx bk ct : Env → Sto → Prop} {rt : Q1} {e : Env} (h : chk S) (k : nx e S) : forL chk bd body ⟨nx, rt, bk, ct⟩ [] e S := ⟨h, k⟩
theorem for_cons {chk : Sto → Prop} {bd : D → Env → Option Env} {body : En → Env → Sto → Prop} {nx bk ct : Env → Sto → Prop} {rt : Q1} {e e1 : Env} {xs : List D} (h : chk S) (hb : bd x e = some e1) (k : body ⟨forL chk bd body ⟨nx, rt, bk, ct⟩ xs, rt, nx, forL chk bd body ⟨nx, rt, bk, ct⟩ xs⟩ e1 S) : forL chk bd body ⟨nx, rt, bk, ct⟩ (x :: xs) e S := ⟨h, e1, hb, k⟩
/-- a comprehension by an invariant -/
theorem lc_by {chk : Sto → Prop} {bd : D → Option Env} {cond : Env → Sto → (Bool → Sto → Prop) → Prop} {elt : Env → Sto → Q1 → Prop} {q : List D → Sto → Prop} (I : List D → List D → Sto → Prop) (hc : ∀ xs acc S, I xs acc S → chk S) (hl : ∀ x xs acc S, I (x :: xs) acc S → acc.length < 1000000)
    (step : ∀ x xs acc S, I (x :: xs) acc S → ∀ (kt : Q1) (kf : Sto → Prop), (∀ y S', I xs (acc ++ [y]) S' → kt y S') → (∀ S', I xs acc S' → kf S') → ∃ e1, bd x = some e1 ∧ cond e1 S fun b S1 => if b = true then elt e1 S1 kt else kf S1)
    (fin : ∀ acc S, I [] acc S → q acc S) : ∀ xs acc S, I xs acc S → lcL chk bd cond elt xs acc S q
  | [], acc, S, h => ⟨hc _ _ _ h, fin acc S h⟩
  | x :: xs, acc, S, h => by
    obtain ⟨e1, h1, h2⟩ := step x xs acc S h (fun y S2 => acc.length < 1000000 ∧ lcL chk bd cond elt xs (acc ++ [y]) S2 q) (fun S1 => lcL chk bd cond elt xs acc S1 q) (fun y S' z => ⟨hl _ _ _ _ h, lc_by I hc hl step fin xs _ _ z⟩) fun S' z => lc_by I hc hl step fin xs _ _ z
    exact ⟨hc _ _ _ h, e1, h1, h2⟩
theorem w_lc {T : Tab} {G : GT} {xd : XD} {env : Env} {S : Sto} {q : Q1} {e : E} {t : Tg} {it : It} {c : Es} {own : List Nat} (k : wpI T G xd it env S fun xs chk S1 => lcL chk (fun x => bindT t x (wipeD env own)) (fun e1 S q => wpEs T G xd c e1 S fun ds S2 => match ds with
      | [] => q true S2
      | x :: _ => ∃ k, truD S2 x = some k ∧ q k S2) (fun e1 S q => wpE T G xd e e1 S q) xs [] S1 fun ys S2 => q (.lst ys) S2) : wpE T G xd (.lc e t it c own) env S q := by rw [wpE]; exact k
theorem w_mlc {T : Tab} {G : GT} {xd : XD} {env : Env} {S : Sto} {q : Q1} {e : E} {t : Tg} {it : It} {c : Es} {own : List Nat} (k : wpI T G xd it env S fun xs chk S1 => lcL chk (fun x => bindT t x (wipeD env own)) (fun e1 S q => wpEs T G xd c e1 S fun ds S2 => match ds with
      | [] => q true S2
      | x :: _ => ∃ k, truD S2 x = some k ∧ q k S2) (fun e1 S q => wpE T G xd e e1 S q) xs [] S1 fun ys S2 => ∀ n, S2 n = none → q (.loc n) (put S2 n (.lst ys))) : wpE T G xd (.mlc e t it c own) env S q := by rw [wpE]; exact k
end
end Mi
set_option maxHeartbeats 400000
/-! Mi20: a feed: what draws leave. -/
namespace Mi
open PySem

theorem put_at {S : Sto} {n m : Nat} {o : Ob} : put S n o m = if m = n then some o else S m := rfl
def Same (S S' : Sto) (f : Nat) : Prop := ∀ n, n ≠ f → S' n = S n
theorem Same.refl (S : Sto) (f : Nat) : Same S S f := fun _ _ => rfl
theorem Same.trans {S S1 S2 : Sto} {f : Nat} (a : Same S S1 f) (b : Same S1 S2 f) : Same S S2 f := fun n h => (b n h).trans (a n h)
theorem Same.put {S S1 : Sto} {f : Nat} (a : Same S S1 f) (o : Ob) : Same S (put S1 f o) f := fun n h => (put_ne h).trans (a n h)

def kv (cs : List Int) (a l t : Int) : List (L2.Key × D) := [(.inr "cells", .lst (cs.map .int)), (.inr "at", .int a), (.inr "left", .int l), (.inr "turn", .int t)]
theorem kv_c {cs a l t} : lkD (kv cs a l t) (.inr "cells") = some (.lst (cs.map .int)) := by kernel_rfl
theorem kv_a {cs a l t} : lkD (kv cs a l t) (.inr "at") = some (.int a) := by kernel_rfl
theorem kv_l {cs a l t} : lkD (kv cs a l t) (.inr "left") = some (.int l) := by kernel_rfl
theorem kv_t {cs a l t} : lkD (kv cs a l t) (.inr "turn") = some (.int t) := by kernel_rfl
theorem kp_a {cs a l t x} : putD (kv cs a l t) (.inr "at") (.int x) = kv cs x l t := by kernel_rfl
theorem kp_l {cs a l t x} : putD (kv cs a l t) (.inr "left") (.int x) = kv cs a x t := by kernel_rfl
theorem kp_t {cs a l t x} : putD (kv cs a l t) (.inr "turn") (.int x) = kv cs a l x := by kernel_rfl
theorem kv_n {cs a l t} : (kv cs a l t).length < 1000000 := by show 4 < 1000000; decide
section
variable {S : Sto} {f : Nat} {cs : List Int} {a l t x : Int} {q : Sto → Prop}
theorem fs_a (h : S f = some (.dic (kv cs a l t))) (k : q (put S f (.dic (kv cs x l t)))) : SetW S (.loc f) (.str "at") (.int x) q := set_dic h kv_n (by rw [kp_a]; exact k)
theorem fs_l (h : S f = some (.dic (kv cs a l t))) (k : q (put S f (.dic (kv cs a x t)))) : SetW S (.loc f) (.str "left") (.int x) q := set_dic h kv_n (by rw [kp_l]; exact k)
theorem fs_t (h : S f = some (.dic (kv cs a l t))) (k : q (put S f (.dic (kv cs a l x)))) : SetW S (.loc f) (.str "turn") (.int x) q := set_dic h kv_n (by rw [kp_t]; exact k)
end
/-- f holds a feed, its turn at most t -/
def Fd (S : Sto) (f : Nat) (t : Int) : Prop := ∃ cs a l u, S f = some (.dic (kv cs a l u)) ∧ 0 ≤ u ∧ u ≤ t ∧ 0 ≤ a ∧ a ≤ u ∧ cs.length ≤ 63
theorem Fd.mono {S : Sto} {f : Nat} {t t' : Int} (h : Fd S f t) (e : t ≤ t') : Fd S f t' := let ⟨cs, a, l, u, h1, h2, h3, h4⟩ := h; ⟨cs, a, l, u, h1, h2, Int.le_trans h3 e, h4⟩
theorem Fd.same {S S' : Sto} {f : Nat} {t : Int} (h : Fd S f t) (e : S' f = S f) : Fd S' f t := let ⟨cs, a, l, u, h1, h2⟩ := h; ⟨cs, a, l, u, e.trans h1, h2⟩
/-- a draw's promise -/
def spDraw : List D → Sto → Q1 → XD → Prop := fun ds S q _ => ∃ f m t, ds = [.loc f, .int m] ∧ 0 < m ∧ m < 2 ^ 60 ∧ t < 2 ^ 60 ∧ Fd S f t ∧ ∀ r S', 0 ≤ r → r < m → Same S S' f → Fd S' f (t + 1) → q (.int r) S'
def drawB : List St := [.set 2 (.bin .add (.ix (.var 0) (.str "turn")) (.int 1)), .setI (.var 0) (.str "turn") (.var 2), .ifs (.cmp .gt (.ix (.var 0) (.str "left")) (.int 0)) [.set 6 (.bin .mod (.ix (.var 0) (.str "left")) (.var 1)), .setI (.var 0) (.str "left") (.bin .fdiv (.ix (.var 0) (.str "left")) (.var 1)), .ret (.var 6)] [], .set 3 (.ix (.var 0) (.str "cells")), .set 4 (.ife (.cmp .gt (.bif .len (.cons (.var 3) .nil)) (.int 0)) (.ix (.var 3) (.bin .mod (.ix (.var 0) (.str "at")) (.bif .len (.cons (.var 3) .nil)))) (.int 0)), .setI (.var 0) (.str "at") (.bin .add (.ix (.var 0) (.str "at")) (.int 1)), .ifs (.and (.cmp .ge (.var 4) (.bin .pow (.int 10) (.int 18))) (.cmp .le (.ix (.var 0) (.str "at")) (.bif .len (.cons (.var 3) .nil)))) [.setI (.var 0) (.str "left") (.bin .fdiv (.var 4) (.var 1)), .ret (.bin .mod (.var 4) (.var 1))] [], .set 5 (.bin .mod (.bin .mul (.bin .add (.bin .add (.bin .add (.bin .mod (.var 4) (.int 1000003)) (.bin .mul (.bin .mul (.int 31) (.var 2)) (.var 2))) (.bin .mul (.int 7) (.var 2))) (.int 11)) (.int 48271)) (.int 2147483647)), .set 5 (.bin .mod (.bin .add (.bin .mul (.bin .fdiv (.var 5) (.int 64)) (.int 69621)) (.bin .mul (.int 7919) (.var 2))) (.int 2147483587)), .ret (.bin .mod (.bin .fdiv (.var 5) (.int 64)) (.var 1))]
theorem atI_mod (cs : List Int) (a : Int) (h : 0 < cs.length) : ∃ c, L2.atI (cs.map D.int) (a % (cs.length : Int)) = some (.int c) := by
  have h1 : 0 ≤ a % (cs.length : Int) := Int.emod_nonneg _ (by omega)
  have h2 : a % (cs.length : Int) < cs.length := Int.emod_lt_of_pos _ (by omega)
  obtain ⟨k, hk⟩ := Int.eq_ofNat_of_zero_le h1
  rw [hk] at h2 ⊢
  have h3 : k < cs.length := by omega
  refine ⟨cs[k], L2.atI_nat ?_⟩
  rw [List.getElem?_map, List.getElem?_eq_getElem h3]
  rfl
theorem draw_ok {T : Tab} {G : GT} {ds : List D} {S : Sto} {q : Q1} (h : spDraw ds S q noX) : wpSs T G noX drawB (bodyEn q) (startD ["_law_feed_here", "_law_many_here", "_law_turn", "_law_cells", "_law_cell", "_law_mixed", "_law_digit"] ds) S := by
  obtain ⟨f, m, t, rfl, m0, m1, t1, ⟨cs, a, l, u, hS, u0, ut, a0, au, hc⟩, ok⟩ := h
  show wpSs T G noX drawB (bodyEn q) [some (.loc f), some (.int m), none, none, none, none, none] S
  refine w_body ?_
  unfold drawB
  have m64 : m < 2 ^ 64 := by omega
  repeat' (first | with_reducible refine ix_dic hS kv_t ?_ | with_reducible refine fs_t hS ?_ | with_reducible refine ix_dic put_same kv_l ?_ | ((with_reducible apply w_var); exact rfl) | with_reducible refine w_int ?_ | with_reducible refine w_str ?_ | with_reducible refine w_bl ?_ | with_reducible refine w_non ?_ | ((with_reducible apply w_cst); exact rfl) | with_reducible refine w_tup ?_ | with_reducible refine w_lst ?_ | with_reducible refine w_mls ?_ | with_reducible refine w_dic ?_ | with_reducible refine w_bin ?_ | with_reducible refine w_cmp ?_ | with_reducible refine w_chn ?_ | with_reducible refine w_and ?_ | with_reducible refine w_or ?_ | with_reducible refine w_not ?_ | with_reducible refine w_neg ?_ | with_reducible refine w_ife ?_ | with_reducible refine w_ix ?_ | with_reducible refine w_sl ?_ | with_reducible refine w_rev ?_ | with_reducible refine w_call ?_ | with_reducible refine w_bif ?_ | with_reducible refine w_isi ?_ | with_reducible refine w_mli ?_ | with_reducible refine w_meth ?_ | with_reducible refine w_fz ?_ | with_reducible refine w_chn3 ?_ | with_reducible refine w_mdc ?_ | with_reducible refine w_den ?_ | with_reducible refine w_nil ?_ | with_reducible refine w_cons ?_ | with_reducible refine w_rng ?_ | with_reducible refine w_seq ?_ | with_reducible refine w_rvs ?_ | with_reducible refine w_enm ?_ | with_reducible refine w_end ?_ | with_reducible refine w_then ?_ | with_reducible refine w_set ?_ | with_reducible refine w_setT ?_ | with_reducible refine w_setI ?_ | with_reducible refine w_ifs ?_ | with_reducible refine w_for ?_ | with_reducible refine w_ret ?_ | with_reducible refine w_retN ?_ | with_reducible refine w_ex ?_ | with_reducible refine w_brk ?_ | with_reducible refine w_cont ?_ | with_reducible refine w_pass ?_ | with_reducible refine w_lc ?_ | with_reducible refine w_mlc ?_ | with_reducible refine bin_add ?_ | with_reducible refine bin_sub ?_ | with_reducible refine cmp_lt ?_ | with_reducible refine cmp_le ?_ | with_reducible refine cmp_gt ?_ | with_reducible refine cmp_ge ?_ | with_reducible refine cmp_eqI ?_ | with_reducible refine cmp_neI ?_ | with_reducible refine cmp_eqS ?_ | with_reducible refine cmp_neS ?_ | with_reducible refine tru_bl ?_ | with_reducible refine tru_int ?_ | with_reducible refine len_tup ?_ | with_reducible refine len_lst ?_ | with_reducible refine int_bl ?_ | with_reducible refine max_2 ?_ | with_reducible refine min_2 ?_ | with_reducible refine tuple_lst ?_ | with_reducible refine list_tup ?_ | with_reducible refine ite_t ?_ | with_reducible refine ite_f ?_ | with_reducible refine ite_nt ?_ | with_reducible refine ite_nf ?_ | with_reducible refine neg_int ?_ | with_reducible refine lo_nil' ?_ | with_reducible refine lo_one' ?_ | with_reducible refine sl_tup ?_ | with_reducible refine sl_lst ?_ | with_reducible refine sl_scr ?_ | with_reducible refine rev_tup ?_ | with_reducible refine rev_lst ?_ | with_reducible refine isi_non0 ?_ | with_reducible refine isi_non1 ?_ | with_reducible refine isi_non2 ?_ | with_reducible refine isi_non3 ?_ | with_reducible refine isi_non4 ?_ | with_reducible refine isi_bl0 ?_ | with_reducible refine isi_bl1 ?_ | with_reducible refine isi_bl2 ?_ | with_reducible refine isi_bl3 ?_ | with_reducible refine isi_bl4 ?_ | with_reducible refine isi_int0 ?_ | with_reducible refine isi_int1 ?_ | with_reducible refine isi_int2 ?_ | with_reducible refine isi_int3 ?_ | with_reducible refine isi_int4 ?_ | with_reducible refine isi_str0 ?_ | with_reducible refine isi_str1 ?_ | with_reducible refine isi_str2 ?_ | with_reducible refine isi_str3 ?_ | with_reducible refine isi_str4 ?_ | with_reducible refine isi_tup0 ?_ | with_reducible refine isi_tup1 ?_ | with_reducible refine isi_tup2 ?_ | with_reducible refine isi_tup3 ?_ | with_reducible refine isi_tup4 ?_ | with_reducible refine isi_lst0 ?_ | with_reducible refine isi_lst1 ?_ | with_reducible refine isi_lst2 ?_ | with_reducible refine isi_lst3 ?_ | with_reducible refine isi_lst4 ?_ | ((with_reducible refine ite_no ?_ ?_); focus (first | assumption | decide))| ((with_reducible refine ite_yes ?_ ?_); focus (first | assumption | decide))| ((with_reducible refine ite_nno ?_ ?_); focus (first | assumption | decide))| ((with_reducible refine ite_nyes ?_ ?_); focus (first | assumption | decide))| ((with_reducible refine ite_no ?_ ?_); focus (first | assumption | (simp; done) | omega | (simp only [List.length_cons, List.length_nil]; omega) | decide))| ((with_reducible refine ite_yes ?_ ?_); focus (first | assumption | (simp; done) | omega | (simp only [List.length_cons, List.length_nil]; omega) | decide))| ((with_reducible refine ite_nno ?_ ?_); focus (first | assumption | (simp; done) | omega | (simp only [List.length_cons, List.length_nil]; omega) | decide))| ((with_reducible refine ite_nyes ?_ ?_); focus (first | assumption | (simp; done) | omega | (simp only [List.length_cons, List.length_nil]; omega) | decide))| ((with_reducible refine And.intro ?_ ?_); focus (first | (simp; done) | omega)))
  refine ite_dec (fun hl => ?_) fun hl => ?_
  · repeat' (first | with_reducible refine ix_dic put_same kv_l ?_ | with_reducible refine bin_mod m0 ?_ | with_reducible refine bin_fdiv ⟨m0, m64⟩ ?_ | with_reducible refine fs_l put_same ?_ | ((with_reducible apply w_var); exact rfl) | with_reducible refine w_int ?_ | with_reducible refine w_str ?_ | with_reducible refine w_bl ?_ | with_reducible refine w_non ?_ | ((with_reducible apply w_cst); exact rfl) | with_reducible refine w_tup ?_ | with_reducible refine w_lst ?_ | with_reducible refine w_mls ?_ | with_reducible refine w_dic ?_ | with_reducible refine w_bin ?_ | with_reducible refine w_cmp ?_ | with_reducible refine w_chn ?_ | with_reducible refine w_and ?_ | with_reducible refine w_or ?_ | with_reducible refine w_not ?_ | with_reducible refine w_neg ?_ | with_reducible refine w_ife ?_ | with_reducible refine w_ix ?_ | with_reducible refine w_sl ?_ | with_reducible refine w_rev ?_ | with_reducible refine w_call ?_ | with_reducible refine w_bif ?_ | with_reducible refine w_isi ?_ | with_reducible refine w_mli ?_ | with_reducible refine w_meth ?_ | with_reducible refine w_fz ?_ | with_reducible refine w_chn3 ?_ | with_reducible refine w_mdc ?_ | with_reducible refine w_den ?_ | with_reducible refine w_nil ?_ | with_reducible refine w_cons ?_ | with_reducible refine w_rng ?_ | with_reducible refine w_seq ?_ | with_reducible refine w_rvs ?_ | with_reducible refine w_enm ?_ | with_reducible refine w_end ?_ | with_reducible refine w_then ?_ | with_reducible refine w_set ?_ | with_reducible refine w_setT ?_ | with_reducible refine w_setI ?_ | with_reducible refine w_ifs ?_ | with_reducible refine w_for ?_ | with_reducible refine w_ret ?_ | with_reducible refine w_retN ?_ | with_reducible refine w_ex ?_ | with_reducible refine w_brk ?_ | with_reducible refine w_cont ?_ | with_reducible refine w_pass ?_ | with_reducible refine w_lc ?_ | with_reducible refine w_mlc ?_ | with_reducible refine bin_add ?_ | with_reducible refine bin_sub ?_ | with_reducible refine cmp_lt ?_ | with_reducible refine cmp_le ?_ | with_reducible refine cmp_gt ?_ | with_reducible refine cmp_ge ?_ | with_reducible refine cmp_eqI ?_ | with_reducible refine cmp_neI ?_ | with_reducible refine cmp_eqS ?_ | with_reducible refine cmp_neS ?_ | with_reducible refine tru_bl ?_ | with_reducible refine tru_int ?_ | with_reducible refine len_tup ?_ | with_reducible refine len_lst ?_ | with_reducible refine int_bl ?_ | with_reducible refine max_2 ?_ | with_reducible refine min_2 ?_ | with_reducible refine tuple_lst ?_ | with_reducible refine list_tup ?_ | with_reducible refine ite_t ?_ | with_reducible refine ite_f ?_ | with_reducible refine ite_nt ?_ | with_reducible refine ite_nf ?_ | with_reducible refine neg_int ?_ | with_reducible refine lo_nil' ?_ | with_reducible refine lo_one' ?_ | with_reducible refine sl_tup ?_ | with_reducible refine sl_lst ?_ | with_reducible refine sl_scr ?_ | with_reducible refine rev_tup ?_ | with_reducible refine rev_lst ?_ | with_reducible refine isi_non0 ?_ | with_reducible refine isi_non1 ?_ | with_reducible refine isi_non2 ?_ | with_reducible refine isi_non3 ?_ | with_reducible refine isi_non4 ?_ | with_reducible refine isi_bl0 ?_ | with_reducible refine isi_bl1 ?_ | with_reducible refine isi_bl2 ?_ | with_reducible refine isi_bl3 ?_ | with_reducible refine isi_bl4 ?_ | with_reducible refine isi_int0 ?_ | with_reducible refine isi_int1 ?_ | with_reducible refine isi_int2 ?_ | with_reducible refine isi_int3 ?_ | with_reducible refine isi_int4 ?_ | with_reducible refine isi_str0 ?_ | with_reducible refine isi_str1 ?_ | with_reducible refine isi_str2 ?_ | with_reducible refine isi_str3 ?_ | with_reducible refine isi_str4 ?_ | with_reducible refine isi_tup0 ?_ | with_reducible refine isi_tup1 ?_ | with_reducible refine isi_tup2 ?_ | with_reducible refine isi_tup3 ?_ | with_reducible refine isi_tup4 ?_ | with_reducible refine isi_lst0 ?_ | with_reducible refine isi_lst1 ?_ | with_reducible refine isi_lst2 ?_ | with_reducible refine isi_lst3 ?_ | with_reducible refine isi_lst4 ?_ | ((with_reducible refine ite_no ?_ ?_); focus (first | assumption | decide))| ((with_reducible refine ite_yes ?_ ?_); focus (first | assumption | decide))| ((with_reducible refine ite_nno ?_ ?_); focus (first | assumption | decide))| ((with_reducible refine ite_nyes ?_ ?_); focus (first | assumption | decide))| ((with_reducible refine ite_no ?_ ?_); focus (first | assumption | (simp; done) | omega | (simp only [List.length_cons, List.length_nil]; omega) | decide))| ((with_reducible refine ite_yes ?_ ?_); focus (first | assumption | (simp; done) | omega | (simp only [List.length_cons, List.length_nil]; omega) | decide))| ((with_reducible refine ite_nno ?_ ?_); focus (first | assumption | (simp; done) | omega | (simp only [List.length_cons, List.length_nil]; omega) | decide))| ((with_reducible refine ite_nyes ?_ ?_); focus (first | assumption | (simp; done) | omega | (simp only [List.length_cons, List.length_nil]; omega) | decide))| ((with_reducible refine And.intro ?_ ?_); focus (first | (simp; done) | omega)))
    refine sub_end (ok _ _ (Int.emod_nonneg _ (by omega)) (Int.emod_lt_of_pos _ m0) (((Same.refl S f).put _).put _) ⟨cs, a, _, u + 1, put_same, by omega, by omega, a0, by omega, hc⟩)
  · repeat' (first | with_reducible refine ix_dic put_same kv_c ?_ | ((with_reducible apply w_var); exact rfl) | with_reducible refine w_int ?_ | with_reducible refine w_str ?_ | with_reducible refine w_bl ?_ | with_reducible refine w_non ?_ | ((with_reducible apply w_cst); exact rfl) | with_reducible refine w_tup ?_ | with_reducible refine w_lst ?_ | with_reducible refine w_mls ?_ | with_reducible refine w_dic ?_ | with_reducible refine w_bin ?_ | with_reducible refine w_cmp ?_ | with_reducible refine w_chn ?_ | with_reducible refine w_and ?_ | with_reducible refine w_or ?_ | with_reducible refine w_not ?_ | with_reducible refine w_neg ?_ | with_reducible refine w_ife ?_ | with_reducible refine w_ix ?_ | with_reducible refine w_sl ?_ | with_reducible refine w_rev ?_ | with_reducible refine w_call ?_ | with_reducible refine w_bif ?_ | with_reducible refine w_isi ?_ | with_reducible refine w_mli ?_ | with_reducible refine w_meth ?_ | with_reducible refine w_fz ?_ | with_reducible refine w_chn3 ?_ | with_reducible refine w_mdc ?_ | with_reducible refine w_den ?_ | with_reducible refine w_nil ?_ | with_reducible refine w_cons ?_ | with_reducible refine w_rng ?_ | with_reducible refine w_seq ?_ | with_reducible refine w_rvs ?_ | with_reducible refine w_enm ?_ | with_reducible refine w_end ?_ | with_reducible refine w_then ?_ | with_reducible refine w_set ?_ | with_reducible refine w_setT ?_ | with_reducible refine w_setI ?_ | with_reducible refine w_ifs ?_ | with_reducible refine w_for ?_ | with_reducible refine w_ret ?_ | with_reducible refine w_retN ?_ | with_reducible refine w_ex ?_ | with_reducible refine w_brk ?_ | with_reducible refine w_cont ?_ | with_reducible refine w_pass ?_ | with_reducible refine w_lc ?_ | with_reducible refine w_mlc ?_ | with_reducible refine bin_add ?_ | with_reducible refine bin_sub ?_ | with_reducible refine cmp_lt ?_ | with_reducible refine cmp_le ?_ | with_reducible refine cmp_gt ?_ | with_reducible refine cmp_ge ?_ | with_reducible refine cmp_eqI ?_ | with_reducible refine cmp_neI ?_ | with_reducible refine cmp_eqS ?_ | with_reducible refine cmp_neS ?_ | with_reducible refine tru_bl ?_ | with_reducible refine tru_int ?_ | with_reducible refine len_tup ?_ | with_reducible refine len_lst ?_ | with_reducible refine int_bl ?_ | with_reducible refine max_2 ?_ | with_reducible refine min_2 ?_ | with_reducible refine tuple_lst ?_ | with_reducible refine list_tup ?_ | with_reducible refine ite_t ?_ | with_reducible refine ite_f ?_ | with_reducible refine ite_nt ?_ | with_reducible refine ite_nf ?_ | with_reducible refine neg_int ?_ | with_reducible refine lo_nil' ?_ | with_reducible refine lo_one' ?_ | with_reducible refine sl_tup ?_ | with_reducible refine sl_lst ?_ | with_reducible refine sl_scr ?_ | with_reducible refine rev_tup ?_ | with_reducible refine rev_lst ?_ | with_reducible refine isi_non0 ?_ | with_reducible refine isi_non1 ?_ | with_reducible refine isi_non2 ?_ | with_reducible refine isi_non3 ?_ | with_reducible refine isi_non4 ?_ | with_reducible refine isi_bl0 ?_ | with_reducible refine isi_bl1 ?_ | with_reducible refine isi_bl2 ?_ | with_reducible refine isi_bl3 ?_ | with_reducible refine isi_bl4 ?_ | with_reducible refine isi_int0 ?_ | with_reducible refine isi_int1 ?_ | with_reducible refine isi_int2 ?_ | with_reducible refine isi_int3 ?_ | with_reducible refine isi_int4 ?_ | with_reducible refine isi_str0 ?_ | with_reducible refine isi_str1 ?_ | with_reducible refine isi_str2 ?_ | with_reducible refine isi_str3 ?_ | with_reducible refine isi_str4 ?_ | with_reducible refine isi_tup0 ?_ | with_reducible refine isi_tup1 ?_ | with_reducible refine isi_tup2 ?_ | with_reducible refine isi_tup3 ?_ | with_reducible refine isi_tup4 ?_ | with_reducible refine isi_lst0 ?_ | with_reducible refine isi_lst1 ?_ | with_reducible refine isi_lst2 ?_ | with_reducible refine isi_lst3 ?_ | with_reducible refine isi_lst4 ?_ | ((with_reducible refine ite_no ?_ ?_); focus (first | assumption | decide))| ((with_reducible refine ite_yes ?_ ?_); focus (first | assumption | decide))| ((with_reducible refine ite_nno ?_ ?_); focus (first | assumption | decide))| ((with_reducible refine ite_nyes ?_ ?_); focus (first | assumption | decide))| ((with_reducible refine ite_no ?_ ?_); focus (first | assumption | (simp; done) | omega | (simp only [List.length_cons, List.length_nil]; omega) | decide))| ((with_reducible refine ite_yes ?_ ?_); focus (first | assumption | (simp; done) | omega | (simp only [List.length_cons, List.length_nil]; omega) | decide))| ((with_reducible refine ite_nno ?_ ?_); focus (first | assumption | (simp; done) | omega | (simp only [List.length_cons, List.length_nil]; omega) | decide))| ((with_reducible refine ite_nyes ?_ ?_); focus (first | assumption | (simp; done) | omega | (simp only [List.length_cons, List.length_nil]; omega) | decide))| ((with_reducible refine And.intro ?_ ?_); focus (first | (simp; done) | omega)))
    have key : ∀ c : Int, wpSs T G noX [.setI (.var 0) (.str "at") (.bin .add (.ix (.var 0) (.str "at")) (.int 1)), .ifs (.and (.cmp .ge (.var 4) (.bin .pow (.int 10) (.int 18))) (.cmp .le (.ix (.var 0) (.str "at")) (.bif .len (.cons (.var 3) .nil)))) [.setI (.var 0) (.str "left") (.bin .fdiv (.var 4) (.var 1)), .ret (.bin .mod (.var 4) (.var 1))] [], .set 5 (.bin .mod (.bin .mul (.bin .add (.bin .add (.bin .add (.bin .mod (.var 4) (.int 1000003)) (.bin .mul (.bin .mul (.int 31) (.var 2)) (.var 2))) (.bin .mul (.int 7) (.var 2))) (.int 11)) (.int 48271)) (.int 2147483647)), .set 5 (.bin .mod (.bin .add (.bin .mul (.bin .fdiv (.var 5) (.int 64)) (.int 69621)) (.bin .mul (.int 7919) (.var 2))) (.int 2147483587)), .ret (.bin .mod (.bin .fdiv (.var 5) (.int 64)) (.var 1))]
      ⟨fun _ S' => ∃ S'', Sub S'' S' ∧ q .non S'', fun d S' => ∃ S'', Sub S'' S' ∧ q d S'', fun _ _ => False, fun _ _ => False⟩ [some (.loc f), some (.int m), some (.int (u + 1)), some (.lst (cs.map .int)), some (.int c), none, none] (put S f (.dic (kv cs a l (u + 1)))) := by
      intro c
      have fin : wpSs T G noX [.set 5 (.bin .mod (.bin .mul (.bin .add (.bin .add (.bin .add (.bin .mod (.var 4) (.int 1000003)) (.bin .mul (.bin .mul (.int 31) (.var 2)) (.var 2))) (.bin .mul (.int 7) (.var 2))) (.int 11)) (.int 48271)) (.int 2147483647)), .set 5 (.bin .mod (.bin .add (.bin .mul (.bin .fdiv (.var 5) (.int 64)) (.int 69621)) (.bin .mul (.int 7919) (.var 2))) (.int 2147483587)), .ret (.bin .mod (.bin .fdiv (.var 5) (.int 64)) (.var 1))]
        ⟨fun _ S' => ∃ S'', Sub S'' S' ∧ q .non S'', fun d S' => ∃ S'', Sub S'' S' ∧ q d S'', fun _ _ => False, fun _ _ => False⟩ [some (.loc f), some (.int m), some (.int (u + 1)), some (.lst (cs.map .int)), some (.int c), none, none] (put (put S f (.dic (kv cs a l (u + 1)))) f (.dic (kv cs (a + 1) l (u + 1)))) := by
        repeat' (first | with_reducible refine bin_mod (by decide) ?_ | with_reducible refine bin_mul (.inr (by omega)) ?_ | with_reducible refine bin_mul (.inl (by omega)) ?_ | with_reducible refine bin_fdiv (by omega) ?_ | with_reducible refine bin_mod m0 ?_ | ((with_reducible apply w_var); exact rfl) | with_reducible refine w_int ?_ | with_reducible refine w_str ?_ | with_reducible refine w_bl ?_ | with_reducible refine w_non ?_ | ((with_reducible apply w_cst); exact rfl) | with_reducible refine w_tup ?_ | with_reducible refine w_lst ?_ | with_reducible refine w_mls ?_ | with_reducible refine w_dic ?_ | with_reducible refine w_bin ?_ | with_reducible refine w_cmp ?_ | with_reducible refine w_chn ?_ | with_reducible refine w_and ?_ | with_reducible refine w_or ?_ | with_reducible refine w_not ?_ | with_reducible refine w_neg ?_ | with_reducible refine w_ife ?_ | with_reducible refine w_ix ?_ | with_reducible refine w_sl ?_ | with_reducible refine w_rev ?_ | with_reducible refine w_call ?_ | with_reducible refine w_bif ?_ | with_reducible refine w_isi ?_ | with_reducible refine w_mli ?_ | with_reducible refine w_meth ?_ | with_reducible refine w_fz ?_ | with_reducible refine w_chn3 ?_ | with_reducible refine w_mdc ?_ | with_reducible refine w_den ?_ | with_reducible refine w_nil ?_ | with_reducible refine w_cons ?_ | with_reducible refine w_rng ?_ | with_reducible refine w_seq ?_ | with_reducible refine w_rvs ?_ | with_reducible refine w_enm ?_ | with_reducible refine w_end ?_ | with_reducible refine w_then ?_ | with_reducible refine w_set ?_ | with_reducible refine w_setT ?_ | with_reducible refine w_setI ?_ | with_reducible refine w_ifs ?_ | with_reducible refine w_for ?_ | with_reducible refine w_ret ?_ | with_reducible refine w_retN ?_ | with_reducible refine w_ex ?_ | with_reducible refine w_brk ?_ | with_reducible refine w_cont ?_ | with_reducible refine w_pass ?_ | with_reducible refine w_lc ?_ | with_reducible refine w_mlc ?_ | with_reducible refine bin_add ?_ | with_reducible refine bin_sub ?_ | with_reducible refine cmp_lt ?_ | with_reducible refine cmp_le ?_ | with_reducible refine cmp_gt ?_ | with_reducible refine cmp_ge ?_ | with_reducible refine cmp_eqI ?_ | with_reducible refine cmp_neI ?_ | with_reducible refine cmp_eqS ?_ | with_reducible refine cmp_neS ?_ | with_reducible refine tru_bl ?_ | with_reducible refine tru_int ?_ | with_reducible refine len_tup ?_ | with_reducible refine len_lst ?_ | with_reducible refine int_bl ?_ | with_reducible refine max_2 ?_ | with_reducible refine min_2 ?_ | with_reducible refine tuple_lst ?_ | with_reducible refine list_tup ?_ | with_reducible refine ite_t ?_ | with_reducible refine ite_f ?_ | with_reducible refine ite_nt ?_ | with_reducible refine ite_nf ?_ | with_reducible refine neg_int ?_ | with_reducible refine lo_nil' ?_ | with_reducible refine lo_one' ?_ | with_reducible refine sl_tup ?_ | with_reducible refine sl_lst ?_ | with_reducible refine sl_scr ?_ | with_reducible refine rev_tup ?_ | with_reducible refine rev_lst ?_ | with_reducible refine isi_non0 ?_ | with_reducible refine isi_non1 ?_ | with_reducible refine isi_non2 ?_ | with_reducible refine isi_non3 ?_ | with_reducible refine isi_non4 ?_ | with_reducible refine isi_bl0 ?_ | with_reducible refine isi_bl1 ?_ | with_reducible refine isi_bl2 ?_ | with_reducible refine isi_bl3 ?_ | with_reducible refine isi_bl4 ?_ | with_reducible refine isi_int0 ?_ | with_reducible refine isi_int1 ?_ | with_reducible refine isi_int2 ?_ | with_reducible refine isi_int3 ?_ | with_reducible refine isi_int4 ?_ | with_reducible refine isi_str0 ?_ | with_reducible refine isi_str1 ?_ | with_reducible refine isi_str2 ?_ | with_reducible refine isi_str3 ?_ | with_reducible refine isi_str4 ?_ | with_reducible refine isi_tup0 ?_ | with_reducible refine isi_tup1 ?_ | with_reducible refine isi_tup2 ?_ | with_reducible refine isi_tup3 ?_ | with_reducible refine isi_tup4 ?_ | with_reducible refine isi_lst0 ?_ | with_reducible refine isi_lst1 ?_ | with_reducible refine isi_lst2 ?_ | with_reducible refine isi_lst3 ?_ | with_reducible refine isi_lst4 ?_ | ((with_reducible refine ite_no ?_ ?_); focus (first | assumption | decide))| ((with_reducible refine ite_yes ?_ ?_); focus (first | assumption | decide))| ((with_reducible refine ite_nno ?_ ?_); focus (first | assumption | decide))| ((with_reducible refine ite_nyes ?_ ?_); focus (first | assumption | decide))| ((with_reducible refine ite_no ?_ ?_); focus (first | assumption | (simp; done) | omega | (simp only [List.length_cons, List.length_nil]; omega) | decide))| ((with_reducible refine ite_yes ?_ ?_); focus (first | assumption | (simp; done) | omega | (simp only [List.length_cons, List.length_nil]; omega) | decide))| ((with_reducible refine ite_nno ?_ ?_); focus (first | assumption | (simp; done) | omega | (simp only [List.length_cons, List.length_nil]; omega) | decide))| ((with_reducible refine ite_nyes ?_ ?_); focus (first | assumption | (simp; done) | omega | (simp only [List.length_cons, List.length_nil]; omega) | decide))| ((with_reducible refine And.intro ?_ ?_); focus (first | (simp; done) | omega)))
        exact sub_end (ok _ _ (Int.emod_nonneg _ (by omega)) (Int.emod_lt_of_pos _ m0) (((Same.refl S f).put _).put _) ⟨cs, a + 1, l, u + 1, put_same, by omega, by omega, by omega, by omega, hc⟩)
      repeat' (first | with_reducible refine ix_dic put_same kv_a ?_ | with_reducible refine fs_a put_same ?_ | with_reducible refine bin_pow (by decide) ?_ | ((with_reducible apply w_var); exact rfl) | with_reducible refine w_int ?_ | with_reducible refine w_str ?_ | with_reducible refine w_bl ?_ | with_reducible refine w_non ?_ | ((with_reducible apply w_cst); exact rfl) | with_reducible refine w_tup ?_ | with_reducible refine w_lst ?_ | with_reducible refine w_mls ?_ | with_reducible refine w_dic ?_ | with_reducible refine w_bin ?_ | with_reducible refine w_cmp ?_ | with_reducible refine w_chn ?_ | with_reducible refine w_and ?_ | with_reducible refine w_or ?_ | with_reducible refine w_not ?_ | with_reducible refine w_neg ?_ | with_reducible refine w_ife ?_ | with_reducible refine w_ix ?_ | with_reducible refine w_sl ?_ | with_reducible refine w_rev ?_ | with_reducible refine w_call ?_ | with_reducible refine w_bif ?_ | with_reducible refine w_isi ?_ | with_reducible refine w_mli ?_ | with_reducible refine w_meth ?_ | with_reducible refine w_fz ?_ | with_reducible refine w_chn3 ?_ | with_reducible refine w_mdc ?_ | with_reducible refine w_den ?_ | with_reducible refine w_nil ?_ | with_reducible refine w_cons ?_ | with_reducible refine w_rng ?_ | with_reducible refine w_seq ?_ | with_reducible refine w_rvs ?_ | with_reducible refine w_enm ?_ | with_reducible refine w_end ?_ | with_reducible refine w_then ?_ | with_reducible refine w_set ?_ | with_reducible refine w_setT ?_ | with_reducible refine w_setI ?_ | with_reducible refine w_ifs ?_ | with_reducible refine w_for ?_ | with_reducible refine w_ret ?_ | with_reducible refine w_retN ?_ | with_reducible refine w_ex ?_ | with_reducible refine w_brk ?_ | with_reducible refine w_cont ?_ | with_reducible refine w_pass ?_ | with_reducible refine w_lc ?_ | with_reducible refine w_mlc ?_ | with_reducible refine bin_add ?_ | with_reducible refine bin_sub ?_ | with_reducible refine cmp_lt ?_ | with_reducible refine cmp_le ?_ | with_reducible refine cmp_gt ?_ | with_reducible refine cmp_ge ?_ | with_reducible refine cmp_eqI ?_ | with_reducible refine cmp_neI ?_ | with_reducible refine cmp_eqS ?_ | with_reducible refine cmp_neS ?_ | with_reducible refine tru_bl ?_ | with_reducible refine tru_int ?_ | with_reducible refine len_tup ?_ | with_reducible refine len_lst ?_ | with_reducible refine int_bl ?_ | with_reducible refine max_2 ?_ | with_reducible refine min_2 ?_ | with_reducible refine tuple_lst ?_ | with_reducible refine list_tup ?_ | with_reducible refine ite_t ?_ | with_reducible refine ite_f ?_ | with_reducible refine ite_nt ?_ | with_reducible refine ite_nf ?_ | with_reducible refine neg_int ?_ | with_reducible refine lo_nil' ?_ | with_reducible refine lo_one' ?_ | with_reducible refine sl_tup ?_ | with_reducible refine sl_lst ?_ | with_reducible refine sl_scr ?_ | with_reducible refine rev_tup ?_ | with_reducible refine rev_lst ?_ | with_reducible refine isi_non0 ?_ | with_reducible refine isi_non1 ?_ | with_reducible refine isi_non2 ?_ | with_reducible refine isi_non3 ?_ | with_reducible refine isi_non4 ?_ | with_reducible refine isi_bl0 ?_ | with_reducible refine isi_bl1 ?_ | with_reducible refine isi_bl2 ?_ | with_reducible refine isi_bl3 ?_ | with_reducible refine isi_bl4 ?_ | with_reducible refine isi_int0 ?_ | with_reducible refine isi_int1 ?_ | with_reducible refine isi_int2 ?_ | with_reducible refine isi_int3 ?_ | with_reducible refine isi_int4 ?_ | with_reducible refine isi_str0 ?_ | with_reducible refine isi_str1 ?_ | with_reducible refine isi_str2 ?_ | with_reducible refine isi_str3 ?_ | with_reducible refine isi_str4 ?_ | with_reducible refine isi_tup0 ?_ | with_reducible refine isi_tup1 ?_ | with_reducible refine isi_tup2 ?_ | with_reducible refine isi_tup3 ?_ | with_reducible refine isi_tup4 ?_ | with_reducible refine isi_lst0 ?_ | with_reducible refine isi_lst1 ?_ | with_reducible refine isi_lst2 ?_ | with_reducible refine isi_lst3 ?_ | with_reducible refine isi_lst4 ?_ | ((with_reducible refine ite_no ?_ ?_); focus (first | assumption | decide))| ((with_reducible refine ite_yes ?_ ?_); focus (first | assumption | decide))| ((with_reducible refine ite_nno ?_ ?_); focus (first | assumption | decide))| ((with_reducible refine ite_nyes ?_ ?_); focus (first | assumption | decide))| ((with_reducible refine ite_no ?_ ?_); focus (first | assumption | (simp; done) | omega | (simp only [List.length_cons, List.length_nil]; omega) | decide))| ((with_reducible refine ite_yes ?_ ?_); focus (first | assumption | (simp; done) | omega | (simp only [List.length_cons, List.length_nil]; omega) | decide))| ((with_reducible refine ite_nno ?_ ?_); focus (first | assumption | (simp; done) | omega | (simp only [List.length_cons, List.length_nil]; omega) | decide))| ((with_reducible refine ite_nyes ?_ ?_); focus (first | assumption | (simp; done) | omega | (simp only [List.length_cons, List.length_nil]; omega) | decide))| ((with_reducible refine And.intro ?_ ?_); focus (first | (simp; done) | omega)))
      refine ite_dec (fun h1 => ?_) fun h1 => ?_
      · repeat' (first | with_reducible refine ix_dic put_same kv_a ?_ | ((with_reducible apply w_var); exact rfl) | with_reducible refine w_int ?_ | with_reducible refine w_str ?_ | with_reducible refine w_bl ?_ | with_reducible refine w_non ?_ | ((with_reducible apply w_cst); exact rfl) | with_reducible refine w_tup ?_ | with_reducible refine w_lst ?_ | with_reducible refine w_mls ?_ | with_reducible refine w_dic ?_ | with_reducible refine w_bin ?_ | with_reducible refine w_cmp ?_ | with_reducible refine w_chn ?_ | with_reducible refine w_and ?_ | with_reducible refine w_or ?_ | with_reducible refine w_not ?_ | with_reducible refine w_neg ?_ | with_reducible refine w_ife ?_ | with_reducible refine w_ix ?_ | with_reducible refine w_sl ?_ | with_reducible refine w_rev ?_ | with_reducible refine w_call ?_ | with_reducible refine w_bif ?_ | with_reducible refine w_isi ?_ | with_reducible refine w_mli ?_ | with_reducible refine w_meth ?_ | with_reducible refine w_fz ?_ | with_reducible refine w_chn3 ?_ | with_reducible refine w_mdc ?_ | with_reducible refine w_den ?_ | with_reducible refine w_nil ?_ | with_reducible refine w_cons ?_ | with_reducible refine w_rng ?_ | with_reducible refine w_seq ?_ | with_reducible refine w_rvs ?_ | with_reducible refine w_enm ?_ | with_reducible refine w_end ?_ | with_reducible refine w_then ?_ | with_reducible refine w_set ?_ | with_reducible refine w_setT ?_ | with_reducible refine w_setI ?_ | with_reducible refine w_ifs ?_ | with_reducible refine w_for ?_ | with_reducible refine w_ret ?_ | with_reducible refine w_retN ?_ | with_reducible refine w_ex ?_ | with_reducible refine w_brk ?_ | with_reducible refine w_cont ?_ | with_reducible refine w_pass ?_ | with_reducible refine w_lc ?_ | with_reducible refine w_mlc ?_ | with_reducible refine bin_add ?_ | with_reducible refine bin_sub ?_ | with_reducible refine cmp_lt ?_ | with_reducible refine cmp_le ?_ | with_reducible refine cmp_gt ?_ | with_reducible refine cmp_ge ?_ | with_reducible refine cmp_eqI ?_ | with_reducible refine cmp_neI ?_ | with_reducible refine cmp_eqS ?_ | with_reducible refine cmp_neS ?_ | with_reducible refine tru_bl ?_ | with_reducible refine tru_int ?_ | with_reducible refine len_tup ?_ | with_reducible refine len_lst ?_ | with_reducible refine int_bl ?_ | with_reducible refine max_2 ?_ | with_reducible refine min_2 ?_ | with_reducible refine tuple_lst ?_ | with_reducible refine list_tup ?_ | with_reducible refine ite_t ?_ | with_reducible refine ite_f ?_ | with_reducible refine ite_nt ?_ | with_reducible refine ite_nf ?_ | with_reducible refine neg_int ?_ | with_reducible refine lo_nil' ?_ | with_reducible refine lo_one' ?_ | with_reducible refine sl_tup ?_ | with_reducible refine sl_lst ?_ | with_reducible refine sl_scr ?_ | with_reducible refine rev_tup ?_ | with_reducible refine rev_lst ?_ | with_reducible refine isi_non0 ?_ | with_reducible refine isi_non1 ?_ | with_reducible refine isi_non2 ?_ | with_reducible refine isi_non3 ?_ | with_reducible refine isi_non4 ?_ | with_reducible refine isi_bl0 ?_ | with_reducible refine isi_bl1 ?_ | with_reducible refine isi_bl2 ?_ | with_reducible refine isi_bl3 ?_ | with_reducible refine isi_bl4 ?_ | with_reducible refine isi_int0 ?_ | with_reducible refine isi_int1 ?_ | with_reducible refine isi_int2 ?_ | with_reducible refine isi_int3 ?_ | with_reducible refine isi_int4 ?_ | with_reducible refine isi_str0 ?_ | with_reducible refine isi_str1 ?_ | with_reducible refine isi_str2 ?_ | with_reducible refine isi_str3 ?_ | with_reducible refine isi_str4 ?_ | with_reducible refine isi_tup0 ?_ | with_reducible refine isi_tup1 ?_ | with_reducible refine isi_tup2 ?_ | with_reducible refine isi_tup3 ?_ | with_reducible refine isi_tup4 ?_ | with_reducible refine isi_lst0 ?_ | with_reducible refine isi_lst1 ?_ | with_reducible refine isi_lst2 ?_ | with_reducible refine isi_lst3 ?_ | with_reducible refine isi_lst4 ?_ | ((with_reducible refine ite_no ?_ ?_); focus (first | assumption | decide))| ((with_reducible refine ite_yes ?_ ?_); focus (first | assumption | decide))| ((with_reducible refine ite_nno ?_ ?_); focus (first | assumption | decide))| ((with_reducible refine ite_nyes ?_ ?_); focus (first | assumption | decide))| ((with_reducible refine ite_no ?_ ?_); focus (first | assumption | (simp; done) | omega | (simp only [List.length_cons, List.length_nil]; omega) | decide))| ((with_reducible refine ite_yes ?_ ?_); focus (first | assumption | (simp; done) | omega | (simp only [List.length_cons, List.length_nil]; omega) | decide))| ((with_reducible refine ite_nno ?_ ?_); focus (first | assumption | (simp; done) | omega | (simp only [List.length_cons, List.length_nil]; omega) | decide))| ((with_reducible refine ite_nyes ?_ ?_); focus (first | assumption | (simp; done) | omega | (simp only [List.length_cons, List.length_nil]; omega) | decide))| ((with_reducible refine And.intro ?_ ?_); focus (first | (simp; done) | omega)))
        rw [List.length_map]
        refine ite_dec (fun h2 => ?_) fun h2 => ?_
        · repeat' (first | with_reducible refine fs_l put_same ?_ | with_reducible refine bin_mod m0 ?_ | with_reducible refine bin_fdiv ⟨m0, m64⟩ ?_ | ((with_reducible apply w_var); exact rfl) | with_reducible refine w_int ?_ | with_reducible refine w_str ?_ | with_reducible refine w_bl ?_ | with_reducible refine w_non ?_ | ((with_reducible apply w_cst); exact rfl) | with_reducible refine w_tup ?_ | with_reducible refine w_lst ?_ | with_reducible refine w_mls ?_ | with_reducible refine w_dic ?_ | with_reducible refine w_bin ?_ | with_reducible refine w_cmp ?_ | with_reducible refine w_chn ?_ | with_reducible refine w_and ?_ | with_reducible refine w_or ?_ | with_reducible refine w_not ?_ | with_reducible refine w_neg ?_ | with_reducible refine w_ife ?_ | with_reducible refine w_ix ?_ | with_reducible refine w_sl ?_ | with_reducible refine w_rev ?_ | with_reducible refine w_call ?_ | with_reducible refine w_bif ?_ | with_reducible refine w_isi ?_ | with_reducible refine w_mli ?_ | with_reducible refine w_meth ?_ | with_reducible refine w_fz ?_ | with_reducible refine w_chn3 ?_ | with_reducible refine w_mdc ?_ | with_reducible refine w_den ?_ | with_reducible refine w_nil ?_ | with_reducible refine w_cons ?_ | with_reducible refine w_rng ?_ | with_reducible refine w_seq ?_ | with_reducible refine w_rvs ?_ | with_reducible refine w_enm ?_ | with_reducible refine w_end ?_ | with_reducible refine w_then ?_ | with_reducible refine w_set ?_ | with_reducible refine w_setT ?_ | with_reducible refine w_setI ?_ | with_reducible refine w_ifs ?_ | with_reducible refine w_for ?_ | with_reducible refine w_ret ?_ | with_reducible refine w_retN ?_ | with_reducible refine w_ex ?_ | with_reducible refine w_brk ?_ | with_reducible refine w_cont ?_ | with_reducible refine w_pass ?_ | with_reducible refine w_lc ?_ | with_reducible refine w_mlc ?_ | with_reducible refine bin_add ?_ | with_reducible refine bin_sub ?_ | with_reducible refine cmp_lt ?_ | with_reducible refine cmp_le ?_ | with_reducible refine cmp_gt ?_ | with_reducible refine cmp_ge ?_ | with_reducible refine cmp_eqI ?_ | with_reducible refine cmp_neI ?_ | with_reducible refine cmp_eqS ?_ | with_reducible refine cmp_neS ?_ | with_reducible refine tru_bl ?_ | with_reducible refine tru_int ?_ | with_reducible refine len_tup ?_ | with_reducible refine len_lst ?_ | with_reducible refine int_bl ?_ | with_reducible refine max_2 ?_ | with_reducible refine min_2 ?_ | with_reducible refine tuple_lst ?_ | with_reducible refine list_tup ?_ | with_reducible refine ite_t ?_ | with_reducible refine ite_f ?_ | with_reducible refine ite_nt ?_ | with_reducible refine ite_nf ?_ | with_reducible refine neg_int ?_ | with_reducible refine lo_nil' ?_ | with_reducible refine lo_one' ?_ | with_reducible refine sl_tup ?_ | with_reducible refine sl_lst ?_ | with_reducible refine sl_scr ?_ | with_reducible refine rev_tup ?_ | with_reducible refine rev_lst ?_ | with_reducible refine isi_non0 ?_ | with_reducible refine isi_non1 ?_ | with_reducible refine isi_non2 ?_ | with_reducible refine isi_non3 ?_ | with_reducible refine isi_non4 ?_ | with_reducible refine isi_bl0 ?_ | with_reducible refine isi_bl1 ?_ | with_reducible refine isi_bl2 ?_ | with_reducible refine isi_bl3 ?_ | with_reducible refine isi_bl4 ?_ | with_reducible refine isi_int0 ?_ | with_reducible refine isi_int1 ?_ | with_reducible refine isi_int2 ?_ | with_reducible refine isi_int3 ?_ | with_reducible refine isi_int4 ?_ | with_reducible refine isi_str0 ?_ | with_reducible refine isi_str1 ?_ | with_reducible refine isi_str2 ?_ | with_reducible refine isi_str3 ?_ | with_reducible refine isi_str4 ?_ | with_reducible refine isi_tup0 ?_ | with_reducible refine isi_tup1 ?_ | with_reducible refine isi_tup2 ?_ | with_reducible refine isi_tup3 ?_ | with_reducible refine isi_tup4 ?_ | with_reducible refine isi_lst0 ?_ | with_reducible refine isi_lst1 ?_ | with_reducible refine isi_lst2 ?_ | with_reducible refine isi_lst3 ?_ | with_reducible refine isi_lst4 ?_ | ((with_reducible refine ite_no ?_ ?_); focus (first | assumption | decide))| ((with_reducible refine ite_yes ?_ ?_); focus (first | assumption | decide))| ((with_reducible refine ite_nno ?_ ?_); focus (first | assumption | decide))| ((with_reducible refine ite_nyes ?_ ?_); focus (first | assumption | decide))| ((with_reducible refine ite_no ?_ ?_); focus (first | assumption | (simp; done) | omega | (simp only [List.length_cons, List.length_nil]; omega) | decide))| ((with_reducible refine ite_yes ?_ ?_); focus (first | assumption | (simp; done) | omega | (simp only [List.length_cons, List.length_nil]; omega) | decide))| ((with_reducible refine ite_nno ?_ ?_); focus (first | assumption | (simp; done) | omega | (simp only [List.length_cons, List.length_nil]; omega) | decide))| ((with_reducible refine ite_nyes ?_ ?_); focus (first | assumption | (simp; done) | omega | (simp only [List.length_cons, List.length_nil]; omega) | decide))| ((with_reducible refine And.intro ?_ ?_); focus (first | (simp; done) | omega)))
          exact sub_end (ok _ _ (Int.emod_nonneg _ (by omega)) (Int.emod_lt_of_pos _ m0) ((((Same.refl S f).put _).put _).put _) ⟨cs, a + 1, _, u + 1, put_same, by omega, by omega, by omega, by omega, hc⟩)
        · refine w_end ?_
          exact fin
      · repeat' (first | with_reducible refine bin_mod (by decide) ?_ | with_reducible refine bin_mul (.inr (by omega)) ?_ | with_reducible refine bin_mul (.inl (by omega)) ?_ | with_reducible refine bin_fdiv (by omega) ?_ | with_reducible refine bin_mod m0 ?_ | ((with_reducible apply w_var); exact rfl) | with_reducible refine w_int ?_ | with_reducible refine w_str ?_ | with_reducible refine w_bl ?_ | with_reducible refine w_non ?_ | ((with_reducible apply w_cst); exact rfl) | with_reducible refine w_tup ?_ | with_reducible refine w_lst ?_ | with_reducible refine w_mls ?_ | with_reducible refine w_dic ?_ | with_reducible refine w_bin ?_ | with_reducible refine w_cmp ?_ | with_reducible refine w_chn ?_ | with_reducible refine w_and ?_ | with_reducible refine w_or ?_ | with_reducible refine w_not ?_ | with_reducible refine w_neg ?_ | with_reducible refine w_ife ?_ | with_reducible refine w_ix ?_ | with_reducible refine w_sl ?_ | with_reducible refine w_rev ?_ | with_reducible refine w_call ?_ | with_reducible refine w_bif ?_ | with_reducible refine w_isi ?_ | with_reducible refine w_mli ?_ | with_reducible refine w_meth ?_ | with_reducible refine w_fz ?_ | with_reducible refine w_chn3 ?_ | with_reducible refine w_mdc ?_ | with_reducible refine w_den ?_ | with_reducible refine w_nil ?_ | with_reducible refine w_cons ?_ | with_reducible refine w_rng ?_ | with_reducible refine w_seq ?_ | with_reducible refine w_rvs ?_ | with_reducible refine w_enm ?_ | with_reducible refine w_end ?_ | with_reducible refine w_then ?_ | with_reducible refine w_set ?_ | with_reducible refine w_setT ?_ | with_reducible refine w_setI ?_ | with_reducible refine w_ifs ?_ | with_reducible refine w_for ?_ | with_reducible refine w_ret ?_ | with_reducible refine w_retN ?_ | with_reducible refine w_ex ?_ | with_reducible refine w_brk ?_ | with_reducible refine w_cont ?_ | with_reducible refine w_pass ?_ | with_reducible refine w_lc ?_ | with_reducible refine w_mlc ?_ | with_reducible refine bin_add ?_ | with_reducible refine bin_sub ?_ | with_reducible refine cmp_lt ?_ | with_reducible refine cmp_le ?_ | with_reducible refine cmp_gt ?_ | with_reducible refine cmp_ge ?_ | with_reducible refine cmp_eqI ?_ | with_reducible refine cmp_neI ?_ | with_reducible refine cmp_eqS ?_ | with_reducible refine cmp_neS ?_ | with_reducible refine tru_bl ?_ | with_reducible refine tru_int ?_ | with_reducible refine len_tup ?_ | with_reducible refine len_lst ?_ | with_reducible refine int_bl ?_ | with_reducible refine max_2 ?_ | with_reducible refine min_2 ?_ | with_reducible refine tuple_lst ?_ | with_reducible refine list_tup ?_ | with_reducible refine ite_t ?_ | with_reducible refine ite_f ?_ | with_reducible refine ite_nt ?_ | with_reducible refine ite_nf ?_ | with_reducible refine neg_int ?_ | with_reducible refine lo_nil' ?_ | with_reducible refine lo_one' ?_ | with_reducible refine sl_tup ?_ | with_reducible refine sl_lst ?_ | with_reducible refine sl_scr ?_ | with_reducible refine rev_tup ?_ | with_reducible refine rev_lst ?_ | with_reducible refine isi_non0 ?_ | with_reducible refine isi_non1 ?_ | with_reducible refine isi_non2 ?_ | with_reducible refine isi_non3 ?_ | with_reducible refine isi_non4 ?_ | with_reducible refine isi_bl0 ?_ | with_reducible refine isi_bl1 ?_ | with_reducible refine isi_bl2 ?_ | with_reducible refine isi_bl3 ?_ | with_reducible refine isi_bl4 ?_ | with_reducible refine isi_int0 ?_ | with_reducible refine isi_int1 ?_ | with_reducible refine isi_int2 ?_ | with_reducible refine isi_int3 ?_ | with_reducible refine isi_int4 ?_ | with_reducible refine isi_str0 ?_ | with_reducible refine isi_str1 ?_ | with_reducible refine isi_str2 ?_ | with_reducible refine isi_str3 ?_ | with_reducible refine isi_str4 ?_ | with_reducible refine isi_tup0 ?_ | with_reducible refine isi_tup1 ?_ | with_reducible refine isi_tup2 ?_ | with_reducible refine isi_tup3 ?_ | with_reducible refine isi_tup4 ?_ | with_reducible refine isi_lst0 ?_ | with_reducible refine isi_lst1 ?_ | with_reducible refine isi_lst2 ?_ | with_reducible refine isi_lst3 ?_ | with_reducible refine isi_lst4 ?_ | ((with_reducible refine ite_no ?_ ?_); focus (first | assumption | decide))| ((with_reducible refine ite_yes ?_ ?_); focus (first | assumption | decide))| ((with_reducible refine ite_nno ?_ ?_); focus (first | assumption | decide))| ((with_reducible refine ite_nyes ?_ ?_); focus (first | assumption | decide))| ((with_reducible refine ite_no ?_ ?_); focus (first | assumption | (simp; done) | omega | (simp only [List.length_cons, List.length_nil]; omega) | decide))| ((with_reducible refine ite_yes ?_ ?_); focus (first | assumption | (simp; done) | omega | (simp only [List.length_cons, List.length_nil]; omega) | decide))| ((with_reducible refine ite_nno ?_ ?_); focus (first | assumption | (simp; done) | omega | (simp only [List.length_cons, List.length_nil]; omega) | decide))| ((with_reducible refine ite_nyes ?_ ?_); focus (first | assumption | (simp; done) | omega | (simp only [List.length_cons, List.length_nil]; omega) | decide))| ((with_reducible refine And.intro ?_ ?_); focus (first | (simp; done) | omega)))
        exact sub_end (ok _ _ (Int.emod_nonneg _ (by omega)) (Int.emod_lt_of_pos _ m0) (((Same.refl S f).put _).put _) ⟨cs, a + 1, l, u + 1, put_same, by omega, by omega, by omega, by omega, hc⟩)
    rw [List.length_map]
    refine ite_dec (fun h0 => ?_) fun h0 => ?_
    · repeat' (first | with_reducible refine ix_dic put_same kv_a ?_ | ((with_reducible apply w_var); exact rfl) | with_reducible refine w_int ?_ | with_reducible refine w_str ?_ | with_reducible refine w_bl ?_ | with_reducible refine w_non ?_ | ((with_reducible apply w_cst); exact rfl) | with_reducible refine w_tup ?_ | with_reducible refine w_lst ?_ | with_reducible refine w_mls ?_ | with_reducible refine w_dic ?_ | with_reducible refine w_bin ?_ | with_reducible refine w_cmp ?_ | with_reducible refine w_chn ?_ | with_reducible refine w_and ?_ | with_reducible refine w_or ?_ | with_reducible refine w_not ?_ | with_reducible refine w_neg ?_ | with_reducible refine w_ife ?_ | with_reducible refine w_ix ?_ | with_reducible refine w_sl ?_ | with_reducible refine w_rev ?_ | with_reducible refine w_call ?_ | with_reducible refine w_bif ?_ | with_reducible refine w_isi ?_ | with_reducible refine w_mli ?_ | with_reducible refine w_meth ?_ | with_reducible refine w_fz ?_ | with_reducible refine w_chn3 ?_ | with_reducible refine w_mdc ?_ | with_reducible refine w_den ?_ | with_reducible refine w_nil ?_ | with_reducible refine w_cons ?_ | with_reducible refine w_rng ?_ | with_reducible refine w_seq ?_ | with_reducible refine w_rvs ?_ | with_reducible refine w_enm ?_ | with_reducible refine w_end ?_ | with_reducible refine w_then ?_ | with_reducible refine w_set ?_ | with_reducible refine w_setT ?_ | with_reducible refine w_setI ?_ | with_reducible refine w_ifs ?_ | with_reducible refine w_for ?_ | with_reducible refine w_ret ?_ | with_reducible refine w_retN ?_ | with_reducible refine w_ex ?_ | with_reducible refine w_brk ?_ | with_reducible refine w_cont ?_ | with_reducible refine w_pass ?_ | with_reducible refine w_lc ?_ | with_reducible refine w_mlc ?_ | with_reducible refine bin_add ?_ | with_reducible refine bin_sub ?_ | with_reducible refine cmp_lt ?_ | with_reducible refine cmp_le ?_ | with_reducible refine cmp_gt ?_ | with_reducible refine cmp_ge ?_ | with_reducible refine cmp_eqI ?_ | with_reducible refine cmp_neI ?_ | with_reducible refine cmp_eqS ?_ | with_reducible refine cmp_neS ?_ | with_reducible refine tru_bl ?_ | with_reducible refine tru_int ?_ | with_reducible refine len_tup ?_ | with_reducible refine len_lst ?_ | with_reducible refine int_bl ?_ | with_reducible refine max_2 ?_ | with_reducible refine min_2 ?_ | with_reducible refine tuple_lst ?_ | with_reducible refine list_tup ?_ | with_reducible refine ite_t ?_ | with_reducible refine ite_f ?_ | with_reducible refine ite_nt ?_ | with_reducible refine ite_nf ?_ | with_reducible refine neg_int ?_ | with_reducible refine lo_nil' ?_ | with_reducible refine lo_one' ?_ | with_reducible refine sl_tup ?_ | with_reducible refine sl_lst ?_ | with_reducible refine sl_scr ?_ | with_reducible refine rev_tup ?_ | with_reducible refine rev_lst ?_ | with_reducible refine isi_non0 ?_ | with_reducible refine isi_non1 ?_ | with_reducible refine isi_non2 ?_ | with_reducible refine isi_non3 ?_ | with_reducible refine isi_non4 ?_ | with_reducible refine isi_bl0 ?_ | with_reducible refine isi_bl1 ?_ | with_reducible refine isi_bl2 ?_ | with_reducible refine isi_bl3 ?_ | with_reducible refine isi_bl4 ?_ | with_reducible refine isi_int0 ?_ | with_reducible refine isi_int1 ?_ | with_reducible refine isi_int2 ?_ | with_reducible refine isi_int3 ?_ | with_reducible refine isi_int4 ?_ | with_reducible refine isi_str0 ?_ | with_reducible refine isi_str1 ?_ | with_reducible refine isi_str2 ?_ | with_reducible refine isi_str3 ?_ | with_reducible refine isi_str4 ?_ | with_reducible refine isi_tup0 ?_ | with_reducible refine isi_tup1 ?_ | with_reducible refine isi_tup2 ?_ | with_reducible refine isi_tup3 ?_ | with_reducible refine isi_tup4 ?_ | with_reducible refine isi_lst0 ?_ | with_reducible refine isi_lst1 ?_ | with_reducible refine isi_lst2 ?_ | with_reducible refine isi_lst3 ?_ | with_reducible refine isi_lst4 ?_ | ((with_reducible refine ite_no ?_ ?_); focus (first | assumption | decide))| ((with_reducible refine ite_yes ?_ ?_); focus (first | assumption | decide))| ((with_reducible refine ite_nno ?_ ?_); focus (first | assumption | decide))| ((with_reducible refine ite_nyes ?_ ?_); focus (first | assumption | decide))| ((with_reducible refine ite_no ?_ ?_); focus (first | assumption | (simp; done) | omega | (simp only [List.length_cons, List.length_nil]; omega) | decide))| ((with_reducible refine ite_yes ?_ ?_); focus (first | assumption | (simp; done) | omega | (simp only [List.length_cons, List.length_nil]; omega) | decide))| ((with_reducible refine ite_nno ?_ ?_); focus (first | assumption | (simp; done) | omega | (simp only [List.length_cons, List.length_nil]; omega) | decide))| ((with_reducible refine ite_nyes ?_ ?_); focus (first | assumption | (simp; done) | omega | (simp only [List.length_cons, List.length_nil]; omega) | decide))| ((with_reducible refine And.intro ?_ ?_); focus (first | (simp; done) | omega)))
      rw [List.length_map]
      obtain ⟨c, hc'⟩ := atI_mod cs a (by omega)
      refine bin_mod (by omega) (ix_lst hc' ?_)
      exact key c
    · refine w_int ?_
      exact key 0
end Mi
set_option maxHeartbeats 4000000
/-! Mi21: heads; all defs at once. -/
namespace Mi
open PySem PySem.Spec PyProof.Rows L2

/-! ### constants -/
mutual
def relD (K : PySem.W.Frag) : D → Value → Bool
  | .non, .none => true
  | .bl b, .bool c => b == c
  | .int i, .int j _ => decide (i = j)
  | .str x, .str y _ => decide (x = y)
  | .tup ds, .ref a => match K.lookup a with
    | some ⟨.type c, _, .seq its _, _⟩ => decide (c = "tuple") && (decide (its.size ≤ sizeLine) && relDs K ds its.toList)
    | _ => false
  | _, _ => false
def relDs (K : PySem.W.Frag) : List D → List Value → Bool
  | [], [] => true
  | d :: ds, v :: vs => relD K d v && relDs K ds vs
  | _, _ => false
end
mutual
theorem relD_ok {K : Frg} : ∀ (d : D) (u : Value), relD K.K d u = true → ∃ v, RelV v u ∧ ∀ W H, Rep K W H d v
  | .lst _, u, h => by cases u <;> simp [relD] at h
  | .scr _, u, h => by cases u <;> simp [relD] at h
  | .loc _, u, h => by cases u <;> simp [relD] at h
  | .kd _, u, h => by cases u <;> simp [relD] at h
  | .non, u, h => by cases u <;> first | exact ⟨.non, rfl, fun _ _ => .non⟩ | simp [relD] at h
  | .bl b, u, h => by cases u <;> first | exact ⟨.bl b, by simp only [relD, beq_iff_eq] at h; rw [h]; rfl, fun _ _ => .bl b⟩ | simp [relD] at h
  | .int i, u, h => by cases u <;> first | exact ⟨.int i, by simp only [relD, decide_eq_true_eq] at h; rw [h]; exact ⟨_, rfl⟩, fun _ _ => .int i⟩ | simp [relD] at h
  | .str i, u, h => by cases u <;> first | exact ⟨.str i, by simp only [relD, decide_eq_true_eq] at h; rw [h]; exact ⟨_, rfl⟩, fun _ _ => .str i⟩ | simp [relD] at h
  | .tup ds, u, h => by
    cases u with
    | ref a =>
      simp only [relD] at h
      split at h
      · rename_i c od its n osl e
        simp only [Bool.and_eq_true, decide_eq_true_eq] at h
        obtain ⟨h1, h2, h3⟩ := h
        obtain ⟨vs, r1, r2⟩ := relDs_ok ds _ h3
        exact ⟨.ref a, rfl, fun W H => .tup (.inr fun H' => .inr ⟨_, its, n, e, congrArg Value.type h1, rfl, h2, r1⟩) (r2 W H)⟩
      · cases h
    | _ => simp [relD] at h
theorem relDs_ok {K : Frg} : ∀ (ds : List D) (us : List Value), relDs K.K ds us = true → ∃ vs, Vals vs us ∧ ∀ W H, Reps K W H ds vs
  | [], [], _ => ⟨[], .nil, fun _ _ => .nil⟩
  | d :: ds, u :: us, h => by
    simp only [relDs, Bool.and_eq_true] at h
    obtain ⟨v, a, b⟩ := relD_ok d u h.1
    obtain ⟨vs, a', b'⟩ := relDs_ok ds us h.2
    exact ⟨v :: vs, .cons a a', fun W H => .cons (b W H) (b' W H)⟩
  | [], _ :: _, h => by simp [relDs] at h
  | _ :: _, [], h => by simp [relDs] at h
end
def cstB (K : PySem.W.Frag) (p : Str × D) : Bool := match PySem.W.nsIn K mainGlobals p.1 with
  | some (some u) => relD K p.2 u
  | _ => false

/-! ### the hook -/
def hookM (n : Nat) (fa : List He.Fa) (fn : List He.DefD) (ex : PySem.W.Frag → Bool) : PySem.W.Hook where
  α := He.AlD × Bool
  obs := fun s => (He.obsDG n fa fn s.heap.get?, ex (He.frG s.heap.get? (He.asD s.heap.get? n)))
  val := fun _ => (He.valD fn, true)
  says := fun _ h => ∃ K : PySem.W.Frag, K.In h ∧ He.SaysD fa fn K ∧ ex K = true
  of := fun _ _ e => ⟨_, He.frG_in, congrArg (fun z : He.AlD × Bool => z.1) e, congrArg (fun z : He.AlD × Bool => z.2) e⟩
  keeps := fun _ _ _ ⟨K, hK, c⟩ k => ⟨K, PySem.W.Frag.In.keeps hK k, c⟩
def obM (n : Nat) (fa : List He.Fa) (fn : List He.DefD) (ex : PySem.W.Frag → Bool) (s : PySem.W.SharedT) : He.AlD × Bool := (He.obsDG n fa fn (HandSHeadRun.getT s), ex (He.frG (HandSHeadRun.getT s) (He.asD (HandSHeadRun.getT s) n)))
theorem obM_eq {n : Nat} {fa : List He.Fa} {fn : List He.DefD} {ex : PySem.W.Frag → Bool} (s : PySem.W.SharedT) : obM n fa fn ex s = (hookM n fa fn ex).obs s.abs := by
  have e : HandSHeadRun.getT s = s.abs.heap.get? := funext (HandSHeadRun.getT_eq s)
  show (_, _) = (_, _)
  rw [e]

/-! ### all defs at once -/
/-- a def of the text and its small text -/
structure Bod (T : Tab) (Γ : Nat → GT) (f : Nat) (d : He.DefD) (ps : List Str) : Prop where
  plain : d.at_ = (d.name, none) ∧ d.qual = d.name ∧ d.dfl = [] ∧ d.kwd = []
  bind : ∀ (kV doc pm : Value) (an : Option Addr) (cdv ct : Value) (us : List Value), us.length = ps.length → bindArgs (PySem.W.fnOf d.name d.name d.params d.body d.scope .none kV doc pm an cdv ct) ⟨us, []⟩ = pure (ps.zip us)
  ex : ∃ (c : SC) (b : List St), FnScope c.N ps d.scope ∧ c.sc = d.scope ∧ c.T = T ∧ ckSs b c d.body = true ∧ ∀ k ds S q, Γ (k + 1) f ds S q noX → wpSs T (Γ k) noX b (bodyEn q) (startD c.N ds) S
  len : ∀ k ds S q, Γ k f ds S q noX → ds.length = ps.length
  zero : ∀ ds S q, ¬ Γ 0 f ds S q noX
theorem fns_all {P : Program} {w : World} {K : Frg} {mg : Str → Option Value} {base h : Heap} {T : Tab} {Γ : Nat → GT} {fa : List He.Fa} {fn : List He.DefD} (X : K.K.In h) (G : h.Ns mainGlobals mg) (c : He.SaysD fa fn K.K) (M : MCx P w K mg T)
    (tab : ∀ (f : Nat) (x : Str), T.fn[f]? = some x → ∃ d ps, d ∈ fn ∧ d.name = x ∧ He.Fa.glo x ∈ fa ∧ Bod T Γ f d ps) : ∀ k, Fns P w K mg base T k (Γ k) := by
  intro k
  induction k with
  | zero =>
    intro f x hx
    obtain ⟨d, ps, hd, hn, hg, B⟩ := tab f x hx
    obtain ⟨fd, F⟩ := c.defs hd
    refine ⟨He.ga K.K x, He.glo_ok X G (c.facts hg), ?_⟩
    obtain ⟨p1, p2, p3, p4⟩ := B.plain
    have ea : He.fAd K.K d.at_ = He.ga K.K x := by rw [p1, ← hn]; rfl
    rw [ea] at F
    exact ⟨F.kp, fun A outer s H us vs W S ds q Q _ _ _ _ _ _ z => (B.zero _ _ _ z).elim⟩
  | succ k ih =>
    intro f x hx
    obtain ⟨d, ps, hd, hn, hg, B⟩ := tab f x hx
    obtain ⟨fd, F⟩ := c.defs hd
    refine ⟨He.ga K.K x, He.glo_ok X G (c.facts hg), ?_⟩
    obtain ⟨p1, p2, p3, p4⟩ := B.plain
    have ea : He.fAd K.K d.at_ = He.ga K.K x := by rw [p1, ← hn]; rfl
    have e1 : d.dvs K.K = [] := by unfold He.DefD.dvs; rw [p3]; rfl
    have e2 : d.kws K.K = [] := by unfold He.DefD.kws; rw [p4]; rfl
    rw [ea, e1, e2, p2] at F
    obtain ⟨cc, b, S, hsc, hT, ck, step⟩ := B.ex
    subst hT
    exact fnd_of F S hsc (fun s us hl => F.bindsA B.bind s us hl) ck M ih (B.len _) (step k)
theorem mcx_of {P : Program} {w : World} {K : Frg} {mg : Str → Option Value} {h : Heap} {T : Tab} {fa : List He.Fa} {fn : List He.DefD} (X : K.K.In h) (G : h.Ns mainGlobals mg) (c : He.SaysD fa fn K.K) (hb : ∀ x ∈ biAll, He.Fa.free x ∈ fa)
    (hc : (T.cst.all fun p => cstB K.K p) = true) : MCx P w K mg T := by
  refine ⟨fun x hx => He.free_ok X G (c.facts (hb x hx)), fun i p hp => ?_⟩
  have := List.all_eq_true.mp hc p (List.mem_of_getElem? hp)
  unfold cstB at this
  split at this
  · rename_i u e
    obtain ⟨v, a, b⟩ := relD_ok p.2 u this
    exact ⟨u, v, PySem.W.mg_of X G e, a, b⟩
  · cases this
end Mi
set_option maxHeartbeats 4000000
/-! Mi22: how long a repr is at most. -/
namespace Mi
open PySem

mutual
def wD : D → Nat
  | .non => 6
  | .bl _ => 6
  | .int i => if i.natAbs < 10 ^ 60 then 62 else 10 ^ 9
  | .str x => if PyData.strOk x = true then 10 * x.length + 2 else 10 ^ 9
  | .tup ds => wDs ds + 4
  | .lst ds => wDs ds + 4
  | .scr _ => 10 ^ 9
  | .loc _ => 10 ^ 9
  | .kd _ => 10 ^ 9
def wDs : List D → Nat
  | [] => 0
  | d :: ds => wD d + 2 + wDs ds
end
mutual
def dD : D → Nat
  | .tup ds => dDs ds + 1
  | .lst ds => dDs ds + 1
  | _ => 0
def dDs : List D → Nat
  | [] => 0
  | d :: ds => max (dD d) (dDs ds)
end
theorem piled_cons' (t : Str) (ts : List Str) : piled (t :: ts) = t.length + 2 + piled ts := by simp [piled]
theorem textFrom_le : ∀ (ts : List Str) (k : Nat) (acc : Str), (textFrom k acc ts).length ≤ acc.length + piled ts
  | [], k, acc => by show acc.length ≤ _; omega
  | t :: r, k, acc => by
    have h := textFrom_le r (k + 1) (acc ++ (if k > 0 then ", " else "" : String) ++ t)
    have e : (acc ++ (if k > 0 then ", " else "" : String) ++ t).length = acc.length + (if k > 0 then 2 else 0) + t.length := by
      rw [strLen_append, strLen_append]
      split <;> rfl
    rw [e] at h
    rw [piled_cons']
    have e0 : (if k > 0 then 2 else 0 : Nat) ≤ 2 := by split <;> omega
    show (textFrom (k + 1) (acc ++ (if k > 0 then ", " else "" : String) ++ t) r).length ≤ _
    omega
theorem listText_le (ts : List Str) : (listText ts).length ≤ piled ts + 2 := by
  unfold listText
  rw [strLen_append]
  have h := textFrom_le ts 0 "["
  have e1 : (("[" : String) : Str).length = 1 := rfl
  have e2 : (("]" : String) : Str).length = 1 := rfl
  rw [e1] at h
  rw [e2]; omega
theorem tupleText_le (ts : List Str) : (tupleText ts).length ≤ piled ts + 3 := by
  unfold tupleText
  rw [strLen_append, strLen_append]
  have e1 : (("(" : String) : Str).length = 1 := rfl
  have e3 : (((if ts.length == 1 then ",)" else ")" : String) : Str)).length ≤ 2 := by split <;> decide
  rw [e1]
  by_cases h : ts = []
  · subst h
    have : (Str.join ", " ([] : List Str)).length = 0 := rfl
    omega
  · have := join_length_add ts h
    omega
mutual
theorem rep_le : ∀ d : D, wD d < 10 ^ 9 → ∃ p, pd d = some p ∧ (p.showable = true ∧ p.canLay0 = true) ∧ p.shown.length ≤ wD d ∧ p.depth ≤ dD d
  | .non, _ => ⟨_, rfl, ⟨rfl, rfl⟩, by decide, Nat.le_refl _⟩
  | .bl b, _ => ⟨_, rfl, ⟨rfl, rfl⟩, by cases b <;> decide, Nat.le_refl _⟩
  | .int i, h => by
    by_cases e : i.natAbs < 10 ^ 60
    · refine ⟨_, rfl, ⟨?_, rfl⟩, ?_, Nat.le_refl _⟩
      · show decide (i.natAbs.log2 < 1920) = true
        refine decide_eq_true ?_
        by_cases h0 : i.natAbs = 0
        · rw [h0]; decide
        · rw [Nat.log2_lt h0]; exact Nat.lt_trans e (by decide +kernel)
      · rw [wD, if_pos e]
        have := int_text_length_le10 (a := i) (k := 60) (by decide) e
        have e2 : (PyData.shown (.int i)).length = (toString i).length := by
          simp only [PyData.shown]
          exact ofString_length _
        rw [e2]; omega
    · rw [wD, if_neg e] at h; exact absurd h (by decide)
  | .str x, h => by
    by_cases e : PyData.strOk x = true
    · refine ⟨_, rfl, ⟨rfl, e⟩, ?_, Nat.le_refl _⟩
      rw [wD, if_pos e]
      simp only [PyData.shown]
      refine StrLaws.reprText_len x fun c hc => ?_
      unfold PyData.strOk at e
      rw [← Array.all_toList] at e
      have := List.all_eq_true.mp e c hc
      have h2 : c < 0x110000 := by simpa using this
      exact Nat.lt_trans h2 (by decide)
    · rw [wD, if_neg e] at h; exact absurd h (by decide)
  | .tup ds, h => by
    rw [wD] at h
    obtain ⟨ps, h1, h2, h3, h4⟩ := reps_le ds (by omega)
    refine ⟨.tuple ps, by simp only [pd, h1], ⟨by simp only [PyData.showable]; exact h2.1, by simp only [PyData.canLay0]; exact h2.2⟩, ?_, by simp only [PyData.depth, dD]; omega⟩
    rw [wD]
    simp only [PyData.shown]
    have := tupleText_le (PyData.shownAll ps)
    omega
  | .lst ds, h => by
    rw [wD] at h
    obtain ⟨ps, h1, h2, h3, h4⟩ := reps_le ds (by omega)
    refine ⟨.list ps, by simp only [pd, h1], ⟨by simp only [PyData.showable]; exact h2.1, by simp only [PyData.canLay0]; exact h2.2⟩, ?_, by simp only [PyData.depth, dD]; omega⟩
    rw [wD]
    simp only [PyData.shown]
    have := listText_le (PyData.shownAll ps)
    omega
  | .scr _, h => absurd h (by rw [wD]; decide)
  | .loc _, h => absurd h (by rw [wD]; decide)
  | .kd _, h => absurd h (by rw [wD]; decide)
theorem reps_le : ∀ ds : List D, wDs ds < 10 ^ 9 → ∃ ps, pds ds = some ps ∧ (PyData.showableAll ps = true ∧ PyData.canLayAll0 ps = true) ∧ piled (PyData.shownAll ps) ≤ wDs ds ∧ PyData.depthAll ps ≤ dDs ds
  | [], _ => ⟨[], rfl, ⟨rfl, rfl⟩, Nat.le_refl _, Nat.le_refl _⟩
  | d :: ds, h => by
    rw [wDs] at h
    obtain ⟨p, a1, a2, a3, a4⟩ := rep_le d (by omega)
    obtain ⟨ps, b1, b2, b3, b4⟩ := reps_le ds (by omega)
    refine ⟨p :: ps, by simp only [pds, a1, b1], ⟨by simp only [PyData.showableAll, a2.1, b2.1, Bool.and_self], by simp only [PyData.canLayAll0, a2.2, b2.2, Bool.and_self]⟩, ?_, by simp only [PyData.depthAll, dDs]; omega⟩
    simp only [PyData.shownAll, piled_cons', wDs]
    omega
end
theorem repr_some {d : D} (h : wD d ≤ 10 ^ 7) (h2 : dD d ≤ 150) : ∃ s, reprD d = some s := by
  obtain ⟨p, a1, a2, a3, a4⟩ := rep_le d (Nat.lt_of_le_of_lt h (by decide))
  refine ⟨p.shown, ?_⟩
  unfold reprD
  rw [a1]
  have e1 : decide (p.shown.length ≤ sizeLine) = true := decide_eq_true (Nat.le_trans a3 (Nat.le_trans h (by decide)))
  have e2 : decide (p.depth ≤ 150) = true := decide_eq_true (by omega)
  simp only [a2.1, e1, e2, Bool.and_self, if_true]
theorem eq_tup0 {xs : List D} (h : wD (.tup xs) < 10 ^ 9) (h2 : dD (.tup xs) ≤ 150) : eqD (.tup xs) (.tup []) = some xs.isEmpty := by
  rw [wD] at h
  obtain ⟨ps, h1, h3, _, h4⟩ := reps_le xs (by omega)
  have e : ps.isEmpty = xs.isEmpty := by
    cases xs with
    | nil => simp only [pds] at h1; cases h1; rfl
    | cons x xs =>
      simp only [pds] at h1
      split at h1
      · cases h1; rfl
      · cases h1
  have e2 : decide ((PyData.tuple ps).depth ≤ 150) = true := decide_eq_true (by rw [dD] at h2; simp only [PyData.depth]; omega)
  have e3 : (PyData.tuple ps).canLay0 = true := by simp only [PyData.canLay0]; exact h3.2
  have e4 : PyData.eqv (.tuple ps) (.tuple []) = ps.isEmpty := by cases ps <;> rfl
  show (match pd (.tup xs), pd (.tup []) with
    | some a, some b => if a.canLay0 && b.canLay0 && decide (a.depth ≤ 150) then some (PyData.eqv a b) else none
    | _, _ => none) = _
  simp only [pd, h1, pds, e3, e2]
  rw [e4, e]
  rfl
theorem strOk_append {x y : Str} (h : PyData.strOk x = true) (h2 : PyData.strOk y = true) : PyData.strOk (x ++ y) = true := by
  unfold PyData.strOk at h h2 ⊢
  show (x.cps ++ y.cps).all _ = true
  rw [Array.all_append, h, h2]
  rfl
theorem strOk_of (s : String) : PyData.strOk (Str.ofString s) = true := by
  unfold PyData.strOk
  rw [Str.ofString_eq_toList, ← Array.all_toList]
  rw [List.all_eq_true]
  intro c hc
  obtain ⟨ch, _, rfl⟩ := List.mem_map.mp (by simpa using hc)
  have := ch.valid
  refine decide_eq_true ?_
  rcases this with h | ⟨_, h⟩
  · exact Nat.lt_trans h (by decide)
  · exact h
theorem wD_str {x : Str} (h : PyData.strOk x = true) : wD (.str x) = 10 * x.length + 2 := by rw [wD, if_pos h]
theorem wD_le_str {x : Str} (h : wD (.str x) < 10 ^ 9) : PyData.strOk x = true ∧ wD (.str x) = 10 * x.length + 2 := by
  by_cases e : PyData.strOk x = true
  · exact ⟨e, wD_str e⟩
  · rw [wD, if_neg e] at h; exact absurd h (by decide)
theorem wD_int {i : Int} (h : i.natAbs < 10 ^ 60) : wD (.int i) = 62 := by rw [wD, if_pos h]
theorem wDs_append (xs ys : List D) : wDs (xs ++ ys) = wDs xs + wDs ys := by
  induction xs with
  | nil => simp [wDs]
  | cons x xs ih => simp only [List.cons_append, wDs, ih]; omega
theorem wDs_reverse (xs : List D) : wDs xs.reverse = wDs xs := by
  induction xs with
  | nil => rfl
  | cons x xs ih => rw [List.reverse_cons, wDs_append, ih]; simp only [wDs]; omega
theorem wDs_take (n : Nat) (xs : List D) : wDs (xs.take n) ≤ wDs xs := by
  have := wDs_append (xs.take n) (xs.drop n)
  rw [List.take_append_drop] at this; omega
theorem wDs_drop (n : Nat) (xs : List D) : wDs (xs.drop n) ≤ wDs xs := by
  have := wDs_append (xs.take n) (xs.drop n)
  rw [List.take_append_drop] at this; omega
theorem dDs_append (xs ys : List D) : dDs (xs ++ ys) = max (dDs xs) (dDs ys) := by
  induction xs with
  | nil => simp [dDs]
  | cons x xs ih => simp only [List.cons_append, dDs, ih]; omega
theorem dDs_reverse (xs : List D) : dDs xs.reverse = dDs xs := by
  induction xs with
  | nil => rfl
  | cons x xs ih => rw [List.reverse_cons, dDs_append, ih]; simp only [dDs]; omega
theorem dDs_take (n : Nat) (xs : List D) : dDs (xs.take n) ≤ dDs xs := by
  have := dDs_append (xs.take n) (xs.drop n)
  rw [List.take_append_drop] at this; omega
theorem dDs_drop (n : Nat) (xs : List D) : dDs (xs.drop n) ≤ dDs xs := by
  have := dDs_append (xs.take n) (xs.drop n)
  rw [List.take_append_drop] at this; omega
theorem cutD_none_none {α : Type} (xs : List α) : cutD xs none none = xs := by
  unfold cutD
  show (xs.drop 0).take (xs.length - 0) = xs
  simp
theorem cutD_from {α : Type} (xs : List α) (n : Nat) : cutD xs (some (n : Int)) none = xs.drop (min n xs.length) := by
  unfold cutD
  rw [HT.sIx_nat, HT.sIx_none]
  rw [List.take_of_length_le]
  rw [List.length_drop]; omega
theorem cutD_to {α : Type} (xs : List α) (n : Nat) : cutD xs none (some (n : Int)) = xs.take (min n xs.length) := by
  unfold cutD
  rw [HT.sIx_nat, HT.sIx_none, List.drop_zero, Nat.sub_zero]
theorem wDs_cut (xs : List D) (lo hi : Option Int) : wDs (cutD xs lo hi) ≤ wDs xs := Nat.le_trans (wDs_take _ _) (wDs_drop _ _)
theorem dDs_cut (xs : List D) (lo hi : Option Int) : dDs (cutD xs lo hi) ≤ dDs xs := Nat.le_trans (dDs_take _ _) (dDs_drop _ _)
end Mi
set_option maxHeartbeats 1000000
/-! Mi23: more steps: membership, methods. -/
namespace Mi
open PySem

def strsD : List D → Option (List Str)
  | [] => some []
  | .str x :: r => (strsD r).map (x :: ·)
  | _ => none
theorem strsD_ok : ∀ {ys : List D} {zs : List Str}, strsD ys = some zs → ys = zs.map .str
  | [], zs, h => by cases h; rfl
  | .str x :: r, zs, h => by
    simp only [strsD] at h
    cases e : strsD r with
    | none => rw [e] at h; cases h
    | some r' => rw [e] at h; cases h; rw [strsD_ok e]; rfl
  | .non :: _, _, h => by cases h
  | .bl _ :: _, _, h => by cases h
  | .int _ :: _, _, h => by cases h
  | .tup _ :: _, _, h => by cases h
  | .lst _ :: _, _, h => by cases h
  | .scr _ :: _, _, h => by cases h
  | .loc _ :: _, _, h => by cases h
  | .kd _ :: _, _, h => by cases h
theorem inD_strs (w : Str) : ∀ zs : List Str, inD (.str w) (zs.map .str) = some (decide (w ∈ zs))
  | [] => by simp [inD]
  | z :: zs => by
    simp only [List.map_cons, inD, eqD]
    by_cases e : z = w
    · subst e; simp
    · have : decide (z = w) = false := decide_eq_false e
      rw [this]
      simp only
      rw [inD_strs w zs]
      have e' : ¬ w = z := fun h => e h.symm
      simp [e']
theorem flat_strs (zs : List Str) : (zs.map D.str).all flatD = true := by
  rw [List.all_eq_true]
  intro x hx
  obtain ⟨z, _, rfl⟩ := List.mem_map.mp hx
  rfl
section
variable {S : Sto} {q : Q1} {qb : Bool → Prop} {w : Str} {ys : List D} {zs : List Str}
theorem in_strs (h : strsD ys = some zs) (k : qb (decide (w ∈ zs))) : CmpW .in_ S (.str w) (.tup ys) qb := ⟨_, by
  rw [strsD_ok h]
  show (if flatD (.str w) && (zs.map D.str).all flatD then inD (.str w) (zs.map .str) else none) = _
  rw [flat_strs, inD_strs]; rfl, k⟩
theorem nin_strs (h : strsD ys = some zs) (k : qb (!decide (w ∈ zs))) : CmpW .nin S (.str w) (.tup ys) qb := ⟨_, by
  rw [strsD_ok h]
  show (if flatD (.str w) && (zs.map D.str).all flatD then (inD (.str w) (zs.map .str)).map (!·) else none) = _
  rw [flat_strs, inD_strs]; rfl, k⟩
theorem cmp_isN {x : D} (h : x ≠ .non) (k : qb false) : CmpW .is_ S x .non qb := ⟨false, by
  cases x <;> first | rfl | exact absurd rfl h, k⟩
theorem cmp_isNN (k : qb true) : CmpW .is_ S .non .non qb := ⟨true, rfl, k⟩
theorem cmp_nisN {x : D} (h : x ≠ .non) (k : qb true) : CmpW .nis S x .non qb := ⟨true, by
  cases x <;> first | rfl | exact absurd rfl h, k⟩
theorem cmp_nisNN (k : qb false) : CmpW .nis S .non .non qb := ⟨false, rfl, k⟩
theorem cmp_isB {a b : Bool} (k : qb (decide (a = b))) : CmpW .is_ S (.bl a) (.bl b) qb := ⟨_, rfl, k⟩
theorem cmp_nisB {a b : Bool} (k : qb (!decide (a = b))) : CmpW .nis S (.bl a) (.bl b) qb := ⟨_, rfl, k⟩
end
section
variable {S : Sto} {q : Q1} {qb : Bool → Prop} {n : Nat} {kvs : List (L2.Key × D)} {xs : List D} {p : Prop} {w : Str} {d : D} {i : Int}
theorem kind_get2 (h : S n = some (.dic kvs)) (k : p) : KindW S (.loc n) .get2 p := ⟨by simp only [kindD, h]; rfl, k⟩
theorem kind_get1 (h : S n = some (.dic kvs)) (k : p) : KindW S (.loc n) .get1 p := ⟨by simp only [kindD, h]; rfl, k⟩
theorem kind_app (h : S n = some (.lst xs)) (k : p) : KindW S (.loc n) .append p := ⟨by simp only [kindD, h]; rfl, k⟩
theorem kind_ext (h : S n = some (.lst xs)) (k : p) : KindW S (.loc n) .extend p := ⟨by simp only [kindD, h]; rfl, k⟩
theorem kind_pop (h : S n = some (.lst xs)) (k : p) : KindW S (.loc n) .pop0 p := ⟨by simp only [kindD, h]; rfl, k⟩
theorem mt_get2 (h : S n = some (.dic kvs)) (k : q ((lkD kvs (.inr w)).getD d) S) : MtW .get2 S (.loc n) [.str w, d] q := ⟨_, by simp only [mtD, h, keyD]; rfl, k⟩
theorem mt_get2i (h : S n = some (.dic kvs)) (k : q ((lkD kvs (.inl i)).getD d) S) : MtW .get2 S (.loc n) [.int i, d] q := ⟨_, by simp only [mtD, h, keyD]; rfl, k⟩
theorem mt_get1 (h : S n = some (.dic kvs)) (k : q ((lkD kvs (.inr w)).getD .non) S) : MtW .get1 S (.loc n) [.str w] q := ⟨_, by simp only [mtD, h, keyD]; rfl, k⟩
theorem mt_get1i (h : S n = some (.dic kvs)) (k : q ((lkD kvs (.inl i)).getD .non) S) : MtW .get1 S (.loc n) [.int i] q := ⟨_, by simp only [mtD, h, keyD]; rfl, k⟩
theorem mt_app (h : S n = some (.lst xs)) (hl : xs.length < 1000000) (k : q .non (put S n (.lst (xs ++ [d])))) : MtW .append S (.loc n) [d] q := ⟨(.non, put S n (.lst (xs ++ [d]))), by simp only [mtD, h, if_pos hl], k⟩
theorem mt_extL {ys : List D} (h : S n = some (.lst xs)) (hl : xs.length + ys.length < 1000000) (k : q .non (put S n (.lst (xs ++ ys)))) : MtW .extend S (.loc n) [.lst ys] q := ⟨(.non, put S n (.lst (xs ++ ys))), by simp only [mtD, h, lstD, if_pos hl], k⟩
theorem ix_t0 {a : D} {l : List D} (k : q a S) : IxW S (.tup (a :: l)) (.int 0) q := ix_tup (L2.atI_nat (j := 0) rfl) k
theorem ix_t1 {a b : D} {l : List D} (k : q b S) : IxW S (.tup (a :: b :: l)) (.int 1) q := ix_tup (L2.atI_nat (j := 1) rfl) k
theorem ix_t2 {a b c : D} {l : List D} (k : q c S) : IxW S (.tup (a :: b :: c :: l)) (.int 2) q := ix_tup (L2.atI_nat (j := 2) rfl) k
theorem ix_t3 {a b c e : D} {l : List D} (k : q e S) : IxW S (.tup (a :: b :: c :: e :: l)) (.int 3) q := ix_tup (L2.atI_nat (j := 3) rfl) k
theorem ix_l0 {a : D} {l : List D} (k : q a S) : IxW S (.lst (a :: l)) (.int 0) q := ix_lst (L2.atI_nat (j := 0) rfl) k
theorem ix_l1 {a b : D} {l : List D} (k : q b S) : IxW S (.lst (a :: b :: l)) (.int 1) q := ix_lst (L2.atI_nat (j := 1) rfl) k
theorem ix_l2 {a b c : D} {l : List D} (k : q c S) : IxW S (.lst (a :: b :: c :: l)) (.int 2) q := ix_lst (L2.atI_nat (j := 2) rfl) k
/-- one of several -/
theorem ix_any {xs : List D} {i : Int} (h0 : 0 ≤ i) (h1 : i < xs.length) (k : ∀ x ∈ xs, q x S) : IxW S (.lst xs) (.int i) q := by
  obtain ⟨j, rfl⟩ := Int.eq_ofNat_of_zero_le h0
  have hj : j < xs.length := by omega
  exact ix_lst (L2.atI_nat (List.getElem?_eq_getElem hj)) (k _ (List.getElem_mem hj))
theorem ne_t0 {xs : List D} {x : D} (h : wD (.tup (x :: xs)) < 10 ^ 9) (h2 : dD (.tup (x :: xs)) ≤ 150) (k : qb true) : CmpW .ne S (.tup (x :: xs)) (.tup []) qb := ⟨true, by
  show (eqD (.tup (x :: xs)) (.tup [])).map (!·) = _
  rw [eq_tup0 h h2]; rfl, k⟩
theorem ne_te {xs : List D} (h : wD (.tup xs) < 10 ^ 9) (h2 : dD (.tup xs) ≤ 150) (e : xs.isEmpty = true) (k : qb false) : CmpW .ne S (.tup xs) (.tup []) qb := ⟨false, by
  show (eqD (.tup xs) (.tup [])).map (!·) = _
  rw [eq_tup0 h h2, e]; rfl, k⟩
theorem ne_tn {xs : List D} (h : wD (.tup xs) < 10 ^ 9) (h2 : dD (.tup xs) ≤ 150) (e : xs.isEmpty = false) (k : qb true) : CmpW .ne S (.tup xs) (.tup []) qb := ⟨true, by
  show (eqD (.tup xs) (.tup [])).map (!·) = _
  rw [eq_tup0 h h2, e]; rfl, k⟩
theorem ne_t00 (k : qb false) : CmpW .ne S (.tup []) (.tup []) qb := ⟨false, by
  show (eqD (.tup []) (.tup [])).map (!·) = _
  rw [eq_tup0 (by decide) (by decide)]; rfl, k⟩
theorem str_int {i : Int} (h : i.natAbs < 10 ^ 60) (k : q (.str (toString i)) S) : BifW .str S [.int i] q := ⟨_, by
  show (if i.natAbs.log2 < 1920 then some (D.str (toString i)) else none) = _
  have : i.natAbs.log2 < 1920 := by
    by_cases h0 : i.natAbs = 0
    · rw [h0]; decide
    · rw [Nat.log2_lt h0]; exact Nat.lt_trans h (by decide +kernel)
  rw [if_pos this], k⟩
theorem repr_w {d : D} (h : wD d ≤ 10 ^ 7) (h2 : dD d ≤ 150) (k : ∀ s, reprD d = some s → q (.str s) S) : BifW .repr S [d] q := by
  obtain ⟨s, e⟩ := repr_some h h2
  exact ⟨.str s, by show (reprD d).map D.str = _; rw [e]; rfl, k s e⟩
theorem mt_get2e {z : D} (h : S n = some (.dic kvs)) (e : (lkD kvs (.inr w)).getD d = z) (k : q z S) : MtW .get2 S (.loc n) [.str w, d] q := mt_get2 h (by rw [e]; exact k)
theorem rng_1 {j : Int} {q : List D → Prop} (h1 : -(2 ^ 62) ≤ j) (h2 : j < 2 ^ 62) (k : q (rngD 0 j.toNat)) : rngW [.int j] q := ⟨h1, h2, k⟩
theorem rng_2 {i j : Int} {q : List D → Prop} (h1 : -(2 ^ 62) ≤ i) (h2 : i < 2 ^ 62) (h3 : -(2 ^ 62) ≤ j) (h4 : j < 2 ^ 62) (k : q (rngD i (j - i).toNat)) : rngW [.int i, .int j] q := ⟨h1, h2, h3, h4, k⟩
end
section
variable {T : Tab} {G : GT} {xd : XD} {S : Sto} {chk : Sto → Prop} {bd : D → Option Env} {e1 : Env} {e : E} {x : D} {xs acc : List D} {q : List D → Sto → Prop}
theorem lc_one (h : chk S) (hb : bd x = some e1) (k : wpE T G xd e e1 S fun y S2 => acc.length < 1000000 ∧ lcL chk bd (fun e1 S q => wpEs T G xd .nil e1 S fun ds S2 => match ds with
      | [] => q true S2
      | x :: _ => ∃ k, truD S2 x = some k ∧ q k S2) (fun e1 S q => wpE T G xd e e1 S q) xs (acc ++ [y]) S2 q) : lcL chk bd (fun e1 S q => wpEs T G xd .nil e1 S fun ds S2 => match ds with
      | [] => q true S2
      | x :: _ => ∃ k, truD S2 x = some k ∧ q k S2) (fun e1 S q => wpE T G xd e e1 S q) (x :: xs) acc S q := by
  refine ⟨h, e1, hb, ?_⟩
  refine w_nil ?_
  exact k
theorem lc_end {cond : Env → Sto → (Bool → Sto → Prop) → Prop} {elt : Env → Sto → Q1 → Prop} (h : chk S) (k : q acc S) : lcL chk bd cond elt [] acc S q := ⟨h, k⟩
end
theorem for_rng {bd : D → Env → Option Env} {body : En → Env → Sto → Prop} {nx bk ct : Env → Sto → Prop} {rt : Q1} (n : Nat) (lo : Int) (I : Nat → Env → Sto → Prop)
    (step : ∀ i e S, i < n → I i e S → ∀ nx' : Env → Sto → Prop, (∀ e' S', I (i + 1) e' S' → nx' e' S') → ∃ e1, bd (.int (lo + i)) e = some e1 ∧ body ⟨nx', rt, nx, nx'⟩ e1 S)
    (fin : ∀ e S, I n e S → nx e S) : ∀ e S, I 0 e S → forL (fun _ => True) bd body ⟨nx, rt, bk, ct⟩ (rngD lo n) e S := by
  intro e S h
  refine for_by (fun xs e S => ∃ i : Nat, i ≤ n ∧ xs = rngD (lo + i) (n - i) ∧ I i e S) (fun _ _ _ _ => trivial) ?_ ?_ _ _ _ ⟨0, Nat.zero_le _, by simp, h⟩
  · rintro x xs e S ⟨i, hi, hx, hI⟩ nx' hn
    obtain ⟨j, hj⟩ : ∃ j, n - i = j + 1 := by
      cases hm : n - i with
      | zero => rw [hm] at hx; cases hx
      | succ j => exact ⟨j, rfl⟩
    rw [hj] at hx
    injection hx with hx1 hx2
    subst hx1 hx2
    exact step i e S (by omega) hI nx' fun e' S' h' => hn e' S' ⟨i + 1, by omega, by
      rw [show n - (i + 1) = j by omega]
      congr 1
      push_cast
      omega, h'⟩
  · rintro e S ⟨i, hi, hx, hI⟩
    have : n - i = 0 := by
      cases hm : n - i with
      | zero => rfl
      | succ j => rw [hm] at hx; cases hx
    have : i = n := by omega
    subst this
    exact fin e S hI
/-- over a list of which each one is as told -/
theorem for_all {chk : Sto → Prop} {bd : D → Env → Option Env} {body : En → Env → Sto → Prop} {nx bk ct : Env → Sto → Prop} {rt : Q1} (P : D → Prop) (I : Env → Sto → Prop) (hc : ∀ S, chk S)
    (step : ∀ x e S, P x → I e S → ∀ nx' : Env → Sto → Prop, (∀ e' S', I e' S' → nx' e' S') → ∃ e1, bd x e = some e1 ∧ body ⟨nx', rt, nx, nx'⟩ e1 S)
    (fin : ∀ e S, I e S → nx e S) : ∀ xs e S, (∀ x ∈ xs, P x) → I e S → forL chk bd body ⟨nx, rt, bk, ct⟩ xs e S := fun xs e S h hI =>
  for_by (fun xs e S => (∀ x ∈ xs, P x) ∧ I e S) (fun _ _ _ _ => hc _) (fun x xs e S ⟨h1, h2⟩ nx' hn => step x e S (h1 x List.mem_cons_self) h2 nx' fun e' S' h' => hn e' S' ⟨fun y hy => h1 y (List.mem_cons_of_mem _ hy), h'⟩) (fun e S ⟨_, h2⟩ => fin e S h2) xs e S ⟨h, hI⟩
end Mi
set_option maxHeartbeats 1000000
/-! Mi24: a tape: what its draws leave. -/
local macro_rules | `(tactic| tb_start) => `(tactic| first | ((with_reducible show Mi.wpE _ _ _ _ _ _ _); first | ((with_reducible apply Mi.w_var); exact rfl) | with_reducible refine Mi.w_int ?_ | with_reducible refine Mi.w_str ?_ | with_reducible refine Mi.w_bl ?_ | with_reducible refine Mi.w_non ?_ | ((with_reducible apply Mi.w_cst); exact rfl) | with_reducible refine Mi.w_tup ?_ | with_reducible refine Mi.w_lst ?_ | with_reducible refine Mi.w_mls ?_ | with_reducible refine Mi.w_dic ?_ | with_reducible refine Mi.w_bin ?_ | with_reducible refine Mi.w_cmp ?_ | with_reducible refine Mi.w_chn ?_ | with_reducible refine Mi.w_and ?_ | with_reducible refine Mi.w_or ?_ | with_reducible refine Mi.w_not ?_ | with_reducible refine Mi.w_neg ?_ | with_reducible refine Mi.w_ife ?_ | with_reducible refine Mi.w_ix ?_ | with_reducible refine Mi.w_sl ?_ | with_reducible refine Mi.w_rev ?_ | with_reducible refine Mi.w_call ?_ | with_reducible refine Mi.w_bif ?_ | with_reducible refine Mi.w_isi ?_ | with_reducible refine Mi.w_mli ?_ | with_reducible refine Mi.w_meth ?_ | with_reducible refine Mi.w_fz ?_ | with_reducible refine Mi.w_chn3 ?_ | with_reducible refine Mi.w_mdc ?_ | with_reducible refine Mi.w_den ?_ | with_reducible refine Mi.w_lc ?_ | with_reducible refine Mi.w_mlc ?_) | ((with_reducible show Mi.wpEs _ _ _ _ _ _ _); first | with_reducible refine Mi.w_nil ?_ | with_reducible refine Mi.w_cons ?_) | ((with_reducible show Mi.wpSs _ _ _ _ _ _ _); first | with_reducible refine Mi.w_end ?_ | with_reducible refine Mi.w_then ?_) | ((with_reducible show Mi.wpS _ _ _ _ _ _ _); first | with_reducible refine Mi.w_set ?_ | with_reducible refine Mi.w_setT ?_ | with_reducible refine Mi.w_setI ?_ | with_reducible refine Mi.w_ifs ?_ | with_reducible refine Mi.w_for ?_ | with_reducible refine Mi.w_ret ?_ | with_reducible refine Mi.w_retN ?_ | with_reducible refine Mi.w_ex ?_ | with_reducible refine Mi.w_brk ?_ | with_reducible refine Mi.w_cont ?_ | with_reducible refine Mi.w_pass ?_) | ((with_reducible show Mi.wpI _ _ _ _ _ _ _); first | with_reducible refine Mi.w_rng ?_ | with_reducible refine Mi.w_seq ?_ | with_reducible refine Mi.w_rvs ?_ | with_reducible refine Mi.w_enm ?_) | ((with_reducible show Mi.TruW _ _ _); first | with_reducible refine Mi.tru_bl ?_ | with_reducible refine Mi.tru_int ?_))
local macro_rules | `(tactic| tb_rel) => `(tactic| first | ((with_reducible show Mi.IteW _ _ _); first | with_reducible refine Mi.ite_t ?_ | with_reducible refine Mi.ite_f ?_ | with_reducible refine Mi.ite_nt ?_ | with_reducible refine Mi.ite_nf ?_ | ((with_reducible refine Mi.ite_no ?_ ?_); focus (first | assumption | decide))| ((with_reducible refine Mi.ite_yes ?_ ?_); focus (first | assumption | decide))| ((with_reducible refine Mi.ite_nno ?_ ?_); focus (first | assumption | decide))| ((with_reducible refine Mi.ite_nyes ?_ ?_); focus (first | assumption | decide))| ((with_reducible refine Mi.ite_no ?_ ?_); focus (first | assumption | (simp; done) | omega | (simp only [List.length_cons, List.length_nil]; omega) | decide))| ((with_reducible refine Mi.ite_yes ?_ ?_); focus (first | assumption | (simp; done) | omega | (simp only [List.length_cons, List.length_nil]; omega) | decide))| ((with_reducible refine Mi.ite_nno ?_ ?_); focus (first | assumption | (simp; done) | omega | (simp only [List.length_cons, List.length_nil]; omega) | decide))| ((with_reducible refine Mi.ite_nyes ?_ ?_); focus (first | assumption | (simp; done) | omega | (simp only [List.length_cons, List.length_nil]; omega) | decide))) | ((with_reducible show Mi.BinW _ _ _ _ _); first | with_reducible refine Mi.bin_add ?_ | with_reducible refine Mi.bin_sub ?_) | ((with_reducible show Mi.CmpW _ _ _ _ _); first | with_reducible refine Mi.cmp_lt ?_ | with_reducible refine Mi.cmp_le ?_ | with_reducible refine Mi.cmp_gt ?_ | with_reducible refine Mi.cmp_ge ?_ | with_reducible refine Mi.cmp_eqI ?_ | with_reducible refine Mi.cmp_neI ?_ | with_reducible refine Mi.cmp_eqS ?_ | with_reducible refine Mi.cmp_neS ?_ | with_reducible refine Mi.cmp_isNN ?_ | with_reducible refine Mi.cmp_nisNN ?_ | with_reducible refine Mi.cmp_isB ?_ | with_reducible refine Mi.cmp_nisB ?_ | ((with_reducible refine Mi.cmp_isN ?_ ?_); focus (simp; done))| ((with_reducible refine Mi.cmp_nisN ?_ ?_); focus (simp; done))) | ((with_reducible show Mi.BifW _ _ _ _); first | with_reducible refine Mi.len_tup ?_ | with_reducible refine Mi.len_lst ?_ | with_reducible refine Mi.int_bl ?_ | with_reducible refine Mi.max_2 ?_ | with_reducible refine Mi.min_2 ?_ | with_reducible refine Mi.tuple_lst ?_ | with_reducible refine Mi.list_tup ?_) | ((with_reducible show Mi.IxW _ _ _ _); first | with_reducible refine Mi.ix_t0 ?_ | with_reducible refine Mi.ix_t1 ?_ | with_reducible refine Mi.ix_t2 ?_ | with_reducible refine Mi.ix_t3 ?_ | with_reducible refine Mi.ix_l0 ?_ | with_reducible refine Mi.ix_l1 ?_ | with_reducible refine Mi.ix_l2 ?_) | ((with_reducible show Mi.NegW _ _ _); first | with_reducible refine Mi.neg_int ?_) | ((with_reducible show Mi.LoW _ _); first | with_reducible refine Mi.lo_nil' ?_ | with_reducible refine Mi.lo_one' ?_) | ((with_reducible show Mi.SlW _ _ _ _ _); first | with_reducible refine Mi.sl_tup ?_ | with_reducible refine Mi.sl_lst ?_ | with_reducible refine Mi.sl_scr ?_) | ((with_reducible show Mi.RevW _ _ _); first | with_reducible refine Mi.rev_tup ?_ | with_reducible refine Mi.rev_lst ?_) | ((with_reducible show Mi.IsiW _ _ _ _); first | with_reducible refine Mi.isi_non0 ?_ | with_reducible refine Mi.isi_non1 ?_ | with_reducible refine Mi.isi_non2 ?_ | with_reducible refine Mi.isi_non3 ?_ | with_reducible refine Mi.isi_non4 ?_ | with_reducible refine Mi.isi_bl0 ?_ | with_reducible refine Mi.isi_bl1 ?_ | with_reducible refine Mi.isi_bl2 ?_ | with_reducible refine Mi.isi_bl3 ?_ | with_reducible refine Mi.isi_bl4 ?_ | with_reducible refine Mi.isi_int0 ?_ | with_reducible refine Mi.isi_int1 ?_ | with_reducible refine Mi.isi_int2 ?_ | with_reducible refine Mi.isi_int3 ?_ | with_reducible refine Mi.isi_int4 ?_ | with_reducible refine Mi.isi_str0 ?_ | with_reducible refine Mi.isi_str1 ?_ | with_reducible refine Mi.isi_str2 ?_ | with_reducible refine Mi.isi_str3 ?_ | with_reducible refine Mi.isi_str4 ?_ | with_reducible refine Mi.isi_tup0 ?_ | with_reducible refine Mi.isi_tup1 ?_ | with_reducible refine Mi.isi_tup2 ?_ | with_reducible refine Mi.isi_tup3 ?_ | with_reducible refine Mi.isi_tup4 ?_ | with_reducible refine Mi.isi_lst0 ?_ | with_reducible refine Mi.isi_lst1 ?_ | with_reducible refine Mi.isi_lst2 ?_ | with_reducible refine Mi.isi_lst3 ?_ | with_reducible refine Mi.isi_lst4 ?_) | ((with_reducible refine And.intro ?_ ?_); focus (first | (simp; done) | omega)))
namespace Mi
open PySem
def tp (cs : List Int) (i l : Int) : List D := [.lst (cs.map .int), .int i, .int l]
section
variable {S : Sto} {f : Nat} {cs : List Int} {i l x : Int} {q : Q1} {p : Sto → Prop}
theorem tx_0 (h : S f = some (.lst (tp cs i l))) (k : q (.lst (cs.map .int)) S) : IxW S (.loc f) (.int 0) q := ix_mls h (by rfl) k
theorem tx_1 (h : S f = some (.lst (tp cs i l))) (k : q (.int i) S) : IxW S (.loc f) (.int 1) q := ix_mls h (by rfl) k
theorem tx_2 (h : S f = some (.lst (tp cs i l))) (k : q (.int l) S) : IxW S (.loc f) (.int 2) q := ix_mls h (by rfl) k
theorem ts_1 (h : S f = some (.lst (tp cs i l))) (k : p (put S f (.lst (tp cs x l)))) : SetW S (.loc f) (.int 1) (.int x) p := set_mls h (j := 1) (by rfl) k
theorem ts_2 (h : S f = some (.lst (tp cs i l))) (k : p (put S f (.lst (tp cs i x)))) : SetW S (.loc f) (.int 2) (.int x) p := set_mls h (j := 2) (by rfl) k
end
def Td (S : Sto) (f : Nat) (t : Int) : Prop := ∃ cs i l, S f = some (.lst (tp cs i l)) ∧ 0 ≤ i ∧ i ≤ t
theorem Td.mono {S : Sto} {f : Nat} {t t' : Int} (h : Td S f t) (e : t ≤ t') : Td S f t' := let ⟨cs, i, l, h1, h2, h3⟩ := h; ⟨cs, i, l, h1, h2, Int.le_trans h3 e⟩
theorem Td.same {S S' : Sto} {f : Nat} {t : Int} (h : Td S f t) (e : S' f = S f) : Td S' f t := let ⟨cs, i, l, h1, h2⟩ := h; ⟨cs, i, l, e.trans h1, h2⟩
def spTape : List D → Sto → Q1 → XD → Prop := fun ds S q _ => ∃ f m t, ds = [.loc f, .int m] ∧ 0 < m ∧ m < 2 ^ 60 ∧ t < 2 ^ 60 ∧ Td S f t ∧ ∀ r S', 0 ≤ r → r < m → Same S S' f → Td S' f (t + 1) → q (.int r) S'
def tapeB : List St := [.ifs (.cmp .gt (.ix (.var 0) (.int 2)) (.int 0)) [.set 5 (.bin .mod (.ix (.var 0) (.int 2)) (.var 1)), .setI (.var 0) (.int 2) (.bin .fdiv (.ix (.var 0) (.int 2)) (.var 1)), .ret (.var 5)] [], .set 2 (.ix (.var 0) (.int 1)), .setI (.var 0) (.int 1) (.bin .add (.var 2) (.int 1)), .set 3 (.int 0), .ifs (.cmp .gt (.bif .len (.cons (.ix (.var 0) (.int 0)) .nil)) (.int 0)) [.set 3 (.ix (.ix (.var 0) (.int 0)) (.bin .mod (.var 2) (.bif .len (.cons (.ix (.var 0) (.int 0)) .nil))))] [], .ifs (.and (.cmp .ge (.var 3) (.bin .pow (.int 10) (.int 18))) (.cmp .lt (.var 2) (.bif .len (.cons (.ix (.var 0) (.int 0)) .nil)))) [.setI (.var 0) (.int 2) (.bin .fdiv (.var 3) (.var 1)), .ret (.bin .mod (.var 3) (.var 1))] [], .set 4 (.bin .mod (.bin .mul (.bin .add (.bin .add (.bin .mod (.var 3) (.int 1000003)) (.bin .mul (.bin .mul (.int 31) (.var 2)) (.var 2))) (.int 7)) (.int 48271)) (.int 999983)), .ret (.bin .mod (.bin .mod (.bin .mul (.bin .mod (.bin .add (.bin .mul (.var 4) (.int 69621)) (.bin .mul (.var 2) (.int 7919))) (.int 999979)) (.int 16807)) (.int 524287)) (.var 1))]
theorem tape_ok {T : Tab} {G : GT} {ds : List D} {S : Sto} {q : Q1} (h : spTape ds S q noX) : wpSs T G noX tapeB (bodyEn q) (startD ["_law_tape", "_law_many", "_law_spot", "_law_cell", "_law_seed", "_law_found"] ds) S := by
  obtain ⟨f, m, t, rfl, m0, m1, t1, ⟨cs, i, l, hS, i0, it⟩, ok⟩ := h
  show wpSs T G noX tapeB (bodyEn q) [some (.loc f), some (.int m), none, none, none, none] S
  refine w_body ?_
  unfold tapeB
  have m64 : m < 2 ^ 64 := by omega
  repeat' (first | tb_start | with_reducible refine tx_2 hS ?_ | tb_rel)
  refine ite_dec (fun hl => ?_) fun hl => ?_
  · repeat' (first | tb_start | with_reducible refine tx_2 hS ?_ | with_reducible refine bin_mod m0 ?_ | with_reducible refine bin_fdiv ⟨m0, m64⟩ ?_ | with_reducible refine ts_2 hS ?_ | tb_rel)
    exact sub_end (ok _ _ (Int.emod_nonneg _ (by omega)) (Int.emod_lt_of_pos _ m0) ((Same.refl S f).put _) ⟨cs, i, _, put_same, i0, by omega⟩)
  · repeat' (first | tb_start | with_reducible refine tx_1 hS ?_ | with_reducible refine ts_1 hS ?_ | with_reducible refine tx_0 put_same ?_ | tb_rel)
    rw [List.length_map]
    have key : ∀ c : Int, wpSs T G noX [.ifs (.and (.cmp .ge (.var 3) (.bin .pow (.int 10) (.int 18))) (.cmp .lt (.var 2) (.bif .len (.cons (.ix (.var 0) (.int 0)) .nil)))) [.setI (.var 0) (.int 2) (.bin .fdiv (.var 3) (.var 1)), .ret (.bin .mod (.var 3) (.var 1))] [], .set 4 (.bin .mod (.bin .mul (.bin .add (.bin .add (.bin .mod (.var 3) (.int 1000003)) (.bin .mul (.bin .mul (.int 31) (.var 2)) (.var 2))) (.int 7)) (.int 48271)) (.int 999983)), .ret (.bin .mod (.bin .mod (.bin .mul (.bin .mod (.bin .add (.bin .mul (.var 4) (.int 69621)) (.bin .mul (.var 2) (.int 7919))) (.int 999979)) (.int 16807)) (.int 524287)) (.var 1))]
      ⟨fun _ S' => ∃ S'', Sub S'' S' ∧ q .non S'', fun d S' => ∃ S'', Sub S'' S' ∧ q d S'', fun _ _ => False, fun _ _ => False⟩ [some (.loc f), some (.int m), some (.int i), some (.int c), none, none] (put S f (.lst (tp cs (i + 1) l))) := by
      intro c
      repeat' (first | tb_start | with_reducible refine bin_pow (by decide) ?_ | tb_rel)
      refine ite_dec (fun h1 => ?_) fun h1 => ?_
      · repeat' (first | tb_start | with_reducible refine tx_0 put_same ?_ | tb_rel)
        rw [List.length_map]
        refine ite_dec (fun h2 => ?_) fun h2 => ?_
        · repeat' (first | tb_start | with_reducible refine ts_2 put_same ?_ | with_reducible refine bin_mod m0 ?_ | with_reducible refine bin_fdiv ⟨m0, m64⟩ ?_ | tb_rel)
          exact sub_end (ok _ _ (Int.emod_nonneg _ (by omega)) (Int.emod_lt_of_pos _ m0) (((Same.refl S f).put _).put _) ⟨cs, i + 1, _, put_same, by omega, by omega⟩)
        · repeat' (first | tb_start | with_reducible refine bin_mod (by decide) ?_ | with_reducible refine bin_mul (.inr (by omega)) ?_ | with_reducible refine bin_mul (.inl (by omega)) ?_ | with_reducible refine bin_fdiv (by omega) ?_ | with_reducible refine bin_mod m0 ?_ | tb_rel)
          exact sub_end (ok _ _ (Int.emod_nonneg _ (by omega)) (Int.emod_lt_of_pos _ m0) ((Same.refl S f).put _) ⟨cs, i + 1, _, put_same, by omega, by omega⟩)
      · repeat' (first | tb_start | with_reducible refine bin_mod (by decide) ?_ | with_reducible refine bin_mul (.inr (by omega)) ?_ | with_reducible refine bin_mul (.inl (by omega)) ?_ | with_reducible refine bin_fdiv (by omega) ?_ | with_reducible refine bin_mod m0 ?_ | tb_rel)
        exact sub_end (ok _ _ (Int.emod_nonneg _ (by omega)) (Int.emod_lt_of_pos _ m0) ((Same.refl S f).put _) ⟨cs, i + 1, _, put_same, by omega, by omega⟩)
    refine ite_dec (fun h0 => ?_) fun h0 => ?_
    · repeat' (first | tb_start | with_reducible refine tx_0 put_same ?_ | tb_rel)
      rw [List.length_map]
      obtain ⟨c, hc'⟩ := atI_mod cs i (by omega)
      refine bin_mod (by omega) (ix_lst hc' ?_)
      refine w_end ?_
      exact key c
    · refine w_end ?_
      exact key 0
end Mi
set_option maxHeartbeats 1000000
/-! XE: expressions, what they are worth, their ranges. -/
namespace Mi
open PySem
inductive W6 | plus | less | times | over | below | like
  deriving DecidableEq
def W6.s : W6 → Str
  | .plus => "plus" | .less => "less" | .times => "times" | .over => "over" | .below => "below" | .like => "like"
inductive Ex where
  | inn | out | at_ (i : Int) | num (i : Int) | op (w : W6) (a b : Ex)
  deriving DecidableEq
def Ex.d : Ex → D
  | .inn => .tup [.str "in"]
  | .out => .tup [.str "out"]
  | .at_ i => .tup [.str "at", .int i]
  | .num i => .tup [.str "num", .int i]
  | .op w a b => .tup [.str w.s, a.d, b.d]
def Ex.dep : Ex → Nat
  | .op _ a b => max a.dep b.dep + 1
  | _ => 0
/-- right, its locals below m, out only where o -/
def Ex.Ok (o : Bool) (m : Int) : Ex → Prop
  | .inn => True
  | .out => o = true
  | .at_ i => 0 ≤ i ∧ i < m
  | .num i => 0 ≤ i ∧ i ≤ 999999
  | .op _ a b => a.Ok o m ∧ b.Ok o m
theorem Ex.Ok.o {o : Bool} {m : Int} : ∀ {e : Ex}, e.Ok o m → e.Ok true m
  | .inn, _ => trivial
  | .out, _ => rfl
  | .at_ _, h => h
  | .num _, h => h
  | .op _ _ _, h => ⟨Ex.Ok.o h.1, Ex.Ok.o h.2⟩
theorem Ex.Ok.mono {o : Bool} {m m' : Int} (hm : m ≤ m') : ∀ {e : Ex}, e.Ok o m → e.Ok o m'
  | .inn, _ => trivial
  | .out, h => h
  | .at_ _, h => ⟨h.1, Int.lt_of_lt_of_le h.2 hm⟩
  | .num _, h => h
  | .op _ _ _, h => ⟨Ex.Ok.mono hm h.1, Ex.Ok.mono hm h.2⟩
theorem Ex.dD_le : ∀ e : Ex, dD e.d ≤ e.dep + 1
  | .inn => by decide
  | .out => by decide
  | .at_ _ => by simp [Ex.d, dD, dDs]
  | .num _ => by simp [Ex.d, dD, dDs]
  | .op w a b => by
    have := Ex.dD_le a
    have := Ex.dD_le b
    simp only [Ex.d, Ex.dep, dD, dDs]
    omega
theorem Ex.dD_op1 {w : W6} {a b : Ex} : dD a.d + 1 ≤ dD (Ex.op w a b).d := by simp only [Ex.d, dD, dDs]; omega
theorem Ex.dD_op2 {w : W6} {a b : Ex} : dD b.d + 1 ≤ dD (Ex.op w a b).d := by simp only [Ex.d, dD, dDs]; omega
def wE : Nat → Nat
  | 0 => 102
  | n + 1 => 62 + 2 * wE n
theorem wE_pos : ∀ n, 102 ≤ wE n
  | 0 => by decide
  | n + 1 => by have := wE_pos n; rw [wE]; omega
theorem wE_mono : ∀ {n m}, n ≤ m → wE n ≤ wE m
  | 0, m, _ => wE_pos m
  | n + 1, 0, h => absurd h (by omega)
  | n + 1, m + 1, h => by have := wE_mono (n := n) (m := m) (by omega); rw [wE, wE]; omega
theorem W6.w (w : W6) : wD (.str w.s) ≤ 52 := by cases w <;> decide +kernel
theorem Ex.wD_le {m : Int} (hm : m ≤ 10 ^ 50) : ∀ {o : Bool} {e : Ex}, e.Ok o m → ∀ {n}, e.dep ≤ n → wD e.d ≤ wE n
  | o, .inn, _, n, _ => by
    have h1 : wD (.tup [.str "in"]) ≤ 102 := by decide +kernel
    exact Nat.le_trans h1 (wE_pos n)
  | o, .out, _, n, _ => by
    have h1 : wD (.tup [.str "out"]) ≤ 102 := by decide +kernel
    exact Nat.le_trans h1 (wE_pos n)
  | o, .at_ i, h, n, _ => by
    have h2 : wD (.str "at") = 22 := by decide +kernel
    have h0 : 0 ≤ i ∧ i < m := h
    have h3 : wD (.int i) = 62 := wD_int (by omega)
    have := wE_pos n
    rw [Ex.d, wD, wDs, wDs, wDs, h2, h3]
    omega
  | o, .num i, h, n, _ => by
    have h2 : wD (.str "num") = 32 := by decide +kernel
    have h0 : 0 ≤ i ∧ i ≤ 999999 := h
    have h3 : wD (.int i) = 62 := wD_int (by omega)
    have := wE_pos n
    rw [Ex.d, wD, wDs, wDs, wDs, h2, h3]
    omega
  | o, .op w a b, h, 0, hn => absurd hn (by simp only [Ex.dep]; omega)
  | o, .op w a b, h, n + 1, hn => by
    simp only [Ex.dep] at hn
    have h2 := W6.w w
    have ha := Ex.wD_le hm h.1 (n := n) (by omega)
    have hb := Ex.wD_le hm h.2 (n := n) (by omega)
    rw [Ex.d, wD, wDs, wDs, wDs, wDs, wE]
    omega
/-- how many draws an expression wants at most -/
def cE : Nat → Int
  | 0 => 6
  | n + 1 => 6 + 2 * cE n
theorem cE_pos : ∀ n, 6 ≤ cE n
  | 0 => by decide
  | n + 1 => by have := cE_pos n; rw [cE]; omega
def intOf : D → Int
  | .int i => i
  | _ => 0
/-! ### figures -/
def FI (i : Int) : Prop := 0 ≤ i ∧ i ≤ 999999
def od : Option Int → D
  | none => .non
  | some i => .int i
@[simp] theorem od_none : od none = .non := rfl
@[simp] theorem od_some {i : Int} : od (some i) = .int i := rfl
def W6.jn (w : W6) (i j : Int) : Option Int := match w with
  | .plus => some ((i + j) % 1000000)
  | .less => some ((i - j) % 1000000)
  | .times => some (i * j % 1000000)
  | .over => if j = 0 then none else some (i / j)
  | .below => some (if i < j then 1 else 0)
  | .like => some (if i = j then 1 else 0)
theorem W6.jn_ok {w : W6} {i j r : Int} (hi : FI i) (hj : FI j) (h : w.jn i j = some r) : FI r := by
  obtain ⟨i0, i1⟩ := hi
  obtain ⟨j0, j1⟩ := hj
  cases w with
  | plus => simp only [W6.jn, Option.some.injEq] at h; subst h; exact ⟨by omega, by omega⟩
  | less => simp only [W6.jn, Option.some.injEq] at h; subst h; exact ⟨by omega, by omega⟩
  | times =>
    simp only [W6.jn, Option.some.injEq] at h; subst h
    exact ⟨Int.emod_nonneg _ (by decide), by have := Int.emod_lt_of_pos (i * j) (show (0 : Int) < 1000000 by decide); omega⟩
  | over =>
    simp only [W6.jn] at h
    split at h
    · cases h
    · simp only [Option.some.injEq] at h; subst h
      exact ⟨Int.ediv_nonneg i0 j0, Int.le_trans (Int.ediv_le_self _ i0) i1⟩
  | below => simp only [W6.jn, Option.some.injEq] at h; subst h; constructor <;> split <;> omega
  | like => simp only [W6.jn, Option.some.injEq] at h; subst h; constructor <;> split <;> omega
def Ex.val (g : Int) (h : Int → Int) : Ex → Option Int
  | .inn => some g
  | .out => none
  | .at_ i => some (h i)
  | .num i => some i
  | .op w a b => match a.val g h, b.val g h with
    | some x, some y => w.jn x y
    | _, _ => none
theorem Ex.val_ok {m g : Int} {h : Int → Int} (hg : FI g) (hh : ∀ i, FI (h i)) : ∀ {e : Ex} {r : Int}, e.Ok false m → e.val g h = some r → FI r
  | .inn, r, _, e => by simp only [Ex.val, Option.some.injEq] at e; exact e ▸ hg
  | .out, r, _, e => by cases e
  | .at_ i, r, _, e => by simp only [Ex.val, Option.some.injEq] at e; exact e ▸ hh i
  | .num i, r, o, e => by simp only [Ex.val, Option.some.injEq] at e; exact e ▸ o
  | .op w a b, r, o, e => by
    simp only [Ex.val] at e
    split at e
    · rename_i x y ex ey
      exact W6.jn_ok (Ex.val_ok hg hh o.1 ex) (Ex.val_ok hg hh o.2 ey) e
    · cases e
/-- what a dict of locals holds -/
def DH (kvs : List (L2.Key × D)) (h : Int → Int) : Prop := ∀ i, (lkD kvs (.inl i)).getD (.int 0) = .int (h i) ∧ FI (h i)
theorem lk_numD : ∀ (xs : List D) (lo i : Nat), lkD (numD lo xs) (.inl ((lo + i : Nat) : Int)) = xs[i]?
  | [], lo, i => by simp [numD, lkD]
  | x :: xs, lo, 0 => by simp [numD, lkD]
  | x :: xs, lo, i + 1 => by
    have ih := lk_numD xs (lo + 1) i
    rw [show lo + 1 + i = lo + (i + 1) by omega] at ih
    rw [List.getElem?_cons_succ, ← ih]
    unfold lkD
    rw [numD, List.find?_cons_of_neg]
    have : ¬ ((lo : Int) = ((lo + (i + 1) : Nat) : Int)) := by omega
    simpa using this
theorem lk_numD_neg (i : Int) (h : i < 0) : ∀ (xs : List D) (lo : Nat), lkD (numD lo xs) (.inl i) = none
  | [], lo => rfl
  | x :: xs, lo => by
    have := lk_numD_neg i h xs (lo + 1)
    unfold lkD at this ⊢
    rw [numD, List.find?_cons_of_neg]
    · exact this
    · have : ¬ (lo : Int) = i := by omega
      simpa using this
/-- the values of locals by a tuple -/
def lhv (vs : List Int) (i : Int) : Int := if i < 0 then 0 else (vs[i.toNat]?).getD 0
theorem lk_vals (vs : List Int) (i : Int) : (lkD (numD 0 (vs.map .int)) (.inl i)).getD (.int 0) = .int (lhv vs i) := by
  by_cases h : i < 0
  · rw [lk_numD_neg i h]
    simp [lhv, h]
  · obtain ⟨j, rfl⟩ := Int.eq_ofNat_of_zero_le (Int.not_lt.mp h)
    have := lk_numD (vs.map .int) 0 j
    rw [Nat.zero_add] at this
    rw [this, List.getElem?_map]
    have h2 : lhv vs (j : Int) = (vs[j]?).getD 0 := by
      unfold lhv
      rw [if_neg (by omega)]
      rfl
    rw [h2]
    cases vs[j]? <;> rfl
theorem lhv_ok {vs : List Int} (h : ∀ v ∈ vs, FI v) (i : Int) : FI (lhv vs i) := by
  unfold lhv
  split
  · exact ⟨by omega, by omega⟩
  · cases e : vs[i.toNat]? with
    | none => exact ⟨by decide, by decide⟩
    | some v => exact h v (List.mem_of_getElem? e)
theorem dh_vals {vs : List Int} (h : ∀ v ∈ vs, FI v) : DH (numD 0 (vs.map .int)) (lhv vs) := fun i => ⟨lk_vals vs i, lhv_ok h i⟩
/-! ### ranges -/
abbrev Rg := Int × Int
def rd (r : Rg) : D := .tup [.int r.1, .int r.2]
def ord : Option Rg → D
  | none => .non
  | some r => rd r
@[simp] theorem ord_none : ord none = .non := rfl
@[simp] theorem ord_some {r : Rg} : ord (some r) = rd r := rfl
def RI (r : Rg) : Prop := 0 ≤ r.1 ∧ r.1 ≤ r.2 ∧ r.2 ≤ 999999
def W6.rj (w : W6) (r s : Rg) : Option Rg := match w with
  | .over => if s.2 = 0 then none else some (r.1 / s.2, r.2 / max s.1 1)
  | .plus => some (if r.2 + s.2 ≤ 999999 then (r.1 + s.1, r.2 + s.2) else (0, 999999))
  | .less => some (if s.2 ≤ r.1 then (r.1 - s.2, r.2 - s.1) else (0, 999999))
  | .times => some (if r.2 * s.2 ≤ 999999 then (r.1 * s.1, r.2 * s.2) else (0, 999999))
  | .below => some (if r.2 < s.1 then (1, 1) else if s.2 ≤ r.1 then (0, 0) else (0, 1))
  | .like => some (if r.2 < s.1 ∨ s.2 < r.1 then (0, 0) else if r.1 = r.2 ∧ r.2 = s.1 ∧ s.1 = s.2 then (1, 1) else (0, 1))
theorem div_le {a b c e : Int} (a0 : 0 ≤ a) (ab : a ≤ b) (c0 : 0 ≤ c) (ce : c ≤ e) (e0 : e ≠ 0) : 0 ≤ a / e ∧ a / e ≤ b / max c 1 ∧ b / max c 1 ≤ b := by
  have hm : 0 < max c 1 := by omega
  have hme : max c 1 ≤ e := by omega
  refine ⟨Int.ediv_nonneg a0 (by omega), ?_, Int.ediv_le_self _ (by omega)⟩
  refine Int.le_trans ?_ (Int.ediv_le_ediv hm ab)
  refine (Int.le_ediv_iff_mul_le hm).mpr ?_
  have h1 : a / e * e ≤ a := Int.ediv_mul_le a (by omega)
  have h2 : a / e * max c 1 ≤ a / e * e := Int.mul_le_mul_of_nonneg_left hme (Int.ediv_nonneg a0 (by omega))
  omega
theorem W6.rj_ok {w : W6} {r s t : Rg} (hr : RI r) (hs : RI s) (h : w.rj r s = some t) : RI t := by
  obtain ⟨a0, ab, bm⟩ := hr
  obtain ⟨c0, ce, em⟩ := hs
  cases w with
  | over =>
    simp only [W6.rj] at h
    split at h
    · cases h
    · rename_i hn
      simp only [Option.some.injEq] at h; subst h
      obtain ⟨h1, h2, h3⟩ := div_le a0 ab c0 ce hn
      exact ⟨h1, h2, Int.le_trans h3 bm⟩
  | times =>
    simp only [W6.rj, Option.some.injEq] at h; subst h
    split
    · rename_i h5
      have h1 : 0 ≤ r.1 * s.1 := Int.mul_nonneg a0 c0
      have h2 : r.1 * s.1 ≤ r.2 * s.2 := Int.mul_le_mul ab ce c0 (by omega)
      exact ⟨h1, h2, h5⟩
    · exact ⟨by decide, by decide, by decide⟩
  | plus =>
    simp only [W6.rj, Option.some.injEq] at h; subst h
    split
    · exact ⟨by show 0 ≤ r.1 + s.1; omega, by show r.1 + s.1 ≤ r.2 + s.2; omega, by assumption⟩
    · exact ⟨by decide, by decide, by decide⟩
  | less =>
    simp only [W6.rj, Option.some.injEq] at h; subst h
    split
    · exact ⟨by show 0 ≤ r.1 - s.2; omega, by show r.1 - s.2 ≤ r.2 - s.1; omega, by show r.2 - s.1 ≤ _; omega⟩
    · exact ⟨by decide, by decide, by decide⟩
  | below =>
    simp only [W6.rj, Option.some.injEq] at h; subst h
    split
    · exact ⟨by decide, by decide, by decide⟩
    · split <;> exact ⟨by decide, by decide, by decide⟩
  | like =>
    simp only [W6.rj, Option.some.injEq] at h; subst h
    split
    · exact ⟨by decide, by decide, by decide⟩
    · split <;> exact ⟨by decide, by decide, by decide⟩
def Ex.rng (g : Rg) (o : Option Rg) (h : Int → Rg) : Ex → Option Rg
  | .inn => some g
  | .out => o
  | .at_ i => some (h i)
  | .num i => some (i, i)
  | .op w a b => match a.rng g o h, b.rng g o h with
    | some x, some y => w.rj x y
    | _, _ => none
theorem Ex.rng_ok {m : Int} {g : Rg} {o : Option Rg} {h : Int → Rg} (hg : RI g) (ho : ∀ r, o = some r → RI r) (hh : ∀ i, RI (h i)) : ∀ {e : Ex} {r : Rg}, e.Ok true m → e.rng g o h = some r → RI r
  | .inn, r, _, e => by simp only [Ex.rng, Option.some.injEq] at e; exact e ▸ hg
  | .out, r, _, e => ho r e
  | .at_ i, r, _, e => by simp only [Ex.rng, Option.some.injEq] at e; exact e ▸ hh i
  | .num i, r, q, e => by simp only [Ex.rng, Option.some.injEq] at e; exact e ▸ ⟨q.1, Int.le_refl _, q.2⟩
  | .op w a b, r, q, e => by
    simp only [Ex.rng] at e
    split at e
    · rename_i x y ex ey
      exact W6.rj_ok (Ex.rng_ok hg ho hh q.1 ex) (Ex.rng_ok hg ho hh q.2 ey) e
    · cases e
/-- what a dict of locals' ranges holds -/
def DR (kvs : List (L2.Key × D)) (h : Int → Rg) : Prop := ∀ i, (lkD kvs (.inl i)).getD (.tup [.int 0, .int 0]) = rd (h i) ∧ RI (h i)
/-! ### what is worth lies in the range -/
def InR (i : Int) (r : Rg) : Prop := r.1 ≤ i ∧ i ≤ r.2
theorem W6.in_rj {w : W6} {r s : Rg} {i j x : Int} (hr : RI r) (hs : RI s) (hi : InR i r) (hj : InR j s) (h : w.jn i j = some x) : ∃ t, w.rj r s = some t ∧ InR x t := by
  obtain ⟨a0, ab, bm⟩ := hr
  obtain ⟨c0, ce, em⟩ := hs
  obtain ⟨i1, i2⟩ := hi
  obtain ⟨j1, j2⟩ := hj
  have xf : FI x := W6.jn_ok ⟨by omega, by omega⟩ ⟨by omega, by omega⟩ h
  cases w with
  | plus =>
    simp only [W6.jn, Option.some.injEq] at h; subst h
    refine ⟨_, rfl, ?_⟩
    split
    · exact ⟨by show r.1 + s.1 ≤ _; omega, by show _ ≤ r.2 + s.2; omega⟩
    · exact xf
  | less =>
    simp only [W6.jn, Option.some.injEq] at h; subst h
    refine ⟨_, rfl, ?_⟩
    split
    · exact ⟨by show r.1 - s.2 ≤ _; omega, by show _ ≤ r.2 - s.1; omega⟩
    · exact xf
  | times =>
    simp only [W6.jn, Option.some.injEq] at h; subst h
    refine ⟨_, rfl, ?_⟩
    split
    · rename_i h5
      have h1 : r.1 * s.1 ≤ i * j := Int.mul_le_mul i1 j1 c0 (by omega)
      have h2 : i * j ≤ r.2 * s.2 := Int.mul_le_mul i2 j2 (by omega) (by omega)
      have h3 : 0 ≤ i * j := Int.mul_nonneg (by omega) (by omega)
      have h4 : i * j % 1000000 = i * j := Int.emod_eq_of_lt h3 (by omega)
      rw [h4]
      exact ⟨h1, h2⟩
    · exact xf
  | over =>
    simp only [W6.jn] at h
    split at h
    · cases h
    · rename_i hn
      simp only [Option.some.injEq] at h; subst h
      refine ⟨(r.1 / s.2, r.2 / max s.1 1), ?_, ?_, ?_⟩
      · show (if s.2 = 0 then none else _) = _
        rw [if_neg (by omega)]
      · show r.1 / s.2 ≤ i / j
        refine (Int.le_ediv_iff_mul_le (by omega)).mpr ?_
        have h1 : r.1 / s.2 * s.2 ≤ r.1 := Int.ediv_mul_le _ (by omega)
        have h2 : r.1 / s.2 * j ≤ r.1 / s.2 * s.2 := Int.mul_le_mul_of_nonneg_left j2 (Int.ediv_nonneg a0 (by omega))
        omega
      · show i / j ≤ r.2 / max s.1 1
        refine (Int.le_ediv_iff_mul_le (by omega)).mpr ?_
        have h1 : i / j * j ≤ i := Int.ediv_mul_le _ (by omega)
        have h2 : i / j * max s.1 1 ≤ i / j * j := Int.mul_le_mul_of_nonneg_left (by omega) (Int.ediv_nonneg (by omega) (by omega))
        omega
  | below =>
    simp only [W6.jn, Option.some.injEq] at h; subst h
    refine ⟨_, rfl, ?_⟩
    split
    · split
      · exact ⟨by decide, by decide⟩
      · split
        · omega
        · exact ⟨by decide, by decide⟩
    · split
      · omega
      · split <;> exact ⟨by decide, by decide⟩
  | like =>
    simp only [W6.jn, Option.some.injEq] at h; subst h
    refine ⟨_, rfl, ?_⟩
    split
    · split
      · omega
      · split <;> exact ⟨by decide, by decide⟩
    · split
      · exact ⟨by decide, by decide⟩
      · split
        · omega
        · exact ⟨by decide, by decide⟩
theorem Ex.in_rng {m g : Int} {h : Int → Int} {gr : Rg} {o : Option Rg} {hr : Int → Rg} (g1 : RI gr) (o1 : ∀ r, o = some r → RI r) (h1 : ∀ i, RI (hr i)) (gi : InR g gr) (hi : ∀ i, 0 ≤ i → i < m → InR (h i) (hr i)) :
    ∀ {e : Ex} {x : Int}, e.Ok false m → e.val g h = some x → ∃ t, e.rng gr o hr = some t ∧ InR x t
  | .inn, x, _, e => by simp only [Ex.val, Option.some.injEq] at e; exact ⟨_, rfl, e ▸ gi⟩
  | .out, x, _, e => by cases e
  | .at_ i, x, q, e => by simp only [Ex.val, Option.some.injEq] at e; exact ⟨_, rfl, e ▸ hi i q.1 q.2⟩
  | .num i, x, q, e => by simp only [Ex.val, Option.some.injEq] at e; exact ⟨_, rfl, e ▸ ⟨Int.le_refl _, Int.le_refl _⟩⟩
  | .op w a b, x, q, e => by
    simp only [Ex.val] at e
    split at e
    · rename_i y z ey ez
      obtain ⟨t, t1, t2⟩ := Ex.in_rng g1 o1 h1 gi hi q.1 ey
      obtain ⟨u, u1, u2⟩ := Ex.in_rng g1 o1 h1 gi hi q.2 ez
      obtain ⟨v, v1, v2⟩ := W6.in_rj (Ex.rng_ok g1 o1 h1 q.1.o t1) (Ex.rng_ok g1 o1 h1 q.2.o u1) t2 u2 e
      exact ⟨v, by simp only [Ex.rng, t1, u1]; exact v1, v2⟩
    · cases e
end Mi
set_option maxHeartbeats 1000000
/-! XL: loops and comprehensions over typed lists. -/
namespace Mi
open PySem
theorem rng_map : ∀ (n : Nat) (lo : Int), rngD lo n = (List.range n).map fun (i : Nat) => D.int (lo + i)
  | 0, _ => rfl
  | n + 1, lo => by
    rw [rngD, rng_map n (lo + 1), List.range_succ_eq_map, List.map_cons, List.map_map]
    congr 1
    · simp
    · refine List.map_congr_left fun i _ => ?_
      show D.int (lo + 1 + i) = D.int (lo + ((i + 1 : Nat) : Int))
      congr 1
      push_cast
      omega
theorem rng_len : ∀ (n : Nat) (lo : Int), (rngD lo n).length = n
  | 0, _ => rfl
  | n + 1, lo => by rw [rngD, List.length_cons, rng_len n]
section
variable {T : Tab} {G : GT} {xd : XD} {S : Sto} {chk : Sto → Prop} {bd : D → Option Env} {e : E} {q : List D → Sto → Prop}
theorem wpEs_nil {env : Env} {S : Sto} {q : List D → Sto → Prop} : wpEs T G xd .nil env S q = q [] S := by rw [wpEs]
/-- what a comprehension without a test asks -/
abbrev LcN (T : Tab) (G : GT) (xd : XD) (chk : Sto → Prop) (bd : D → Option Env) (e : E) (xs acc : List D) (S : Sto) (q : List D → Sto → Prop) : Prop := lcL chk bd (fun e1 S q => wpEs T G xd .nil e1 S fun ds S2 => match ds with
      | [] => q true S2
      | x :: _ => ∃ k, truD S2 x = some k ∧ q k S2) (fun e1 S q => wpE T G xd e e1 S q) xs acc S q
abbrev LcC (T : Tab) (G : GT) (xd : XD) (chk : Sto → Prop) (bd : D → Option Env) (e c : E) (xs acc : List D) (S : Sto) (q : List D → Sto → Prop) : Prop := lcL chk bd (fun e1 S q => wpEs T G xd (.cons c .nil) e1 S fun ds S2 => match ds with
      | [] => q true S2
      | x :: _ => ∃ k, truD S2 x = some k ∧ q k S2) (fun e1 S q => wpE T G xd e e1 S q) xs acc S q
/-- typed: ys walked, things of α made -/
theorem lc_map {α β : Type} (g : β → D) (f : α → D) (I : List β → List α → Sto → Prop) (hc : ∀ ys acc S, I ys acc S → chk S) (hl : ∀ y ys acc S, I (y :: ys) acc S → acc.length < 1000000)
    (step : ∀ y ys acc S, I (y :: ys) acc S → ∀ kt : Q1, (∀ a S', I ys (acc ++ [a]) S' → kt (f a) S') → ∃ e1, bd (g y) = some e1 ∧ wpE T G xd e e1 S kt)
    (fin : ∀ acc S, I [] acc S → q (acc.map f) S) : ∀ ys acc S, I ys acc S → LcN T G xd chk bd e (ys.map g) (acc.map f) S q
  | [], acc, S, h => ⟨hc _ _ _ h, fin acc S h⟩
  | y :: ys, acc, S, h => by
    obtain ⟨e1, h1, h2⟩ := step y ys acc S h (fun z S2 => (acc.map f).length < 1000000 ∧ LcN T G xd chk bd e (ys.map g) (acc.map f ++ [z]) S2 q) (fun a S' z => ⟨by rw [List.length_map]; exact hl _ _ _ _ h, by
      have := lc_map g f I hc hl step fin ys (acc ++ [a]) S' z
      rw [List.map_append] at this
      exact this⟩)
    refine ⟨hc _ _ _ h, e1, h1, ?_⟩
    refine w_nil ?_
    exact h2
theorem lc_mapc {α β : Type} {c : E} (g : β → D) (f : α → D) (I : List β → List α → Sto → Prop) (hc : ∀ ys acc S, I ys acc S → chk S) (hl : ∀ y ys acc S, I (y :: ys) acc S → acc.length < 1000000)
    (step : ∀ y ys acc S, I (y :: ys) acc S → ∀ (kt : Q1) (kf : Sto → Prop), (∀ a S', I ys (acc ++ [a]) S' → kt (f a) S') → (∀ S', I ys acc S' → kf S') → ∃ e1, bd (g y) = some e1 ∧ wpE T G xd c e1 S fun x S1 => TruW S1 x fun b => IteW b (wpE T G xd e e1 S1 kt) (kf S1))
    (fin : ∀ acc S, I [] acc S → q (acc.map f) S) : ∀ ys acc S, I ys acc S → LcC T G xd chk bd e c (ys.map g) (acc.map f) S q
  | [], acc, S, h => ⟨hc _ _ _ h, fin acc S h⟩
  | y :: ys, acc, S, h => by
    obtain ⟨e1, h1, h2⟩ := step y ys acc S h (fun z S2 => (acc.map f).length < 1000000 ∧ LcC T G xd chk bd e c (ys.map g) (acc.map f ++ [z]) S2 q) (fun S1 => LcC T G xd chk bd e c (ys.map g) (acc.map f) S1 q) (fun a S' z => ⟨by rw [List.length_map]; exact hl _ _ _ _ h, by
      have := lc_mapc g f I hc hl step fin ys (acc ++ [a]) S' z
      rw [List.map_append] at this
      exact this⟩) (fun S' z => lc_mapc g f I hc hl step fin ys acc S' z)
    refine ⟨hc _ _ _ h, e1, h1, ?_⟩
    refine w_cons ?_
    simp only [wpEs_nil]
    exact h2
theorem lc_rng_at {α : Type} (f : α → D) (lo : Int) (n : Nat) (I : Nat → List α → Sto → Prop) (hl : ∀ i acc S, i < n → I i acc S → acc.length < 1000000)
    (step : ∀ i acc S, i < n → I i acc S → ∀ kt : Q1, (∀ a S', I (i + 1) (acc ++ [a]) S' → kt (f a) S') → ∃ e1, bd (.int (lo + i)) = some e1 ∧ wpE T G xd e e1 S kt)
    (fin : ∀ acc S, I n acc S → q (acc.map f) S) : ∀ m i acc S, i + m = n → I i acc S → LcN T G xd (fun _ => True) bd e (rngD (lo + i) m) (acc.map f) S q
  | 0, i, acc, S, hi, h => ⟨trivial, fin acc S (by rw [← hi]; exact h)⟩
  | m + 1, i, acc, S, hi, h => by
    obtain ⟨e1, h1, h2⟩ := step i acc S (by omega) h (fun z S2 => (acc.map f).length < 1000000 ∧ LcN T G xd (fun _ => True) bd e (rngD (lo + i + 1) m) (acc.map f ++ [z]) S2 q) (fun a S' z => ⟨by rw [List.length_map]; exact hl _ _ _ (by omega) h, by
      have := lc_rng_at f lo n I hl step fin m (i + 1) (acc ++ [a]) S' (by omega) z
      rw [List.map_append] at this
      rw [show lo + (i : Int) + 1 = lo + ((i + 1 : Nat) : Int) by push_cast; omega]
      exact this⟩)
    refine ⟨trivial, e1, h1, ?_⟩
    refine w_nil ?_
    exact h2
theorem lc_rng {α : Type} (f : α → D) (I : Nat → List α → Sto → Prop) {lo : Int} {n : Nat} (hl : ∀ i acc S, i < n → I i acc S → acc.length < 1000000)
    (step : ∀ i acc S, i < n → I i acc S → ∀ kt : Q1, (∀ a S', I (i + 1) (acc ++ [a]) S' → kt (f a) S') → ∃ e1, bd (.int (lo + i)) = some e1 ∧ wpE T G xd e e1 S kt)
    (fin : ∀ acc S, I n acc S → q (acc.map f) S) (S : Sto) (h : I 0 [] S) : LcN T G xd (fun _ => True) bd e (rngD lo n) [] S q := by
  have := lc_rng_at f lo n I hl step fin n 0 [] S (by omega) h
  simpa using this
end
section
variable {chk : Sto → Prop} {bd : D → Env → Option Env} {body : En → Env → Sto → Prop} {nx bk ct : Env → Sto → Prop} {rt : Q1}
/-- a for over typed things -/
theorem for_map {β : Type} (g : β → D) (I : List β → Env → Sto → Prop) (hc : ∀ ys e S, I ys e S → chk S)
    (step : ∀ y ys e S, I (y :: ys) e S → ∀ nx' : Env → Sto → Prop, (∀ e' S', I ys e' S' → nx' e' S') → ∃ e1, bd (g y) e = some e1 ∧ body ⟨nx', rt, nx, nx'⟩ e1 S)
    (fin : ∀ e S, I [] e S → nx e S) : ∀ ys e S, I ys e S → forL chk bd body ⟨nx, rt, bk, ct⟩ (ys.map g) e S
  | [], e, S, h => ⟨hc _ _ _ h, fin e S h⟩
  | y :: ys, e, S, h => by
    obtain ⟨e1, h1, h2⟩ := step y ys e S h (forL chk bd body ⟨nx, rt, bk, ct⟩ (ys.map g)) (for_map g I hc step fin ys)
    exact ⟨hc _ _ _ h, e1, h1, h2⟩
end
end Mi
set_option maxHeartbeats 1000000

namespace K48
open PySem Mi
/-- joined -/
def sp0 : List D → Sto → Q1 → XD → Prop := fun ds S q _ => ∃ (w : W6) (i j : Int), ds = [.str w.s, .int i, .int j] ∧ FI i ∧ FI j ∧ q (od (w.jn i j)) S
def lv0 : List D → Nat := fun ds => 0
/-- worth_by -/
def sp1 : List D → Sto → Q1 → XD → Prop := fun ds S q _ => ∃ (e : Ex) (m g : Int) (n : Nat) (kvs : List (L2.Key × D)) (h : Int → Int), ds = [e.d, .int g, .loc n] ∧ e.Ok false m ∧ FI g ∧ S n = some (.dic kvs) ∧ DH kvs h ∧ q (od (e.val g h)) S
def lv1 : List D → Nat := fun ds => 1 + dD (ds.getD 0 .non)
/-- worth -/
def sp2 : List D → Sto → Q1 → XD → Prop := fun ds S q _ => ∃ (e : Ex) (m g : Int) (vs : List Int), ds = [e.d, .int g, .tup (vs.map .int)] ∧ e.dep ≤ 60 ∧ e.Ok false m ∧ FI g ∧ (∀ v ∈ vs, FI v) ∧ ∀ n o, S n = none → q (od (e.val g (lhv vs))) (put S n o)
def lv2 : List D → Nat := fun ds => 70
/-- reckoned_range -/
def sp3 : List D → Sto → Q1 → XD → Prop := fun ds S q _ => ∃ (w : W6) (r s : Rg), ds = [.str w.s, rd r, rd s] ∧ w ≠ .below ∧ w ≠ .like ∧ RI r ∧ RI s ∧ q (ord (w.rj r s)) S
def lv3 : List D → Nat := fun ds => 0
/-- asked_range -/
def sp4 : List D → Sto → Q1 → XD → Prop := fun ds S q _ => ∃ (w : W6) (r s : Rg), ds = [.str w.s, rd r, rd s] ∧ (w = .below ∨ w = .like) ∧ RI r ∧ RI s ∧ q (ord (w.rj r s)) S
def lv4 : List D → Nat := fun ds => 0
/-- range_by -/
def sp5 : List D → Sto → Q1 → XD → Prop := fun ds S q _ => ∃ (e : Ex) (m : Int) (g : Rg) (n : Nat) (o : Option Rg) (kvs : List (L2.Key × D)) (h : Int → Rg), ds = [e.d, .tup [rd g, .loc n, ord o]] ∧ e.Ok true m ∧ RI g ∧ (∀ r, o = some r → RI r) ∧ S n = some (.dic kvs) ∧ DR kvs h ∧ q (ord (e.rng g o h)) S
def lv5 : List D → Nat := fun ds => 1 + dD (ds.getD 0 .non)
/-- range_of -/
def sp6 : List D → Sto → Q1 → XD → Prop := fun ds S q _ => ∃ (e : Ex) (m : Int) (g : Rg) (n : Nat) (kvs : List (L2.Key × D)) (h : Int → Rg), ds = [e.d, rd g, .loc n] ∧ e.dep ≤ 60 ∧ e.Ok true m ∧ RI g ∧ S n = some (.dic kvs) ∧ DR kvs h ∧ q (ord (e.rng g none h)) S
def lv6 : List D → Nat := fun ds => 70
/-- _law_new_tape -/
def sp7 : List D → Sto → Q1 → XD → Prop := fun ds S q _ => ∃ ns, ds = [.scr ns] ∧ ∀ n S', S n = none → Same S S' n → Td S' n 0 → q (.loc n) S'
def lv7 : List D → Nat := fun ds => 0
/-- _law_draw -/
def sp8 : List D → Sto → Q1 → XD → Prop := fun ds S q x => spTape ds S q x
def lv8 : List D → Nat := fun ds => 0
/-- _law_figure -/
def sp9 : List D → Sto → Q1 → XD → Prop := fun ds S q _ => ∃ f t, ds = [.loc f] ∧ t + 1 < 2 ^ 60 ∧ Td S f t ∧ ∀ i S', FI i → Same S S' f → Td S' f (t + 1) → q (.int i) S'
def lv9 : List D → Nat := fun ds => 1
/-- _law_expression -/
def sp10 : List D → Sto → Q1 → XD → Prop := fun ds S q _ => ∃ (f n : Nat) (o : Bool) (t : Int), ds = [.loc f, .int n, .lst (if o then [Ex.out.d] else [])] ∧ t + cE n < 2 ^ 60 ∧ Td S f t ∧ ∀ (e : Ex) S', e.Ok o 3 → e.dep + 1 ≤ n ∨ e.dep = 0 → Same S S' f → Td S' f (t + cE n) → q e.d S'
def lv10 : List D → Nat := fun ds => 2 + (intOf (ds.getD 1 .non)).toNat
/-- _law_worth -/
def sp11 : List D → Sto → Q1 → XD → Prop := fun ds S q _ => ∃ (e : Ex) (m g : Int) (n : Nat) (kvs : List (L2.Key × D)) (h : Int → Int), ds = [e.d, .int g, .loc n] ∧ e.Ok false m ∧ FI g ∧ S n = some (.dic kvs) ∧ DH kvs h ∧ q (od (e.val g h)) S
def lv11 : List D → Nat := fun ds => 1 + dD (ds.getD 0 .non)
/-- _law_some_range -/
def sp12 : List D → Sto → Q1 → XD → Prop := fun ds S q _ => ∃ f t, ds = [.loc f] ∧ t + 4 < 2 ^ 60 ∧ Td S f t ∧ ∀ r S', RI r → Same S S' f → Td S' f (t + 4) → q (rd r) S'
def lv12 : List D → Nat := fun ds => 2
/-- _law_within -/
def sp13 : List D → Sto → Q1 → XD → Prop := fun ds S q _ => ∃ f t r, ds = [.loc f, rd r] ∧ RI r ∧ t + 2 < 2 ^ 60 ∧ Td S f t ∧ ∀ i S', InR i r → Same S S' f → Td S' f (t + 2) → q (.int i) S'
def lv13 : List D → Nat := fun ds => 1
/-- law -/
def sp14 : List D → Sto → Q1 → XD → Prop := fun ds S q _ => ∃ ns, ds = [.scr ns] ∧ ∀ S', q (.bl true) S'
def lv14 : List D → Nat := fun ds => 80
def spl : List (List D → Sto → Q1 → XD → Prop) := [sp0, sp1, sp2, sp3, sp4, sp5, sp6, sp7, sp8, sp9, sp10, sp11, sp12, sp13, sp14]
def lvl : List (List D → Nat) := [lv0, lv1, lv2, lv3, lv4, lv5, lv6, lv7, lv8, lv9, lv10, lv11, lv12, lv13, lv14]
def sp (f : Nat) : List D → Sto → Q1 → XD → Prop := spl.getD f (fun _ _ _ _ => False)
def lv (f : Nat) : List D → Nat := lvl.getD f (fun _ => 0)
def Γ (k : Nat) : GT := fun f ds S q x => lv f ds < k ∧ sp f ds S q x
section
variable {k : Nat} {ds : List D} {S : Sto} {q : Q1}
theorem u0 {w : W6} {i j : Int} (hk : 0 < k) (hi : FI i) (hj : FI j) (h : q (od (w.jn i j)) S) : Γ k 0 [.str w.s, .int i, .int j] S q noX := ⟨hk, w, i, j, rfl, hi, hj, h⟩
theorem u1 {e : Ex} {m g : Int} {n : Nat} {kvs : List (L2.Key × D)} {h : Int → Int} (hk : 1 + dD e.d < k) (he : e.Ok false m) (hg : FI g) (hS : S n = some (.dic kvs)) (hh : DH kvs h) (hq : q (od (e.val g h)) S) : Γ k 1 [e.d, .int g, .loc n] S q noX := ⟨hk, e, m, g, n, kvs, h, rfl, he, hg, hS, hh, hq⟩
theorem u1N {e : Ex} {m g : Int} {n : Nat} {kvs : List (L2.Key × D)} {h : Int → Int} (hk : 1 + dD e.d < k) (he : e.Ok false m) (hg : FI g) (hS : S n = some (.dic kvs)) (hh : DH kvs h) (er : e.val g h = none) (hq : q .non S) : Γ k 1 [e.d, .int g, .loc n] S q noX := u1 hk he hg hS hh (by rw [er]; exact hq)
theorem u1I {e : Ex} {m g i : Int} {n : Nat} {kvs : List (L2.Key × D)} {h : Int → Int} (hk : 1 + dD e.d < k) (he : e.Ok false m) (hg : FI g) (hS : S n = some (.dic kvs)) (hh : DH kvs h) (er : e.val g h = some i) (hq : q (.int i) S) : Γ k 1 [e.d, .int g, .loc n] S q noX := u1 hk he hg hS hh (by rw [er]; exact hq)
theorem u2 {e : Ex} {m g : Int} {vs : List Int} (hk : 70 < k) (hd : e.dep ≤ 60) (he : e.Ok false m) (hg : FI g) (hv : ∀ v ∈ vs, FI v) (hq : ∀ n o, S n = none → q (od (e.val g (lhv vs))) (put S n o)) : Γ k 2 [e.d, .int g, .tup (vs.map .int)] S q noX := ⟨hk, e, m, g, vs, rfl, hd, he, hg, hv, hq⟩
theorem u3 {w : W6} {r s : Rg} (hk : 0 < k) (h1 : w ≠ .below) (h2 : w ≠ .like) (hr : RI r) (hs : RI s) (h : q (ord (w.rj r s)) S) : Γ k 3 [.str w.s, rd r, rd s] S q noX := ⟨hk, w, r, s, rfl, h1, h2, hr, hs, h⟩
theorem u4 {w : W6} {r s : Rg} (hk : 0 < k) (h1 : w = .below ∨ w = .like) (hr : RI r) (hs : RI s) (h : q (ord (w.rj r s)) S) : Γ k 4 [.str w.s, rd r, rd s] S q noX := ⟨hk, w, r, s, rfl, h1, hr, hs, h⟩
theorem u5 {e : Ex} {m : Int} {g : Rg} {n : Nat} {o : Option Rg} {kvs : List (L2.Key × D)} {h : Int → Rg} (hk : 1 + dD e.d < k) (he : e.Ok true m) (hg : RI g) (ho : ∀ r, o = some r → RI r) (hS : S n = some (.dic kvs)) (hh : DR kvs h) (hq : q (ord (e.rng g o h)) S) : Γ k 5 [e.d, .tup [rd g, .loc n, ord o]] S q noX := ⟨hk, e, m, g, n, o, kvs, h, rfl, he, hg, ho, hS, hh, hq⟩
theorem u5N {e : Ex} {m : Int} {g : Rg} {n : Nat} {o : Option Rg} {kvs : List (L2.Key × D)} {h : Int → Rg} (hk : 1 + dD e.d < k) (he : e.Ok true m) (hg : RI g) (ho : ∀ r, o = some r → RI r) (hS : S n = some (.dic kvs)) (hh : DR kvs h) (er : e.rng g o h = none) (hq : q .non S) : Γ k 5 [e.d, .tup [rd g, .loc n, ord o]] S q noX := u5 hk he hg ho hS hh (by rw [er]; exact hq)
theorem u5I {e : Ex} {m : Int} {g r : Rg} {n : Nat} {o : Option Rg} {kvs : List (L2.Key × D)} {h : Int → Rg} (hk : 1 + dD e.d < k) (he : e.Ok true m) (hg : RI g) (ho : ∀ r, o = some r → RI r) (hS : S n = some (.dic kvs)) (hh : DR kvs h) (er : e.rng g o h = some r) (hq : q (rd r) S) : Γ k 5 [e.d, .tup [rd g, .loc n, ord o]] S q noX := u5 hk he hg ho hS hh (by rw [er]; exact hq)
theorem u6 {e : Ex} {m : Int} {g : Rg} {n : Nat} {kvs : List (L2.Key × D)} {h : Int → Rg} (hk : 70 < k) (hd : e.dep ≤ 60) (he : e.Ok true m) (hg : RI g) (hS : S n = some (.dic kvs)) (hh : DR kvs h) (hq : q (ord (e.rng g none h)) S) : Γ k 6 [e.d, rd g, .loc n] S q noX := ⟨hk, e, m, g, n, kvs, h, rfl, hd, he, hg, hS, hh, hq⟩
theorem u7 {ns : List Int} (hk : 0 < k) (h : ∀ n S', S n = none → Same S S' n → Td S' n 0 → q (.loc n) S') : Γ k 7 [.scr ns] S q noX := ⟨hk, ns, rfl, h⟩
theorem u8 {f : Nat} {m : Int} (t : Int) (hk : 0 < k) (m0 : 0 < m) (m1 : m < 2 ^ 60) (ht : t < 2 ^ 60) (F : Td S f t) (h : ∀ r S', 0 ≤ r → r < m → Same S S' f → Td S' f (t + 1) → q (.int r) S') : Γ k 8 [.loc f, .int m] S q noX := ⟨hk, f, m, t, rfl, m0, m1, ht, F, h⟩
theorem u9 {f : Nat} (t : Int) (hk : 1 < k) (ht : t + 1 < 2 ^ 60) (F : Td S f t) (h : ∀ i S', FI i → Same S S' f → Td S' f (t + 1) → q (.int i) S') : Γ k 9 [.loc f] S q noX := ⟨hk, f, t, rfl, ht, F, h⟩
theorem u10 {f n : Nat} {i : Int} {o : Bool} {l : List D} (t : Int) (hi : i = n) (hl : l = if o then [Ex.out.d] else []) (hk : 2 + n < k) (ht : t + cE n < 2 ^ 60) (F : Td S f t) (h : ∀ (e : Ex) S', e.Ok o 3 → e.dep + 1 ≤ n ∨ e.dep = 0 → Same S S' f → Td S' f (t + cE n) → q e.d S') : Γ k 10 [.loc f, .int i, .lst l] S q noX := by
  subst hi hl
  exact ⟨by show 2 + (n : Int).toNat < k; rw [Int.toNat_natCast]; exact hk, f, n, o, t, rfl, ht, F, h⟩
theorem u11 {e : Ex} {m g : Int} {n : Nat} {kvs : List (L2.Key × D)} {h : Int → Int} (hk : 1 + dD e.d < k) (he : e.Ok false m) (hg : FI g) (hS : S n = some (.dic kvs)) (hh : DH kvs h) (hq : q (od (e.val g h)) S) : Γ k 11 [e.d, .int g, .loc n] S q noX := ⟨hk, e, m, g, n, kvs, h, rfl, he, hg, hS, hh, hq⟩
theorem u11N {e : Ex} {m g : Int} {n : Nat} {kvs : List (L2.Key × D)} {h : Int → Int} (hk : 1 + dD e.d < k) (he : e.Ok false m) (hg : FI g) (hS : S n = some (.dic kvs)) (hh : DH kvs h) (er : e.val g h = none) (hq : q .non S) : Γ k 11 [e.d, .int g, .loc n] S q noX := u11 hk he hg hS hh (by rw [er]; exact hq)
theorem u11I {e : Ex} {m g i : Int} {n : Nat} {kvs : List (L2.Key × D)} {h : Int → Int} (hk : 1 + dD e.d < k) (he : e.Ok false m) (hg : FI g) (hS : S n = some (.dic kvs)) (hh : DH kvs h) (er : e.val g h = some i) (hq : q (.int i) S) : Γ k 11 [e.d, .int g, .loc n] S q noX := u11 hk he hg hS hh (by rw [er]; exact hq)
theorem u12 {f : Nat} (t : Int) (hk : 2 < k) (ht : t + 4 < 2 ^ 60) (F : Td S f t) (h : ∀ r S', RI r → Same S S' f → Td S' f (t + 4) → q (rd r) S') : Γ k 12 [.loc f] S q noX := ⟨hk, f, t, rfl, ht, F, h⟩
theorem u13 {f : Nat} {r : Rg} (t : Int) (hk : 1 < k) (hr : RI r) (ht : t + 2 < 2 ^ 60) (F : Td S f t) (h : ∀ i S', InR i r → Same S S' f → Td S' f (t + 2) → q (.int i) S') : Γ k 13 [.loc f, rd r] S q noX := ⟨hk, f, t, r, rfl, hr, ht, F, h⟩
theorem len0 (h : sp0 ds S q noX) : ds.length = 3 := by first | (obtain ⟨rfl, _⟩ := h; rfl) | (obtain ⟨_, rfl, _⟩ := h; rfl) | (obtain ⟨_, _, rfl, _⟩ := h; rfl) | (obtain ⟨_, _, _, rfl, _⟩ := h; rfl) | (obtain ⟨_, _, _, _, rfl, _⟩ := h; rfl) | (obtain ⟨_, _, _, _, _, rfl, _⟩ := h; rfl) | (obtain ⟨_, _, _, _, _, _, rfl, _⟩ := h; rfl) | (obtain ⟨_, _, _, _, _, _, _, rfl, _⟩ := h; rfl) | (obtain ⟨_, _, _, _, _, _, _, _, rfl, _⟩ := h; rfl) | (obtain ⟨_, _, _, _, _, _, _, _, _, rfl, _⟩ := h; rfl) | (obtain ⟨_, _, _, _, _, _, _, _, _, _, rfl, _⟩ := h; rfl) | (obtain ⟨_, _, _, _, _, _, _, _, _, _, _, rfl, _⟩ := h; rfl) | (obtain ⟨_, _, _, _, _, _, _, _, _, _, _, _, rfl, _⟩ := h; rfl) | (obtain ⟨_, _, _, _, _, _, _, _, _, _, _, _, _, rfl, _⟩ := h; rfl) | (obtain ⟨_, _, _, _, _, _, _, _, _, _, _, _, _, _, rfl, _⟩ := h; rfl) | (obtain ⟨_, _, _, _, _, _, _, _, _, _, _, _, _, _, _, rfl, _⟩ := h; rfl) | exact h.elim
theorem len1 (h : sp1 ds S q noX) : ds.length = 3 := by first | (obtain ⟨rfl, _⟩ := h; rfl) | (obtain ⟨_, rfl, _⟩ := h; rfl) | (obtain ⟨_, _, rfl, _⟩ := h; rfl) | (obtain ⟨_, _, _, rfl, _⟩ := h; rfl) | (obtain ⟨_, _, _, _, rfl, _⟩ := h; rfl) | (obtain ⟨_, _, _, _, _, rfl, _⟩ := h; rfl) | (obtain ⟨_, _, _, _, _, _, rfl, _⟩ := h; rfl) | (obtain ⟨_, _, _, _, _, _, _, rfl, _⟩ := h; rfl) | (obtain ⟨_, _, _, _, _, _, _, _, rfl, _⟩ := h; rfl) | (obtain ⟨_, _, _, _, _, _, _, _, _, rfl, _⟩ := h; rfl) | (obtain ⟨_, _, _, _, _, _, _, _, _, _, rfl, _⟩ := h; rfl) | (obtain ⟨_, _, _, _, _, _, _, _, _, _, _, rfl, _⟩ := h; rfl) | (obtain ⟨_, _, _, _, _, _, _, _, _, _, _, _, rfl, _⟩ := h; rfl) | (obtain ⟨_, _, _, _, _, _, _, _, _, _, _, _, _, rfl, _⟩ := h; rfl) | (obtain ⟨_, _, _, _, _, _, _, _, _, _, _, _, _, _, rfl, _⟩ := h; rfl) | (obtain ⟨_, _, _, _, _, _, _, _, _, _, _, _, _, _, _, rfl, _⟩ := h; rfl) | exact h.elim
theorem len2 (h : sp2 ds S q noX) : ds.length = 3 := by first | (obtain ⟨rfl, _⟩ := h; rfl) | (obtain ⟨_, rfl, _⟩ := h; rfl) | (obtain ⟨_, _, rfl, _⟩ := h; rfl) | (obtain ⟨_, _, _, rfl, _⟩ := h; rfl) | (obtain ⟨_, _, _, _, rfl, _⟩ := h; rfl) | (obtain ⟨_, _, _, _, _, rfl, _⟩ := h; rfl) | (obtain ⟨_, _, _, _, _, _, rfl, _⟩ := h; rfl) | (obtain ⟨_, _, _, _, _, _, _, rfl, _⟩ := h; rfl) | (obtain ⟨_, _, _, _, _, _, _, _, rfl, _⟩ := h; rfl) | (obtain ⟨_, _, _, _, _, _, _, _, _, rfl, _⟩ := h; rfl) | (obtain ⟨_, _, _, _, _, _, _, _, _, _, rfl, _⟩ := h; rfl) | (obtain ⟨_, _, _, _, _, _, _, _, _, _, _, rfl, _⟩ := h; rfl) | (obtain ⟨_, _, _, _, _, _, _, _, _, _, _, _, rfl, _⟩ := h; rfl) | (obtain ⟨_, _, _, _, _, _, _, _, _, _, _, _, _, rfl, _⟩ := h; rfl) | (obtain ⟨_, _, _, _, _, _, _, _, _, _, _, _, _, _, rfl, _⟩ := h; rfl) | (obtain ⟨_, _, _, _, _, _, _, _, _, _, _, _, _, _, _, rfl, _⟩ := h; rfl) | exact h.elim
theorem len3 (h : sp3 ds S q noX) : ds.length = 3 := by first | (obtain ⟨rfl, _⟩ := h; rfl) | (obtain ⟨_, rfl, _⟩ := h; rfl) | (obtain ⟨_, _, rfl, _⟩ := h; rfl) | (obtain ⟨_, _, _, rfl, _⟩ := h; rfl) | (obtain ⟨_, _, _, _, rfl, _⟩ := h; rfl) | (obtain ⟨_, _, _, _, _, rfl, _⟩ := h; rfl) | (obtain ⟨_, _, _, _, _, _, rfl, _⟩ := h; rfl) | (obtain ⟨_, _, _, _, _, _, _, rfl, _⟩ := h; rfl) | (obtain ⟨_, _, _, _, _, _, _, _, rfl, _⟩ := h; rfl) | (obtain ⟨_, _, _, _, _, _, _, _, _, rfl, _⟩ := h; rfl) | (obtain ⟨_, _, _, _, _, _, _, _, _, _, rfl, _⟩ := h; rfl) | (obtain ⟨_, _, _, _, _, _, _, _, _, _, _, rfl, _⟩ := h; rfl) | (obtain ⟨_, _, _, _, _, _, _, _, _, _, _, _, rfl, _⟩ := h; rfl) | (obtain ⟨_, _, _, _, _, _, _, _, _, _, _, _, _, rfl, _⟩ := h; rfl) | (obtain ⟨_, _, _, _, _, _, _, _, _, _, _, _, _, _, rfl, _⟩ := h; rfl) | (obtain ⟨_, _, _, _, _, _, _, _, _, _, _, _, _, _, _, rfl, _⟩ := h; rfl) | exact h.elim
theorem len4 (h : sp4 ds S q noX) : ds.length = 3 := by first | (obtain ⟨rfl, _⟩ := h; rfl) | (obtain ⟨_, rfl, _⟩ := h; rfl) | (obtain ⟨_, _, rfl, _⟩ := h; rfl) | (obtain ⟨_, _, _, rfl, _⟩ := h; rfl) | (obtain ⟨_, _, _, _, rfl, _⟩ := h; rfl) | (obtain ⟨_, _, _, _, _, rfl, _⟩ := h; rfl) | (obtain ⟨_, _, _, _, _, _, rfl, _⟩ := h; rfl) | (obtain ⟨_, _, _, _, _, _, _, rfl, _⟩ := h; rfl) | (obtain ⟨_, _, _, _, _, _, _, _, rfl, _⟩ := h; rfl) | (obtain ⟨_, _, _, _, _, _, _, _, _, rfl, _⟩ := h; rfl) | (obtain ⟨_, _, _, _, _, _, _, _, _, _, rfl, _⟩ := h; rfl) | (obtain ⟨_, _, _, _, _, _, _, _, _, _, _, rfl, _⟩ := h; rfl) | (obtain ⟨_, _, _, _, _, _, _, _, _, _, _, _, rfl, _⟩ := h; rfl) | (obtain ⟨_, _, _, _, _, _, _, _, _, _, _, _, _, rfl, _⟩ := h; rfl) | (obtain ⟨_, _, _, _, _, _, _, _, _, _, _, _, _, _, rfl, _⟩ := h; rfl) | (obtain ⟨_, _, _, _, _, _, _, _, _, _, _, _, _, _, _, rfl, _⟩ := h; rfl) | exact h.elim
theorem len5 (h : sp5 ds S q noX) : ds.length = 2 := by first | (obtain ⟨rfl, _⟩ := h; rfl) | (obtain ⟨_, rfl, _⟩ := h; rfl) | (obtain ⟨_, _, rfl, _⟩ := h; rfl) | (obtain ⟨_, _, _, rfl, _⟩ := h; rfl) | (obtain ⟨_, _, _, _, rfl, _⟩ := h; rfl) | (obtain ⟨_, _, _, _, _, rfl, _⟩ := h; rfl) | (obtain ⟨_, _, _, _, _, _, rfl, _⟩ := h; rfl) | (obtain ⟨_, _, _, _, _, _, _, rfl, _⟩ := h; rfl) | (obtain ⟨_, _, _, _, _, _, _, _, rfl, _⟩ := h; rfl) | (obtain ⟨_, _, _, _, _, _, _, _, _, rfl, _⟩ := h; rfl) | (obtain ⟨_, _, _, _, _, _, _, _, _, _, rfl, _⟩ := h; rfl) | (obtain ⟨_, _, _, _, _, _, _, _, _, _, _, rfl, _⟩ := h; rfl) | (obtain ⟨_, _, _, _, _, _, _, _, _, _, _, _, rfl, _⟩ := h; rfl) | (obtain ⟨_, _, _, _, _, _, _, _, _, _, _, _, _, rfl, _⟩ := h; rfl) | (obtain ⟨_, _, _, _, _, _, _, _, _, _, _, _, _, _, rfl, _⟩ := h; rfl) | (obtain ⟨_, _, _, _, _, _, _, _, _, _, _, _, _, _, _, rfl, _⟩ := h; rfl) | exact h.elim
theorem len6 (h : sp6 ds S q noX) : ds.length = 3 := by first | (obtain ⟨rfl, _⟩ := h; rfl) | (obtain ⟨_, rfl, _⟩ := h; rfl) | (obtain ⟨_, _, rfl, _⟩ := h; rfl) | (obtain ⟨_, _, _, rfl, _⟩ := h; rfl) | (obtain ⟨_, _, _, _, rfl, _⟩ := h; rfl) | (obtain ⟨_, _, _, _, _, rfl, _⟩ := h; rfl) | (obtain ⟨_, _, _, _, _, _, rfl, _⟩ := h; rfl) | (obtain ⟨_, _, _, _, _, _, _, rfl, _⟩ := h; rfl) | (obtain ⟨_, _, _, _, _, _, _, _, rfl, _⟩ := h; rfl) | (obtain ⟨_, _, _, _, _, _, _, _, _, rfl, _⟩ := h; rfl) | (obtain ⟨_, _, _, _, _, _, _, _, _, _, rfl, _⟩ := h; rfl) | (obtain ⟨_, _, _, _, _, _, _, _, _, _, _, rfl, _⟩ := h; rfl) | (obtain ⟨_, _, _, _, _, _, _, _, _, _, _, _, rfl, _⟩ := h; rfl) | (obtain ⟨_, _, _, _, _, _, _, _, _, _, _, _, _, rfl, _⟩ := h; rfl) | (obtain ⟨_, _, _, _, _, _, _, _, _, _, _, _, _, _, rfl, _⟩ := h; rfl) | (obtain ⟨_, _, _, _, _, _, _, _, _, _, _, _, _, _, _, rfl, _⟩ := h; rfl) | exact h.elim
theorem len7 (h : sp7 ds S q noX) : ds.length = 1 := by first | (obtain ⟨rfl, _⟩ := h; rfl) | (obtain ⟨_, rfl, _⟩ := h; rfl) | (obtain ⟨_, _, rfl, _⟩ := h; rfl) | (obtain ⟨_, _, _, rfl, _⟩ := h; rfl) | (obtain ⟨_, _, _, _, rfl, _⟩ := h; rfl) | (obtain ⟨_, _, _, _, _, rfl, _⟩ := h; rfl) | (obtain ⟨_, _, _, _, _, _, rfl, _⟩ := h; rfl) | (obtain ⟨_, _, _, _, _, _, _, rfl, _⟩ := h; rfl) | (obtain ⟨_, _, _, _, _, _, _, _, rfl, _⟩ := h; rfl) | (obtain ⟨_, _, _, _, _, _, _, _, _, rfl, _⟩ := h; rfl) | (obtain ⟨_, _, _, _, _, _, _, _, _, _, rfl, _⟩ := h; rfl) | (obtain ⟨_, _, _, _, _, _, _, _, _, _, _, rfl, _⟩ := h; rfl) | (obtain ⟨_, _, _, _, _, _, _, _, _, _, _, _, rfl, _⟩ := h; rfl) | (obtain ⟨_, _, _, _, _, _, _, _, _, _, _, _, _, rfl, _⟩ := h; rfl) | (obtain ⟨_, _, _, _, _, _, _, _, _, _, _, _, _, _, rfl, _⟩ := h; rfl) | (obtain ⟨_, _, _, _, _, _, _, _, _, _, _, _, _, _, _, rfl, _⟩ := h; rfl) | exact h.elim
theorem len8 (h : sp8 ds S q noX) : ds.length = 2 := by first | (obtain ⟨rfl, _⟩ := h; rfl) | (obtain ⟨_, rfl, _⟩ := h; rfl) | (obtain ⟨_, _, rfl, _⟩ := h; rfl) | (obtain ⟨_, _, _, rfl, _⟩ := h; rfl) | (obtain ⟨_, _, _, _, rfl, _⟩ := h; rfl) | (obtain ⟨_, _, _, _, _, rfl, _⟩ := h; rfl) | (obtain ⟨_, _, _, _, _, _, rfl, _⟩ := h; rfl) | (obtain ⟨_, _, _, _, _, _, _, rfl, _⟩ := h; rfl) | (obtain ⟨_, _, _, _, _, _, _, _, rfl, _⟩ := h; rfl) | (obtain ⟨_, _, _, _, _, _, _, _, _, rfl, _⟩ := h; rfl) | (obtain ⟨_, _, _, _, _, _, _, _, _, _, rfl, _⟩ := h; rfl) | (obtain ⟨_, _, _, _, _, _, _, _, _, _, _, rfl, _⟩ := h; rfl) | (obtain ⟨_, _, _, _, _, _, _, _, _, _, _, _, rfl, _⟩ := h; rfl) | (obtain ⟨_, _, _, _, _, _, _, _, _, _, _, _, _, rfl, _⟩ := h; rfl) | (obtain ⟨_, _, _, _, _, _, _, _, _, _, _, _, _, _, rfl, _⟩ := h; rfl) | (obtain ⟨_, _, _, _, _, _, _, _, _, _, _, _, _, _, _, rfl, _⟩ := h; rfl) | exact h.elim
theorem len9 (h : sp9 ds S q noX) : ds.length = 1 := by first | (obtain ⟨rfl, _⟩ := h; rfl) | (obtain ⟨_, rfl, _⟩ := h; rfl) | (obtain ⟨_, _, rfl, _⟩ := h; rfl) | (obtain ⟨_, _, _, rfl, _⟩ := h; rfl) | (obtain ⟨_, _, _, _, rfl, _⟩ := h; rfl) | (obtain ⟨_, _, _, _, _, rfl, _⟩ := h; rfl) | (obtain ⟨_, _, _, _, _, _, rfl, _⟩ := h; rfl) | (obtain ⟨_, _, _, _, _, _, _, rfl, _⟩ := h; rfl) | (obtain ⟨_, _, _, _, _, _, _, _, rfl, _⟩ := h; rfl) | (obtain ⟨_, _, _, _, _, _, _, _, _, rfl, _⟩ := h; rfl) | (obtain ⟨_, _, _, _, _, _, _, _, _, _, rfl, _⟩ := h; rfl) | (obtain ⟨_, _, _, _, _, _, _, _, _, _, _, rfl, _⟩ := h; rfl) | (obtain ⟨_, _, _, _, _, _, _, _, _, _, _, _, rfl, _⟩ := h; rfl) | (obtain ⟨_, _, _, _, _, _, _, _, _, _, _, _, _, rfl, _⟩ := h; rfl) | (obtain ⟨_, _, _, _, _, _, _, _, _, _, _, _, _, _, rfl, _⟩ := h; rfl) | (obtain ⟨_, _, _, _, _, _, _, _, _, _, _, _, _, _, _, rfl, _⟩ := h; rfl) | exact h.elim
theorem len10 (h : sp10 ds S q noX) : ds.length = 3 := by first | (obtain ⟨rfl, _⟩ := h; rfl) | (obtain ⟨_, rfl, _⟩ := h; rfl) | (obtain ⟨_, _, rfl, _⟩ := h; rfl) | (obtain ⟨_, _, _, rfl, _⟩ := h; rfl) | (obtain ⟨_, _, _, _, rfl, _⟩ := h; rfl) | (obtain ⟨_, _, _, _, _, rfl, _⟩ := h; rfl) | (obtain ⟨_, _, _, _, _, _, rfl, _⟩ := h; rfl) | (obtain ⟨_, _, _, _, _, _, _, rfl, _⟩ := h; rfl) | (obtain ⟨_, _, _, _, _, _, _, _, rfl, _⟩ := h; rfl) | (obtain ⟨_, _, _, _, _, _, _, _, _, rfl, _⟩ := h; rfl) | (obtain ⟨_, _, _, _, _, _, _, _, _, _, rfl, _⟩ := h; rfl) | (obtain ⟨_, _, _, _, _, _, _, _, _, _, _, rfl, _⟩ := h; rfl) | (obtain ⟨_, _, _, _, _, _, _, _, _, _, _, _, rfl, _⟩ := h; rfl) | (obtain ⟨_, _, _, _, _, _, _, _, _, _, _, _, _, rfl, _⟩ := h; rfl) | (obtain ⟨_, _, _, _, _, _, _, _, _, _, _, _, _, _, rfl, _⟩ := h; rfl) | (obtain ⟨_, _, _, _, _, _, _, _, _, _, _, _, _, _, _, rfl, _⟩ := h; rfl) | exact h.elim
theorem len11 (h : sp11 ds S q noX) : ds.length = 3 := by first | (obtain ⟨rfl, _⟩ := h; rfl) | (obtain ⟨_, rfl, _⟩ := h; rfl) | (obtain ⟨_, _, rfl, _⟩ := h; rfl) | (obtain ⟨_, _, _, rfl, _⟩ := h; rfl) | (obtain ⟨_, _, _, _, rfl, _⟩ := h; rfl) | (obtain ⟨_, _, _, _, _, rfl, _⟩ := h; rfl) | (obtain ⟨_, _, _, _, _, _, rfl, _⟩ := h; rfl) | (obtain ⟨_, _, _, _, _, _, _, rfl, _⟩ := h; rfl) | (obtain ⟨_, _, _, _, _, _, _, _, rfl, _⟩ := h; rfl) | (obtain ⟨_, _, _, _, _, _, _, _, _, rfl, _⟩ := h; rfl) | (obtain ⟨_, _, _, _, _, _, _, _, _, _, rfl, _⟩ := h; rfl) | (obtain ⟨_, _, _, _, _, _, _, _, _, _, _, rfl, _⟩ := h; rfl) | (obtain ⟨_, _, _, _, _, _, _, _, _, _, _, _, rfl, _⟩ := h; rfl) | (obtain ⟨_, _, _, _, _, _, _, _, _, _, _, _, _, rfl, _⟩ := h; rfl) | (obtain ⟨_, _, _, _, _, _, _, _, _, _, _, _, _, _, rfl, _⟩ := h; rfl) | (obtain ⟨_, _, _, _, _, _, _, _, _, _, _, _, _, _, _, rfl, _⟩ := h; rfl) | exact h.elim
theorem len12 (h : sp12 ds S q noX) : ds.length = 1 := by first | (obtain ⟨rfl, _⟩ := h; rfl) | (obtain ⟨_, rfl, _⟩ := h; rfl) | (obtain ⟨_, _, rfl, _⟩ := h; rfl) | (obtain ⟨_, _, _, rfl, _⟩ := h; rfl) | (obtain ⟨_, _, _, _, rfl, _⟩ := h; rfl) | (obtain ⟨_, _, _, _, _, rfl, _⟩ := h; rfl) | (obtain ⟨_, _, _, _, _, _, rfl, _⟩ := h; rfl) | (obtain ⟨_, _, _, _, _, _, _, rfl, _⟩ := h; rfl) | (obtain ⟨_, _, _, _, _, _, _, _, rfl, _⟩ := h; rfl) | (obtain ⟨_, _, _, _, _, _, _, _, _, rfl, _⟩ := h; rfl) | (obtain ⟨_, _, _, _, _, _, _, _, _, _, rfl, _⟩ := h; rfl) | (obtain ⟨_, _, _, _, _, _, _, _, _, _, _, rfl, _⟩ := h; rfl) | (obtain ⟨_, _, _, _, _, _, _, _, _, _, _, _, rfl, _⟩ := h; rfl) | (obtain ⟨_, _, _, _, _, _, _, _, _, _, _, _, _, rfl, _⟩ := h; rfl) | (obtain ⟨_, _, _, _, _, _, _, _, _, _, _, _, _, _, rfl, _⟩ := h; rfl) | (obtain ⟨_, _, _, _, _, _, _, _, _, _, _, _, _, _, _, rfl, _⟩ := h; rfl) | exact h.elim
theorem len13 (h : sp13 ds S q noX) : ds.length = 2 := by first | (obtain ⟨rfl, _⟩ := h; rfl) | (obtain ⟨_, rfl, _⟩ := h; rfl) | (obtain ⟨_, _, rfl, _⟩ := h; rfl) | (obtain ⟨_, _, _, rfl, _⟩ := h; rfl) | (obtain ⟨_, _, _, _, rfl, _⟩ := h; rfl) | (obtain ⟨_, _, _, _, _, rfl, _⟩ := h; rfl) | (obtain ⟨_, _, _, _, _, _, rfl, _⟩ := h; rfl) | (obtain ⟨_, _, _, _, _, _, _, rfl, _⟩ := h; rfl) | (obtain ⟨_, _, _, _, _, _, _, _, rfl, _⟩ := h; rfl) | (obtain ⟨_, _, _, _, _, _, _, _, _, rfl, _⟩ := h; rfl) | (obtain ⟨_, _, _, _, _, _, _, _, _, _, rfl, _⟩ := h; rfl) | (obtain ⟨_, _, _, _, _, _, _, _, _, _, _, rfl, _⟩ := h; rfl) | (obtain ⟨_, _, _, _, _, _, _, _, _, _, _, _, rfl, _⟩ := h; rfl) | (obtain ⟨_, _, _, _, _, _, _, _, _, _, _, _, _, rfl, _⟩ := h; rfl) | (obtain ⟨_, _, _, _, _, _, _, _, _, _, _, _, _, _, rfl, _⟩ := h; rfl) | (obtain ⟨_, _, _, _, _, _, _, _, _, _, _, _, _, _, _, rfl, _⟩ := h; rfl) | exact h.elim
theorem len14 (h : sp14 ds S q noX) : ds.length = 1 := by first | (obtain ⟨rfl, _⟩ := h; rfl) | (obtain ⟨_, rfl, _⟩ := h; rfl) | (obtain ⟨_, _, rfl, _⟩ := h; rfl) | (obtain ⟨_, _, _, rfl, _⟩ := h; rfl) | (obtain ⟨_, _, _, _, rfl, _⟩ := h; rfl) | (obtain ⟨_, _, _, _, _, rfl, _⟩ := h; rfl) | (obtain ⟨_, _, _, _, _, _, rfl, _⟩ := h; rfl) | (obtain ⟨_, _, _, _, _, _, _, rfl, _⟩ := h; rfl) | (obtain ⟨_, _, _, _, _, _, _, _, rfl, _⟩ := h; rfl) | (obtain ⟨_, _, _, _, _, _, _, _, _, rfl, _⟩ := h; rfl) | (obtain ⟨_, _, _, _, _, _, _, _, _, _, rfl, _⟩ := h; rfl) | (obtain ⟨_, _, _, _, _, _, _, _, _, _, _, rfl, _⟩ := h; rfl) | (obtain ⟨_, _, _, _, _, _, _, _, _, _, _, _, rfl, _⟩ := h; rfl) | (obtain ⟨_, _, _, _, _, _, _, _, _, _, _, _, _, rfl, _⟩ := h; rfl) | (obtain ⟨_, _, _, _, _, _, _, _, _, _, _, _, _, _, rfl, _⟩ := h; rfl) | (obtain ⟨_, _, _, _, _, _, _, _, _, _, _, _, _, _, _, rfl, _⟩ := h; rfl) | exact h.elim
end
end K48
set_option maxHeartbeats 2000000

namespace K48
open PySem Mi
section
variable {k : Nat} {ds : List D} {S : Sto} {q : Q1}

theorem ok0 (h0 : lv0 ds ≤ k) (h : sp0 ds S q noX) : wpSs T (Γ k) noX b0 (bodyEn q) (startD N0 ds) S := by
  obtain ⟨w, i, j, rfl, ⟨i0, i1⟩, ⟨j0, j1⟩, hq⟩ := h
  show wpSs T (Γ k) noX b0 (bodyEn q) [_, _, _] S
  refine w_body ?_
  unfold b0
  cases w with
  | plus =>
    simp only [W6.s]
    repeat' (first | tb_start | with_reducible refine bin_mod (by decide) ?_ | tb_rel)
    exact sub_end hq
  | less =>
    simp only [W6.s]
    repeat' (first | tb_start | with_reducible refine bin_mod (by decide) ?_ | tb_rel)
    exact sub_end hq
  | times =>
    simp only [W6.s]
    repeat' (first | tb_start | with_reducible refine bin_mul (.inl (by omega)) ?_ | with_reducible refine bin_mod (by decide) ?_ | tb_rel)
    exact sub_end hq
  | over =>
    simp only [W6.s, W6.jn] at hq ⊢
    repeat' (first | tb_start  | tb_rel)
    refine ite_dec (fun h1 => ?_) fun h1 => ?_
    · repeat' (first | tb_start  | tb_rel)
      rw [if_pos h1] at hq
      exact sub_end hq
    · repeat' (first | tb_start | with_reducible refine bin_fdiv (by omega) ?_ | tb_rel)
      rw [if_neg h1] at hq
      exact sub_end hq
  | below =>
    simp only [W6.s]
    repeat' (first | tb_start  | tb_rel)
    exact sub_end (by simpa [W6.jn] using hq)
  | like =>
    simp only [W6.s]
    repeat' (first | tb_start  | tb_rel)
    exact sub_end (by simpa [W6.jn] using hq)
end
end K48
set_option maxHeartbeats 2000000

namespace K48
open PySem Mi
section
variable {k : Nat} {ds : List D} {S : Sto} {q : Q1}

theorem ok1 (h0 : lv1 ds ≤ k) (h : sp1 ds S q noX) : wpSs T (Γ k) noX b1 (bodyEn q) (startD N1 ds) S := by
  obtain ⟨e, m, g, n, kvs, hm, rfl, he, hg, hS, hh, hq⟩ := h
  have h0 : 1 + dD e.d ≤ k := h0
  have hv := fun {e : Ex} {r : Int} (o : e.Ok false m) => Ex.val_ok (r := r) hg (fun i => (hh i).2) o
  show wpSs T (Γ k) noX b1 (bodyEn q) [_, _, _, none, none, none] S
  refine w_body ?_
  unfold b1
  cases e with
  | inn =>
    simp only [Ex.d]
    repeat' (first | tb_start  | tb_rel)
    exact sub_end hq
  | out => cases he
  | at_ i =>
    simp only [Ex.d]
    repeat' (first | tb_start | with_reducible refine kind_get2 hS ?_ | with_reducible refine mt_get2i hS ?_ | tb_rel)
    refine sub_end ?_
    rw [(hh i).1]
    exact hq
  | num i =>
    simp only [Ex.d]
    repeat' (first | tb_start  | tb_rel)
    exact sub_end hq
  | op w a b =>
    obtain ⟨he1, he2⟩ := he
    have d1 := @Ex.dD_op1 w a b
    have d2 := @Ex.dD_op2 w a b
    obtain ⟨ra, ea⟩ : ∃ r, a.val g hm = r := ⟨_, rfl⟩
    obtain ⟨rb, eb⟩ : ∃ r, b.val g hm = r := ⟨_, rfl⟩
    simp only [Ex.val, ea, eb] at hq
    simp only [Ex.d]
    have n1 : ¬ w.s = "num" := by cases w <;> decide
    have n2 : ¬ w.s = "in" := by cases w <;> decide
    have n3 : ¬ w.s = "at" := by cases w <;> decide
    cases ra with
    | none =>
      cases rb with
      | none =>
        repeat' (first | tb_start | with_reducible refine u1N (by omega) he1 hg hS hh ea ?_ | with_reducible refine u1N (by omega) he2 hg hS hh eb ?_ | tb_rel)
        exact sub_end hq
      | some j =>
        repeat' (first | tb_start | with_reducible refine u1N (by omega) he1 hg hS hh ea ?_ | with_reducible refine u1I (by omega) he2 hg hS hh eb ?_ | tb_rel)
        exact sub_end hq
    | some i =>
      have hi := hv he1 ea
      cases rb with
      | none =>
        repeat' (first | tb_start | with_reducible refine u1I (by omega) he1 hg hS hh ea ?_ | with_reducible refine u1N (by omega) he2 hg hS hh eb ?_ | tb_rel)
        exact sub_end hq
      | some j =>
        have hj := hv he2 eb
        repeat' (first | tb_start | with_reducible refine u1I (by omega) he1 hg hS hh ea ?_ | with_reducible refine u1I (by omega) he2 hg hS hh eb ?_ | with_reducible refine u0 (by omega) hi hj ?_ | tb_rel)
        exact sub_end hq
end
end K48
set_option maxHeartbeats 2000000

namespace K48
open PySem Mi
section
variable {k : Nat} {ds : List D} {S : Sto} {q : Q1}

theorem ok2 (h0 : lv2 ds ≤ k) (h : sp2 ds S q noX) : wpSs T (Γ k) noX b2 (bodyEn q) (startD N2 ds) S := by
  obtain ⟨e, m, g, vs, rfl, hd, he, hg, hv, hq⟩ := h
  have h0 : 70 ≤ k := h0
  have := e.dD_le
  show wpSs T (Γ k) noX b2 (bodyEn q) [_, _, _] S
  refine w_body ?_
  unfold b2
  repeat' (first | tb_start  | tb_rel)
  refine ⟨_, rfl, fun n hn => ?_⟩
  repeat' (first | tb_start | with_reducible refine u1 (by omega) he hg put_same (dh_vals hv) ?_ | tb_rel)
  exact sub_end (hq n _ hn)
end
end K48
set_option maxHeartbeats 2000000

namespace K48
open PySem Mi
section
variable {k : Nat} {ds : List D} {S : Sto} {q : Q1}

theorem ok3 (h0 : lv3 ds ≤ k) (h : sp3 ds S q noX) : wpSs T (Γ k) noX b3 (bodyEn q) (startD N3 ds) S := by
  obtain ⟨w, ⟨a, b⟩, ⟨c, e⟩, rfl, w1, w2, ⟨a0, ab, bm⟩, ⟨c0, ce, em⟩, hq⟩ := h
  have a0 : 0 ≤ a := a0
  have ab : a ≤ b := ab
  have bm : b ≤ 999999 := bm
  have c0 : 0 ≤ c := c0
  have ce : c ≤ e := ce
  have em : e ≤ 999999 := em
  show wpSs T (Γ k) noX b3 (bodyEn q) [_, _, _, none, none, none, none] S
  refine w_body ?_
  unfold b3
  simp only [rd]
  repeat' (first | tb_start  | tb_rel)
  refine ⟨_, rfl, ?_⟩
  repeat' (first | tb_start  | tb_rel)
  refine ⟨_, rfl, ?_⟩
  cases w with
  | below => exact absurd rfl w1
  | like => exact absurd rfl w2
  | plus =>
    simp only [W6.s, W6.rj, ord_some] at hq ⊢
    repeat' (first | tb_start  | tb_rel)
    refine ite_dec (fun h1 => ?_) fun h1 => ?_
    · rw [if_pos h1] at hq
      repeat' (first | tb_start  | tb_rel)
      exact sub_end hq
    · rw [if_neg h1] at hq
      repeat' (first | tb_start  | tb_rel)
      exact sub_end hq
  | less =>
    simp only [W6.s, W6.rj, ord_some] at hq ⊢
    repeat' (first | tb_start  | tb_rel)
    refine ite_dec (fun h1 => ?_) fun h1 => ?_
    · rw [if_pos h1] at hq
      repeat' (first | tb_start  | tb_rel)
      exact sub_end hq
    · rw [if_neg h1] at hq
      repeat' (first | tb_start  | tb_rel)
      exact sub_end hq
  | times =>
    simp only [W6.s, W6.rj, ord_some] at hq ⊢
    repeat' (first | tb_start | with_reducible refine bin_mul (.inl (by omega)) ?_ | tb_rel)
    refine ite_dec (fun h1 => ?_) fun h1 => ?_
    · rw [if_pos h1] at hq
      repeat' (first | tb_start | with_reducible refine bin_mul (.inl (by omega)) ?_ | tb_rel)
      exact sub_end hq
    · rw [if_neg h1] at hq
      repeat' (first | tb_start  | tb_rel)
      exact sub_end hq
  | over =>
    simp only [W6.s, W6.rj] at hq ⊢
    repeat' (first | tb_start  | tb_rel)
    refine ite_dec (fun h1 => ?_) fun h1 => ?_
    · rw [if_pos h1] at hq
      repeat' (first | tb_start  | tb_rel)
      exact sub_end hq
    · rw [if_neg h1] at hq
      repeat' (first | tb_start | with_reducible refine bin_fdiv (by omega) ?_ | tb_rel)
      exact sub_end hq
end
end K48
set_option maxHeartbeats 2000000

namespace K48
open PySem Mi
section
variable {k : Nat} {ds : List D} {S : Sto} {q : Q1}

theorem ok4 (h0 : lv4 ds ≤ k) (h : sp4 ds S q noX) : wpSs T (Γ k) noX b4 (bodyEn q) (startD N4 ds) S := by
  obtain ⟨w, ⟨a, b⟩, ⟨c, e⟩, rfl, hw, ⟨a0, ab, bm⟩, ⟨c0, ce, em⟩, hq⟩ := h
  have a0 : 0 ≤ a := a0
  have ab : a ≤ b := ab
  have c0 : 0 ≤ c := c0
  have ce : c ≤ e := ce
  show wpSs T (Γ k) noX b4 (bodyEn q) [_, _, _, none, none, none, none] S
  refine w_body ?_
  unfold b4
  simp only [rd]
  repeat' (first | tb_start  | tb_rel)
  refine ⟨_, rfl, ?_⟩
  repeat' (first | tb_start  | tb_rel)
  refine ⟨_, rfl, ?_⟩
  rcases hw with rfl | rfl
  · simp only [W6.s, W6.rj, ord_some] at hq ⊢
    repeat' (first | tb_start  | tb_rel)
    refine ite_dec (fun h1 => ?_) fun h1 => ?_
    · rw [if_pos h1] at hq
      repeat' (first | tb_start  | tb_rel)
      exact sub_end hq
    · rw [if_neg h1] at hq
      repeat' (first | tb_start  | tb_rel)
      refine ite_dec (fun h2 => ?_) fun h2 => ?_
      · rw [if_pos h2] at hq
        repeat' (first | tb_start  | tb_rel)
        exact sub_end hq
      · rw [if_neg h2] at hq
        repeat' (first | tb_start  | tb_rel)
        exact sub_end hq
  · simp only [W6.s, W6.rj, ord_some] at hq ⊢
    repeat' (first | tb_start  | tb_rel)
    refine ite_dec (fun h1 => ?_) fun h1 => ?_
    · rw [if_pos (.inl h1)] at hq
      repeat' (first | tb_start  | tb_rel)
      exact sub_end hq
    · repeat' (first | tb_start  | tb_rel)
      refine ite_dec (fun h2 => ?_) fun h2 => ?_
      · rw [if_pos (.inr h2)] at hq
        repeat' (first | tb_start  | tb_rel)
        exact sub_end hq
      · repeat' (first | tb_start  | tb_rel)
        rw [if_neg (fun z => z.elim h1 h2)] at hq
        refine ite_dec (fun h3 => ?_) fun h3 => ?_
        · repeat' (first | tb_start  | tb_rel)
          refine ite_dec (fun h4 => ?_) fun h4 => ?_
          · repeat' (first | tb_start  | tb_rel)
            refine ite_dec (fun h5 => ?_) fun h5 => ?_
            · repeat' (first | tb_start  | tb_rel)
              rw [if_pos ⟨h3, h4, h5⟩] at hq
              exact sub_end hq
            · repeat' (first | tb_start  | tb_rel)
              rw [if_neg (fun z => h5 z.2.2)] at hq
              exact sub_end hq
          · repeat' (first | tb_start  | tb_rel)
            rw [if_neg (fun z => h4 z.2.1)] at hq
            exact sub_end hq
        · repeat' (first | tb_start  | tb_rel)
          rw [if_neg (fun z => h3 z.1)] at hq
          exact sub_end hq
end
end K48
set_option maxHeartbeats 2000000

namespace K48
open PySem Mi
section
variable {k : Nat} {ds : List D} {S : Sto} {q : Q1}

theorem ok5 (h0 : lv5 ds ≤ k) (h : sp5 ds S q noX) : wpSs T (Γ k) noX b5 (bodyEn q) (startD N5 ds) S := by
  obtain ⟨e, m, g, n, o, kvs, hm, rfl, he, hg, ho, hS, hh, hq⟩ := h
  have h0 : 1 + dD e.d ≤ k := h0
  have hv := fun {e : Ex} {r : Rg} (y : e.Ok true m) => Ex.rng_ok (r := r) hg ho (fun i => (hh i).2) y
  show wpSs T (Γ k) noX b5 (bodyEn q) [_, _, none, none, none, none, none, none] S
  refine w_body ?_
  unfold b5
  repeat' (first | tb_start  | tb_rel)
  refine ⟨_, rfl, ?_⟩
  cases e with
  | inn =>
    simp only [Ex.d]
    repeat' (first | tb_start  | tb_rel)
    exact sub_end hq
  | out =>
    simp only [Ex.d]
    repeat' (first | tb_start  | tb_rel)
    exact sub_end hq
  | at_ i =>
    simp only [Ex.d]
    repeat' (first | tb_start | with_reducible refine kind_get2 hS ?_ | with_reducible refine mt_get2i hS ?_ | tb_rel)
    refine sub_end ?_
    rw [(hh i).1]
    exact hq
  | num i =>
    simp only [Ex.d]
    repeat' (first | tb_start  | tb_rel)
    exact sub_end hq
  | op w a b =>
    obtain ⟨he1, he2⟩ := he
    have d1 := @Ex.dD_op1 w a b
    have d2 := @Ex.dD_op2 w a b
    obtain ⟨ra, ea⟩ : ∃ r, a.rng g o hm = r := ⟨_, rfl⟩
    obtain ⟨rb, eb⟩ : ∃ r, b.rng g o hm = r := ⟨_, rfl⟩
    simp only [Ex.rng, ea, eb] at hq
    simp only [Ex.d]
    have n1 : ¬ w.s = "num" := by cases w <;> decide
    have n2 : ¬ w.s = "in" := by cases w <;> decide
    have n3 : ¬ w.s = "at" := by cases w <;> decide
    have n4 : ¬ w.s = "out" := by cases w <;> decide
    cases ra with
    | none =>
      cases rb with
      | none =>
        repeat' (first | tb_start | with_reducible refine u5N (by omega) he1 hg ho hS hh ea ?_ | with_reducible refine u5N (by omega) he2 hg ho hS hh eb ?_ | tb_rel)
        exact sub_end hq
      | some j =>
        repeat' (first | tb_start | with_reducible refine u5N (by omega) he1 hg ho hS hh ea ?_ | with_reducible refine u5I (by omega) he2 hg ho hS hh eb ?_ | tb_rel)
        exact sub_end hq
    | some i =>
      have hi := hv he1 ea
      have ni : rd i ≠ .non := by simp [rd]
      cases rb with
      | none =>
        repeat' (first | tb_start | with_reducible refine u5I (by omega) he1 hg ho hS hh ea ?_ | with_reducible refine u5N (by omega) he2 hg ho hS hh eb ?_ | with_reducible refine cmp_isN ni ?_ | tb_rel)
        exact sub_end hq
      | some j =>
        have hj := hv he2 eb
        have nj : rd j ≠ .non := by simp [rd]
        repeat' (first | tb_start | with_reducible refine u5I (by omega) he1 hg ho hS hh ea ?_ | with_reducible refine u5I (by omega) he2 hg ho hS hh eb ?_ | with_reducible refine cmp_isN ni ?_ | with_reducible refine cmp_isN nj ?_ | tb_rel)
        refine ite_dec (fun h1 => ?_) fun h1 => ?_
        · have hw : w = .below ∨ w = .like := .inl (by cases w <;> first | rfl | exact absurd h1 (by decide))
          repeat' (first | tb_start | with_reducible refine u4 (by omega) hw hi hj ?_ | tb_rel)
          exact sub_end hq
        · repeat' (first | tb_start  | tb_rel)
          refine ite_dec (fun h2 => ?_) fun h2 => ?_
          · have hw : w = .below ∨ w = .like := .inr (by cases w <;> first | rfl | exact absurd h2 (by decide))
            repeat' (first | tb_start | with_reducible refine u4 (by omega) hw hi hj ?_ | tb_rel)
            exact sub_end hq
          · have w1 : w ≠ .below := fun z => h1 (by rw [z]; rfl)
            have w2 : w ≠ .like := fun z => h2 (by rw [z]; rfl)
            repeat' (first | tb_start | with_reducible refine u3 (by omega) w1 w2 hi hj ?_ | tb_rel)
            exact sub_end hq
end
end K48
set_option maxHeartbeats 2000000

namespace K48
open PySem Mi
section
variable {k : Nat} {ds : List D} {S : Sto} {q : Q1}

theorem ok6 (h0 : lv6 ds ≤ k) (h : sp6 ds S q noX) : wpSs T (Γ k) noX b6 (bodyEn q) (startD N6 ds) S := by
  obtain ⟨e, m, g, n, kvs, hm, rfl, hd, he, hg, hS, hh, hq⟩ := h
  have h0 : 70 ≤ k := h0
  have := e.dD_le
  have hno : ∀ r, (none : Option Rg) = some r → RI r := fun r e => by cases e
  show wpSs T (Γ k) noX b6 (bodyEn q) [_, _, _] S
  refine w_body ?_
  unfold b6
  repeat' (first | tb_start  | tb_rel)
  exact u5 (by omega) he hg hno hS hh (sub_end hq)
end
end K48
set_option maxHeartbeats 2000000

namespace K48
open PySem Mi
section
variable {k : Nat} {ds : List D} {S : Sto} {q : Q1}

theorem ok7 (h0 : lv7 ds ≤ k) (h : sp7 ds S q noX) : wpSs T (Γ k) noX b7 (bodyEn q) (startD N7 ds) S := by
  obtain ⟨ns, rfl, hq⟩ := h
  show wpSs T (Γ k) noX b7 (bodyEn q) [_] S
  refine w_body ?_
  unfold b7
  repeat' (first | tb_start  | tb_rel)
  intro n hn
  exact sub_end (hq n _ hn (fun m e => put_ne e) ⟨cutD ns none (some 63), 0, 0, put_same, by omega, by omega⟩)
end
end K48
set_option maxHeartbeats 2000000

namespace K48
open PySem Mi
section
variable {k : Nat} {ds : List D} {S : Sto} {q : Q1}

theorem ok8 (h0 : lv8 ds ≤ k) (h : sp8 ds S q noX) : wpSs T (Γ k) noX b8 (bodyEn q) (startD N8 ds) S := by
  exact tape_ok h
end
end K48
set_option maxHeartbeats 2000000

namespace K48
open PySem Mi
section
variable {k : Nat} {ds : List D} {S : Sto} {q : Q1}

theorem ok9 (h0 : lv9 ds ≤ k) (h : sp9 ds S q noX) : wpSs T (Γ k) noX b9 (bodyEn q) (startD N9 ds) S := by
  obtain ⟨f, t, rfl, ht, F, hq⟩ := h
  have h0 : 1 ≤ k := h0
  show wpSs T (Γ k) noX b9 (bodyEn q) [_] S
  refine w_body ?_
  unfold b9
  repeat' (first | tb_start  | tb_rel)
  refine u8 t (by omega) (by omega) (by omega) (by omega) F fun r1 S1 a1 b1 s1 F1 => ?_
  refine ix_any a1 (by simpa using b1) fun x hx => ?_
  refine sub_end ?_
  simp only [List.mem_cons, List.not_mem_nil, or_false] at hx
  rcases hx with rfl | rfl | rfl | rfl | rfl | rfl | rfl | rfl | rfl <;> exact hq _ _ ⟨by omega, by omega⟩ s1 F1
end
end K48
set_option maxHeartbeats 2000000

namespace K48
open PySem Mi
section
variable {k : Nat} {ds : List D} {S : Sto} {q : Q1}
theorem ok10 (h0 : lv10 ds ≤ k) (h : sp10 ds S q noX) : wpSs T (Γ k) noX b10 (bodyEn q) (startD N10 ds) S := by
  obtain ⟨f, n, o, t, rfl, ht, F, hq⟩ := h
  have h0 : 2 + (n : Int).toNat ≤ k := h0
  rw [Int.toNat_natCast] at h0
  have cp := cE_pos n
  generalize hl : (if o = true then [Ex.out.d] else []) = l at *
  have ll : l.length ≤ 1 := by rw [← hl]; split <;> simp
  have lm : ∀ x ∈ l, x = Ex.out.d ∧ o = true := by
    intro x hx
    rw [← hl] at hx
    split at hx
    · rename_i ho; simp only [List.mem_singleton] at hx; exact ⟨hx, ho⟩
    · cases hx
  show wpSs T (Γ k) noX b10 (bodyEn q) [_, _, _, none, none, none, none] S
  refine w_body ?_
  unfold b10
  repeat' (first | tb_start  | tb_rel)
  refine u8 t (by omega) (by omega) (by omega) (by omega) F fun r0 S0 a0 b0 s0 F0 => ?_
  repeat' (first | tb_start  | tb_rel)
  refine ite_dec (fun h1 => ?_) fun h1 => ?_
  · repeat' (first | tb_start  | tb_rel)
    refine u9 (t + 1) (by omega) (by omega) F0 fun i1 S1 c1 s1 F1 => ?_
    repeat' (first | tb_start  | tb_rel)
    refine u8 (t + 1 + 1) (by omega) (by omega) (by omega) (by omega) F1 fun i2 S2 c2 d2 s2 F2 => ?_
    repeat' (first | tb_start  | tb_rel)
    refine u8 (t + 1 + 1 + 1) (by omega) (by omega) (by omega) (by omega) F2 fun i3 S3 c3 d3 s3 F3 => ?_
    repeat' (first | tb_start | with_reducible refine bin_addL (by simp [sizeLine_eq]; omega) ?_ | tb_rel)
    refine u8 (t + 1 + 1 + 1 + 1) (by omega) (by simp; omega) (by simp; omega) (by omega) F3 fun r4 S4 a4 b4 s4 F4 => ?_
    refine ix_any a4 (by simpa using b4) fun y hy => ?_
    refine sub_end ?_
    have ss := (((s0.trans s1).trans s2).trans s3).trans s4
    have F5 : Td S4 f (t + cE n) := F4.mono (by omega)
    simp only [List.cons_append, List.nil_append, List.mem_cons] at hy
    rcases hy with rfl | rfl | rfl | rfl | hy
    · exact hq (.num i1) _ c1 (.inr rfl) ss F5
    · exact hq (.at_ i2) _ ⟨c2, d2⟩ (.inr rfl) ss F5
    · exact hq (.num i3) _ ⟨c3, by omega⟩ (.inr rfl) ss F5
    · exact hq .inn _ trivial (.inr rfl) ss F5
    · obtain ⟨rfl, ho⟩ := lm y hy
      exact hq .out _ ho (.inr rfl) ss F5
  · repeat' (first | tb_start  | tb_rel)
    refine ite_dec (fun h2 => ?_) fun h2 => ?_
    · repeat' (first | tb_start  | tb_rel)
      refine u9 (t + 1) (by omega) (by omega) F0 fun i1 S1 c1 s1 F1 => ?_
      repeat' (first | tb_start  | tb_rel)
      refine u8 (t + 1 + 1) (by omega) (by omega) (by omega) (by omega) F1 fun i2 S2 c2 d2 s2 F2 => ?_
      repeat' (first | tb_start  | tb_rel)
      refine u8 (t + 1 + 1 + 1) (by omega) (by omega) (by omega) (by omega) F2 fun i3 S3 c3 d3 s3 F3 => ?_
      repeat' (first | tb_start | with_reducible refine bin_addL (by simp [sizeLine_eq]; omega) ?_ | tb_rel)
      refine u8 (t + 1 + 1 + 1 + 1) (by omega) (by simp; omega) (by simp; omega) (by omega) F3 fun r4 S4 a4 b4 s4 F4 => ?_
      refine ix_any a4 (by simpa using b4) fun y hy => ?_
      refine sub_end ?_
      have ss := (((s0.trans s1).trans s2).trans s3).trans s4
      have F5 : Td S4 f (t + cE n) := F4.mono (by omega)
      simp only [List.cons_append, List.nil_append, List.mem_cons] at hy
      rcases hy with rfl | rfl | rfl | rfl | hy
      · exact hq (.num i1) _ c1 (.inr rfl) ss F5
      · exact hq (.at_ i2) _ ⟨c2, d2⟩ (.inr rfl) ss F5
      · exact hq (.num i3) _ ⟨c3, by omega⟩ (.inr rfl) ss F5
      · exact hq .inn _ trivial (.inr rfl) ss F5
      · obtain ⟨rfl, ho⟩ := lm y hy
        exact hq .out _ ho (.inr rfl) ss F5
    · cases n with
      | zero => exact absurd (by omega : ((0 : Nat) : Int) < 2) h1
      | succ n =>
        rw [cE] at ht hq cp
        repeat' (first | tb_start  | tb_rel)
        refine u8 (t + 1) (by omega) (by omega) (by omega) (by omega) F0 fun r1 S1 a1 b1 s1 F1 => ?_
        refine ix_any a1 (by simpa using b1) fun w hw => ?_
        obtain ⟨w', rfl⟩ : ∃ w' : W6, w = .str w'.s := by
          simp only [List.mem_cons, List.not_mem_nil, or_false] at hw
          rcases hw with rfl | rfl | rfl | rfl | rfl | rfl
          · exact ⟨.plus, rfl⟩
          · exact ⟨.less, rfl⟩
          · exact ⟨.times, rfl⟩
          · exact ⟨.over, rfl⟩
          · exact ⟨.below, rfl⟩
          · exact ⟨.like, rfl⟩
        repeat' (first | tb_start  | tb_rel)
        refine u10 (n := n) (o := o) (t + 1 + 1) (by push_cast; omega) hl.symm (by omega) (by omega) F1 fun ea S2 ga da s2 F2 => ?_
        repeat' (first | tb_start  | tb_rel)
        refine u10 (n := n) (o := o) (t + 1 + 1 + cE n) (by push_cast; omega) hl.symm (by omega) (by omega) F2 fun eb S3 gb db s3 F3 => ?_
        repeat' (first | tb_start  | tb_rel)
        refine sub_end (hq (.op w' ea eb) _ ⟨ga, gb⟩ (.inl ?_) (((s0.trans s1).trans s2).trans s3) (F3.mono (by omega)))
        have h3 : 1 ≤ n := by omega
        simp only [Ex.dep]
        omega
end
end K48
set_option maxHeartbeats 2000000

namespace K48
open PySem Mi
section
variable {k : Nat} {ds : List D} {S : Sto} {q : Q1}

theorem ok11 (h0 : lv11 ds ≤ k) (h : sp11 ds S q noX) : wpSs T (Γ k) noX b11 (bodyEn q) (startD N11 ds) S := by
  obtain ⟨e, m, g, n, kvs, hm, rfl, he, hg, hS, hh, hq⟩ := h
  have h0 : 1 + dD e.d ≤ k := h0
  have hv := fun {e : Ex} {r : Int} (o : e.Ok false m) => Ex.val_ok (r := r) hg (fun i => (hh i).2) o
  show wpSs T (Γ k) noX b11 (bodyEn q) [_, _, _, none, none, none] S
  refine w_body ?_
  unfold b11
  cases e with
  | inn =>
    simp only [Ex.d]
    repeat' (first | tb_start  | tb_rel)
    exact sub_end hq
  | out => cases he
  | at_ i =>
    simp only [Ex.d]
    repeat' (first | tb_start | with_reducible refine kind_get2 hS ?_ | with_reducible refine mt_get2i hS ?_ | tb_rel)
    refine sub_end ?_
    rw [(hh i).1]
    exact hq
  | num i =>
    simp only [Ex.d]
    repeat' (first | tb_start  | tb_rel)
    exact sub_end hq
  | op w a b =>
    obtain ⟨he1, he2⟩ := he
    have d1 := @Ex.dD_op1 w a b
    have d2 := @Ex.dD_op2 w a b
    obtain ⟨ra, ea⟩ : ∃ r, a.val g hm = r := ⟨_, rfl⟩
    obtain ⟨rb, eb⟩ : ∃ r, b.val g hm = r := ⟨_, rfl⟩
    simp only [Ex.val, ea, eb] at hq
    simp only [Ex.d]
    have n1 : ¬ w.s = "num" := by cases w <;> decide
    have n2 : ¬ w.s = "in" := by cases w <;> decide
    have n3 : ¬ w.s = "at" := by cases w <;> decide
    cases ra with
    | none =>
      cases rb with
      | none =>
        repeat' (first | tb_start | with_reducible refine u11N (by omega) he1 hg hS hh ea ?_ | with_reducible refine u11N (by omega) he2 hg hS hh eb ?_ | tb_rel)
        exact sub_end hq
      | some j =>
        repeat' (first | tb_start | with_reducible refine u11N (by omega) he1 hg hS hh ea ?_ | with_reducible refine u11I (by omega) he2 hg hS hh eb ?_ | tb_rel)
        exact sub_end hq
    | some i =>
      obtain ⟨i0, i1⟩ := hv he1 ea
      cases rb with
      | none =>
        repeat' (first | tb_start | with_reducible refine u11I (by omega) he1 hg hS hh ea ?_ | with_reducible refine u11N (by omega) he2 hg hS hh eb ?_ | tb_rel)
        exact sub_end hq
      | some j =>
        obtain ⟨j0, j1⟩ := hv he2 eb
        cases w with
        | over =>
          simp only [W6.jn] at hq
          dsimp only [W6.s]
          repeat' (first | tb_start | with_reducible refine u11I (by omega) he1 hg hS hh ea ?_ | with_reducible refine u11I (by omega) he2 hg hS hh eb ?_ | tb_rel)
          refine ite_dec (fun g1 => ?_) fun g1 => ?_
          · rw [if_pos g1] at hq
            repeat' (first | tb_start  | tb_rel)
            exact sub_end hq
          · rw [if_neg g1] at hq
            repeat' (first | tb_start | with_reducible refine bin_fdiv (by omega) ?_ | tb_rel)
            exact sub_end hq
        | below =>
          dsimp only [W6.s]
          repeat' (first | tb_start | with_reducible refine u11I (by omega) he1 hg hS hh ea ?_ | with_reducible refine u11I (by omega) he2 hg hS hh eb ?_ | tb_rel)
          exact sub_end (by simpa [W6.jn] using hq)
        | like =>
          dsimp only [W6.s]
          repeat' (first | tb_start | with_reducible refine u11I (by omega) he1 hg hS hh ea ?_ | with_reducible refine u11I (by omega) he2 hg hS hh eb ?_ | tb_rel)
          exact sub_end (by simpa [W6.jn] using hq)
        | plus =>
          dsimp only [W6.s]
          repeat' (first | tb_start | with_reducible refine u11I (by omega) he1 hg hS hh ea ?_ | with_reducible refine u11I (by omega) he2 hg hS hh eb ?_ | with_reducible refine bin_mod (by decide) ?_ | tb_rel)
          exact sub_end hq
        | less =>
          dsimp only [W6.s]
          repeat' (first | tb_start | with_reducible refine u11I (by omega) he1 hg hS hh ea ?_ | with_reducible refine u11I (by omega) he2 hg hS hh eb ?_ | with_reducible refine bin_mod (by decide) ?_ | tb_rel)
          exact sub_end hq
        | times =>
          dsimp only [W6.s]
          repeat' (first | tb_start | with_reducible refine u11I (by omega) he1 hg hS hh ea ?_ | with_reducible refine u11I (by omega) he2 hg hS hh eb ?_ | with_reducible refine bin_mul (.inl (by omega)) ?_ | with_reducible refine bin_mod (by decide) ?_ | tb_rel)
          exact sub_end hq
end
end K48
set_option maxHeartbeats 2000000

namespace K48
open PySem Mi
section
variable {k : Nat} {ds : List D} {S : Sto} {q : Q1}

theorem ok12 (h0 : lv12 ds ≤ k) (h : sp12 ds S q noX) : wpSs T (Γ k) noX b12 (bodyEn q) (startD N12 ds) S := by
  obtain ⟨f, t, rfl, ht, F, hq⟩ := h
  have h0 : 2 ≤ k := h0
  show wpSs T (Γ k) noX b12 (bodyEn q) [_, none, none] S
  refine w_body ?_
  unfold b12
  repeat' (first | tb_start  | tb_rel)
  refine u9 t (by omega) (by omega) F fun i1 S1 c1 s1 F1 => ?_
  repeat' (first | tb_start  | tb_rel)
  refine u9 (t + 1) (by omega) (by omega) F1 fun i2 S2 c2 s2 F2 => ?_
  repeat' (first | tb_start  | tb_rel)
  refine u9 (t + 1 + 1) (by omega) (by omega) F2 fun i3 S3 c3 s3 F3 => ?_
  repeat' (first | tb_start  | tb_rel)
  refine u8 (t + 1 + 1 + 1) (by omega) (by omega) (by omega) (by omega) F3 fun r4 S4 a4 b4 s4 F4 => ?_
  refine ix_any a4 (by simpa using b4) fun y hy => ?_
  obtain ⟨c10, c11⟩ := c1
  obtain ⟨j, rfl, j0, j1⟩ : ∃ j, y = .int j ∧ 0 ≤ j ∧ j ≤ 999999 := by
    simp only [List.mem_cons, List.not_mem_nil, or_false] at hy
    rcases hy with rfl | rfl | rfl | rfl
    · exact ⟨_, rfl, c10, c11⟩
    · exact ⟨_, rfl, c2.1, c2.2⟩
    · exact ⟨_, rfl, c3.1, c3.2⟩
    · exact ⟨_, rfl, by omega, by omega⟩
  repeat' (first | tb_start  | tb_rel)
  exact sub_end (hq (min i1 j, max i1 j) _ ⟨by show 0 ≤ min i1 j; omega, by show min i1 j ≤ max i1 j; omega, by show max i1 j ≤ _; omega⟩ (((s1.trans s2).trans s3).trans s4) (F4.mono (by omega)))
end
end K48
set_option maxHeartbeats 2000000

namespace K48
open PySem Mi
section
variable {k : Nat} {ds : List D} {S : Sto} {q : Q1}

theorem ok13 (h0 : lv13 ds ≤ k) (h : sp13 ds S q noX) : wpSs T (Γ k) noX b13 (bodyEn q) (startD N13 ds) S := by
  obtain ⟨f, t, ⟨a, b⟩, rfl, ⟨a0, ab, bm⟩, ht, F, hq⟩ := h
  have a0 : 0 ≤ a := a0
  have ab : a ≤ b := ab
  have bm : b ≤ 999999 := bm
  have h0 : 1 ≤ k := h0
  show wpSs T (Γ k) noX b13 (bodyEn q) [_, _, none, none] S
  refine w_body ?_
  unfold b13
  simp only [rd]
  repeat' (first | tb_start  | tb_rel)
  refine ⟨_, rfl, ?_⟩
  repeat' (first | tb_start  | tb_rel)
  refine u8 t (by omega) (by omega) (by omega) (by omega) F fun i1 S1 c1 d1 s1 F1 => ?_
  repeat' (first | tb_start  | tb_rel)
  refine u8 (t + 1) (by omega) (by omega) (by omega) (by omega) F1 fun i2 S2 c2 d2 s2 F2 => ?_
  refine ix_any c2 (by simpa using d2) fun y hy => ?_
  simp only [List.mem_cons, List.not_mem_nil, or_false] at hy
  have F' : Td S2 f (t + 2) := F2.mono (by omega)
  rcases hy with rfl | rfl | rfl
  · exact sub_end (hq _ _ ⟨Int.le_refl _, ab⟩ (s1.trans s2) F')
  · exact sub_end (hq _ _ ⟨ab, Int.le_refl _⟩ (s1.trans s2) F')
  · exact sub_end (hq _ _ ⟨by show a ≤ _; omega, by show _ ≤ b; omega⟩ (s1.trans s2) F')
end
end K48
set_option maxHeartbeats 2000000

namespace K48
open PySem Mi
section
variable {k : Nat} {ds : List D} {S : Sto} {q : Q1}
theorem dr_rngs {rs : List Rg} (h : ∀ r ∈ rs, RI r) : ∃ hr, DR (numD 0 (rs.map rd)) hr ∧ (∀ i : Nat, ∀ r, rs[i]? = some r → hr i = r) := by
  refine ⟨fun i => if i < 0 then (0, 0) else (rs[i.toNat]?).getD (0, 0), fun i => ?_, fun i r e => ?_⟩ <;> dsimp only
  · by_cases hi : i < 0
    · rw [lk_numD_neg i hi, if_pos hi]
      exact ⟨rfl, by decide, by decide, by decide⟩
    · rw [if_neg hi]
      obtain ⟨j, rfl⟩ := Int.eq_ofNat_of_zero_le (Int.not_lt.mp hi)
      have := lk_numD (rs.map rd) 0 j
      rw [Nat.zero_add] at this
      rw [this, List.getElem?_map, Int.toNat_natCast]
      cases e : rs[j]? with
      | none => exact ⟨rfl, by decide, by decide, by decide⟩
      | some r => exact ⟨rfl, h r (List.mem_of_getElem? e)⟩
  · rw [if_neg (by omega), Int.toNat_natCast, e]
    rfl
theorem ok14 (h0 : lv14 ds ≤ k) (h : sp14 ds S q noX) : wpSs T (Γ k) noX b14 (bodyEn q) (startD N14 ds) S := by
  obtain ⟨ns, rfl, hq⟩ := h
  have h0 : 80 ≤ k := h0
  have c4 : cE 4 = 186 := rfl
  show wpSs T (Γ k) noX b14 (bodyEn q) [_, none, none, none, none, none, none, none, none, none, none, none, none] S
  refine w_body ?_
  unfold b14
  repeat' (first | tb_start  | tb_rel)
  refine u7 (by omega) fun f S1 hn s1 F => ?_
  repeat' (first | tb_start | with_reducible refine rng_1 (by omega) (by omega) ?_ | tb_rel)
  refine for_rng 12 0 (fun i e S1 => ∃ (o2 o3 o4 o5 o6 o7 o8 o9 o10 o11 o12 : Option D), e = [some (.scr ns), some (.loc f), o2, o3, o4, o5, o6, o7, o8, o9, o10, o11, o12] ∧ Td S1 f (i * 1000)) ?_ ?_ _ _ ⟨_, _, _, _, _, _, _, _, _, _, _, rfl, F.mono (by omega)⟩
  · rintro i e S2 hi ⟨o2, o3, o4, o5, o6, o7, o8, o9, o10, o11, o12, rfl, F2⟩ nx' hn'
    refine ⟨_, rfl, ?_⟩
    repeat' (first | tb_start  | tb_rel)
    refine u10 (n := 4) (o := false) (i * 1000) rfl rfl (by omega) (by omega) F2 fun x S3 hx dx s3 F3 => ?_
    have dx : x.dep ≤ 3 := by omega
    have dxd := x.dD_le
    repeat' (first | tb_start  | tb_rel)
    refine u12 (i * 1000 + 186) (by omega) (by omega) F3 fun g S4 hg s4 F4 => ?_
    repeat' (first | tb_start | with_reducible refine rng_1 (by omega) (by omega) ?_ | tb_rel)
    refine lc_rng rd (fun j acc S => acc.length = j ∧ (∀ r ∈ acc, RI r) ∧ Td S f (i * 1000 + 190 + j * 4)) (fun _ _ _ _ h => by omega) ?_ ?_ _ ⟨rfl, (fun _ h => by cases h), F4.mono (by omega)⟩
    · rintro j acc S5 hj ⟨hl, ha, F5⟩ kt hk
      refine ⟨_, rfl, ?_⟩
      repeat' (first | tb_start  | tb_rel)
      refine u12 (i * 1000 + 190 + j * 4) (by omega) (by omega) F5 fun r S6 hr s6 F6 => ?_
      refine hk r S6 ⟨by rw [List.length_append, hl]; rfl, fun z hz => ?_, F6.mono (by push_cast; omega)⟩
      rcases List.mem_append.mp hz with hz | hz
      · exact ha z hz
      · rw [List.mem_singleton.mp hz]; exact hr
    · rintro rs S5 ⟨hl, ha, F5⟩
      have hl : rs.length = 3 := hl
      obtain ⟨hr, DRh, hrs⟩ := dr_rngs ha
      have F5 : Td S5 f (i * 1000 + 202) := F5.mono (by omega)
      repeat' (first | tb_start  | tb_rel)
      refine ⟨_, rfl, fun m hm => ?_⟩
      have mf : f ≠ m := fun z => by subst z; obtain ⟨_, _, _, z, _⟩ := F5; rw [hm] at z; cases z
      refine u6 (by omega) (by omega) hx.o hg put_same DRh ?_
      have F6 : Td (put S5 m (.dic (numD 0 (rs.map rd)))) f (i * 1000 + 202) := F5.same (put_ne mf)
      generalize put S5 m (.dic (numD 0 (rs.map rd))) = S6 at F6 ⊢
      repeat' (first | tb_start | with_reducible refine rng_1 (by omega) (by omega) ?_ | tb_rel)
      refine for_rng 8 0 (fun j e S1 => ∃ (o2 o7 o8 o9 o10 o11 o12 : Option D), e = [some (.scr ns), some (.loc f), o2, some x.d, some (rd g), some (.lst (rs.map rd)), some (ord (x.rng g none hr)), o7, o8, o9, o10, o11, o12] ∧ Td S1 f (i * 1000 + 202 + j * 10)) ?_ ?_ _ _ ⟨_, _, _, _, _, _, _, rfl, F6.mono (by omega)⟩
      · rintro j e S7 hj ⟨o2, o7, o8, o9, o10, o11, o12, rfl, F7⟩ nx2 hn2
        refine ⟨_, rfl, ?_⟩
        repeat' (first | tb_start  | tb_rel)
        refine u13 (i * 1000 + 202 + j * 10) (by omega) hg (by omega) F7 fun v S8 hv s8 F8 => ?_
        repeat' (first | tb_start  | tb_rel)
        refine ⟨_, rfl, ?_⟩
        refine lc_map (q := _) rd .int (fun ys (acc : List Int) S => ∃ zs, rs = zs ++ ys ∧ acc.length = zs.length ∧ (∀ (c : Nat) v, acc[c]? = some v → ∃ r, zs[c]? = some r ∧ InR v r) ∧ Td S f (i * 1000 + 202 + j * 10 + 2 + acc.length * 2)) (fun _ _ _ _ => trivial) (fun y ys acc S h => by
          obtain ⟨zs, e1, e2, _⟩ := h
          have := congrArg List.length e1
          rw [List.length_append, List.length_cons] at this
          omega) ?_ ?_ rs [] _ ⟨[], rfl, rfl, fun c v h => (by simp at h), F8.mono (by simp only [List.length_nil]; omega)⟩
        · rintro y ys acc S9 ⟨zs, e1, e2, e3, F9⟩ kt hk
          refine ⟨_, rfl, ?_⟩
          have hy : RI y := ha y (by rw [e1]; simp)
          have hlen := congrArg List.length e1
          rw [List.length_append, List.length_cons] at hlen
          repeat' (first | tb_start  | tb_rel)
          refine u13 (i * 1000 + 202 + j * 10 + 2 + acc.length * 2) (by omega) hy (by omega) F9 fun u S10 hu s10 F10 => ?_
          refine hk u S10 ⟨zs ++ [y], by rw [e1]; simp, by simp [e2], fun c z hz => ?_, F10.mono (by rw [List.length_append]; simp only [List.length_cons, List.length_nil]; push_cast; omega)⟩
          by_cases hc : c < acc.length
          · rw [List.getElem?_append_left hc] at hz
            obtain ⟨r, h1, h2⟩ := e3 c z hz
            exact ⟨r, by rw [List.getElem?_append_left (by omega)]; exact h1, h2⟩
          · have hc2 : c = acc.length := by
              have := List.getElem?_eq_some_iff.mp hz
              obtain ⟨h5, _⟩ := this
              rw [List.length_append, List.length_cons, List.length_nil] at h5
              omega
            subst hc2
            rw [List.getElem?_append_right (Nat.le_refl _)] at hz
            simp only [Nat.sub_self, List.getElem?_cons_zero, Option.some.injEq] at hz
            subst hz
            exact ⟨y, by rw [e2, List.getElem?_append_right (Nat.le_refl _)]; simp, hu⟩
        · rintro vs S9 ⟨zs, e1, e2, e3, F9⟩
          rw [List.append_nil] at e1
          subst e1
          have fv : ∀ v ∈ vs, FI v := fun v hv => by
            obtain ⟨c, hc⟩ := List.mem_iff_getElem?.mp hv
            obtain ⟨r, h1, h2, h3⟩ := e3 c v hc
            obtain ⟨r1, r2, r3⟩ := ha r (List.mem_of_getElem? h1)
            exact ⟨by omega, by omega⟩
          have fg : FI v := by
            obtain ⟨r1, r2, r3⟩ := hg
            obtain ⟨h2, h3⟩ := hv
            exact ⟨by omega, by omega⟩
          have key : ∀ y, x.val v (lhv vs) = some y → ∃ t, x.rng g none hr = some t ∧ InR y t := by
            intro y hy
            refine Ex.in_rng (m := 3) hg (fun r e => by cases e) (fun i => (DRh i).2) hv (fun c c0 c3 => ?_) hx hy
            obtain ⟨c', rfl⟩ := Int.eq_ofNat_of_zero_le c0
            have hc' : c' < vs.length := by omega
            obtain ⟨r, h1, h2⟩ := e3 c' vs[c'] (List.getElem?_eq_getElem hc')
            rw [hrs c' r h1]
            have : lhv vs (c' : Int) = vs[c'] := by
              unfold lhv
              rw [if_neg (by omega), Int.toNat_natCast, List.getElem?_eq_getElem hc']
              rfl
            rw [this]
            exact h2
          have F9 : Td S9 f (i * 1000 + 202 + j * 10 + 10) := F9.mono (by omega)
          repeat' (first | tb_start  | tb_rel)
          refine ⟨_, rfl, fun m2 hm2 => ?_⟩
          have mf2 : f ≠ m2 := fun z => by subst z; obtain ⟨_, _, _, z, _⟩ := F9; rw [hm2] at z; cases z
          have F10 : Td (put S9 m2 (.dic (numD 0 (vs.map .int)))) f (i * 1000 + 202 + j * 10 + 10) := F9.same (put_ne mf2)
          obtain ⟨r, er⟩ : ∃ r, x.val v (lhv vs) = r := ⟨_, rfl⟩
          cases r with
          | none =>
            have w1 : wD .non ≤ 10 ^ 7 := by decide
            have d1 : dD .non ≤ 150 := by decide
            repeat' (first | tb_start | with_reducible refine u11N (by omega) hx fg put_same (dh_vals fv) er ?_ | tb_rel)
            refine u2 (by omega) (by omega) hx fg fv fun m3 d3 hm3 => ?_
            have mf3 : f ≠ m3 := fun z => by subst z; obtain ⟨_, _, _, z, _⟩ := F10; rw [hm3] at z; cases z
            rw [er, od_none]
            repeat' (first | tb_start | with_reducible refine repr_w w1 d1 ?_ | tb_rel)
            intro s1 hs1
            repeat' (first | tb_start | with_reducible refine repr_w w1 d1 ?_ | tb_rel)
            intro s2 hs2
            rw [hs1] at hs2
            cases hs2
            repeat' (first | tb_start  | tb_rel)
            exact hn2 _ _ ⟨_, _, _, _, _, _, _, rfl, (F10.same (put_ne mf3)).mono (by push_cast; omega)⟩
          | some y =>
            obtain ⟨t, t1, t2, t3⟩ := key y er
            have fy := Ex.val_ok fg (fun i => (dh_vals fv i).2) hx er
            obtain ⟨fy1, fy2⟩ := fy
            have w1 : wD (.int y) ≤ 10 ^ 7 := by rw [wD_int (by omega)]; decide
            have d1 : dD (.int y) ≤ 150 := by simp only [dD]; omega
            have nt : rd t ≠ .non := by simp [rd]
            repeat' (first | tb_start | with_reducible refine u11I (by omega) hx fg put_same (dh_vals fv) er ?_ | tb_rel)
            refine u2 (by omega) (by omega) hx fg fv fun m3 d3 hm3 => ?_
            have mf3 : f ≠ m3 := fun z => by subst z; obtain ⟨_, _, _, z, _⟩ := F10; rw [hm3] at z; cases z
            rw [er, od_some, t1, ord_some]
            repeat' (first | tb_start | with_reducible refine repr_w w1 d1 ?_ | tb_rel)
            intro s1 hs1
            repeat' (first | tb_start | with_reducible refine repr_w w1 d1 ?_ | tb_rel)
            intro s2 hs2
            rw [hs1] at hs2
            cases hs2
            repeat' (first | tb_start | with_reducible refine cmp_isN nt ?_ | tb_rel)
            simp only [rd]
            repeat' (first | tb_start  | tb_rel)
            exact hn2 _ _ ⟨_, _, _, _, _, _, _, by rw [t1]; rfl, (F10.same (put_ne mf3)).mono (by push_cast; omega)⟩
      · rintro e S7 ⟨o2, o7, o8, o9, o10, o11, o12, rfl, F7⟩
        exact hn' _ _ ⟨_, _, _, _, _, _, _, _, _, _, _, rfl, F7.mono (by push_cast; omega)⟩
  · rintro e S1 ⟨o2, o3, o4, o5, o6, o7, o8, o9, o10, o11, o12, rfl, F1⟩
    repeat' (first | tb_start  | tb_rel)
    exact sub_end (hq _)
end
end K48
set_option maxHeartbeats 4000000
namespace K48
open PySem Mi
theorem lawOk (ns : List Int) (hl : ns.length ≤ 63) : Γ 81 14 [.scr ns] (fun _ => none) (fun d _ => d = .bl true) noX := ⟨(show 80 < 81 by omega), by first | exact ⟨ns, rfl, hl, fun _ => rfl⟩ | exact ⟨ns, rfl, fun _ => rfl⟩⟩
end K48
namespace K48
open PySem PySem.Spec PyProof.Rows L2 Mi
section
theorem bd0 : Bod T Γ 0 d0 ["word", "one", "other"] := ⟨⟨rfl, rfl, rfl, rfl⟩, fun _ _ _ _ _ _ us hl => match us, hl with | [_, _, _], _ => rfl, ⟨c0, b0, sc0, rfl, rfl, ck0, fun k ds S q h => ok0 (Nat.lt_succ_iff.mp h.1) h.2⟩, fun k ds S q h => len0 (S := S) (q := q) h.2, fun ds S q h => absurd h.1 (Nat.not_lt_zero _)⟩
theorem bd1 : Bod T Γ 1 d1 ["expression", "given", "held"] := ⟨⟨rfl, rfl, rfl, rfl⟩, fun _ _ _ _ _ _ us hl => match us, hl with | [_, _, _], _ => rfl, ⟨c1, b1, sc1, rfl, rfl, ck1, fun k ds S q h => ok1 (Nat.lt_succ_iff.mp h.1) h.2⟩, fun k ds S q h => len1 (S := S) (q := q) h.2, fun ds S q h => absurd h.1 (Nat.not_lt_zero _)⟩
theorem bd2 : Bod T Γ 2 d2 ["expression", "given", "values"] := ⟨⟨rfl, rfl, rfl, rfl⟩, fun _ _ _ _ _ _ us hl => match us, hl with | [_, _, _], _ => rfl, ⟨c2, b2, sc2, rfl, rfl, ck2, fun k ds S q h => ok2 (Nat.lt_succ_iff.mp h.1) h.2⟩, fun k ds S q h => len2 (S := S) (q := q) h.2, fun ds S q h => absurd h.1 (Nat.not_lt_zero _)⟩
theorem bd3 : Bod T Γ 3 d3 ["word", "one", "other"] := ⟨⟨rfl, rfl, rfl, rfl⟩, fun _ _ _ _ _ _ us hl => match us, hl with | [_, _, _], _ => rfl, ⟨c3, b3, sc3, rfl, rfl, ck3, fun k ds S q h => ok3 (Nat.lt_succ_iff.mp h.1) h.2⟩, fun k ds S q h => len3 (S := S) (q := q) h.2, fun ds S q h => absurd h.1 (Nat.not_lt_zero _)⟩
theorem bd4 : Bod T Γ 4 d4 ["word", "one", "other"] := ⟨⟨rfl, rfl, rfl, rfl⟩, fun _ _ _ _ _ _ us hl => match us, hl with | [_, _, _], _ => rfl, ⟨c4, b4, sc4, rfl, rfl, ck4, fun k ds S q h => ok4 (Nat.lt_succ_iff.mp h.1) h.2⟩, fun k ds S q h => len4 (S := S) (q := q) h.2, fun ds S q h => absurd h.1 (Nat.not_lt_zero _)⟩
theorem bd5 : Bod T Γ 5 d5 ["expression", "state"] := ⟨⟨rfl, rfl, rfl, rfl⟩, fun _ _ _ _ _ _ us hl => match us, hl with | [_, _], _ => rfl, ⟨c5, b5, sc5, rfl, rfl, ck5, fun k ds S q h => ok5 (Nat.lt_succ_iff.mp h.1) h.2⟩, fun k ds S q h => len5 (S := S) (q := q) h.2, fun ds S q h => absurd h.1 (Nat.not_lt_zero _)⟩
theorem bd6 : Bod T Γ 6 d6 ["expression", "given", "ranges"] := ⟨⟨rfl, rfl, rfl, rfl⟩, fun _ _ _ _ _ _ us hl => match us, hl with | [_, _, _], _ => rfl, ⟨c6, b6, sc6, rfl, rfl, ck6, fun k ds S q h => ok6 (Nat.lt_succ_iff.mp h.1) h.2⟩, fun k ds S q h => len6 (S := S) (q := q) h.2, fun ds S q h => absurd h.1 (Nat.not_lt_zero _)⟩
theorem bd7 : Bod T Γ 7 d7 ["_law_script"] := ⟨⟨rfl, rfl, rfl, rfl⟩, fun _ _ _ _ _ _ us hl => match us, hl with | [_], _ => rfl, ⟨c7, b7, sc7, rfl, rfl, ck7, fun k ds S q h => ok7 (Nat.lt_succ_iff.mp h.1) h.2⟩, fun k ds S q h => len7 (S := S) (q := q) h.2, fun ds S q h => absurd h.1 (Nat.not_lt_zero _)⟩
theorem bd8 : Bod T Γ 8 d8 ["_law_tape", "_law_many"] := ⟨⟨rfl, rfl, rfl, rfl⟩, fun _ _ _ _ _ _ us hl => match us, hl with | [_, _], _ => rfl, ⟨c8, b8, sc8, rfl, rfl, ck8, fun k ds S q h => ok8 (Nat.lt_succ_iff.mp h.1) h.2⟩, fun k ds S q h => len8 (S := S) (q := q) h.2, fun ds S q h => absurd h.1 (Nat.not_lt_zero _)⟩
theorem bd9 : Bod T Γ 9 d9 ["_law_tape"] := ⟨⟨rfl, rfl, rfl, rfl⟩, fun _ _ _ _ _ _ us hl => match us, hl with | [_], _ => rfl, ⟨c9, b9, sc9, rfl, rfl, ck9, fun k ds S q h => ok9 (Nat.lt_succ_iff.mp h.1) h.2⟩, fun k ds S q h => len9 (S := S) (q := q) h.2, fun ds S q h => absurd h.1 (Nat.not_lt_zero _)⟩
theorem bd10 : Bod T Γ 10 d10 ["_law_tape", "_law_deep", "_law_leaves"] := ⟨⟨rfl, rfl, rfl, rfl⟩, fun _ _ _ _ _ _ us hl => match us, hl with | [_, _, _], _ => rfl, ⟨c10, b10, sc10, rfl, rfl, ck10, fun k ds S q h => ok10 (Nat.lt_succ_iff.mp h.1) h.2⟩, fun k ds S q h => len10 (S := S) (q := q) h.2, fun ds S q h => absurd h.1 (Nat.not_lt_zero _)⟩
theorem bd11 : Bod T Γ 11 d11 ["_law_made", "_law_given", "_law_held"] := ⟨⟨rfl, rfl, rfl, rfl⟩, fun _ _ _ _ _ _ us hl => match us, hl with | [_, _, _], _ => rfl, ⟨c11, b11, sc11, rfl, rfl, ck11, fun k ds S q h => ok11 (Nat.lt_succ_iff.mp h.1) h.2⟩, fun k ds S q h => len11 (S := S) (q := q) h.2, fun ds S q h => absurd h.1 (Nat.not_lt_zero _)⟩
theorem bd12 : Bod T Γ 12 d12 ["_law_tape"] := ⟨⟨rfl, rfl, rfl, rfl⟩, fun _ _ _ _ _ _ us hl => match us, hl with | [_], _ => rfl, ⟨c12, b12, sc12, rfl, rfl, ck12, fun k ds S q h => ok12 (Nat.lt_succ_iff.mp h.1) h.2⟩, fun k ds S q h => len12 (S := S) (q := q) h.2, fun ds S q h => absurd h.1 (Nat.not_lt_zero _)⟩
theorem bd13 : Bod T Γ 13 d13 ["_law_tape", "_law_found"] := ⟨⟨rfl, rfl, rfl, rfl⟩, fun _ _ _ _ _ _ us hl => match us, hl with | [_, _], _ => rfl, ⟨c13, b13, sc13, rfl, rfl, ck13, fun k ds S q h => ok13 (Nat.lt_succ_iff.mp h.1) h.2⟩, fun k ds S q h => len13 (S := S) (q := q) h.2, fun ds S q h => absurd h.1 (Nat.not_lt_zero _)⟩
theorem bd14 : Bod T Γ 14 d14 ["_law_script"] := ⟨⟨rfl, rfl, rfl, rfl⟩, fun _ _ _ _ _ _ us hl => match us, hl with | [_], _ => rfl, ⟨c14, b14, sc14, rfl, rfl, ck14, fun k ds S q h => ok14 (Nat.lt_succ_iff.mp h.1) h.2⟩, fun k ds S q h => len14 (S := S) (q := q) h.2, fun ds S q h => absurd h.1 (Nat.not_lt_zero _)⟩
def fns : List He.DefD := [d0, d1, d2, d3, d4, d5, d6, d7, d8, d9, d10, d11, d12, d13, d14]
def fas : List He.Fa := biAll.map He.Fa.free ++ T.fn.map He.Fa.glo
def exs (K : PySem.W.Frag) : Bool := T.cst.all fun p => cstB K p
theorem fas_free : ∀ x ∈ biAll, He.Fa.free x ∈ fas := fun x hx => List.mem_append_left _ (List.mem_map_of_mem hx)
theorem tab (f : Nat) (x : Str) (h : T.fn[f]? = some x) : ∃ d ps, d ∈ fns ∧ d.name = x ∧ He.Fa.glo x ∈ fas ∧ Bod T Γ f d ps := by
  have hg : He.Fa.glo x ∈ fas := List.mem_append_right _ (List.mem_map_of_mem (List.mem_of_getElem? h))
  match f, h with
  | 0, h => cases h; exact ⟨d0, _, by simp [fns], rfl, hg, bd0⟩
  | 1, h => cases h; exact ⟨d1, _, by simp [fns], rfl, hg, bd1⟩
  | 2, h => cases h; exact ⟨d2, _, by simp [fns], rfl, hg, bd2⟩
  | 3, h => cases h; exact ⟨d3, _, by simp [fns], rfl, hg, bd3⟩
  | 4, h => cases h; exact ⟨d4, _, by simp [fns], rfl, hg, bd4⟩
  | 5, h => cases h; exact ⟨d5, _, by simp [fns], rfl, hg, bd5⟩
  | 6, h => cases h; exact ⟨d6, _, by simp [fns], rfl, hg, bd6⟩
  | 7, h => cases h; exact ⟨d7, _, by simp [fns], rfl, hg, bd7⟩
  | 8, h => cases h; exact ⟨d8, _, by simp [fns], rfl, hg, bd8⟩
  | 9, h => cases h; exact ⟨d9, _, by simp [fns], rfl, hg, bd9⟩
  | 10, h => cases h; exact ⟨d10, _, by simp [fns], rfl, hg, bd10⟩
  | 11, h => cases h; exact ⟨d11, _, by simp [fns], rfl, hg, bd11⟩
  | 12, h => cases h; exact ⟨d12, _, by simp [fns], rfl, hg, bd12⟩
  | 13, h => cases h; exact ⟨d13, _, by simp [fns], rfl, hg, bd13⟩
  | 14, h => cases h; exact ⟨d14, _, by simp [fns], rfl, hg, bd14⟩
  | m + 15, h =>
    rw [List.getElem?_eq_none (by show 15 ≤ m + 15; omega)] at h
    cases h
def loose : List Str := (["SIZE", "joined", "worth_by", "worth", "MOST", "ALL", "NOTHING", "reckoned_range", "asked_range", "range_by", "range_of", "_law_new_tape", "_law_draw", "_law_figure", "_law_expression", "_law_worth", "_law_some_range", "_law_within"] : List Str)
abbrev R : PySem.W.OpenRow := PySem.W.OpenLaw.row PySem.Challenge.rw_wovenrows_k48_whole_worth_lies_in_range
abbrev hk : PySem.W.Hook := hookM 4 fas fns exs
def ob (s : PySem.W.SharedT) : He.AlD × Bool := obM 4 fas fns exs s
theorem ob_eq (s : PySem.W.SharedT) : ob s = hk.obs s.abs := obM_eq s
theorem run (w : World) : HandSHeadRun.RunEq R (PySem.W.view R.prog [21]) hk ob 1720 loose w := by
  intro os
  kernel_rfl
theorem fact {P : Program} {w : World} {K : PySem.W.Frag} {h : Heap} {mg : Str → Option Value} {f : Addr} (X : K.In h) (G : h.Ns mainGlobals mg) (hf : mg ("law" : Str) = some (.ref f)) (c : He.SaysD fas fns K) (ex : exs K = true) (base : Heap) : FnD P w ⟨K, fun _ => none, fun _ => none⟩ mg base 81 f (Γ 81 14) := by
  have F := fns_all (P := P) (w := w) (K := ⟨K, fun _ => none, fun _ => none⟩) (base := base) (Γ := Γ) X G c (mcx_of (P := P) (w := w) (K := ⟨K, fun _ => none, fun _ => none⟩) X G c fas_free ex) tab 81 14 "law" rfl
  obtain ⟨a, ha, F⟩ := F
  have e := ha.symm.trans hf
  cases e
  exact F
end
end K48
open PySem PySem.W PySem.Calls PyProof.Rows
theorem PySem.Challenge.cw_wovenrows_k48_whole_worth_lies_in_range_holds : PySem.Challenge.rw_wovenrows_k48_whole_worth_lies_in_range.Holds := by
  w_on; o_law
  refine HandSHeadRun.head_any (r := OpenLaw.row PySem.Challenge.rw_wovenrows_k48_whole_worth_lies_in_range) (q := view (OpenLaw.row PySem.Challenge.rw_wovenrows_k48_whole_worth_lies_in_range).prog [21]) (H := K48.hk) (ob := K48.ob) (M := 1720) (loose := K48.loose) (d := HandSHeadRun.topDef (OpenLaw.row PySem.Challenge.rw_wovenrows_k48_whole_worth_lies_in_range).prog 21) (kwd := []) K48.ob_eq
    (by kernel_rfl) (fun s => by kernel_rfl) K48.run (by kernel_rfl) (by kernel_rfl) (by kernel_rfl) (by rfl) (by first | assumption | decide +kernel) (by decide +kernel) ⟨rfl, rfl, rfl, rfl, rfl, by decide +kernel⟩ ?hw ?hc
  case hw => w_witness2
  case hc =>
    refine Mi.walk_ofD (l := PySem.Challenge.rw_wovenrows_k48_whole_worth_lies_in_range) (n := 63) (k := 81) rfl (by decide) (by kernel_rfl) ⟨rfl, by decide, by decide⟩ ?F
    intro w mg fa h Y G hmg0
    obtain ⟨K, KX, c, ex⟩ := Y
    have hmg : mg ("law" : PySem.Str) = some (.ref fa) := by
      have e : (HandSHeadRun.topDef (OpenLaw.row PySem.Challenge.rw_wovenrows_k48_whole_worth_lies_in_range).prog 21).name = ("law" : PySem.Str) := by kernel_rfl
      rw [← e]
      exact hmg0
    exact ⟨⟨K, fun _ => none, fun _ => none⟩, K48.Γ 81 14, KX, fun ns hl => K48.lawOk ns hl, fun base _ _ => K48.fact (P := (PySem.Challenge.rw_wovenrows_k48_whole_worth_lies_in_range).prog) (w := w) KX G hmg c ex base⟩
