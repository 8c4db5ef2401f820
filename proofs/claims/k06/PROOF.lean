import PyProof.Rows.All
import Wide.All
import OpenK.AllK
import Wide.FinOn
import KE.KStateDown
import HandS.ForMost
import HandS.IsInst
import HandS.Wide
import HandS.TupAny
import HandS.Flow
import HandS.Conv
import HandS.More
import HandS.TupMul
import HandS.Iter
import HandS.DictComp
import HandS.RaiseMore
import HandS.Style
import HandS.Rev
import HandS.Zip
import KE.KDictZip
import HandS.Dict
import HandS.SetFor
import HandS.Strs
import HandS.Small
import HandS.Head0
import HandS.Head1
import HandS.Head2
import HandS.HeadEnd
import HandS.HeadHook1
import HandS.HeadHook2
import HandS.Defaults
import HandS.Codes
import HandS.HeadHook4
import HandS.HeadHook3
import PySem.Challenge.RW_wovenrows_k06_faults_and_where
set_option Elab.async false
set_option linter.all false
set_option maxRecDepth 100000
set_option maxHeartbeats 4000000
/-! Mi1: plain data, stores, how they lie in an abstract heap, and what stays. -/
namespace Mi
open PySem L2

/-- put into a rising list -/
def insU (x : Int) : List Int → List Int
  | [] => [x]
  | y :: ys => if x < y then x :: y :: ys else if x = y then y :: ys else y :: insU x ys
/-- sorted, each once -/
def sortU : List Int → List Int
  | [] => []
  | x :: xs => insU x (sortU xs)
theorem insU_mem {x k : Int} : ∀ l : List Int, k ∈ insU x l ↔ k = x ∨ k ∈ l
  | [] => by simp [insU]
  | y :: ys => by
    unfold insU
    split
    · simp
    · split
      · rename_i h; subst h; simp
      · rw [List.mem_cons, insU_mem ys, List.mem_cons]
        constructor
        · rintro (h | h | h)
          · exact .inr (.inl h)
          · exact .inl h
          · exact .inr (.inr h)
        · rintro (h | h | h)
          · exact .inr (.inl h)
          · exact .inl h
          · exact .inr (.inr h)
theorem insU_ris {x : Int} : ∀ l : List Int, l.Pairwise (· < ·) → (insU x l).Pairwise (· < ·)
  | [], _ => by simp [insU]
  | y :: ys, h => by
    obtain ⟨h1, h2⟩ := List.pairwise_cons.mp h
    unfold insU
    split
    · rename_i hx
      refine List.pairwise_cons.mpr ⟨fun z hz => ?_, h⟩
      rcases List.mem_cons.mp hz with rfl | hz
      · exact hx
      · exact Int.lt_trans hx (h1 z hz)
    · split
      · exact h
      · rename_i n1 n2
        refine List.pairwise_cons.mpr ⟨fun z hz => ?_, insU_ris ys h2⟩
        rcases (insU_mem ys).mp hz with rfl | hz
        · omega
        · exact h1 z hz
theorem sortU_mem {k : Int} : ∀ l : List Int, k ∈ sortU l ↔ k ∈ l
  | [] => Iff.rfl
  | x :: xs => by rw [sortU, insU_mem, sortU_mem xs, List.mem_cons]
theorem sortU_ris : ∀ l : List Int, (sortU l).Pairwise (· < ·)
  | [] => List.Pairwise.nil
  | x :: xs => insU_ris _ (sortU_ris xs)
theorem ris_eq : ∀ (a b : List Int), a.Pairwise (· < ·) → b.Pairwise (· < ·) → (∀ k, k ∈ a ↔ k ∈ b) → a = b
  | [], [], _, _, _ => rfl
  | [], y :: ys, _, _, h => absurd ((h y).mpr List.mem_cons_self) (by simp)
  | x :: xs, [], _, _, h => absurd ((h x).mp List.mem_cons_self) (by simp)
  | x :: xs, y :: ys, ha, hb, h => by
    obtain ⟨a1, a2⟩ := List.pairwise_cons.mp ha
    obtain ⟨b1, b2⟩ := List.pairwise_cons.mp hb
    have e : x = y := by
      rcases List.mem_cons.mp ((h x).mp List.mem_cons_self) with e | e
      · exact e
      · rcases List.mem_cons.mp ((h y).mpr List.mem_cons_self) with e2 | e2
        · exact e2.symm
        · have := a1 y e2; have := b1 x e; omega
    subst e
    congr 1
    refine ris_eq xs ys a2 b2 fun k => ⟨fun hk => ?_, fun hk => ?_⟩
    · rcases List.mem_cons.mp ((h k).mp (List.mem_cons_of_mem _ hk)) with e | e
      · subst e; exact absurd (a1 k hk) (by omega)
      · exact e
    · rcases List.mem_cons.mp ((h k).mpr (List.mem_cons_of_mem _ hk)) with e | e
      · subst e; exact absurd (b1 k hk) (by omega)
      · exact e
theorem sortU_id {l : List Int} (h : l.Pairwise (· < ·)) : sortU l = l := ris_eq _ _ (sortU_ris l) h fun k => sortU_mem l

inductive D where
  | non
  | bl (b : Bool)
  | int (i : Int)
  | str (x : Str)
  | tup (xs : List D)
  | lst (xs : List D)
  | scr (ns : List Int)
  | loc (n : Nat)
  | kd (ks : List Str) (vs : List D)

inductive Ob where
  | lst (xs : List D)
  | dic (kvs : List (Key × D))
  | ins (c : Nat) (fs : List (Str × D))

abbrev Sto := Nat → Option Ob
def put (S : Sto) (n : Nat) (o : Ob) : Sto := fun m => if m = n then some o else S m
def del (S : Sto) (n : Nat) : Sto := fun m => if m = n then none else S m
theorem put_same {S : Sto} {n : Nat} {o : Ob} : put S n o n = some o := if_pos rfl
theorem put_ne {S : Sto} {n m : Nat} {o : Ob} (h : m ≠ n) : put S n o m = S m := if_neg h
theorem del_same {S : Sto} {n : Nat} : del S n n = none := if_pos rfl
theorem del_ne {S : Sto} {n m : Nat} (h : m ≠ n) : del S n m = S m := if_neg h

structure Wd where
  rho : Nat → Option Addr
  fz : Addr → Prop

/-- the written part, with the places of the classes and of the written dicts -/
structure Frg where
  K : PySem.W.Frag
  cls : Nat → Option Addr
  w : World

/-! constants -/
mutual
def relD (K : PySem.W.Frag) : D → Value → Bool
  | .non, .none => true
  | .bl b, .bool c => b == c
  | .int i, .int j _ => decide (i = j)
  | .str x, .str y _ => decide (x = y)
  | .tup ds, .ref a => match K.lookup a with
    | some ⟨.type c, _, .seq its _, _⟩ => decide (c = "tuple") && (decide (its.size ≤ sizeLine) && relDs K ds its.toList)
    | _ => false
  | _, _ => false
def relDs (K : PySem.W.Frag) : List D → List Value → Bool
  | [], [] => true
  | d :: ds, v :: vs => relD K d v && relDs K ds vs
  | _, _ => false
end
/-- a written dict with text keys -/
structure KdAt (K : Frg) (a : Addr) (ks : List Str) (vs : List D) : Prop where
  at_ : ∃ es n, KDict K.K K.w a es n
  yes : ∀ x d, (ks.zip vs).lookup x = some d → ∃ u, PySem.W.nsIn K.K a x = some (some u) ∧ relD K.K d u = true
  no : ∀ x, (ks.zip vs).lookup x = none → PySem.W.nsIn K.K a x = some none
/-- a tuple's place that stays; the script's -/
def FT (K : Frg) (W : Wd) (H : Hp) (a : Addr) (vs : List V) : Prop := (W.fz a ∧ H a = some (.tup vs)) ∨ ∀ H', SqT K.K H' a vs
def FS (K : Frg) (W : Wd) (H : Hp) (a : Addr) (ns : List Int) : Prop := (W.fz a ∧ Rd H a (.lst (ns.map V.int))) ∨ ∀ H', SqL K.K H' a (ns.map V.int)

mutual
inductive Rep (K : Frg) (W : Wd) (H : Hp) : D → V → Prop where
  | non : Rep K W H .non .non
  | bl (b : Bool) : Rep K W H (.bl b) (.bl b)
  | int (i : Int) : Rep K W H (.int i) (.int i)
  | str (x : Str) : Rep K W H (.str x) (.str x)
  | tup {a : Addr} {vs : List V} {ds : List D} : FT K W H a vs → Reps K W H ds vs → Rep K W H (.tup ds) (.ref a)
  | lst {a : Addr} {vs : List V} {ds : List D} : W.fz a → H a = some (.lst vs) → Reps K W H ds vs → Rep K W H (.lst ds) (.ref a)
  | scr {a : Addr} {ns : List Int} : FS K W H a ns → Rep K W H (.scr ns) (.ref a)
  | loc {n : Nat} {a : Addr} : W.rho n = some a → Rep K W H (.loc n) (.ref a)
  | kd {a : Addr} {ks : List Str} {ds : List D} : KdAt K a ks ds → Rep K W H (.kd ks ds) (.ref a)
inductive Reps (K : Frg) (W : Wd) (H : Hp) : List D → List V → Prop where
  | nil : Reps K W H [] []
  | cons {d : D} {v : V} {ds : List D} {vs : List V} : Rep K W H d v → Reps K W H ds vs → Reps K W H (d :: ds) (v :: vs)
end

/-- a is one of the store's places -/
def Ins (S : Sto) (W : Wd) (a : Addr) : Prop := ∃ n o, S n = some o ∧ W.rho n = some a

inductive KR (K : Frg) (W : Wd) (H : Hp) : List (Key × D) → List (Key × V) → Prop where
  | nil : KR K W H [] []
  | cons {k : Key} {d : D} {v : V} {ds : List (Key × D)} {vs : List (Key × V)} : Rep K W H d v → KR K W H ds vs → KR K W H ((k, d) :: ds) ((k, v) :: vs)
inductive FR (K : Frg) (W : Wd) (H : Hp) : List (Str × D) → List (Str × V) → Prop where
  | nil : FR K W H [] []
  | cons {k : Str} {d : D} {v : V} {ds : List (Str × D)} {vs : List (Str × V)} : Rep K W H d v → FR K W H ds vs → FR K W H ((k, d) :: ds) ((k, v) :: vs)

/-- what stands for an object of the store -/
def ObR (K : Frg) (W : Wd) (H : Hp) (a : Addr) : Ob → Prop
  | .lst ds => ∃ vs, H a = some (.lst vs) ∧ Reps K W H ds vs
  | .dic ds => ∃ vs, H a = some (.dK vs) ∧ KR K W H ds vs
  | .ins c ds => ∃ Ca dx vs, K.cls c = some Ca ∧ H a = some (.ins Ca dx vs) ∧ FR K W H ds vs

structure Rel (K : Frg) (W : Wd) (S : Sto) (H : Hp) : Prop where
  bd : ∃ N, ∀ n, N ≤ n → W.rho n = none
  dom : ∀ n o, S n = some o → ∃ a, W.rho n = some a ∧ ObR K W H a o
  inj : ∀ n m a o u, S n = some o → S m = some u → W.rho n = some a → W.rho m = some a → n = m
  sep : ∀ a, W.fz a → H a ≠ none ∧ ¬ Ins S W a

structure Ext (W : Wd) (S : Sto) (H : Hp) (W' : Wd) (S' : Sto) (H' : Hp) : Prop where
  rho : ∀ n a, W.rho n = some a → W'.rho n = some a
  fz : ∀ a, W.fz a → W'.fz a
  fr : ∀ a, H a ≠ none → ¬ Ins S W a → H' a = H a ∧ ¬ Ins S' W' a ∧ (W'.fz a → W.fz a)

theorem Ext.refl (W : Wd) (S : Sto) (H : Hp) : Ext W S H W S H := ⟨fun _ _ h => h, fun _ h => h, fun _ _ h => ⟨rfl, h, fun z => z⟩⟩
theorem Ext.trans {W W1 W2 : Wd} {S S1 S2 : Sto} {H H1 H2 : Hp} (a : Ext W S H W1 S1 H1) (b : Ext W1 S1 H1 W2 S2 H2) : Ext W S H W2 S2 H2 :=
  ⟨fun n x h => b.rho n x (a.rho n x h), fun x h => b.fz x (a.fz x h), fun x h1 h2 => by
    obtain ⟨e, n, f⟩ := a.fr x h1 h2
    obtain ⟨e', n', f'⟩ := b.fr x (by rw [e]; exact h1) n
    exact ⟨e'.trans e, n', fun z => f (f' z)⟩⟩

section
variable {K : Frg} {W W' : Wd} {S S' : Sto} {H H' : Hp}

/-- data stay where what is frozen stays -/
structure Keep (W : Wd) (H : Hp) (W' : Wd) (H' : Hp) : Prop where
  rho : ∀ n a, W.rho n = some a → W'.rho n = some a
  fz : ∀ a, W.fz a → W'.fz a ∧ H' a = H a
theorem Ext.keep (e : Ext W S H W' S' H') (r : Rel K W S H) : Keep W H W' H' :=
  ⟨e.rho, fun a h => ⟨e.fz a h, (e.fr a (r.sep a h).1 (r.sep a h).2).1⟩⟩
theorem Keep.refl : Keep W H W H := ⟨fun _ _ h => h, fun _ h => ⟨h, rfl⟩⟩
theorem FT.keep {a : Addr} {vs : List V} (k : Keep W H W' H') (h : FT K W H a vs) : FT K W' H' a vs := by
  rcases h with ⟨h1, h2⟩ | h
  · exact .inl ⟨(k.fz a h1).1, (k.fz a h1).2.trans h2⟩
  · exact .inr h
theorem FS.keep {a : Addr} {ns : List Int} (k : Keep W H W' H') (h : FS K W H a ns) : FS K W' H' a ns := by
  rcases h with ⟨h1, h2⟩ | h
  · refine .inl ⟨(k.fz a h1).1, ?_⟩
    unfold Rd at h2 ⊢
    rw [(k.fz a h1).2]; exact h2
  · exact .inr h
mutual
theorem Rep.keep (k : Keep W H W' H') : ∀ {d : D} {v : V}, Rep K W H d v → Rep K W' H' d v
  | _, _, .non => .non
  | _, _, .bl b => .bl b
  | _, _, .int i => .int i
  | _, _, .str x => .str x
  | _, _, .tup h r => .tup (h.keep k) (Reps.keep k r)
  | _, _, .lst h e r => .lst (k.fz _ h).1 ((k.fz _ h).2.trans e) (Reps.keep k r)
  | _, _, .scr h => .scr (h.keep k)
  | _, _, .loc h => .loc (k.rho _ _ h)
  | _, _, .kd h => .kd h
theorem Reps.keep (k : Keep W H W' H') : ∀ {ds : List D} {vs : List V}, Reps K W H ds vs → Reps K W' H' ds vs
  | _, _, .nil => .nil
  | _, _, .cons a b => .cons (Rep.keep k a) (Reps.keep k b)
end
theorem KR.keep (k : Keep W H W' H') {ds : List (Key × D)} {vs : List (Key × V)} (h : KR K W H ds vs) : KR K W' H' ds vs := by
  induction h with
  | nil => exact .nil
  | cons a _ ih => exact .cons (a.keep k) ih
theorem FR.keep (k : Keep W H W' H') {ds : List (Str × D)} {vs : List (Str × V)} (h : FR K W H ds vs) : FR K W' H' ds vs := by
  induction h with
  | nil => exact .nil
  | cons a _ ih => exact .cons (a.keep k) ih
theorem FT.sq {a : Addr} {vs : List V} (h : FT K W H a vs) : SqT K.K H a vs := by
  rcases h with ⟨_, h⟩ | h
  · exact SqT.of h
  · exact h H
theorem FS.sq {a : Addr} {ns : List Int} (h : FS K W H a ns) : SqL K.K H a (ns.map V.int) := by
  rcases h with ⟨_, h⟩ | h
  · exact .inl h
  · exact h H

theorem Reps.length : ∀ {ds : List D} {vs : List V}, Reps K W H ds vs → ds.length = vs.length
  | _, _, .nil => rfl
  | _, _, .cons _ r => by rw [List.length_cons, List.length_cons, r.length]
theorem Reps.get : ∀ {ds : List D} {vs : List V} {i : Nat} {d : D}, Reps K W H ds vs → ds[i]? = some d → ∃ v, vs[i]? = some v ∧ Rep K W H d v
  | _, _, i, _, .nil, e => by simp at e
  | _, _, 0, _, .cons a _, e => by simp at e; subst e; exact ⟨_, by simp, a⟩
  | _, _, i + 1, d, .cons _ r, e => by
    obtain ⟨v, h1, h2⟩ := Reps.get (i := i) (d := d) r (by simpa using e)
    exact ⟨v, by simpa using h1, h2⟩
theorem Reps.getV : ∀ {ds : List D} {vs : List V} {i : Nat} {v : V}, Reps K W H ds vs → vs[i]? = some v → ∃ d, ds[i]? = some d ∧ Rep K W H d v
  | _, _, i, _, .nil, e => by simp at e
  | _, _, 0, _, .cons a _, e => by simp at e; subst e; exact ⟨_, by simp, a⟩
  | _, _, i + 1, d, .cons _ r, e => by
    obtain ⟨v, h1, h2⟩ := Reps.getV (i := i) (v := d) r (by simpa using e)
    exact ⟨v, by simpa using h1, h2⟩
theorem Reps.append : ∀ {ds es : List D} {vs us : List V}, Reps K W H ds vs → Reps K W H es us → Reps K W H (ds ++ es) (vs ++ us)
  | _, _, _, _, .nil, h => h
  | _, _, _, _, .cons a r, h => .cons a (r.append h)
theorem Reps.drop : ∀ {ds : List D} {vs : List V} (n : Nat), Reps K W H ds vs → Reps K W H (ds.drop n) (vs.drop n)
  | _, _, 0, h => h
  | _, _, _ + 1, .nil => .nil
  | _, _, n + 1, .cons _ r => r.drop n
theorem Reps.take : ∀ {ds : List D} {vs : List V} (n : Nat), Reps K W H ds vs → Reps K W H (ds.take n) (vs.take n)
  | _, _, 0, _ => .nil
  | _, _, _ + 1, .nil => .nil
  | _, _, n + 1, .cons a r => .cons a (r.take n)
theorem Reps.reverse {ds : List D} {vs : List V} (h : Reps K W H ds vs) : Reps K W H ds.reverse vs.reverse := by
  suffices ∀ {ds : List D} {vs : List V}, Reps K W H ds vs → ∀ {es : List D} {us : List V}, Reps K W H es us → Reps K W H (ds.reverseAux es) (vs.reverseAux us) from this h .nil
  intro ds vs h
  induction ds generalizing vs with
  | nil => intro es us g; cases h; exact g
  | cons d ds ih => intro es us g; cases h with | cons a r => exact ih r (.cons a g)
theorem Reps.set : ∀ {ds : List D} {vs : List V} (i : Nat) {d : D} {v : V}, Reps K W H ds vs → Rep K W H d v → Reps K W H (ds.set i d) (vs.set i v)
  | _, _, _, _, _, .nil, _ => .nil
  | _, _, 0, _, _, .cons _ r, h => .cons h r
  | _, _, i + 1, _, _, .cons a r, h => .cons a (r.set i h)
theorem Reps.erase : ∀ {ds : List D} {vs : List V} (n : Nat), Reps K W H ds vs → Reps K W H (ds.eraseIdx n) (vs.eraseIdx n)
  | _, _, _, .nil => .nil
  | _, _, 0, .cons _ r => r
  | _, _, n + 1, .cons a r => .cons a (r.erase n)
theorem Reps.ints : ∀ (ns : List Int), Reps K W H (ns.map D.int) (ns.map V.int)
  | [] => .nil
  | n :: ns => .cons (.int n) (Reps.ints ns)

/-- a new object that is frozen at once -/
def Wd.fzn (W : Wd) (a : Addr) : Wd := ⟨W.rho, fun b => b = a ∨ W.fz b⟩
theorem rel_frz (r : Rel K W S H) {p : Addr} (hp : H p = none) (o : HO) : Rel K (W.fzn p) S (upd H p o) ∧ Ext W S H (W.fzn p) S (upd H p o) := by
  have nin : ∀ a, Ins S W a → a ≠ p := fun a ⟨n, u, h1, h2⟩ e => by
    obtain ⟨b, h3, h4⟩ := r.dom n u h1
    rw [h2] at h3; cases h3; subst e
    cases u with
    | lst _ => obtain ⟨_, h, _⟩ := h4; rw [hp] at h; cases h
    | dic _ => obtain ⟨_, h, _⟩ := h4; rw [hp] at h; cases h
    | ins _ _ => obtain ⟨_, _, _, _, h, _⟩ := h4; rw [hp] at h; cases h
  have ne : ∀ a u, H a = some u → a ≠ p := fun a u h e => by subst e; rw [hp] at h; cases h
  have k : Keep W H (W.fzn p) (upd H p o) := ⟨fun _ _ h => h, fun a h => ⟨.inr h, upd_ne (fun e => (r.sep a h).1 (e ▸ hp))⟩⟩
  refine ⟨⟨r.bd, fun n u h => ?_, r.inj, fun a h => ?_⟩, ⟨fun _ _ h => h, fun a h => .inr h, fun a h1 h2 => ⟨upd_ne (fun e => h1 (e ▸ hp)), h2, fun z => z.elim (fun e => absurd (e ▸ hp) h1) fun z => z⟩⟩⟩
  · obtain ⟨a, h1, h2⟩ := r.dom n u h
    refine ⟨a, h1, ?_⟩
    cases u with
    | lst _ => obtain ⟨vs, h, q⟩ := h2; exact ⟨vs, (upd_ne (ne _ _ h)).trans h, q.keep k⟩
    | dic _ => obtain ⟨vs, h, q⟩ := h2; exact ⟨vs, (upd_ne (ne _ _ h)).trans h, q.keep k⟩
    | ins _ _ => obtain ⟨Ca, dx, vs, c, h, q⟩ := h2; exact ⟨Ca, dx, vs, c, (upd_ne (ne _ _ h)).trans h, q.keep k⟩
  · rcases h with h | h
    · subst h
      exact ⟨by rw [upd_same]; simp, fun h => nin _ h rfl⟩
    · exact ⟨by rw [(k.fz a h).2]; exact (r.sep a h).1, (r.sep a h).2⟩

theorem ObR.keep {a : Addr} {o : Ob} (k : Keep W H W' H') (e : H' a = H a) (h : ObR K W H a o) : ObR K W' H' a o := by
  cases o with
  | lst _ => obtain ⟨vs, h, q⟩ := h; exact ⟨vs, e.trans h, q.keep k⟩
  | dic _ => obtain ⟨vs, h, q⟩ := h; exact ⟨vs, e.trans h, q.keep k⟩
  | ins _ _ => obtain ⟨Ca, dx, vs, c, h, q⟩ := h; exact ⟨Ca, dx, vs, c, e.trans h, q.keep k⟩
theorem ObR.there {a : Addr} {o : Ob} (h : ObR K W H a o) : H a ≠ none := by
  cases o with
  | lst _ => obtain ⟨vs, h, q⟩ := h; rw [h]; simp
  | dic _ => obtain ⟨vs, h, q⟩ := h; rw [h]; simp
  | ins _ _ => obtain ⟨Ca, dx, vs, c, h, q⟩ := h; rw [h]; simp

/-- an object of the store is written -/
theorem rel_put (r : Rel K W S H) {n : Nat} {a : Addr} {u : Ob} (hn : S n = some u) (ha : W.rho n = some a) (o : Ob) (ho : HO) (hob : ∀ H', Keep W H W H' → H' a = some ho → ObR K W H' a o) :
    Rel K W (put S n o) (upd H a ho) ∧ Ext W S H W (put S n o) (upd H a ho) := by
  have ina : Ins S W a := ⟨n, u, hn, ha⟩
  have k : Keep W H W (upd H a ho) := ⟨fun _ _ h => h, fun b h => ⟨h, upd_ne (fun e => (r.sep b h).2 (e ▸ ina))⟩⟩
  have old : ∀ m v, put S n o m = some v → m ≠ n → S m = some v := fun m v h e => by rw [put_ne e] at h; exact h
  have dm : ∀ m v, put S n o m = some v → ∃ w, S m = some w := fun m v h => by
    by_cases e : m = n
    · subst e; exact ⟨u, hn⟩
    · exact ⟨v, old m v h e⟩
  have insb : ∀ b, Ins (put S n o) W b → Ins S W b := fun b ⟨m, v, h1, h2⟩ => by
    obtain ⟨w, hw⟩ := dm m v h1
    exact ⟨m, w, hw, h2⟩
  refine ⟨⟨r.bd, fun m v h => ?_, fun i j b x y h1 h2 h3 h4 => ?_, fun b h => ?_⟩, ⟨fun _ _ h => h, fun _ h => h, fun b h1 h2 => ⟨upd_ne (fun e => h2 (e ▸ ina)), fun h => h2 (insb b h), fun z => z⟩⟩⟩
  · by_cases e : m = n
    · subst e
      rw [put_same] at h; cases h
      exact ⟨a, ha, hob _ k upd_same⟩
    · have h' := old m v h e
      obtain ⟨b, h1, h2⟩ := r.dom m v h'
      refine ⟨b, h1, h2.keep k (upd_ne fun q => e ?_)⟩
      subst q
      exact r.inj m n b v u h' hn h1 ha
  · obtain ⟨x', hx⟩ := dm i x h1
    obtain ⟨y', hy⟩ := dm j y h2
    exact r.inj i j b x' y' hx hy h3 h4
  · exact ⟨by rw [(k.fz b h).2]; exact (r.sep b h).1, fun q => (r.sep b h).2 (insb b q)⟩

/-- a new object of the store -/
def Wd.new (W : Wd) (n : Nat) (a : Addr) : Wd := ⟨fun m => if m = n then some a else W.rho m, W.fz⟩
theorem rel_new (r : Rel K W S H) {p : Addr} (hp : H p = none) (o : Ob) (ho : HO) (hob : ∀ W' H', Keep W H W' H' → H' p = some ho → ObR K W' H' p o) :
    ∃ n, S n = none ∧ Rel K (W.new n p) (put S n o) (upd H p ho) ∧ Ext W S H (W.new n p) (put S n o) (upd H p ho) ∧ (W.new n p).rho n = some p := by
  obtain ⟨N, hN⟩ := r.bd
  have hS : S N = none := by
    cases e : S N with
    | none => rfl
    | some u => obtain ⟨a, h, _⟩ := r.dom N u e; rw [hN N (Nat.le_refl _)] at h; cases h
  have hr : (W.new N p).rho N = some p := if_pos rfl
  have hr2 : ∀ m, m ≠ N → (W.new N p).rho m = W.rho m := fun m h => if_neg h
  have k : Keep W H (W.new N p) (upd H p ho) := ⟨fun m a h => by
    by_cases e : m = N
    · subst e; rw [hN _ (Nat.le_refl _)] at h; cases h
    · rw [hr2 m e]; exact h, fun b h => ⟨h, upd_ne (fun e => (r.sep b h).1 (e ▸ hp))⟩⟩
  have insp : ∀ b, Ins S W b → b ≠ p := fun b ⟨n, u, h1, h2⟩ e => by
    obtain ⟨a, h3, h4⟩ := r.dom n u h1
    rw [h2] at h3; cases h3
    exact h4.there (e ▸ hp)
  have insb : ∀ b, Ins (put S N o) (W.new N p) b → b = p ∨ Ins S W b := fun b ⟨m, v, h1, h2⟩ => by
    by_cases e : m = N
    · subst e; rw [hr] at h2; cases h2; exact .inl rfl
    · rw [hr2 m e] at h2; rw [put_ne e] at h1; exact .inr ⟨m, v, h1, h2⟩
  refine ⟨N, hS, ⟨⟨N + 1, fun n h => by rw [hr2 n (by omega)]; exact hN n (by omega)⟩, fun m v h => ?_, fun i j b x y h1 h2 h3 h4 => ?_, fun b h => ?_⟩, ⟨k.rho, fun _ h => h, fun b h1 h2 => ⟨upd_ne (fun e => h1 (e ▸ hp)), fun h => ?_, fun z => z⟩⟩, hr⟩
  · by_cases e : m = N
    · subst e; rw [put_same] at h; cases h
      exact ⟨p, hr, hob _ _ k upd_same⟩
    · rw [put_ne e] at h
      obtain ⟨b, h1, h2⟩ := r.dom m v h
      exact ⟨b, (hr2 m e).trans h1, h2.keep k (upd_ne (fun q => h2.there (q ▸ hp)))⟩
  · by_cases e : i = N
    · subst e
      by_cases e' : j = i
      · exact e'.symm
      · exfalso
        rw [hr] at h3; cases h3
        rw [hr2 j e'] at h4; rw [put_ne e'] at h2
        exact insp _ ⟨j, y, h2, h4⟩ rfl
    · by_cases e' : j = N
      · exfalso
        subst e'
        rw [hr] at h4; cases h4
        rw [hr2 i e] at h3; rw [put_ne e] at h1
        exact insp _ ⟨i, x, h1, h3⟩ rfl
      · rw [hr2 i e] at h3; rw [hr2 j e'] at h4; rw [put_ne e] at h1; rw [put_ne e'] at h2
        exact r.inj i j b x y h1 h2 h3 h4
  · refine ⟨by rw [(k.fz b h).2]; exact (r.sep b h).1, fun q => ?_⟩
    rcases insb b q with e | q
    · exact (r.sep b h).1 (e ▸ hp)
    · exact (r.sep b h).2 q
  · rcases insb b h with e | q
    · exact h1 (e ▸ hp)
    · exact h2 q

/-- fewer objects are told -/
def Sub (S' S : Sto) : Prop := ∀ n o, S' n = some o → S n = some o
theorem Sub.refl (S : Sto) : Sub S S := fun _ _ h => h
theorem rel_sub (r : Rel K W S H) (h : Sub S' S) : Rel K W S' H ∧ Ext W S H W S' H :=
  ⟨⟨r.bd, fun n o e => r.dom n o (h n o e), fun n m a o u h1 h2 => r.inj n m a o u (h n o h1) (h m u h2), fun a e => ⟨(r.sep a e).1, fun ⟨n, o, h1, h2⟩ => (r.sep a e).2 ⟨n, o, h n o h1, h2⟩⟩⟩,
   ⟨fun _ _ e => e, fun _ e => e, fun a h1 h2 => ⟨rfl, fun ⟨n, o, h3, h4⟩ => h2 ⟨n, o, h n o h3, h4⟩, fun z => z⟩⟩⟩
/-- a list of the store is frozen -/
theorem rel_fz (r : Rel K W S H) {n : Nat} {ds : List D} (hn : S n = some (.lst ds)) :
    ∃ a, W.rho n = some a ∧ Rel K (W.fzn a) (del S n) H ∧ Ext W S H (W.fzn a) (del S n) H ∧ Rep K (W.fzn a) H (.lst ds) (.ref a) := by
  obtain ⟨a, ha, vs, hv, rv⟩ := r.dom n _ hn
  have k : Keep W H (W.fzn a) H := ⟨fun _ _ h => h, fun b h => ⟨.inr h, rfl⟩⟩
  have dl : ∀ m u, del S n m = some u → S m = some u ∧ m ≠ n := fun m u h => by
    by_cases e : m = n
    · subst e; rw [del_same] at h; cases h
    · rw [del_ne e] at h; exact ⟨h, e⟩
  have nin : ¬ Ins (del S n) (W.fzn a) a := fun ⟨m, u, h1, h2⟩ => (dl m u h1).2 (r.inj m n a u _ (dl m u h1).1 hn h2 ha)
  have sub : ∀ b, Ins (del S n) (W.fzn a) b → Ins S W b := fun b ⟨m, u, h1, h2⟩ => ⟨m, u, (dl m u h1).1, h2⟩
  refine ⟨a, ha, ⟨r.bd, fun m u h => ?_, fun i j b x y h1 h2 => r.inj i j b x y (dl i x h1).1 (dl j y h2).1, fun b h => ?_⟩, ⟨fun _ _ h => h, fun b h => .inr h, fun b _ h2 => ⟨rfl, fun q => h2 (sub b q), fun z => z.elim (fun e => absurd (e ▸ (⟨n, _, hn, ha⟩ : Ins S W a)) h2) fun z => z⟩⟩, .lst (.inl rfl) hv (rv.keep k)⟩
  · obtain ⟨b, h1, h2⟩ := r.dom m u (dl m u h).1
    exact ⟨b, h1, h2.keep k rfl⟩
  · rcases h with h | h
    · subst h; exact ⟨by rw [hv]; simp, nin⟩
    · exact ⟨(r.sep b h).1, fun q => (r.sep b h).2 (sub b q)⟩

/-- a tracked thing that is neither frozen nor in the store may turn -/
theorem rel_other (r : Rel K W S H) {p : Addr} (n1 : ¬ Ins S W p) (n2 : ¬ W.fz p) (o : HO) : Rel K W S (upd H p o) ∧ Keep W H W (upd H p o) := by
  have k : Keep W H W (upd H p o) := ⟨fun _ _ h => h, fun a h => ⟨h, upd_ne (fun e => n2 (e ▸ h))⟩⟩
  refine ⟨⟨r.bd, fun n u h => ?_, r.inj, fun a h => ⟨by rw [(k.fz a h).2]; exact (r.sep a h).1, (r.sep a h).2⟩⟩, k⟩
  obtain ⟨a, h1, h2⟩ := r.dom n u h
  exact ⟨a, h1, h2.keep k (upd_ne (fun e => n1 (e ▸ ⟨n, u, h, h1⟩)))⟩
theorem Ext.other {W1 : Wd} {S1 : Sto} {H1 : Hp} (e : Ext W1 S1 H1 W S H) {p : Addr} (hp : H1 p = none) (o : HO) : Ext W1 S1 H1 W S (upd H p o) :=
  ⟨e.rho, e.fz, fun a h1 h2 => ⟨(upd_ne (fun q => h1 (by rw [q]; exact hp))).trans (e.fr a h1 h2).1, (e.fr a h1 h2).2⟩⟩
/-- .. may be frozen -/
theorem rel_stop (r : Rel K W S H) {p : Addr} (n1 : ¬ Ins S W p) (h : H p ≠ none) : Rel K (W.fzn p) S H ∧ Keep W H (W.fzn p) H := by
  have k : Keep W H (W.fzn p) H := ⟨fun _ _ h => h, fun a h => ⟨.inr h, rfl⟩⟩
  refine ⟨⟨r.bd, fun n u e => ?_, r.inj, fun a z => ?_⟩, k⟩
  · obtain ⟨a, h1, h2⟩ := r.dom n u e
    exact ⟨a, h1, h2.keep k rfl⟩
  · rcases z with rfl | z
    · exact ⟨h, n1⟩
    · exact r.sep a z
theorem Ext.stop {W1 : Wd} {S1 : Sto} {H1 : Hp} (e : Ext W1 S1 H1 W S H) {p : Addr} (hp : H1 p = none) : Ext W1 S1 H1 (W.fzn p) S H :=
  ⟨e.rho, fun a h => .inr (e.fz a h), fun a h1 h2 => ⟨(e.fr a h1 h2).1, (e.fr a h1 h2).2.1, fun z => z.elim (fun q => absurd (q ▸ hp) h1) (e.fr a h1 h2).2.2⟩⟩
/-- .. may come into the store -/
theorem rel_come (r : Rel K W S H) {p : Addr} (n1 : ¬ Ins S W p) (n2 : ¬ W.fz p) {vs : List V} {ds : List D} (h : H p = some (.lst vs)) (q : Reps K W H ds vs) :
    ∃ n, S n = none ∧ Rel K (W.new n p) (put S n (.lst ds)) H ∧ Keep W H (W.new n p) H ∧ (W.new n p).rho n = some p ∧ ∀ {W1 : Wd} {S1 : Sto} {H1 : Hp}, Ext W1 S1 H1 W S H → H1 p = none → Ext W1 S1 H1 (W.new n p) (put S n (.lst ds)) H := by
  obtain ⟨N, hN⟩ := r.bd
  have hS : S N = none := by
    cases e : S N with
    | none => rfl
    | some u => obtain ⟨a, h, _⟩ := r.dom N u e; rw [hN N (Nat.le_refl _)] at h; cases h
  have hr : (W.new N p).rho N = some p := if_pos rfl
  have hr2 : ∀ m, m ≠ N → (W.new N p).rho m = W.rho m := fun m h => if_neg h
  have k : Keep W H (W.new N p) H := ⟨fun m a h => by
    by_cases e : m = N
    · subst e; rw [hN _ (Nat.le_refl _)] at h; cases h
    · rw [hr2 m e]; exact h, fun b h => ⟨h, rfl⟩⟩
  have insb : ∀ b, Ins (put S N (.lst ds)) (W.new N p) b → b = p ∨ Ins S W b := fun b ⟨m, v, h1, h2⟩ => by
    by_cases e : m = N
    · subst e; rw [hr] at h2; cases h2; exact .inl rfl
    · rw [hr2 m e] at h2; rw [put_ne e] at h1; exact .inr ⟨m, v, h1, h2⟩
  refine ⟨N, hS, ⟨⟨N + 1, fun n h => by rw [hr2 n (by omega)]; exact hN n (by omega)⟩, fun m v z => ?_, fun i j b x y h1 h2 h3 h4 => ?_, fun b z => ⟨(r.sep b z).1, fun y => ?_⟩⟩, k, hr, fun {W1 S1 H1} e hp => ⟨fun m a z => k.rho m a (e.rho m a z), e.fz, fun a h1 h2 => ⟨(e.fr a h1 h2).1, fun y => ?_, (e.fr a h1 h2).2.2⟩⟩⟩
  · by_cases e : m = N
    · subst e; rw [put_same] at z; cases z
      exact ⟨p, hr, vs, h, q.keep k⟩
    · rw [put_ne e] at z
      obtain ⟨b, h1, h2⟩ := r.dom m v z
      exact ⟨b, (hr2 m e).trans h1, h2.keep k rfl⟩
  · by_cases e : i = N
    · subst e
      by_cases e' : j = i
      · exact e'.symm
      · exfalso
        rw [hr] at h3; cases h3
        rw [hr2 j e'] at h4; rw [put_ne e'] at h2
        exact n1 ⟨j, y, h2, h4⟩
    · by_cases e' : j = N
      · exfalso
        subst e'
        rw [hr] at h4; cases h4
        rw [hr2 i e] at h3; rw [put_ne e] at h1
        exact n1 ⟨i, x, h1, h3⟩
      · rw [hr2 i e] at h3; rw [hr2 j e'] at h4; rw [put_ne e] at h1; rw [put_ne e'] at h2
        exact r.inj i j b x y h1 h2 h3 h4
  · rcases insb b y with e | y
    · exact n2 (e ▸ z)
    · exact (r.sep b z).2 y
  · rcases insb a y with e' | y
    · exact h1 (e' ▸ hp)
    · exact (e.fr a h1 h2).2.1 y
end
end Mi
set_option maxHeartbeats 4000000
/-! Mi2: a small language for the program's text; what must hold so that a text of it ends as wished. -/
namespace Mi
open PySem L2

inductive Op | add | sub | mul | fdiv | mod | pow
  deriving DecidableEq
inductive Cp | eq | ne | lt | le | gt | ge | is_ | nis | in_ | nin
  deriving DecidableEq
/-- built-in functions that give a value -/
inductive Bi | len | repr | str | int | tuple | list | max1 | min1 | max2 | min2 | sum | all | any
  deriving DecidableEq
/-- methods of built-in types -/
inductive Mt | append | extend | pop0 | get1 | get2 | reverse | insert | pop1
  deriving DecidableEq
inductive Tg | nm (i : Nat) | tp (is : List Nat)
  deriving DecidableEq

mutual
inductive E where
  | var (i : Nat) | int (i : Int) | str (x : Str) | bl (b : Bool) | non | cst (i : Nat)
  | tup (es : Es) | lst (es : Es) | mls (es : Es) | dic (ks : List Key) (es : Es)
  | bin (o : Op) (a b : E) | cmp (o : Cp) (a b : E) | chn (o p : Cp) (a b c : E)
  | and (a b : E) | or (a b : E) | not (a : E) | neg (a : E) | ife (c a b : E)
  | ix (a b : E) | sl (a : E) (lo hi : Es) | rev (a : E)
  | call (f : Nat) (es : Es) | bif (b : Bi) (es : Es) | isi (a : E) (t : Nat) | mli (a : E)
  | meth (m : Mt) (o : E) (es : Es) | fld (o : E) (f : Str) | mth (m : Nat) (o : E) (es : Es) | mk (c : Nat) (es : Es)
  | lc (e : E) (t : Tg) (it : It) (c : Es) (own : List Nat) | mlc (e : E) (t : Tg) (it : It) (c : Es) (own : List Nat)
  | fz (e : E)
  | chn3 (o p r : Cp) (a b c d : E) | mdc (a : E) | den (a : E)
  | srs (a : E) | lrg (es : Es) | kget (o k : E) | mad (a b : E) | mlrg (es : Es)
inductive Es where
  | nil | cons (e : E) (es : Es)
inductive It where
  | seq (e : E) | rng (es : Es) | enm (e : E) | zip (a b : E) | rvs (e : E)
end

inductive St where
  | set (i : Nat) (e : E) | setT (is : List Nat) (e : E) | setI (o k e : E) | setF (o : E) (f : Str) (e : E)
  | ifs (c : E) (a b : List St) | wh (c : E) (b : List St) | for_ (t : Tg) (it : It) (b : List St)
  | ret (e : E) | retN | ex (e : E) | brk | cont | pass

/-! ### values -/
abbrev Q1 := D → Sto → Prop
abbrev XD := Nat → List D → Sto → Prop
abbrev GT := Nat → List D → Sto → Q1 → XD → Prop
abbrev Env := List (Option D)

structure Tab where
  fn : List Str
  cst : List (Str × D)
  /-- class name, number of its maker -/
  cl : List (Str × Nat) := []
  /-- number of a method, its class, its name -/
  mt : List (Nat × Nat × Str) := []
  /-- class, field -/
  fl : List (Nat × Str) := []

def seqD (S : Sto) : D → Option (List D)
  | .tup xs => some xs
  | .lst xs => some xs
  | .scr ns => some (ns.map .int)
  | .loc n => match S n with
    | some (.lst xs) => some xs
    | _ => none
  | _ => none
def truD (S : Sto) : D → Option Bool
  | .non => some false
  | .bl b => some b
  | .int i => some (i != 0)
  | .str x => if x.length ≤ sizeLine then some ((x.length : Int) != 0) else none
  | .tup xs => some !xs.isEmpty
  | .lst xs => some !xs.isEmpty
  | .scr ns => some !ns.isEmpty
  | .loc n => match S n with
    | some (.lst xs) => some !xs.isEmpty
    | some (.dic kvs) => some !kvs.isEmpty
    | _ => none
  | .kd _ _ => none
def keyD : D → Option Key
  | .int i => some (.inl i)
  | .str x => some (.inr x)
  | _ => none
def lkD (kvs : List (Key × D)) (k : Key) : Option D := (kvs.find? fun kv => decide (kv.1 = k)).map (·.2)
def putD (kvs : List (Key × D)) (k : Key) (v : D) : List (Key × D) := if kvs.any (fun p => decide (p.1 = k)) = true then kvs.map (fun p => if p.1 = k then (p.1, v) else p) else kvs ++ [(k, v)]
def ixD (S : Sto) (x i : D) : Option D := match x, i with
  | .tup xs, .int i => atI xs i
  | .lst xs, .int i => atI xs i
  | .scr ns, .int i => (atI ns i).map .int
  | .loc n, i => match S n, i with
    | some (.lst xs), .int i => atI xs i
    | some (.dic kvs), .int i => lkD kvs (.inl i)
    | some (.dic kvs), .str x => lkD kvs (.inr x)
    | _, _ => none
  | .kd ks vs, .str x => (ks.zip vs).lookup x
  | .str z, .int i => if z.length ≤ sizeLine then (atI z.cps.toList i).map fun c => .str ⟨#[c]⟩ else none
  | _, _ => none
def cutD {α : Type} (xs : List α) (lo hi : Option Int) : List α := (xs.drop (HT.sIx xs.length 0 lo)).take (HT.sIx xs.length xs.length hi - HT.sIx xs.length 0 lo)
def slD (S : Sto) (x : D) (lo hi : Option Int) : Option D := match x with
  | .tup xs => some (.tup (cutD xs lo hi))
  | .lst xs => some (.lst (cutD xs lo hi))
  | .scr ns => some (.lst ((cutD ns lo hi).map .int))
  | .loc n => match S n with
    | some (.lst xs) => some (.lst (cutD xs lo hi))
    | _ => none
  | .str z => if z.length ≤ sizeLine then some (.str (L2.cutS z lo hi)) else none
  | _ => none
def lstD (S : Sto) : D → Option (List D)
  | .lst xs => some xs
  | .loc n => match S n with
    | some (.lst xs) => some xs
    | _ => none
  | _ => none
def revD (S : Sto) (x : D) : Option D := match x with
  | .tup xs => some (.tup xs.reverse)
  | x => (lstD S x).map fun xs => .lst xs.reverse
def mulOk (i j : Int) : Bool := decide (-(2 ^ 64) < i ∧ i < 2 ^ 64) || decide (-(2 ^ 64) < j ∧ j < 2 ^ 64)
def binD (o : Op) (S : Sto) (x y : D) : Option D := match o, x, y with
  | .add, .int i, .int j => some (.int (i + j))
  | .add, .str a, .str b => if a.length + b.length ≤ sizeLine then some (.str (a ++ b)) else none
  | .add, .tup a, .tup b => if a.length + b.length ≤ sizeLine then some (.tup (a ++ b)) else none
  | .add, .lst a, y => match lstD S y with
    | some b => if a.length + b.length ≤ sizeLine then some (.lst (a ++ b)) else none
    | none => none
  | .add, .loc n, y => match lstD S (.loc n), lstD S y with
    | some a, some b => if a.length + b.length ≤ sizeLine then some (.lst (a ++ b)) else none
    | _, _ => none
  | .sub, .int i, .int j => some (.int (i - j))
  | .mul, .int i, .int j => if mulOk i j then some (.int (i * j)) else none
  | .mul, .tup xs, .int n => if xs.isEmpty = false ∧ 0 ≤ n ∧ n ≤ 1000 ∧ xs.length ≤ 1000 then some (.tup (List.replicate n.toNat xs).flatten) else none
  | .mul, .lst xs, .int n => if -(2 ^ 63) ≤ n ∧ n < 2 ^ 63 ∧ xs.length * n.toNat ≤ sizeLine then some (.lst (List.replicate n.toNat xs).flatten) else none
  | .fdiv, .int i, .int j => if 0 < j ∧ j < 2 ^ 64 then some (.int (i / j)) else none
  | .mod, .int i, .int j => if 0 < j then some (.int (i % j)) else none
  | .pow, .int i, .int j => if 0 ≤ j ∧ j ≤ 100 ∧ 0 ≤ i ∧ i ≤ 10 then some (.int (i ^ j.toNat)) else none
  | _, _, _ => none
/-- none, truths, numbers, texts -/
def flatD : D → Bool
  | .non => true
  | .bl _ => true
  | .int _ => true
  | .str _ => true
  | _ => false
mutual
def pd : D → Option PyData
  | .non => some .none
  | .bl b => some (.bool b)
  | .int i => some (.int i)
  | .str x => some (.str x)
  | .tup xs => match pds xs with
    | some ds => some (.tuple ds)
    | none => none
  | .lst xs => match pds xs with
    | some ds => some (.list ds)
    | none => none
  | .scr ns => some (.list (ns.map .int))
  | .loc _ => none
  | .kd _ _ => none
def pds : List D → Option (List PyData)
  | [] => some []
  | x :: xs => match pd x, pds xs with
    | some d, some ds => some (d :: ds)
    | _, _ => none
end
def eqD (x y : D) : Option Bool := match x, y with
  | .non, .non => some true
  | .non, .int _ => some false
  | .int _, .non => some false
  | .non, .str _ => some false
  | .str _, .non => some false
  | .int i, .int j => some (decide (i = j))
  | .bl i, .bl j => some (decide (i = j))
  | .str a, .str b => some (decide (a = b))
  | .int _, .str _ => some false
  | .str _, .int _ => some false
  | .non, .bl _ => some false
  | .bl _, .non => some false
  | .bl _, .str _ => some false
  | .str _, .bl _ => some false
  | x, y => match pd x, pd y with
    | some a, some b => if a.canLay0 && b.canLay0 && decide (a.depth ≤ 150) then some (PyData.eqv a b) else none
    | _, _ => none
/-- x is one of xs, by == -/
def inD (x : D) : List D → Option Bool
  | [] => some false
  | y :: ys => match eqD y x with
    | some true => some true
    | some false => inD x ys
    | none => none
def isD (x y : D) : Option Bool := match y with
  | .non => match x with
    | .non => some true
    | _ => some false
  | .bl b => match x with
    | .bl a => some (decide (a = b))
    | _ => some false
  | _ => none
/-- two data that are equal -/
def eqF (x y : D) : Bool := match pd x, pd y with
  | some a, some b => a.canLay0 && b.canLay0 && decide (a.depth ≤ 150) && PyData.eqv a b
  | _, _ => false
/-- two dicts of the store that are equal -/
def dicEq (S : Sto) (x y : D) : Bool := match x, y with
  | .loc n, .loc m => match S n, S m with
    | some (.dic a), some (.dic b) => decide (a.length = b.length) && a.all fun p => match lkD b p.1 with
      | some u => eqF p.2 u
      | none => false
    | _, _ => false
  | _, _ => false
/-- x is one of ys, by ==, of any depth -/
def inP (x : D) (ys : List D) : Option Bool := match pd x, pds ys with
  | some d, some ds => if d.canLay0 && PyData.canLayAll0 ds && decide (d.depth ≤ 150) then some (ds.any fun z => PyData.eqv z d) else none
  | _, _ => none
def inF (x : D) (ys : List D) : Option Bool := if flatD x && ys.all flatD then inD x ys else inP x ys
/-- x in y -/
def inS (S : Sto) (x y : D) : Option Bool := match y with
  | .kd ks vs => match x with
    | .str s => some ((ks.zip vs).lookup s).isSome
    | _ => none
  | .loc n => match S n with
    | some (.dic kvs) => (keyD x).map fun k => (lkD kvs k).isSome
    | some (.lst ys) => inF x ys
    | _ => none
  | y => match seqD S y with
    | some ys => inF x ys
    | none => none
/-- a list of the store as data -/
def frzD (S : Sto) (x : D) : D := match x with
  | .loc n => match S n with
    | some (.lst xs) => .lst xs
    | _ => .loc n
  | x => x
def cmpD (o : Cp) (S : Sto) (x y : D) : Option Bool := match o with
  | .eq => if dicEq S x y = true then some true else eqD (frzD S x) (frzD S y)
  | .ne => if dicEq S x y = true then some false else (eqD (frzD S x) (frzD S y)).map (!·)
  | .lt => match x, y with
    | .int i, .int j => some (decide (i < j))
    | _, _ => none
  | .le => match x, y with
    | .int i, .int j => some (decide (i ≤ j))
    | _, _ => none
  | .gt => match x, y with
    | .int i, .int j => some (decide (j < i))
    | _, _ => none
  | .ge => match x, y with
    | .int i, .int j => some (decide (j ≤ i))
    | _, _ => none
  | .is_ => isD x y
  | .nis => (isD x y).map (!·)
  | .in_ => inS S x y
  | .nin => (inS S x y).map (!·)
def biNm : Bi → Str
  | .len => "len" | .repr => "repr" | .str => "str" | .int => "int" | .tuple => "tuple" | .list => "list" | .max1 => "max" | .min1 => "min"
  | .max2 => "max" | .min2 => "min" | .sum => "sum" | .all => "all" | .any => "any"
def lenD (S : Sto) : D → Option Nat
  | .str x => if x.length ≤ sizeLine then some x.length else none
  | x => (seqD S x).map List.length
def reprD (x : D) : Option Str := match pd x with
  | some d => if d.showable && decide (d.shown.length ≤ sizeLine) && decide (d.depth ≤ 150) then some d.shown else none
  | none => none
def reprS (S : Sto) (x : D) : Option Str := match reprD x with
  | some s => some s
  | none => match x with
    | .loc n => match S n with
      | some (.lst xs) => reprD (.lst xs)
      | _ => none
    | _ => none
def blsD : List D → Option (List Bool)
  | [] => some []
  | .bl b :: r => (blsD r).map (b :: ·)
  | _ => none
def intsD : List D → Option (List Int)
  | [] => some []
  | .int b :: r => (intsD r).map (b :: ·)
  | _ => none
def bi1 (b : Bi) (S : Sto) (x : D) : Option D := match b with
  | .len => (lenD S x).map fun (n : Nat) => D.int (n : Int)
  | .repr => (reprS S x).map .str
  | .str => match x with
    | .int i => if i.natAbs.log2 < 1920 then some (.str (toString i)) else none
    | .str x => some (.str x)
    | _ => none
  | .int => match x with
    | .bl b => some (.int (if b then 1 else 0))
    | .int i => some (.int i)
    | _ => none
  | .tuple => (seqD S x).map .tup
  | .list => (seqD S x).map .lst
  | .all => match lstD S x with
    | some xs => (blsD xs).map fun bs => .bl (bs.all id)
    | none => none
  | .any => match lstD S x with
    | some xs => (blsD xs).map fun bs => .bl (bs.any id)
    | none => none
  | .sum => match lstD S x with
    | some xs => (intsD xs).map fun ns => .int ns.sum
    | none => none
  | .max1 => match lstD S x with
    | some xs => match intsD xs with
      | some (n :: ns) => some (.int (ns.foldl max n))
      | _ => none
    | none => none
  | .min1 => match lstD S x with
    | some xs => match intsD xs with
      | some (n :: ns) => some (.int (ns.foldl min n))
      | _ => none
    | none => none
  | _ => none
def bi2 (b : Bi) (x y : D) : Option D := match b with
  | .max2 => match x with
    | .int i => match y with
      | .int j => some (.int (max i j))
      | _ => none
    | _ => none
  | .min2 => match x with
    | .int i => match y with
      | .int j => some (.int (min i j))
      | _ => none
    | _ => none
  | _ => none
def biD (b : Bi) (S : Sto) (ds : List D) : Option D := match ds with
  | [x] => bi1 b S x
  | [x, y] => bi2 b x y
  | _ => none
/-- the built-in types that are asked for -/
def tyNm : Nat → String
  | 0 => "int" | 1 => "bool" | 2 => "str" | 3 => "tuple" | 4 => "list" | _ => "dict"
def kindD (S : Sto) : D → Option String
  | .non => some "NoneType"
  | .bl _ => some "bool"
  | .int _ => some "int"
  | .str _ => some "str"
  | .tup _ => some "tuple"
  | .lst _ => some "list"
  | .scr _ => none
  | .loc n => match S n with
    | some (.lst _) => some "list"
    | some (.dic _) => some "dict"
    | _ => none
  | .kd _ _ => none
def isiD (S : Sto) (x : D) (t : Nat) : Option Bool := (kindD S x).map fun k => k == tyNm t || (k == "bool" && t == 0)
def mtNm : Mt → Str
  | .append => "append" | .extend => "extend" | .pop0 => "pop" | .get1 => "get" | .get2 => "get" | .reverse => "reverse" | .insert => "insert" | .pop1 => "pop"
def mtAr : Mt → Nat
  | .append => 1 | .extend => 1 | .pop0 => 0 | .get1 => 1 | .get2 => 2 | .reverse => 0 | .insert => 2 | .pop1 => 1
/-- the type that a method is asked of -/
def mtTy : Mt → String
  | .get1 => "dict" | .get2 => "dict" | _ => "list"
def mtD (m : Mt) (S : Sto) (o : D) (ds : List D) : Option (D × Sto) := match o with
  | .loc n => match S n with
    | some (.lst xs) => match m with
      | .append => match ds with
        | [y] => if xs.length < 1000000 then some (.non, put S n (.lst (xs ++ [y]))) else none
        | _ => none
      | .extend => match ds with
        | [y] => match lstD S y with
          | some ys => if xs.length + ys.length < 1000000 then some (.non, put S n (.lst (xs ++ ys))) else none
          | none => none
        | _ => none
      | .pop0 => match ds with
        | [] => (xs[xs.length - 1]?).map fun y => (y, put S n (.lst xs.dropLast))
        | _ => none
      | .reverse => match ds with
        | [] => some (.non, put S n (.lst xs.reverse))
        | _ => none
      | .pop1 => match ds with
        | [.int i] => if 0 ≤ i ∧ i < 2 ^ 62 then (xs[i.toNat]?).map fun y => (y, put S n (.lst (xs.eraseIdx i.toNat))) else none
        | _ => none
      | .insert => match ds with
        | [.int i, y] => if xs.length < 1000000 ∧ 0 ≤ i ∧ i < 2 ^ 62 then some (.non, put S n (.lst (xs.take i.toNat ++ [y] ++ xs.drop i.toNat))) else none
        | _ => none
      | _ => none
    | some (.dic kvs) => match m with
      | .get1 => match ds with
        | [k] => (keyD k).map fun k => ((lkD kvs k).getD .non, S)
        | _ => none
      | .get2 => match ds with
        | [k, d] => (keyD k).map fun k => ((lkD kvs k).getD d, S)
        | _ => none
      | _ => none
    | _ => none
  | _ => none
def setIx (S : Sto) (o k v : D) : Option Sto := match o with
  | .loc n => match S n with
    | some (.lst xs) => match k with
      | .int i => (ixN xs.length i).map fun j => put S n (.lst (xs.set j v))
      | _ => none
    | some (.dic kvs) => match keyD k with
      | some k => if kvs.length < 1000000 then some (put S n (.dic (putD kvs k v))) else none
      | none => none
    | _ => none
  | _ => none

/-- an attribute put -/
def putFD (f : Str) (v : D) : List (Str × D) → List (Str × D)
  | [] => [(f, v)]
  | (g, x) :: r => if g = f then (g, v) :: r else (g, x) :: putFD f v r

/-! ### targets, walks -/
def setAll : List Nat → List D → Env → Option Env
  | [], [], e => some e
  | i :: is, d :: ds, e => setAll is ds (e.set i (some d))
  | _, _, _ => none
def bindT (t : Tg) (x : D) (e : Env) : Option Env := match t with
  | .nm i => some (e.set i (some x))
  | .tp is => match x with
    | .tup xs => setAll is xs e
    | _ => none
def wipeD (e : Env) : List Nat → Env
  | [] => e
  | v :: vs => (wipeD e vs).set v none
def numD : Nat → List D → List (Key × D)
  | _, [] => []
  | n, x :: xs => (.inl (n : Int), x) :: numD (n + 1) xs
def enumD : Nat → List D → List D
  | _, [] => []
  | i, x :: xs => .tup [.int i, x] :: enumD (i + 1) xs
def zipD : List D → List D → List D
  | x :: xs, y :: ys => .tup [x, y] :: zipD xs ys
  | _, _ => []
def rngD (lo : Int) : Nat → List D
  | 0 => []
  | n + 1 => .int lo :: rngD (lo + 1) n
def rngC (lo c : Int) : Nat → List D
  | 0 => []
  | n + 1 => .int lo :: rngC (lo + c) c n
/-- the list that is walked stays as it is -/
def chkD (x : D) (xs : List D) (S : Sto) : Prop := match x with
  | .loc n => S n = some (.lst xs)
  | _ => True

section
variable (chk : Sto → Prop) (bind : D → Option Env)
/-- a comprehension's turns -/
def lcL (cond : Env → Sto → (Bool → Sto → Prop) → Prop) (elt : Env → Sto → Q1 → Prop) : List D → List D → Sto → (List D → Sto → Prop) → Prop
  | [], acc, S, q => chk S ∧ q acc S
  | x :: xs, acc, S, q => chk S ∧ ∃ e1, bind x = some e1 ∧ cond e1 S fun b S1 => if b = true then elt e1 S1 fun y S2 => acc.length < 1000000 ∧ lcL cond elt xs (acc ++ [y]) S2 q else lcL cond elt xs acc S1 q
end

/-- a range walked -/
def rngW (ds : List D) (q : List D → Prop) : Prop := match ds with
  | [.int j] => -(2 ^ 62) ≤ j ∧ j < 2 ^ 62 ∧ q (rngD 0 j.toNat)
  | [.int i, .int j] => -(2 ^ 62) ≤ i ∧ i < 2 ^ 62 ∧ -(2 ^ 62) ≤ j ∧ j < 2 ^ 62 ∧ q (rngD i (j - i).toNat)
  | [.int i, .int j, .int c] => ∃ n : Nat, RgC i j c n ∧ q (rngC i c n)
  | _ => False
/-- list(range(..)) -/
def rngL (ds : List D) (q : List D → Prop) : Prop := match ds with
  | [.int j] => RgOk 0 j ∧ q (rngD 0 j.toNat)
  | [.int i, .int j] => RgOk i j ∧ q (rngD i (j - i).toNat)
  | _ => False

section
variable (T : Tab) (G : GT) (xd : XD)
mutual
def wpE : E → Env → Sto → Q1 → Prop
  | .var i, env, S, q => ∃ d, env[i]? = some (some d) ∧ q d S
  | .int i, _, S, q => q (.int i) S
  | .str x, _, S, q => q (.str x) S
  | .bl b, _, S, q => q (.bl b) S
  | .non, _, S, q => q .non S
  | .cst i, _, S, q => ∃ p, T.cst[i]? = some p ∧ q p.2 S
  | .tup es, env, S, q => wpEs es env S fun ds S1 => ds.length ≤ 100000 ∧ q (.tup ds) S1
  | .lst es, env, S, q => wpEs es env S fun ds S1 => ds.length ≤ 100000 ∧ q (.lst ds) S1
  | .mls es, env, S, q => wpEs es env S fun ds S1 => ds.length ≤ 100000 ∧ ∀ n, S1 n = none → q (.loc n) (put S1 n (.lst ds))
  | .dic ks es, env, S, q => wpEs es env S fun ds S1 => ∀ n, S1 n = none → q (.loc n) (put S1 n (.dic (ks.zip ds)))
  | .bin o a b, env, S, q => wpE a env S fun x S1 => wpE b env S1 fun y S2 => ∃ z, binD o S2 x y = some z ∧ q z S2
  | .cmp o a b, env, S, q => wpE a env S fun x S1 => wpE b env S1 fun y S2 => ∃ k, cmpD o S2 x y = some k ∧ q (.bl k) S2
  | .chn o p a b c, env, S, q => wpE a env S fun x S1 => wpE b env S1 fun y S2 => ∃ k, cmpD o S2 x y = some k ∧
      if k = true then wpE c env S2 fun z S3 => ∃ k', cmpD p S3 y z = some k' ∧ q (.bl k') S3 else q (.bl false) S2
  | .and a b, env, S, q => wpE a env S fun x S1 => ∃ k, truD S1 x = some k ∧ if k = true then wpE b env S1 q else q x S1
  | .or a b, env, S, q => wpE a env S fun x S1 => ∃ k, truD S1 x = some k ∧ if k = true then q x S1 else wpE b env S1 q
  | .not a, env, S, q => wpE a env S fun x S1 => ∃ k, truD S1 x = some k ∧ q (.bl (!k)) S1
  | .neg a, env, S, q => wpE a env S fun x S1 => ∃ i, x = .int i ∧ q (.int (-i)) S1
  | .ife c a b, env, S, q => wpE c env S fun x S1 => ∃ k, truD S1 x = some k ∧ if k = true then wpE a env S1 q else wpE b env S1 q
  | .ix a b, env, S, q => wpE a env S fun x S1 => wpE b env S1 fun y S2 => ∃ z, ixD S2 x y = some z ∧ q z S2
  | .sl a lo hi, env, S, q => wpE a env S fun x S1 => wpEs lo env S1 fun l S2 => ∃ l', intsD l = some l' ∧ wpEs hi env S2 fun h S3 => ∃ h', intsD h = some h' ∧ ∃ z, slD S3 x l'[0]? h'[0]? = some z ∧ q z S3
  | .rev a, env, S, q => wpE a env S fun x S1 => ∃ z, revD S1 x = some z ∧ q z S1
  | .call f es, env, S, q => wpEs es env S fun ds S1 => G f ds S1 q xd
  | .bif b es, env, S, q => wpEs es env S fun ds S1 => ∃ z, biD b S1 ds = some z ∧ q z S1
  | .isi a t, env, S, q => wpE a env S fun x S1 => ∃ k, isiD S1 x t = some k ∧ q (.bl k) S1
  | .mli a, env, S, q => wpE a env S fun x S1 => ∃ xs, seqD S1 x = some xs ∧ ∀ n, S1 n = none → q (.loc n) (put S1 n (.lst xs))
  | .mad a b, env, S, q => wpE a env S fun x S1 => wpE b env S1 fun y S2 => ∃ xs ys, lstD S2 x = some xs ∧ lstD S2 y = some ys ∧ xs.length + ys.length ≤ sizeLine ∧ ∀ n, S2 n = none → q (.loc n) (put S2 n (.lst (xs ++ ys)))
  | .meth m o es, env, S, q => wpE o env S fun x S1 => kindD S1 x = some (mtTy m) ∧ wpEs es env S1 fun ds S2 => ∃ z, mtD m S2 x ds = some z ∧ q z.1 z.2
  | .fld o f, env, S, q => wpE o env S fun x S1 => ∃ n c fs d, x = .loc n ∧ S1 n = some (.ins c fs) ∧ T.fl.contains (c, f) = true ∧ fs.lookup f = some d ∧ q d S1
  | .mth m o es, env, S, q => wpE o env S fun x S1 => (∃ n c fs nm, x = .loc n ∧ S1 n = some (.ins c fs) ∧ T.mt.lookup m = some (c, nm) ∧ fs.lookup nm = none) ∧ wpEs es env S1 fun ds S2 => G m (x :: ds) S2 q xd
  | .mk c es, env, S, q => wpEs es env S fun ds S1 => ∃ p, T.cl[c]? = some p ∧ ∀ n, S1 n = none → G p.2 (.loc n :: ds) (put S1 n (.ins c [])) (fun v S2 => v = .non ∧ q (.loc n) S2) xd
  | .lc e t it c own, env, S, q => wpI it env S fun xs chk S1 => lcL chk (fun x => bindT t x (wipeD env own)) (fun e1 S q => wpEs c e1 S fun ds S2 => match ds with
      | [] => q true S2
      | x :: _ => ∃ k, truD S2 x = some k ∧ q k S2) (fun e1 S q => wpE e e1 S q) xs [] S1 fun ys S2 => q (.lst ys) S2
  | .mlc e t it c own, env, S, q => wpI it env S fun xs chk S1 => lcL chk (fun x => bindT t x (wipeD env own)) (fun e1 S q => wpEs c e1 S fun ds S2 => match ds with
      | [] => q true S2
      | x :: _ => ∃ k, truD S2 x = some k ∧ q k S2) (fun e1 S q => wpE e e1 S q) xs [] S1 fun ys S2 => ∀ n, S2 n = none → q (.loc n) (put S2 n (.lst ys))
  | .fz e, env, S, q => wpE e env S fun x S1 => ∃ n xs, x = .loc n ∧ S1 n = some (.lst xs) ∧ q (.lst xs) (del S1 n)
  | .chn3 o p r a b c d, env, S, q => wpE a env S fun x S1 => wpE b env S1 fun y S2 => ∃ k, cmpD o S2 x y = some k ∧
      if k = true then wpE c env S2 fun z S3 => ∃ k', cmpD p S3 y z = some k' ∧ (if k' = true then wpE d env S3 fun w S4 => ∃ k'', cmpD r S4 z w = some k'' ∧ q (.bl k'') S4 else q (.bl false) S3) else q (.bl false) S2
  | .den a, env, S, q => wpE a env S fun x S1 => ∃ xs, seqD S1 x = some xs ∧ ∀ m, S1 m = none → q (.loc m) (put S1 m (.dic (numD 0 xs)))
  | .srs a, env, S, q => wpE a env S fun x S1 => ∃ xs ns, seqD S1 x = some xs ∧ intsD xs = some ns ∧ ns.length ≤ 1000 ∧ (sortU ns).length < 64 ∧ q (.lst ((sortU ns).map .int)) S1
  | .lrg es, env, S, q => wpEs es env S fun ds S1 => rngL ds fun xs => q (.lst xs) S1
  | .mlrg es, env, S, q => wpEs es env S fun ds S1 => rngL ds fun xs => ∀ n, S1 n = none → q (.loc n) (put S1 n (.lst xs))
  | .kget o k, env, S, q => wpE o env S fun x S1 => ∃ ks vs, x = .kd ks vs ∧ wpE k env S1 fun y S2 => ∃ s, y = .str s ∧ q (((ks.zip vs).lookup s).getD .non) S2
  | .mdc a, env, S, q => wpE a env S fun x S1 => ∃ n kvs, x = .loc n ∧ S1 n = some (.dic kvs) ∧ ∀ m, S1 m = none → q (.loc m) (put S1 m (.dic kvs))
def wpEs : Es → Env → Sto → (List D → Sto → Prop) → Prop
  | .nil, _, S, q => q [] S
  | .cons e es, env, S, q => wpE e env S fun x S1 => wpEs es env S1 fun xs S2 => q (x :: xs) S2
def wpI : It → Env → Sto → (List D → (Sto → Prop) → Sto → Prop) → Prop
  | .seq e, env, S, q => wpE e env S fun x S1 => ∃ xs, seqD S1 x = some xs ∧ q xs (chkD x xs) S1
  | .rng es, env, S, q => wpEs es env S fun ds S1 => rngW ds fun xs => q xs (fun _ => True) S1
  | .enm e, env, S, q => wpE e env S fun x S1 => ∃ xs, seqD S1 x = some xs ∧ q (enumD 0 xs) (chkD x xs) S1
  | .zip a b, env, S, q => wpE a env S fun x S1 => wpE b env S1 fun y S2 => ∃ xs ys, seqD S2 x = some xs ∧ seqD S2 y = some ys ∧ q (zipD xs ys) (fun S => chkD x xs S ∧ chkD y ys S) S2
  | .rvs e, env, S, q => wpE e env S fun x S1 => ∃ xs, seqD S1 x = some xs ∧ q xs.reverse (chkD x xs) S1
end
end

/-! ### statements -/
structure En where
  nx : Env → Sto → Prop
  rt : Q1
  bk : Env → Sto → Prop
  ct : Env → Sto → Prop
/-- a for's turns -/
def forL (chk : Sto → Prop) (bind : D → Env → Option Env) (body : En → Env → Sto → Prop) (K : En) : List D → Env → Sto → Prop
  | [], e, S => chk S ∧ K.nx e S
  | x :: xs, e, S => chk S ∧ ∃ e1, bind x e = some e1 ∧ body { nx := forL chk bind body K xs, rt := K.rt, bk := K.nx, ct := forL chk bind body K xs } e1 S
/-- so many turns of a while -/
def whL (c : Env → Sto → (Bool → Sto → Prop) → Prop) (body : En → Env → Sto → Prop) (K : En) : Nat → Env → Sto → Prop
  | 0, _, _ => False
  | n + 1, e, S => c e S fun b S1 => if b = true then body { nx := whL c body K n, rt := K.rt, bk := K.nx, ct := whL c body K n } e S1 else K.nx e S1
section
variable (T : Tab) (G : GT) (xd : XD)
def wpT (e : E) (env : Env) (S : Sto) (q : Bool → Sto → Prop) : Prop := wpE T G xd e env S fun x S1 => ∃ k, truD S1 x = some k ∧ q k S1
mutual
def wpS : St → En → Env → Sto → Prop
  | .set i e, K, env, S => wpE T G xd e env S fun x S1 => K.nx (env.set i (some x)) S1
  | .setT is e, K, env, S => wpE T G xd e env S fun x S1 => ∃ env', bindT (.tp is) x env = some env' ∧ K.nx env' S1
  | .setI o k e, K, env, S => wpE T G xd e env S fun v S1 => wpE T G xd o env S1 fun x S2 => wpE T G xd k env S2 fun y S3 => ∃ S4, setIx S3 x y v = some S4 ∧ K.nx env S4
  | .setF o f e, K, env, S => wpE T G xd e env S fun v S1 => wpE T G xd o env S1 fun x S2 => ∃ n c fs, x = .loc n ∧ S2 n = some (.ins c fs) ∧ T.fl.contains (c, f) = true ∧ fs.length < 100 ∧ K.nx env (put S2 n (.ins c (putFD f v fs)))
  | .ifs c a b, K, env, S => wpT T G xd c env S fun k S1 => if k = true then wpSs a K env S1 else wpSs b K env S1
  | .wh c b, K, env, S => ∃ n, whL (wpT T G xd c) (wpSs b) K n env S
  | .for_ t it b, K, env, S => wpI T G xd it env S fun xs chk S1 => forL chk (bindT t) (wpSs b) K xs env S1
  | .ret e, K, env, S => wpE T G xd e env S K.rt
  | .retN, K, env, S => K.rt .non S
  | .ex e, K, env, S => wpE T G xd e env S fun _ S1 => K.nx env S1
  | .brk, K, env, S => K.bk env S
  | .cont, K, env, S => K.ct env S
  | .pass, K, env, S => K.nx env S
def wpSs : List St → En → Env → Sto → Prop
  | [], K, env, S => K.nx env S
  | s :: ss, K, env, S => wpS s { K with nx := fun e S1 => wpSs ss K e S1 } env S
end
end
end Mi
set_option maxHeartbeats 4000000
/-! Mi3: what the values of the small language do, the machine's operators do. -/
namespace Mi
open PySem PySem.Spec PyProof.Rows L2

/-- slots and what they hold -/
structure EnvR (K : Frg) (W : Wd) (H : Hp) (env : Env) (σ : L2.St) : Prop where
  len : env.length = σ.length
  at_ : ∀ (i : Nat) (d : D), env[i]? = some (some d) → ∃ v : V, (σ : List (Option V))[i]? = some (some v) ∧ Rep K W H d v
theorem EnvR.keep {K : Frg} {W W' : Wd} {H H' : Hp} {env : Env} {σ : L2.St} (k : Keep W H W' H') (r : EnvR K W H env σ) : EnvR K W' H' env σ :=
  ⟨r.len, fun i d h => let ⟨v, h1, h2⟩ := r.at_ i d h; ⟨v, h1, h2.keep k⟩⟩
theorem EnvR.set {K : Frg} {W : Wd} {H : Hp} {env : Env} {σ : L2.St} (r : EnvR K W H env σ) {i : Nat} {d : D} {v : V} (h : Rep K W H d v) : EnvR K W H (env.set i (some d)) (σ.set i (some v)) :=
  ⟨by rw [List.length_set, List.length_set]; exact r.len, fun j e q => by
    by_cases hj : i = j
    · subst hj
      by_cases hl : i < env.length
      · rw [List.getElem?_set_self hl] at q; cases q
        exact ⟨v, List.getElem?_set_self (r.len ▸ hl), h⟩
      · rw [List.getElem?_eq_none (by rw [List.length_set]; omega)] at q; cases q
    · rw [List.getElem?_set_ne hj] at q
      obtain ⟨u, h1, h2⟩ := r.at_ j e q
      exact ⟨u, by rw [List.getElem?_set_ne hj]; exact h1, h2⟩⟩
theorem EnvR.drop1 {K : Frg} {W : Wd} {H : Hp} {env : Env} {σ : L2.St} (r : EnvR K W H env σ) (i : Nat) : EnvR K W H (env.set i none) (σ.set i none) :=
  ⟨by rw [List.length_set, List.length_set]; exact r.len, fun j e q => by
    by_cases hj : i = j
    · subst hj
      by_cases hl : i < env.length
      · rw [List.getElem?_set_self hl] at q; cases q
      · rw [List.getElem?_eq_none (by rw [List.length_set]; omega)] at q; cases q
    · rw [List.getElem?_set_ne hj] at q
      obtain ⟨u, h1, h2⟩ := r.at_ j e q
      exact ⟨u, by rw [List.getElem?_set_ne hj]; exact h1, h2⟩⟩
theorem EnvR.wipe {K : Frg} {W : Wd} {H : Hp} {env : Env} {σ : L2.St} (r : EnvR K W H env σ) : ∀ vs : List Nat, EnvR K W H (wipeD env vs) (L2.wipe σ vs)
  | [] => r
  | v :: vs => (r.wipe vs).drop1 v

/-- what is asked behind an operation that gives z, the store S' -/
def Out (K : Frg) (W : Wd) (S : Sto) (H : Hp) (z : D) (S' : Sto) (Q : VK) : Prop := ∀ W' H' v, Ext W S H W' S' H' → Rel K W' S' H' → Rep K W' H' z v → Q v H'
theorem Out.now {K : Frg} {W : Wd} {S : Sto} {H : Hp} {z : D} {Q : VK} {v : V} (o : Out K W S H z S Q) (r : Rel K W S H) (p : Rep K W H z v) : Q v H := o W H v (Ext.refl _ _ _) r p
theorem Out.tup {K : Frg} {W : Wd} {S : Sto} {H : Hp} {ds : List D} {vs : List V} {Q : VK} (o : Out K W S H (.tup ds) S Q) (r : Rel K W S H) (p : Reps K W H ds vs) : ∀ a, H a = none → Q (.ref a) (upd H a (.tup vs)) := fun a ha => by
  obtain ⟨r', e⟩ := rel_frz r ha (.tup vs)
  exact o _ _ _ e r' (.tup (.inl ⟨.inl rfl, upd_same⟩) (p.keep (e.keep r)))
theorem Out.lst {K : Frg} {W : Wd} {S : Sto} {H : Hp} {ds : List D} {vs : List V} {Q : VK} (o : Out K W S H (.lst ds) S Q) (r : Rel K W S H) (p : Reps K W H ds vs) : ∀ a, H a = none → Q (.ref a) (upd H a (.lst vs)) := fun a ha => by
  obtain ⟨r', e⟩ := rel_frz r ha (.lst vs)
  exact o _ _ _ e r' (.lst (.inl rfl) upd_same (p.keep (e.keep r)))
/-- a new list of the store -/
theorem Out.mls {K : Frg} {W : Wd} {S : Sto} {H : Hp} {ds : List D} {vs : List V} {Q : VK} (o : ∀ n, S n = none → Out K W S H (.loc n) (put S n (.lst ds)) Q) (r : Rel K W S H) (p : Reps K W H ds vs) : ∀ a, H a = none → Q (.ref a) (upd H a (.lst vs)) := fun a ha => by
  obtain ⟨n, hn, r', e, hr⟩ := rel_new r ha (.lst ds) (.lst vs) fun W' H' k h => ⟨vs, h, p.keep k⟩
  exact o n hn _ _ _ e r' (.loc hr)

section
variable {K : Frg} {W : Wd} {S : Sto} {H : Hp}
/-- a store's list, seen through its place -/
theorem loc_lst (r : Rel K W S H) {n : Nat} {a : Addr} {xs : List D} (h : S n = some (.lst xs)) (ha : W.rho n = some a) : ∃ vs, H a = some (.lst vs) ∧ Reps K W H xs vs := by
  obtain ⟨b, h1, vs, h2, h3⟩ := r.dom n _ h
  rw [ha] at h1; cases h1
  exact ⟨vs, h2, h3⟩
theorem loc_dic (r : Rel K W S H) {n : Nat} {a : Addr} {xs : List (Key × D)} (h : S n = some (.dic xs)) (ha : W.rho n = some a) : ∃ vs, H a = some (.dK vs) ∧ KR K W H xs vs := by
  obtain ⟨b, h1, vs, h2, h3⟩ := r.dom n _ h
  rw [ha] at h1; cases h1
  exact ⟨vs, h2, h3⟩
theorem loc_ins (r : Rel K W S H) {n : Nat} {a : Addr} {c : Nat} {xs : List (Str × D)} (h : S n = some (.ins c xs)) (ha : W.rho n = some a) : ∃ Ca dx vs, K.cls c = some Ca ∧ H a = some (.ins Ca dx vs) ∧ FR K W H xs vs := by
  obtain ⟨b, h1, Ca, dx, vs, h0, h2, h3⟩ := r.dom n _ h
  rw [ha] at h1; cases h1
  exact ⟨Ca, dx, vs, h0, h2, h3⟩
/-- sequences -/
inductive Sq (K : PySem.W.Frag) (H : Hp) (a : Addr) (vs : List V) : Prop where
  | l (h : SqL K H a vs)
  | t (h : SqT K H a vs)
theorem seq_of (r : Rel K W S H) {x : D} {v : V} {xs : List D} (p : Rep K W H x v) (h : seqD S x = some xs) : ∃ a vs, v = .ref a ∧ Sq K.K H a vs ∧ Reps K W H xs vs := by
  cases p with
  | tup f q => cases h; exact ⟨_, _, rfl, .t f.sq, q⟩
  | lst _ e q => cases h; exact ⟨_, _, rfl, .l (SqL.of e), q⟩
  | scr f => cases h; exact ⟨_, _, rfl, .l f.sq, .ints _⟩
  | @loc n a e =>
    dsimp only [seqD] at h
    cases q : S n with
    | none => rw [q] at h; cases h
    | some o =>
      rw [q] at h
      cases o with
      | lst ys =>
        cases h
        obtain ⟨vs, h2, h3⟩ := loc_lst r q e
        exact ⟨_, _, rfl, .l (SqL.of h2), h3⟩
      | dic _ => cases h
      | ins _ _ => cases h
  | _ => cases h
theorem lst_of (r : Rel K W S H) {x : D} {v : V} {xs : List D} (p : Rep K W H x v) (h : lstD S x = some xs) : ∃ a vs, v = .ref a ∧ H a = some (.lst vs) ∧ Reps K W H xs vs := by
  cases p with
  | lst _ e q => cases h; exact ⟨_, _, rfl, e, q⟩
  | @loc n a e =>
    dsimp only [lstD] at h
    cases q : S n with
    | none => rw [q] at h; cases h
    | some o =>
      rw [q] at h
      cases o with
      | lst ys =>
        cases h
        obtain ⟨vs, h2, h3⟩ := loc_lst r q e
        exact ⟨_, _, rfl, h2, h3⟩
      | dic _ => cases h
      | ins _ _ => cases h
  | _ => cases h
theorem Reps.isEmpty {ds : List D} {vs : List V} (h : Reps K W H ds vs) : vs.isEmpty = ds.isEmpty := by cases h <;> rfl
theorem KR.isEmpty {ds : List (Key × D)} {vs : List (Key × V)} (h : KR K W H ds vs) : vs.isEmpty = ds.isEmpty := by cases h <;> rfl
theorem KR.look {ds : List (Key × D)} {vs : List (Key × V)} (h : KR K W H ds vs) (k : Key) : (∀ d, lkD ds k = some d → ∃ v, valV vs k = some v ∧ Rep K W H d v) ∧ (lkD ds k = none → valV vs k = none) := by
  induction h with
  | nil => exact ⟨fun d h => (by cases h), fun _ => rfl⟩
  | @cons k' d' v' ds vs p _ ih =>
    unfold lkD valV at ih ⊢
    rw [List.find?_cons, List.find?_cons]
    by_cases e : k' = k
    · simp only [e, decide_true]
      exact ⟨fun d h => (by cases h; exact ⟨v', rfl, p⟩), fun h => (by cases h)⟩
    · simp only [e, decide_false]
      exact ih
theorem KR.anyK {ds : List (Key × D)} {vs : List (Key × V)} (h : KR K W H ds vs) (k : Key) : ds.any (fun p => decide (p.1 = k)) = vs.any (fun p => decide (p.1 = k)) := by
  induction h with
  | nil => rfl
  | cons _ _ ih => rw [List.any_cons, List.any_cons, ih]
theorem KR.mapK {ds : List (Key × D)} {vs : List (Key × V)} (h : KR K W H ds vs) (k : Key) {d : D} {v : V} (p : Rep K W H d v) : KR K W H (ds.map (fun p => if p.1 = k then (p.1, d) else p)) (vs.map (fun p => if p.1 = k then (p.1, v) else p)) := by
  induction h with
  | nil => exact .nil
  | @cons k' d' v' ds vs q r ih =>
    rw [List.map_cons, List.map_cons]
    by_cases e : k' = k
    · rw [if_pos e, if_pos e]; exact .cons p ih
    · rw [if_neg e, if_neg e]; exact .cons q ih
theorem KR.snoc {ds : List (Key × D)} {vs : List (Key × V)} (h : KR K W H ds vs) (k : Key) {d : D} {v : V} (p : Rep K W H d v) : KR K W H (ds ++ [(k, d)]) (vs ++ [(k, v)]) := by
  induction h with
  | nil => exact .cons p .nil
  | cons q _ ih => exact .cons q ih
theorem KR.put {ds : List (Key × D)} {vs : List (Key × V)} (h : KR K W H ds vs) (k : Key) {d : D} {v : V} (p : Rep K W H d v) : KR K W H (putD ds k d) (putK vs k v) := by
  unfold putD putK
  rw [h.anyK k]
  by_cases e : vs.any (fun p => decide (p.1 = k)) = true
  · rw [if_pos e, if_pos e]; exact h.mapK k p
  · rw [if_neg e, if_neg e]; exact h.snoc k p
theorem KR.length {ds : List (Key × D)} {vs : List (Key × V)} (h : KR K W H ds vs) : ds.length = vs.length := by
  induction h with
  | nil => rfl
  | cons _ _ ih => rw [List.length_cons, List.length_cons, ih]
theorem FR.look {ds : List (Str × D)} {vs : List (Str × V)} (h : FR K W H ds vs) (k : Str) {d : D} (e : ds.lookup k = some d) : ∃ v, vs.lookup k = some v ∧ Rep K W H d v := by
  induction h with
  | nil => cases e
  | @cons k' d' v' ds vs p _ ih =>
    rw [List.lookup_cons] at e ⊢
    cases q : k == k' with
    | true => rw [q] at e; cases e; exact ⟨v', rfl, p⟩
    | false => rw [q] at e; exact ih e
theorem FR.lookN {ds : List (Str × D)} {vs : List (Str × V)} (h : FR K W H ds vs) (k : Str) (e : ds.lookup k = none) : vs.lookup k = none := by
  induction h with
  | nil => rfl
  | @cons k' d' v' ds vs p _ ih =>
    rw [List.lookup_cons] at e ⊢
    cases q : k == k' with
    | true => rw [q] at e; cases e
    | false => rw [q] at e; exact ih e

theorem FR.length {ds : List (Str × D)} {vs : List (Str × V)} (h : FR K W H ds vs) : ds.length = vs.length := by
  induction h with
  | nil => rfl
  | cons _ _ ih => rw [List.length_cons, List.length_cons, ih]
theorem FR.put {ds : List (Str × D)} {vs : List (Str × V)} (h : FR K W H ds vs) (f : Str) {d : D} {v : V} (p : Rep K W H d v) : FR K W H (putFD f d ds) (putF f v vs) := by
  induction h with
  | nil => exact .cons p .nil
  | @cons k' d' v' ds vs p' hr ih =>
    unfold putFD putF
    by_cases e : k' = f
    · rw [if_pos e, if_pos e]; exact .cons p hr
    · rw [if_neg e, if_neg e]; exact .cons p' ih
/-- truth -/
theorem tru_of (r : Rel K W S H) {x : D} {v : V} {k : Bool} (p : Rep K W H x v) (h : truD S x = some k) : TruV K.K v H k := by
  cases p with
  | non => cases h; rfl
  | bl b => cases h; rfl
  | int i => cases h; rfl
  | str y =>
    dsimp only [truD] at h
    by_cases e : y.length ≤ sizeLine
    · rw [if_pos e] at h; cases h; exact ⟨e, rfl⟩
    · rw [if_neg e] at h; cases h
  | tup f q => cases h; exact .inr (.inl ⟨_, f.sq, by rw [q.isEmpty]⟩)
  | lst _ e q => cases h; exact .inl ⟨_, SqL.of e, by rw [q.isEmpty]⟩
  | scr f => cases h; exact .inl ⟨_, f.sq, by rw [List.isEmpty_map]⟩
  | @loc n a e =>
    dsimp only [truD] at h
    cases q : S n with
    | none => rw [q] at h; cases h
    | some o =>
      rw [q] at h
      cases o with
      | lst ys =>
        cases h
        obtain ⟨vs, h2, h3⟩ := loc_lst r q e
        exact .inl ⟨_, SqL.of h2, by rw [h3.isEmpty]⟩
      | dic ys =>
        cases h
        obtain ⟨vs, h2, h3⟩ := loc_dic r q e
        exact .inr (.inr ⟨_, h2, by rw [h3.isEmpty]⟩)
      | ins _ _ => cases h
  | kd _ => cases h

/-! ### deep data -/
mutual
theorem pd_dp {K : Frg} {W : Wd} {H : Hp} : ∀ {x : D} {v : V} {d : PyData}, Rep K W H x v → pd x = some d → Dp K.K H v d
  | _, _, _, .non, h => by cases h; exact .non
  | _, _, _, .bl b, h => by cases h; exact .bl b
  | _, _, _, .int i, h => by cases h; exact .int i
  | _, _, _, .str y, h => by cases h; exact .str y
  | .tup xs, _, _, .tup f q, h => by
    unfold pd at h
    cases e : pds xs with
    | none => rw [e] at h; cases h
    | some ds => rw [e] at h; cases h; exact .tup f.sq (pds_dp q e)
  | .lst xs, _, _, .lst _ l q, h => by
    unfold pd at h
    cases e : pds xs with
    | none => rw [e] at h; cases h
    | some ds => rw [e] at h; cases h; exact .lst (SqL.of l) (pds_dp q e)
  | .scr ns, _, _, .scr f, h => by
    cases h
    refine .lst f.sq ?_
    clear f
    induction ns with
    | nil => exact .nil
    | cons n ns ih => exact .cons (.int n) ih
  | _, _, _, .loc _, h => by cases h
  | _, _, _, .kd _, h => by cases h
theorem pds_dp {K : Frg} {W : Wd} {H : Hp} : ∀ {xs : List D} {vs : List V} {ds : List PyData}, Reps K W H xs vs → pds xs = some ds → DpAll K.K H vs ds
  | [], _, _, .nil, h => by cases h; exact .nil
  | x :: xs, _, _, .cons p q, h => by
    unfold pds at h
    cases e : pd x with
    | none => rw [e] at h; simp at h
    | some d =>
      cases e' : pds xs with
      | none => rw [e, e'] at h; cases h
      | some ds => rw [e, e'] at h; cases h; exact .cons (pd_dp p e) (pds_dp q e')
end
end
/-! constants -/
mutual
theorem relD_ok {K : Frg} : ∀ (d : D) (u : Value), relD K.K d u = true → ∃ v, RelV v u ∧ ∀ W H, Rep K W H d v
  | .lst _, u, h => by cases u <;> simp [relD] at h
  | .scr _, u, h => by cases u <;> simp [relD] at h
  | .loc _, u, h => by cases u <;> simp [relD] at h
  | .kd _ _, u, h => by cases u <;> simp [relD] at h
  | .non, u, h => by cases u <;> first | exact ⟨.non, rfl, fun _ _ => .non⟩ | simp [relD] at h
  | .bl b, u, h => by cases u <;> first | exact ⟨.bl b, by simp only [relD, beq_iff_eq] at h; rw [h]; rfl, fun _ _ => .bl b⟩ | simp [relD] at h
  | .int i, u, h => by cases u <;> first | exact ⟨.int i, by simp only [relD, decide_eq_true_eq] at h; rw [h]; exact ⟨_, rfl⟩, fun _ _ => .int i⟩ | simp [relD] at h
  | .str i, u, h => by cases u <;> first | exact ⟨.str i, by simp only [relD, decide_eq_true_eq] at h; rw [h]; exact ⟨_, rfl⟩, fun _ _ => .str i⟩ | simp [relD] at h
  | .tup ds, u, h => by
    cases u with
    | ref a =>
      simp only [relD] at h
      split at h
      · rename_i c od its n osl e
        simp only [Bool.and_eq_true, decide_eq_true_eq] at h
        obtain ⟨h1, h2, h3⟩ := h
        obtain ⟨vs, r1, r2⟩ := relDs_ok ds _ h3
        exact ⟨.ref a, rfl, fun W H => .tup (.inr fun H' => .inr ⟨_, its, n, e, congrArg Value.type h1, rfl, h2, r1⟩) (r2 W H)⟩
      · cases h
    | _ => simp [relD] at h
theorem relDs_ok {K : Frg} : ∀ (ds : List D) (us : List Value), relDs K.K ds us = true → ∃ vs, Vals vs us ∧ ∀ W H, Reps K W H ds vs
  | [], [], _ => ⟨[], .nil, fun _ _ => .nil⟩
  | d :: ds, u :: us, h => by
    simp only [relDs, Bool.and_eq_true] at h
    obtain ⟨v, a, b⟩ := relD_ok d u h.1
    obtain ⟨vs, a', b'⟩ := relDs_ok ds us h.2
    exact ⟨v :: vs, .cons a a', fun W H => .cons (b W H) (b' W H)⟩
  | [], _ :: _, h => by simp [relDs] at h
  | _ :: _, [], h => by simp [relDs] at h
end
end Mi
set_option maxHeartbeats 4000000
/-! MiT: tuple * 1 and tuple * 0. -/
namespace Mi
open PySem PySem.Spec PyProof.Rows L2
theorem tuple_mulW1 (l : Addr) (items : Array Value) (n : Nat) (dd : Option Addr) (sl : Array (Option Value)) (u : Tok) (c1 : (items.isEmpty || (1 : Int) == 1) = true) :
    Meets (Builtin.«tuple.__mul__» ⟨[.ref l, .int 1 u], []⟩) (fun _ R s => s.heap.get? l = some { cls := .type "tuple", dict := dd, data := .seq items n, slots := sl } ∧
      R (.ok (.ret (Value.ref l))) s) :=
  .of_wp fun prog w A R s h => by
    obtain ⟨hp, g, d, tk, os⟩ := s
    obtain ⟨hl, h⟩ := h
    have f1 := AutoSeq1.idx_int
    wp_walk using wpAny_loadPart' hl
    exact ⟨_, rfl, h⟩
theorem tuple_mulW0 (l : Addr) (items : Array Value) (n : Nat) (dd : Option Addr) (sl : Array (Option Value)) (u : Tok) (c1 : (items.isEmpty || (0 : Int) == 1) = false) :
    Meets (Builtin.«tuple.__mul__» ⟨[.ref l, .int 0 u], []⟩) (fun _ R s => s.heap.get? l = some { cls := .type "tuple", dict := dd, data := .seq items n, slots := sl } ∧
      R (.ok (.ret (Value.ref s.heap.objs.size))) { s with heap := s.heap.push { cls := Value.type "tuple", data := Data.seq #[] }, toks := s.toks }) :=
  .of_wp fun prog w A R s h => by
    obtain ⟨hp, g, d, tk, os⟩ := s
    obtain ⟨hl, h⟩ := h
    have f1 := AutoSeq1.idx_int
    wp_walk using wpAny_loadPart' hl
    repeat (first
      | (refine wpAny_ite_false (decide_eq_false (by rw [c1]; exact Bool.false_ne_true)) ?_; wp_walk using wpAny_loadPart' hl))
    exact ⟨_, rfl, h⟩
section
variable {X : Cx}
def rRep01 (K : PySem.W.Frag) : R2 := fun x y H Q => ∃ l xs, x = .ref l ∧ SqT K H l xs ∧ xs ≠ [] ∧ ((y = .int 1 ∧ Q (.ref l) H) ∨ (y = .int 0 ∧ ∀ p, H p = none → Q (.ref p) (upd H p (.tup []))))
theorem op_rep01 : OpR X (binaryOp .Mult) (rRep01 X.K) := by
  intro pins s σ H x y v u Q I rx ry h
  obtain ⟨l, xs, rfl, hT, hne, h⟩ := h
  cases rx
  obtain ⟨its, r, ⟨⟨cls, dd, data, sl⟩, ho, hc, n, hd⟩, hs⟩ := I.tuple hT
  simp only at hc hd
  subst hc hd
  have hle : its.length = xs.length := r.length.symm
  have hn : its ≠ [] := fun e => hne (by
    rw [e] at hle
    exact List.eq_nil_of_length_eq_zero hle.symm)
  have hi : its.toArray.isEmpty = false := by
    cases its with
    | nil => exact absurd rfl hn
    | cons a b => rfl
  rcases h with ⟨rfl, q⟩ | ⟨rfl, q⟩
  · obtain ⟨t, rfl⟩ := ry
    have c1 : (its.toArray.isEmpty || (1 : Int) == 1) = true := by rw [hi]; rfl
    refine wpAny_binaryOp_repeat_ref (T := "tuple") (U := "int") (by decide) ⟨_, ho, rfl⟩ (fun s' => typeIs_int s' 1 t) noFill_tuple_mul F.fills_int_mul F.slot_int_rmul repeat_tuple F.slot_int_index.lookup
      (call_meets F.slot_int_rmul (typeIs_int s 1 t) F.entry_int_rmul (F.args_int_rmul_2 _ _) (int_rmul_tuple 1 t l its.toArray n dd sl)
        ⟨ho, rfl, ⟨_, ho, rfl⟩, call_meets F.slot_tuple_mul ⟨_, ho, rfl⟩ F.entry_tuple_mul (F.args_tuple_mul_2 _ _) (tuple_mulW1 l its.toArray n dd sl t c1) ⟨ho, ?_⟩⟩)
    exact ⟨.ref l, _, I, rfl, q⟩
  · obtain ⟨t, rfl⟩ := ry
    have c1 : (its.toArray.isEmpty || (0 : Int) == 1) = false := by rw [hi]; rfl
    refine wpAny_binaryOp_repeat_ref (T := "tuple") (U := "int") (by decide) ⟨_, ho, rfl⟩ (fun s' => typeIs_int s' 0 t) noFill_tuple_mul F.fills_int_mul F.slot_int_rmul repeat_tuple F.slot_int_index.lookup
      (call_meets F.slot_int_rmul (typeIs_int s 0 t) F.entry_int_rmul (F.args_int_rmul_2 _ _) (int_rmul_tuple 0 t l its.toArray n dd sl)
        ⟨ho, rfl, ⟨_, ho, rfl⟩, call_meets F.slot_tuple_mul ⟨_, ho, rfl⟩ F.entry_tuple_mul (F.args_tuple_mul_2 _ _) (tuple_mulW0 l its.toArray n dd sl t c1) ⟨ho, ?_⟩⟩)
    refine ⟨.ref s.heap.objs.size, _, I.laid (t' := s.toks) (o := .tup []) (fun b ob q => Heap.get?_push_of_some _ q) (Nat.le_refl _) ?_, rfl, q _ (I.hok.fresh (Nat.le_refl _))⟩
    exact ⟨by simp, [], .nil, IsTup.new _ _⟩
end
end Mi
set_option maxHeartbeats 4000000
/-! Mi4: the machine's operators, by the small language's values. -/
namespace Mi
open PySem PySem.Spec PyProof.Rows L2

def opE : Op → Operator
  | .add => .Add | .sub => .Sub | .mul => .Mult | .fdiv => .FloorDiv | .mod => .Mod | .pow => .Pow
def cpE : Cp → CmpOp
  | .eq => .Eq | .ne => .NotEq | .lt => .Lt | .le => .LtE | .gt => .Gt | .ge => .GtE | .is_ => .Is | .nis => .IsNot | .in_ => .In | .nin => .NotIn

def rBin (K : Frg) (o : Op) : R2 := fun x y H Q => ∃ W S dx dy z, Rel K W S H ∧ Rep K W H dx x ∧ Rep K W H dy y ∧ binD o S dx dy = some z ∧ Out K W S H z S Q
def rCmp (K : Frg) (o : Cp) : R2 := fun x y H Q => ∃ W S dx dy k, Rel K W S H ∧ Rep K W H dx x ∧ Rep K W H dy y ∧ cmpD o S dx dy = some k ∧ Q (.bl k) H

theorem reps_rep' {K : Frg} {W : Wd} {H : Hp} {ds : List D} {vs : List V} (r : Reps K W H ds vs) : ∀ n : Nat, Reps K W H (List.replicate n ds).flatten (List.replicate n vs).flatten
  | 0 => .nil
  | n + 1 => by
    rw [List.replicate_succ, List.replicate_succ, List.flatten_cons, List.flatten_cons]
    exact r.append (reps_rep' r n)
section
variable {X : Cx} {K : Frg} (hK : X.K = K.K)
include hK

theorem op_bin (o : Op) : OpR X (binaryOp (opE o)) (rBin K o) := by
  intro pins s σ H x y v u Q I rx ry ⟨W, S, dx, dy, z, r, px, py, e, q⟩
  cases o with
  | add =>
    cases px with
    | int i =>
      cases py with
      | int j => cases e; exact op_add pins s σ H _ _ v u Q I rx ry ⟨i, j, rfl, rfl, q.now r (.int _)⟩
      | _ => cases e
    | str a =>
      cases py with
      | str b =>
        dsimp only [binD] at e
        by_cases h : a.length + b.length ≤ sizeLine
        · rw [if_pos h] at e; cases e
          exact op_add_str pins s σ H _ _ v u Q I rx ry ⟨a, b, rfl, rfl, h, q.now r (.str _)⟩
        · rw [if_neg h] at e; cases e
      | _ => cases e
    | tup fa qa =>
      cases py with
      | tup fb qb =>
        dsimp only [binD] at e
        split at e
        · rename_i h
          cases e
          rw [qa.length, qb.length] at h
          refine op_catA pins s σ H _ _ v u Q I rx ry ⟨_, _, _, _, rfl, rfl, hK ▸ fa.sq, hK ▸ fb.sq, h, ?_⟩
          refine ⟨fun h1 => ?_, fun h1 h2 => ?_, fun h1 h2 => q.tup r (qa.append qb)⟩
          · subst h1
            cases qa
            exact q.now r (.tup fb qb)
          · subst h2
            cases qb
            rw [List.append_nil] at q
            exact q.now r (.tup fa qa)
        · cases e
      | _ => cases e
    | lst _ ea qa =>
      dsimp only [binD] at e
      split at e
      · rename_i b hb
        split at e
        · rename_i h
          cases e
          obtain ⟨b', vs, rfl, eb, qb⟩ := lst_of r py hb
          rw [qa.length, qb.length] at h
          exact op_cat pins s σ H _ _ v u Q I rx ry ⟨_, _, _, _, rfl, rfl, ea, eb, h, q.lst r (qa.append qb)⟩
        · cases e
      · cases e
    | @loc n a0 hn =>
      dsimp only [binD] at e
      split at e
      · rename_i a b ha hb
        split at e
        · rename_i h
          cases e
          obtain ⟨a', us, ha1, ea, qa⟩ := lst_of r (Rep.loc hn) ha
          cases ha1
          obtain ⟨b', vs, rfl, eb, qb⟩ := lst_of r py hb
          rw [qa.length, qb.length] at h
          exact op_cat pins s σ H _ _ v u Q I rx ry ⟨_, _, _, _, rfl, rfl, ea, eb, h, q.lst r (qa.append qb)⟩
        · cases e
      · cases e
    | _ => cases e
  | sub =>
    cases px with
    | int i =>
      cases py with
      | int j => cases e; exact op_sub pins s σ H _ _ v u Q I rx ry ⟨i, j, rfl, rfl, q.now r (.int _)⟩
      | _ => cases e
    | _ => cases e
  | mul =>
    cases px with
    | int i =>
      cases py with
      | int j =>
        dsimp only [binD] at e
        split at e
        · rename_i h
          cases e
          refine op_mul pins s σ H _ _ v u Q I rx ry ⟨i, j, rfl, rfl, ?_, q.now r (.int _)⟩
          unfold mulOk at h
          rcases Bool.or_eq_true_iff.mp h with h | h
          · exact .inl (of_decide_eq_true h)
          · exact .inr (of_decide_eq_true h)
        · cases e
      | _ => cases e
    | lst _ ea qa =>
      cases py with
      | int j =>
        dsimp only [binD] at e
        split at e
        · rename_i h
          cases e
          obtain ⟨h1, h2, h3⟩ := h
          rw [qa.length] at h3
          exact op_rep pins s σ H _ _ v u Q I rx ry ⟨_, j, _, rfl, rfl, ea, h1, h2, h3, q.lst r (Mi.reps_rep' qa j.toNat)⟩
        · cases e
      | _ => cases e
    | tup fa qa =>
      cases py with
      | int j =>
        dsimp only [binD] at e
        split at e
        · rename_i h
          cases e
          obtain ⟨h1, h2, h3, h4⟩ := h
          rw [qa.length] at h4
          have hne : ∀ {ds : List D} {vs : List V}, Reps K W H ds vs → ds.isEmpty = false → vs ≠ [] := fun p h e => by subst e; cases p; cases h
          by_cases j1 : j = 1
          · subst j1
            refine op_rep01 pins s σ H _ _ v u Q I rx ry ⟨_, _, rfl, hK ▸ fa.sq, hne qa h1, .inl ⟨rfl, ?_⟩⟩
            have e1 : ∀ ds : List D, (List.replicate (1 : Int).toNat ds).flatten = ds := fun ds => by show (List.replicate 1 ds).flatten = ds; simp
            rw [e1] at q
            exact q.now r (.tup fa qa)
          by_cases j0 : j = 0
          · subst j0
            exact op_rep01 pins s σ H _ _ v u Q I rx ry ⟨_, _, rfl, hK ▸ fa.sq, hne qa h1, .inr ⟨rfl, q.tup r .nil⟩⟩
          exact L2.op_repT pins s σ H _ _ v u Q I rx ry ⟨_, j, _, rfl, rfl, hK ▸ fa.sq, hne qa h1, by omega, h3, h4, q.tup r (Mi.reps_rep' qa j.toNat)⟩
        · cases e
      | _ => cases e
    | _ => cases e
  | fdiv =>
    cases px with
    | int i =>
      cases py with
      | int j =>
        dsimp only [binD] at e
        split at e
        · rename_i h
          cases e
          exact op_fdivW pins s σ H _ _ v u Q I rx ry ⟨i, j, rfl, rfl, wide_div h.1 (b := 64) (by omega) (by decide) (by decide), q.now r (.int _)⟩
        · cases e
      | _ => cases e
    | _ => cases e
  | mod =>
    cases px with
    | int i =>
      cases py with
      | int j =>
        dsimp only [binD] at e
        split at e
        · rename_i h
          cases e
          exact op_mod pins s σ H _ _ v u Q I rx ry ⟨i, j, rfl, rfl, h, q.now r (.int _)⟩
        · cases e
      | _ => cases e
    | _ => cases e
  | pow =>
    cases px with
    | int i =>
      cases py with
      | int j =>
        dsimp only [binD] at e
        split at e
        · rename_i h
          cases e
          exact op_pow pins s σ H _ _ v u Q I rx ry ⟨i, j, rfl, rfl, ⟨h.1, by omega, by omega⟩, q.now r (.int _)⟩
        · cases e
      | _ => cases e
    | _ => cases e

/-- == -/
theorem eq_flat {W : Wd} {H : Hp} {dx dy : D} {x y : V} {k : Bool} (px : Rep K W H dx x) (py : Rep K W H dy y) (e : eqD dx dy = some k) :
    (scal x y = true ∧ k = decide (x = y)) ∨ ∃ a b, pd dx = some a ∧ pd dy = some b ∧ a.canLay0 = true ∧ b.canLay0 = true ∧ a.depth ≤ 150 ∧ k = PyData.eqv a b := by
  have deep : (match pd dx, pd dy with
      | some a, some b => if a.canLay0 && b.canLay0 && decide (a.depth ≤ 150) then some (PyData.eqv a b) else none
      | _, _ => none) = some k → ∃ a b, pd dx = some a ∧ pd dy = some b ∧ a.canLay0 = true ∧ b.canLay0 = true ∧ a.depth ≤ 150 ∧ k = PyData.eqv a b := fun h => by
    split at h
    · rename_i a b ha hb
      split at h
      · rename_i c
        simp only [Bool.and_eq_true, decide_eq_true_eq] at c
        cases h
        exact ⟨a, b, ha, hb, c.1.1, c.1.2, c.2, rfl⟩
      · cases h
    · cases h
  cases px <;> cases py <;> first
    | (cases e; refine .inl ⟨rfl, ?_⟩; simp; done)
    | (cases e; refine .inl ⟨rfl, ?_⟩; rfl)
    | exact .inr (deep e)

theorem eqD_lst_l (xs : List D) (y : D) : eqD (.lst xs) y = (match pd (.lst xs), pd y with
    | some a, some b => if a.canLay0 && b.canLay0 && decide (a.depth ≤ 150) then some (PyData.eqv a b) else none
    | _, _ => none) := by cases y <;> rfl
theorem eqD_lst_r (xs : List D) (y : D) : eqD y (.lst xs) = (match pd y, pd (.lst xs) with
    | some a, some b => if a.canLay0 && b.canLay0 && decide (a.depth ≤ 150) then some (PyData.eqv a b) else none
    | _, _ => none) := by cases y <;> rfl
theorem eqD_loc_l (n : Nat) (y : D) : eqD (.loc n) y = none := by cases y <;> rfl
theorem eqD_loc_r (n : Nat) (y : D) : eqD y (.loc n) = none := by
  have : ∀ o : Option PyData, (match o, (none : Option PyData) with
    | some a, some b => if a.canLay0 && b.canLay0 && decide (a.depth ≤ 150) then some (PyData.eqv a b) else none
    | _, _ => none) = (none : Option Bool) := fun o => by cases o <;> rfl
  cases y <;> first | rfl | exact this (pd (.tup _)) | exact this (pd (.lst _))
theorem dat_of {W : Wd} {S : Sto} {H : Hp} {d : D} {v : V} {a : PyData} (r : Rel K W S H) (p : Rep K W H d v) (h : pd (frzD S d) = some a) : Dp K.K H v a := by
  cases p with
  | @loc n b hn =>
    dsimp only [frzD] at h
    split at h
    · rename_i xs e
      obtain ⟨vs, l, qs⟩ := loc_lst r e hn
      unfold pd at h
      cases e2 : pds xs with
      | none => rw [e2] at h; cases h
      | some ds => rw [e2] at h; cases h; exact .lst (SqL.of l) (pds_dp qs e2)
    · cases h
  | non => exact pd_dp (W := W) .non h
  | bl b => exact pd_dp (W := W) (.bl b) h
  | int b => exact pd_dp (W := W) (.int b) h
  | str b => exact pd_dp (W := W) (.str b) h
  | tup f q => exact pd_dp (W := W) (.tup f q) h
  | lst f l q => exact pd_dp (W := W) (.lst f l q) h
  | scr f => exact pd_dp (W := W) (.scr f) h
  | kd f => cases h
/-- == , lists of the store too -/
theorem eq_data {W : Wd} {S : Sto} {H : Hp} {dx dy : D} {x y : V} {k : Bool} (r : Rel K W S H) (px : Rep K W H dx x) (py : Rep K W H dy y) (e : eqD (frzD S dx) (frzD S dy) = some k) :
    (scal x y = true ∧ k = decide (x = y)) ∨ ∃ a b, pd (frzD S dx) = some a ∧ pd (frzD S dy) = some b ∧ a.canLay0 = true ∧ b.canLay0 = true ∧ a.depth ≤ 150 ∧ k = PyData.eqv a b := by
  have deep : (match pd (frzD S dx), pd (frzD S dy) with
      | some a, some b => if a.canLay0 && b.canLay0 && decide (a.depth ≤ 150) then some (PyData.eqv a b) else none
      | _, _ => none) = some k → ∃ a b, pd (frzD S dx) = some a ∧ pd (frzD S dy) = some b ∧ a.canLay0 = true ∧ b.canLay0 = true ∧ a.depth ≤ 150 ∧ k = PyData.eqv a b := fun h => by
    split at h
    · rename_i a b ha hb
      split at h
      · rename_i c
        simp only [Bool.and_eq_true, decide_eq_true_eq] at c
        cases h
        exact ⟨a, b, ha, hb, c.1.1, c.1.2, c.2, rfl⟩
      · cases h
    · cases h
  have loc : ∀ n, (∃ xs, frzD S (.loc n) = .lst xs) ∨ frzD S (.loc n) = .loc n := fun n => by
    dsimp only [frzD]
    split
    · exact .inl ⟨_, rfl⟩
    · exact .inr rfl
  by_cases hx : ∃ n, dx = .loc n
  · obtain ⟨n, rfl⟩ := hx
    rcases loc n with ⟨xs, h⟩ | h
    · refine .inr (deep ?_)
      rw [h] at e ⊢
      rw [← eqD_lst_l hK]; exact e
    · rw [h, eqD_loc_l hK] at e; cases e
  · by_cases hy : ∃ n, dy = .loc n
    · obtain ⟨n, rfl⟩ := hy
      rcases loc n with ⟨xs, h⟩ | h
      · refine .inr (deep ?_)
        rw [h] at e ⊢
        rw [← eqD_lst_r hK]; exact e
      · rw [h, eqD_loc_r hK] at e; cases e
    · have fx : frzD S dx = dx := by
        cases dx <;> first | rfl | exact absurd ⟨_, rfl⟩ hx
      have fy : frzD S dy = dy := by
        cases dy <;> first | rfl | exact absurd ⟨_, rfl⟩ hy
      rw [fx, fy] at e ⊢
      exact eq_flat hK px py e
theorem eqF_ok {W : Wd} {S : Sto} {H : Hp} {dx dy : D} {x y : V} {pins : List (Addr × Obj)} {σ : L2.St} {s : Shared} {v u : Value} {A : Around} (I : Inv X pins σ H s) (px : Rep K W H dx x) (py : Rep K W H dy y) (h : eqF dx dy = true) (rx : RelV x v) (ry : RelV y u) (hu : A.units + 160 < cLine) : SeqAt.EqAt A s v u true := by
  unfold eqF at h
  split at h
  · rename_i a b ha hb
    simp only [Bool.and_eq_true, decide_eq_true_eq] at h
    obtain ⟨⟨⟨la, lb⟩, hd⟩, he⟩ := h
    obtain ⟨as, r1⟩ := Dp.reads I a x v (hK ▸ pd_dp px ha) rx
    obtain ⟨bs, r2⟩ := Dp.reads I b y u (hK ▸ pd_dp py hb) ry
    have := SeqAt.eqAt_reads a b A s v u as bs r1 r2 la lb (by omega)
    rw [he] at this
    exact this
  · cases h
theorem hits_dd {W : Wd} {S : Sto} {H : Hp} {pins : List (Addr × Obj)} {σ : L2.St} {s : Shared} {A : Around} (I : Inv X pins σ H s) (hu : A.units + 160 < cLine) {db : List (L2.Key × D)} {ls : List (L2.Key × V)} {vb : List (L2.Key × Value)} (qb : KR K W H db ls) (rb : KV ls vb) :
    ∀ {da : List (L2.Key × D)} {ks : List (L2.Key × V)} {va : List (L2.Key × Value)}, KR K W H da ks → KV ks va → (da.all fun p => match lkD db p.1 with
      | some u => eqF p.2 u
      | none => false) = true → PySem.W.KeqHits A s vb va true := by
  intro da ks va qa ra
  induction qa generalizing va with
  | nil => intro _; cases ra; exact .nil
  | @cons k d v ds vs p _ ih =>
    intro h
    rw [List.all_cons, Bool.and_eq_true] at h
    unfold KV at ra
    cases ra with
    | @cons _ q _ qs h1 t =>
      obtain ⟨key, w⟩ := q
      obtain ⟨h1, h2⟩ := h1
      have h1' : k = key := h1
      subst h1'
      have hl := h.1
      split at hl
      · rename_i u e
        obtain ⟨y, ey, py⟩ := (qb.look k).1 u e
        have rr : RelO (some y) (valueAt vb k) := by rw [← ey]; exact rb.val k
        obtain ⟨y', hy, ry⟩ := rr.some_of
        show PySem.W.KeqHits A s vb ((k, w) :: qs) (true && true)
        exact .hit hy (eqF_ok hK (S := S) I p py hl h2 ry hu) (ih t h.2)
      · cases hl
theorem op_dic {W : Wd} {S : Sto} {H : Hp} {dx dy : D} {x y : V} {pins : List (Addr × Obj)} {σ : L2.St} {s : Shared} {v u : Value} (I : Inv X pins σ H s) (r : Rel K W S H) (px : Rep K W H dx x) (py : Rep K W H dy y) (h : dicEq S dx dy = true) (rx : RelV x v) (ry : RelV y u) (hu : X.A.units + 200 < cLine) :
    ∃ a b va vb, v = Value.ref a ∧ u = Value.ref b ∧ (a == sysModules) = false ∧ (b == sysModules) = false ∧ s.heap.DictOf (mixKind X.prog X.w) a va ∧ s.heap.DictOf (mixKind X.prog X.w) b vb ∧ va.length = vb.length ∧ PySem.W.KeqHits X.A.in1 s vb va true := by
  unfold dicEq at h
  split at h
  · rename_i n m
    split at h
    · rename_i ka kb ea eb
      cases px with
      | loc hn =>
        cases py with
        | loc hm =>
          obtain ⟨ks, la, qa⟩ := loc_dic r ea hn
          obtain ⟨ls, lb, qb⟩ := loc_dic r eb hm
          simp only [Bool.and_eq_true, decide_eq_true_eq] at h
          obtain ⟨hl, hh⟩ := h
          cases (show v = Value.ref _ from rx)
          cases (show u = Value.ref _ from ry)
          obtain ⟨_, ya, va, ra, da⟩ := (show ObjOk X.prog X.w H s.heap _ (.dK ks) from I.hok _ _ la)
          obtain ⟨_, yb, vb, rb, db⟩ := (show ObjOk X.prog X.w H s.heap _ (.dK ls) from I.hok _ _ lb)
          refine ⟨_, _, va, vb, rfl, rfl, ya, yb, da, db, ?_, hits_dd hK (S := S) I (by show X.A.units + 1 + 160 < cLine; omega) qb rb qa ra hh⟩
          rw [← ra.length, ← rb.length, ← qa.length, ← qb.length]
          exact hl
    · cases h
  · cases h
theorem op_eq_ (o : Cp) (ho : o = .eq ∨ o = .ne) (hu : X.A.units + 200 < cLine) : OpR X (compareOp (cpE o)) (rCmp K o) := by
  intro pins s σ H x y v u Q I rx ry ⟨W, S, dx, dy, k, r, px, py, e, q⟩
  rcases ho with rfl | rfl
  · dsimp only [cmpD] at e
    by_cases hdc : dicEq S dx dy = true
    · rw [if_pos hdc] at e
      cases e
      obtain ⟨a, b, va, vb, rfl, rfl, ya, yb, da, db, hl, hits⟩ := op_dic hK I r px py hdc rx ry hu
      exact PySem.W.keq_eq (knd := mixKind X.prog X.w) (r := true) ya yb da db (by omega) (fun _ => hits) (by rw [hl]; simp; exact ⟨.bl true, H, I, rfl, q⟩)
    · rw [if_neg hdc] at e
      rcases eq_data hK r px py e with ⟨h1, rfl⟩ | ⟨a, b, ha, hb, la, lb, hd, rfl⟩
      · exact op_eq pins s σ H _ _ v u Q I rx ry ⟨h1, q⟩
      · obtain ⟨as, r1⟩ := Dp.reads I a x v (hK ▸ dat_of hK r px ha) rx
        obtain ⟨bs, r2⟩ := Dp.reads I b y u (hK ▸ dat_of hK r py hb) ry
        exact SeqAt.compareEq_reads r1 r2 la lb (by omega) ⟨.bl _, H, I, rfl, q⟩
  · dsimp only [cmpD] at e
    by_cases hdc : dicEq S dx dy = true
    · rw [if_pos hdc] at e
      cases e
      obtain ⟨a, b, va, vb, rfl, rfl, ya, yb, da, db, hl, hits⟩ := op_dic hK I r px py hdc rx ry hu
      exact PySem.W.keq_ne (knd := mixKind X.prog X.w) (r := true) ya yb da db (by omega) (fun _ => hits) (by rw [hl]; simp; exact ⟨.bl false, H, I, rfl, q⟩)
    · rw [if_neg hdc] at e
      cases e' : eqD (frzD S dx) (frzD S dy) with
      | none => rw [e'] at e; cases e
      | some c =>
        rw [e'] at e; cases e
        rcases eq_data hK r px py e' with ⟨h1, rfl⟩ | ⟨a, b, ha, hb, la, lb, hd, rfl⟩
        · exact op_ne pins s σ H _ _ v u Q I rx ry ⟨h1, q⟩
        · obtain ⟨as, r1⟩ := Dp.reads I a x v (hK ▸ dat_of hK r px ha) rx
          obtain ⟨bs, r2⟩ := Dp.reads I b y u (hK ▸ dat_of hK r py hb) ry
          exact SeqAt.compareNe_reads r1 r2 la lb (by omega) ⟨.bl _, H, I, rfl, q⟩
theorem flat_rep {W : Wd} {H : Hp} {d : D} {v : V} (p : Rep K W H d v) (h : flatD d = true) : flatV v = true := by
  cases p <;> first | rfl | cases h
theorem flat_reps {W : Wd} {H : Hp} {ds : List D} {vs : List V} (p : Reps K W H ds vs) (h : ds.all flatD = true) : vs.all flatV = true := by
  induction ds generalizing vs with
  | nil => cases p; rfl
  | cons d ds ih =>
    cases p with
    | cons a b =>
      rw [List.all_cons, Bool.and_eq_true] at h ⊢
      exact ⟨flat_rep hK a h.1, ih b h.2⟩
theorem eqV_flat {W : Wd} {H : Hp} {d e : D} {x y : V} {k : Bool} (p : Rep K W H d x) (q : Rep K W H e y) (h1 : flatD d = true) (h2 : flatD e = true) (h : eqD d e = some k) : eqV x y = k := by
  cases p <;> cases q <;> first
    | (cases h1; done)
    | (cases h2; done)
    | (cases h; rfl)
    | (cases h; simp [eqV]; done)
    | (simp only [eqD, pd, PyData.canLay0, PyData.depth] at h; simp at h; subst h; simp [eqV, PyData.eqv]; done)
theorem inV_flat {W : Wd} {H : Hp} {d : D} {x : V} (p : Rep K W H d x) (h1 : flatD d = true) : ∀ {ds : List D} {vs : List V} {k : Bool}, Reps K W H ds vs → ds.all flatD = true → inD d ds = some k → inV x vs = k
  | [], _, _, .nil, _, h => by cases h; rfl
  | e :: ds, _, k, .cons a b, h2, h => by
    rw [List.all_cons, Bool.and_eq_true] at h2
    dsimp only [inD] at h
    unfold inV
    rw [List.any_cons]
    split at h
    · rename_i c
      cases h
      rw [eqV_flat hK a p h2.1 h1 c]; rfl
    · rename_i c
      rw [eqV_flat hK a p h2.1 h1 c]
      exact inV_flat p h1 b h2.2 h
    · cases h
theorem keyV {W : Wd} {H : Hp} {d : D} {v : V} {k : Key} (p : Rep K W H d v) (h : keyD d = some k) : v = kV k := by
  cases p <;> first | (cases h; rfl) | cases h
theorem op_in_d (hu : X.A.units + 1 < cLine) : OpR X (compareOp .In) (fun x y H Q => ∃ a o, y = .ref a ∧ DGet H a x o ∧ Q (.bl o.isSome) H) := by
  intro pins s σ H x y v u Q I rx ry ⟨a, o, ey, g, q⟩
  subst ey
  obtain rfl : u = Value.ref a := ry
  exact d_in hu I g rx fun s' I' => ⟨.bl _, H, I', rfl, q⟩
theorem op_nin_d (hu : X.A.units + 1 < cLine) : OpR X (compareOp .NotIn) (fun x y H Q => ∃ a o, y = .ref a ∧ DGet H a x o ∧ Q (.bl (!o.isSome)) H) := by
  intro pins s σ H x y v u Q I rx ry ⟨a, o, ey, g, q⟩
  subst ey
  obtain rfl : u = Value.ref a := ry
  exact d_notIn hu I g rx fun s' I' => ⟨.bl _, H, I', rfl, q⟩
theorem op_in_ (o : Cp) (ho : o = .in_ ∨ o = .nin) (hW : X.w = K.w) (hu : X.A.units + 200 < cLine) : OpR X (compareOp (cpE o)) (rCmp K o) := by
  intro pins s σ H x y v u Q I rx ry ⟨W, S, dx, dy, k, r, px, py, e, q⟩
  obtain ⟨b, eb, ek⟩ : ∃ b, inS S dx dy = some b ∧ ((o = .in_ ∧ k = b) ∨ (o = .nin ∧ k = !b)) := by
    rcases ho with rfl | rfl
    · exact ⟨k, e, .inl ⟨rfl, rfl⟩⟩
    · dsimp only [cmpD] at e
      cases c : inS S dx dy with
      | none => rw [c] at e; cases e
      | some b => rw [c] at e; cases e; exact ⟨b, rfl, .inr ⟨rfl, rfl⟩⟩
  have seq : ∀ {ys : List D} {a : Addr} {vs : List V}, inF dx ys = some b → y = .ref a → Sq K.K H a vs → Reps K W H ys vs → wpAny (model X.prog X.w) X.A (compareOp (cpE o) v u) (EP X pins σ Q) X.xe s := by
    intro ys a vs h ey sq qs
    subst ey
    unfold inF at h
    split at h
    · rename_i c
      rw [Bool.and_eq_true] at c
      have sq' : SqL X.K H a vs ∨ SqT X.K H a vs := by
        cases sq with
        | l h => exact .inl (hK ▸ h)
        | t h => exact .inr (hK ▸ h)
      rcases ek with ⟨rfl, rfl⟩ | ⟨rfl, rfl⟩
      · refine op_in_seq pins s σ H _ _ v u Q I rx ry ⟨a, vs, rfl, sq', flat_rep hK px c.1, flat_reps hK qs c.2, ?_⟩
        show Q (.bl (if false = true then _ else _)) H
        rw [if_neg (by decide), inV_flat hK px c.1 qs c.2 h]; exact q
      · refine op_notIn_seq pins s σ H _ _ v u Q I rx ry ⟨a, vs, rfl, sq', flat_rep hK px c.1, flat_reps hK qs c.2, ?_⟩
        show Q (.bl (if true = true then _ else _)) H
        rw [if_pos rfl, inV_flat hK px c.1 qs c.2 h]; exact q
    · unfold inP at h
      split at h
      · rename_i d ds hd hds
        split at h
        · rename_i c
          simp only [Bool.and_eq_true, decide_eq_true_eq] at c
          obtain ⟨⟨c1, c2⟩, c3⟩ := c
          cases h
          obtain ⟨as, r1⟩ := Dp.reads I d x v (hK ▸ pd_dp px hd) rx
          have hroom : X.A.units + 1 + min (PyData.depthAll ds) d.depth < cLine := by omega
          cases sq with
          | l hs =>
            obtain ⟨bs, r2⟩ := Dp.reads I (.list ds) (.ref a) u (.lst (hK ▸ hs) (hK ▸ pds_dp qs hds)) ry
            rcases ek with ⟨rfl, rfl⟩ | ⟨rfl, rfl⟩
            · exact SeqAt.in_list_reads r2 r1 c2 c1 hroom ⟨.bl _, H, I, rfl, q⟩
            · exact SeqAt.notIn_list_reads r2 r1 c2 c1 hroom ⟨.bl _, H, I, rfl, q⟩
          | t hs =>
            obtain ⟨bs, r2⟩ := Dp.reads I (.tuple ds) (.ref a) u (.tup (hK ▸ hs) (hK ▸ pds_dp qs hds)) ry
            rcases ek with ⟨rfl, rfl⟩ | ⟨rfl, rfl⟩
            · exact SeqAt.in_tuple_reads r2 r1 c2 c1 hroom ⟨.bl _, H, I, rfl, q⟩
            · exact SeqAt.notIn_tuple_reads r2 r1 c2 c1 hroom ⟨.bl _, H, I, rfl, q⟩
        · cases h
      · cases h
  have seqs : ∀ {ys : List D}, seqD S dy = some ys → inF dx ys = some b → wpAny (model X.prog X.w) X.A (compareOp (cpE o) v u) (EP X pins σ Q) X.xe s := by
    intro ys hy h
    obtain ⟨a, vs, ey, sq, qs⟩ := seq_of r py hy
    exact seq h ey sq qs
  cases py with
  | @kd a ks ds hk =>
    cases px with
    | str z =>
      obtain ⟨es, n, D⟩ := hk.at_
      have D' : KDict X.K X.w a es n := by rw [hK, hW]; exact D
      have eb : some ((ks.zip ds).lookup z).isSome = some b := eb
      have key : ∃ rr, PySem.W.nsIn X.K a z = some rr ∧ rr.isSome = b := by
        rw [hK]
        cases c : (ks.zip ds).lookup z with
        | none => rw [c] at eb; cases eb; exact ⟨none, hk.no z c, rfl⟩
        | some d => rw [c] at eb; cases eb; obtain ⟨w, h1, _⟩ := hk.yes z d c; exact ⟨some w, h1, rfl⟩
      obtain ⟨rr, h1, h2⟩ := key
      rcases ek with ⟨rfl, rfl⟩ | ⟨rfl, rfl⟩
      · exact op_in_kd D' pins s σ H _ _ v u Q I rx ry ⟨z, rr, rfl, rfl, h1, h2 ▸ q⟩
      · exact op_notIn_kd D' pins s σ H _ _ v u Q I rx ry ⟨z, rr, rfl, rfl, h1, h2 ▸ q⟩
    | _ => cases eb
  | @loc m a hm =>
    dsimp only [inS] at eb
    split at eb
    · rename_i kvs hd
      cases ck : keyD dx with
      | none => rw [ck] at eb; cases eb
      | some kk =>
        rw [ck] at eb; cases eb
        have ex := keyV hK px ck
        subst ex
        obtain ⟨vs, l, qs⟩ := loc_dic r hd hm
        have es : (valV vs kk).isSome = (lkD kvs kk).isSome := by
          cases c : lkD kvs kk with
          | none => rw [(qs.look kk).2 c]; rfl
          | some d => obtain ⟨w, h1, _⟩ := (qs.look kk).1 d c; rw [h1]; rfl
        rcases ek with ⟨rfl, rfl⟩ | ⟨rfl, rfl⟩
        · exact op_in_d hK (by omega) pins s σ H _ _ v u Q I rx ry ⟨a, _, rfl, DGet.k l, es ▸ q⟩
        · exact op_nin_d hK (by omega) pins s σ H _ _ v u Q I rx ry ⟨a, _, rfl, DGet.k l, es ▸ q⟩
    · rename_i ys hd
      obtain ⟨vs, l, qs⟩ := loc_lst r hd hm
      exact seq eb rfl (.l (SqL.of l)) qs
    · cases eb
  | non => cases eb
  | bl _ => cases eb
  | int _ => cases eb
  | str _ => cases eb
  | tup f p => exact seqs rfl eb
  | lst f l p => exact seqs rfl eb
  | scr f => exact seqs rfl eb
theorem op_ord (o : Cp) (ho : o = .lt ∨ o = .le ∨ o = .gt ∨ o = .ge) : OpR X (compareOp (cpE o)) (rCmp K o) := by
  intro pins s σ H x y v u Q I rx ry ⟨W, S, dx, dy, k, r, px, py, e, q⟩
  rcases ho with rfl | rfl | rfl | rfl
  all_goals
    cases px with
    | int i =>
      cases py with
      | int j =>
        cases e
        first
          | exact op_lt pins s σ H _ _ v u Q I rx ry ⟨i, j, rfl, rfl, q⟩
          | exact op_le pins s σ H _ _ v u Q I rx ry ⟨i, j, rfl, rfl, q⟩
          | exact op_gt pins s σ H _ _ v u Q I rx ry ⟨i, j, rfl, rfl, q⟩
          | exact op_ge pins s σ H _ _ v u Q I rx ry ⟨i, j, rfl, rfl, q⟩
      | _ => cases e
    | _ => cases e
theorem is_non {W : Wd} {H : Hp} {d : D} {v : V} {k : Bool} (p : Rep K W H d v) (h : isD d .non = some k) : k = decide (v = .non) := by
  cases p <;> (cases h; simp)
/-- is, of anything and a truth -/
theorem is_bl {W : Wd} {H : Hp} {d : D} {x : V} {v : Value} {b k : Bool} (p : Rep K W H d x) (rx : L2.RelV x v) (h : isD d (.bl b) = some k) : (k = true ∧ v = .bool b) ∨ (k = false ∧ v ≠ .bool b ∧ plainIs v (.bool b) = true) := by
  cases p with
  | bl a =>
    cases h
    cases (show v = Value.bool a from rx)
    by_cases e : a = b
    · subst e; exact .inl ⟨by simp, rfl⟩
    · exact .inr ⟨by simp [e], fun z => e (Value.bool.inj z), rfl⟩
  | int i => cases h; obtain ⟨t, rfl⟩ := (show ∃ t, v = Value.int i t from rx); exact .inr ⟨rfl, fun z => (by cases z), rfl⟩
  | str i => cases h; obtain ⟨t, rfl⟩ := (show ∃ t, v = Value.str i t from rx); exact .inr ⟨rfl, fun z => (by cases z), rfl⟩
  | non => cases h; cases (show v = Value.none from rx); exact .inr ⟨rfl, fun z => (by cases z), rfl⟩
  | @tup a _ _ _ _ => cases h; cases (show v = Value.ref a from rx); exact .inr ⟨rfl, fun z => (by cases z), rfl⟩
  | @lst a _ _ _ _ _ => cases h; cases (show v = Value.ref a from rx); exact .inr ⟨rfl, fun z => (by cases z), rfl⟩
  | @scr a _ _ => cases h; cases (show v = Value.ref a from rx); exact .inr ⟨rfl, fun z => (by cases z), rfl⟩
  | @loc _ a _ => cases h; cases (show v = Value.ref a from rx); exact .inr ⟨rfl, fun z => (by cases z), rfl⟩
  | @kd a _ _ _ => cases h; cases (show v = Value.ref a from rx); exact .inr ⟨rfl, fun z => (by cases z), rfl⟩
theorem op_is_ (o : Cp) (ho : o = .is_ ∨ o = .nis) : OpR X (compareOp (cpE o)) (rCmp K o) := by
  intro pins s σ H x y v u Q I rx ry ⟨W, S, dx, dy, k, r, px, py, e, q⟩
  rcases ho with rfl | rfl
  · cases py with
    | non =>
      have e' := is_non hK px e
      subst e'
      exact op_isN pins s σ H _ _ v u Q I rx ry ⟨rfl, q⟩
    | bl b =>
      cases (show u = Value.bool b from ry)
      rcases is_bl hK px rx e with ⟨rfl, rfl⟩ | ⟨rfl, h2⟩
      · exact wpAny_is_self rfl ⟨.bl true, H, I, rfl, q⟩
      · exact wpAny_is_other h2.2 h2.1 ⟨.bl false, H, I, rfl, q⟩
    | _ => cases e
  · cases py with
    | non =>
      dsimp only [cmpD] at e
      cases c : isD dx .non with
      | none => rw [c] at e; cases e
      | some k' =>
        rw [c] at e; cases e
        have e' := is_non hK px c
        subst e'
        exact op_notN pins s σ H _ _ v u Q I rx ry ⟨rfl, q⟩
    | bl b =>
      dsimp only [cmpD] at e
      cases c : isD dx (.bl b) with
      | none => rw [c] at e; cases e
      | some k' =>
        rw [c] at e; cases e
        cases (show u = Value.bool b from ry)
        rcases is_bl hK px rx c with ⟨rfl, rfl⟩ | ⟨rfl, h2⟩
        · exact wpAny_isNot_self rfl ⟨.bl false, H, I, rfl, q⟩
        · exact wpAny_isNot_other h2.2 h2.1 ⟨.bl true, H, I, rfl, q⟩
    | _ => cases e
/-- + of lists, what it gives in the store -/
def rMad (K : Frg) : R2 := fun x y H Q => ∃ W S dx dy xs ys, Rel K W S H ∧ Rep K W H dx x ∧ Rep K W H dy y ∧ lstD S dx = some xs ∧ lstD S dy = some ys ∧ xs.length + ys.length ≤ sizeLine ∧ ∀ n, S n = none → Out K W S H (.loc n) (put S n (.lst (xs ++ ys))) Q
theorem op_mad : OpR X (binaryOp .Add) (rMad K) := by
  intro pins s σ H x y v u Q I rx ry ⟨W, S, dx, dy, xs, ys, r, px, py, ex, ey, h, q⟩
  obtain ⟨a', us, rfl, ea, qa⟩ := lst_of r px ex
  obtain ⟨b', vs, rfl, eb, qb⟩ := lst_of r py ey
  rw [qa.length, qb.length] at h
  exact op_cat pins s σ H _ _ v u Q I rx ry ⟨_, _, _, _, rfl, rfl, ea, eb, h, Out.mls q r (qa.append qb)⟩
theorem op_cmp (o : Cp) (hW : X.w = K.w) (hu : X.A.units + 200 < cLine) : OpR X (compareOp (cpE o)) (rCmp K o) := by
  cases o with
  | eq => exact op_eq_ hK _ (.inl rfl) hu
  | ne => exact op_eq_ hK _ (.inr rfl) hu
  | lt => exact op_ord hK _ (.inl rfl)
  | le => exact op_ord hK _ (.inr (.inl rfl))
  | gt => exact op_ord hK _ (.inr (.inr (.inl rfl)))
  | ge => exact op_ord hK _ (.inr (.inr (.inr rfl)))
  | is_ => exact op_is_ hK _ (.inl rfl)
  | nis => exact op_is_ hK _ (.inr rfl)
  | in_ => exact op_in_ hK _ (.inl rfl) hW hu
  | nin => exact op_in_ hK _ (.inr rfl) hW hu
end
end Mi
set_option maxHeartbeats 4000000
/-! Mi5: subscripts, slices, built-in functions, methods, by the small language's values. -/
namespace Mi
open PySem PySem.Spec PyProof.Rows L2

theorem CallR.or {X : Cx} {f : Value} {r r' : List V → Hp → VK → Prop} (h : CallR X f r) (h' : CallR X f r') : CallR X f (fun vs H Q => r vs H Q ∨ r' vs H Q) := by
  intro pins s σ H xs us Q I rv q
  rcases q with q | q
  · exact h pins s σ H xs us Q I rv q
  · exact h' pins s σ H xs us Q I rv q

theorem Reps.atI {K : Frg} {W : Wd} {H : Hp} {ds : List D} {vs : List V} {i : Int} {d : D} (r : Reps K W H ds vs) (h : L2.atI ds i = some d) : ∃ v, L2.atI vs i = some v ∧ Rep K W H d v := by
  unfold L2.atI at h ⊢
  rw [← r.length]
  cases e : ixN ds.length i with
  | none => rw [e] at h; cases h
  | some j =>
    rw [e] at h
    exact r.get h
theorem atI_map {α β : Type} (f : α → β) (xs : List α) (i : Int) : L2.atI (xs.map f) i = (L2.atI xs i).map f := by
  unfold L2.atI
  rw [List.length_map]
  cases ixN xs.length i with
  | none => rfl
  | some j => simp
theorem Reps.cut {K : Frg} {W : Wd} {H : Hp} {ds : List D} {vs : List V} (r : Reps K W H ds vs) (lo hi : Option Int) : Reps K W H (cutD ds lo hi) (cutV vs lo hi) := by
  unfold cutD cutV
  rw [r.length]
  exact (r.drop _).take _
theorem cut_map {α β : Type} (f : α → β) (xs : List α) (lo hi : Option Int) : cutD (xs.map f) lo hi = (cutD xs lo hi).map f := by
  unfold cutD
  rw [List.length_map, List.map_take, List.map_drop]

def rIxD (K : Frg) : R2 := fun x y H Q => ∃ W S dx dy z, Rel K W S H ∧ Rep K W H dx x ∧ Rep K W H dy y ∧ ixD S dx dy = some z ∧ Out K W S H z S Q
def rSlD (K : Frg) : V → Option Int → Option Int → Hp → VK → Prop := fun x lo hi H Q => ∃ W S dx z, Rel K W S H ∧ Rep K W H dx x ∧ slD S dx lo hi = some z ∧ Out K W S H z S Q
def rBi (K : Frg) (b : Bi) : List V → Hp → VK → Prop := fun vs H Q => ∃ W S ds z, Rel K W S H ∧ Reps K W H ds vs ∧ biD b S ds = some z ∧ Out K W S H z S Q
def rMt (K : Frg) (m : Mt) : V → List V → Hp → VK → Prop := fun x vs H Q => ∃ W S dx ds z, Rel K W S H ∧ Rep K W H dx x ∧ Reps K W H ds vs ∧ mtD m S dx ds = some z ∧ Out K W S H z.1 z.2 Q

section
variable {X : Cx} {K : Frg} (hK : X.K = K.K)
include hK

/-- d[k], by values -/
theorem ix_dct (hu : X.A.units + 1 < cLine) : IxR X (fun x y H Q => ∃ a v, x = .ref a ∧ DGet H a y (some v) ∧ Q v H) := by
  intro value slice pins s σ H x y v u Q I rx ry ⟨a, w, ex, g, q⟩ hs
  subst ex
  obtain rfl : v = Value.ref a := rx
  exact tail_any (dict_typeIs I g) PySem.F.slot_dict_getitem.lookup (d_getItem hu I g ry fun w' s3 I3 rw' => ⟨w, H, I3, rw', q⟩) hs
theorem kr_get {W : Wd} {H : Hp} {a : Addr} {kvs : List (Key × D)} {vs : List (Key × V)} {k : Key} {d : D} (e : H a = some (.dK vs)) (r : KR K W H kvs vs) (h : lkD kvs k = some d) : ∃ v, DGet H a (kV k) (some v) ∧ Rep K W H d v := by
  obtain ⟨v, h1, h2⟩ := (r.look k).1 d h
  exact ⟨v, h1 ▸ DGet.k e, h2⟩
theorem ix_all (hW : X.w = K.w) (hu : X.A.units + 160 < cLine) : IxR X (rIxD K) := by
  intro value slice pins s σ H x y v u Q I rx ry ⟨W, S, dx, dy, z, r, px, py, e, q⟩ hs
  cases px with
  | tup f p =>
    cases py with
    | int i =>
      obtain ⟨w, h1, h2⟩ := p.atI e
      exact ix_tup value slice pins s σ H _ _ v u Q I rx ry ⟨_, _, i, w, rfl, rfl, hK ▸ f.sq, h1, q.now r h2⟩ hs
    | _ => cases e
  | lst _ l p =>
    cases py with
    | int i =>
      obtain ⟨w, h1, h2⟩ := p.atI e
      exact ix_list value slice pins s σ H _ _ v u Q I rx ry ⟨_, _, i, w, rfl, rfl, SqL.of l, h1, q.now r h2⟩ hs
    | _ => cases e
  | scr f =>
    cases py with
    | int i =>
      dsimp only [ixD] at e
      rw [← atI_map] at e
      obtain ⟨w, h1, h2⟩ := (Reps.ints (K := K) (W := W) (H := H) _).atI e
      exact ix_list value slice pins s σ H _ _ v u Q I rx ry ⟨_, _, i, w, rfl, rfl, hK ▸ f.sq, h1, q.now r h2⟩ hs
    | _ => cases e
  | @loc n a hn =>
    dsimp only [ixD] at e
    split at e
    · rename_i xs i hx
      cases py
      obtain ⟨vs, l, p⟩ := loc_lst r hx hn
      obtain ⟨w, h1, h2⟩ := p.atI e
      exact ix_list value slice pins s σ H _ _ v u Q I rx ry ⟨_, _, _, w, rfl, rfl, SqL.of l, h1, q.now r h2⟩ hs
    · rename_i xs i hx
      cases py
      obtain ⟨vs, l, p⟩ := loc_dic r hx hn
      obtain ⟨w, h1, h2⟩ := kr_get hK l p e
      exact ix_dct hK (by omega) value slice pins s σ H _ _ v u Q I rx ry ⟨a, w, rfl, h1, q.now r h2⟩ hs
    · rename_i xs i hx
      cases py
      obtain ⟨vs, l, p⟩ := loc_dic r hx hn
      obtain ⟨w, h1, h2⟩ := kr_get hK l p e
      exact ix_dct hK (by omega) value slice pins s σ H _ _ v u Q I rx ry ⟨a, w, rfl, h1, q.now r h2⟩ hs
    · cases e
  | str x =>
    cases py with
    | int i =>
      dsimp only [ixD] at e
      split at e
      · rename_i hz
        cases c : L2.atI x.cps.toList i with
        | none => rw [c] at e; cases e
        | some ch =>
          rw [c] at e; cases e
          exact ix_str value slice pins s σ H _ _ v u Q I rx ry ⟨x, i, ch, rfl, rfl, hz, c, q.now r (.str _)⟩ hs
      · cases e
    | _ => cases e
  | @kd a ks ds hk =>
    cases py with
    | str z =>
      obtain ⟨es, n, D⟩ := hk.at_
      have D' : KDict X.K X.w a es n := by rw [hK, hW]; exact D
      obtain ⟨w, h1, h2⟩ := hk.yes z _ e
      obtain ⟨v0, h3, h4⟩ := relD_ok _ w h2
      exact ix_kdict value slice pins s σ H _ _ v u Q I rx ry ⟨a, z, v0, rfl, rfl, ⟨es, n, w, D'.at_, D'.lit, hK ▸ h1, h3⟩, q.now r (h4 _ _)⟩ hs
    | _ => cases e
  | _ => cases e

theorem sl_all : SlR X (rSlD K) := by
  intro pins s σ H x v vl vu lo hi sl Q I rx hs pl pu ⟨W, S, dx, z, r, px, e, q⟩
  cases px with
  | tup f p =>
    cases e
    refine sl_tupA pins s σ H _ v vl vu lo hi sl Q I rx hs pl pu ⟨_, _, rfl, hK ▸ f.sq, fun h => ?_, fun h => q.tup r (p.cut lo hi)⟩
    refine q.now r ?_
    have w : ∀ {ds : List D} {vs : List V}, Reps K W H ds vs → HT.sIx vs.length 0 lo = 0 ∧ HT.sIx vs.length vs.length hi = vs.length → cutD ds lo hi = ds := fun {ds vs} p h => by
      unfold cutD
      rw [p.length, h.1, h.2, List.drop_zero, Nat.sub_zero, ← p.length, List.take_length]
    rw [w p h]
    exact .tup f p
  | lst _ l p =>
    cases e
    exact sl_list pins s σ H _ v vl vu lo hi sl Q I rx hs pl pu ⟨_, _, rfl, SqL.of l, q.lst r (p.cut lo hi)⟩
  | scr f =>
    cases e
    refine sl_list pins s σ H _ v vl vu lo hi sl Q I rx hs pl pu ⟨_, _, rfl, hK ▸ f.sq, ?_⟩
    rw [← cut_map] at q
    exact q.lst r ((Reps.ints _).cut lo hi)
  | @loc n a hn =>
    dsimp only [slD] at e
    split at e
    · rename_i xs hx
      cases e
      obtain ⟨vs, l, p⟩ := loc_lst r hx hn
      exact sl_list pins s σ H _ v vl vu lo hi sl Q I rx hs pl pu ⟨_, _, rfl, SqL.of l, q.lst r (p.cut lo hi)⟩
    · cases e
  | str x =>
    dsimp only [slD] at e
    split at e
    · rename_i hz
      cases e
      exact sl_str pins s σ H _ v vl vu lo hi sl Q I rx hs pl pu ⟨x, rfl, hz, q.now r (.str _)⟩
    · cases e
  | _ => cases e

/-! ### built-in functions -/
theorem bls_of {W : Wd} {H : Hp} : ∀ {ds : List D} {vs : List V} {bs : List Bool}, Reps K W H ds vs → blsD ds = some bs → vs = bs.map V.bl
  | [], _, _, .nil, h => by cases h; rfl
  | .bl b :: ds, _, bs, .cons p q, h => by
    cases p
    dsimp only [blsD] at h
    cases c : blsD ds with
    | none => rw [c] at h; cases h
    | some b' => rw [c] at h; cases h; rw [bls_of q c]; rfl
  | .non :: _, _, _, .cons _ _, h => by cases h
  | .int _ :: _, _, _, .cons _ _, h => by cases h
  | .str _ :: _, _, _, .cons _ _, h => by cases h
  | .tup _ :: _, _, _, .cons _ _, h => by cases h
  | .lst _ :: _, _, _, .cons _ _, h => by cases h
  | .scr _ :: _, _, _, .cons _ _, h => by cases h
  | .loc _ :: _, _, _, .cons _ _, h => by cases h
  | .kd _ _ :: _, _, _, .cons _ _, h => by cases h
theorem bi_len : CallR X (.builtin "len") (rBi K .len) := by
  intro pins s σ H vs us Q I rv ⟨W, S, ds, z, r, p, e, q⟩
  match ds, p with
  | [d], .cons (v := v) px .nil =>
    dsimp only [biD, bi1] at e
    cases c : lenD S d with
    | none => rw [c] at e; cases e
    | some n =>
      rw [c] at e; cases e
      refine call_len pins s σ H _ us Q I rv ⟨v, n, rfl, ?_, q.now r (.int _)⟩
      cases px with
      | str x =>
        dsimp only [lenD] at c
        split at c
        · rename_i h; cases c; exact ⟨h, rfl⟩
        · cases c
      | _ =>
        dsimp only [lenD] at c
        cases c' : seqD S _ with
        | none => rw [c'] at c; cases c
        | some xs =>
          rw [c'] at c; cases c
          first
            | (obtain ⟨a, ws, ev, sq, qs⟩ := seq_of r (by first | exact Rep.tup (by assumption) (by assumption) | exact Rep.lst (by assumption) (by assumption) (by assumption) | exact Rep.scr (by assumption) | exact Rep.loc (by assumption)) c'
               cases ev
               cases sq with
               | l h => exact .inl ⟨_, hK ▸ h, qs.length⟩
               | t h => exact .inr ⟨_, hK ▸ h, qs.length⟩)
            | cases c'
  | [], .nil => cases e
  | [_, _], .cons _ (.cons _ .nil) => cases e
  | _ :: _ :: _ :: _, .cons _ (.cons _ (.cons _ _)) => cases e
theorem bi_str : CallR X (.type "str") (rBi K .str) := by
  intro pins s σ H vs us Q I rv ⟨W, S, ds, z, r, p, e, q⟩
  match ds, p with
  | [d], .cons (v := v) px .nil =>
    cases px with
    | int i =>
      dsimp only [biD, bi1] at e
      split at e
      · rename_i h; cases e
        exact call_str_int pins s σ H _ us Q I rv ⟨i, rfl, h, q.now r (.str _)⟩
      · cases e
    | str x => cases e; exact SkE.call_str_str pins s σ H _ us Q I rv ⟨x, rfl, q.now r (.str _)⟩
    | _ => cases e
  | [], .nil => cases e
  | [_, _], .cons _ (.cons _ .nil) => cases e
  | _ :: _ :: _ :: _, .cons _ (.cons _ (.cons _ _)) => cases e
theorem bi_int : CallR X (.type "int") (rBi K .int) := by
  intro pins s σ H vs us Q I rv ⟨W, S, ds, z, r, p, e, q⟩
  match ds, p with
  | [d], .cons (v := v) px .nil =>
    cases px with
    | int i => (replace e : some _ = some z := e); cases e; exact call_int1 pins s σ H _ us Q I rv (.inl ⟨i, rfl, q.now r (.int _)⟩)
    | bl b => cases e; exact call_int1 pins s σ H _ us Q I rv (.inr ⟨b, rfl, q.now r (.int _)⟩)
    | _ => cases e
  | [], .nil => cases e
  | [_, _], .cons _ (.cons _ .nil) => cases e
  | _ :: _ :: _ :: _, .cons _ (.cons _ (.cons _ _)) => cases e
theorem seq_or {W : Wd} {S : Sto} {H : Hp} {x : D} {v : V} {xs : List D} (r : Rel K W S H) (p : Rep K W H x v) (h : seqD S x = some xs) :
    ∃ a vs, v = .ref a ∧ ((SqL X.K H a vs) ∨ (SqT X.K H a vs ∧ x = .tup xs)) ∧ Reps K W H xs vs := by
  cases p with
  | tup f q => cases h; exact ⟨_, _, rfl, .inr ⟨hK ▸ f.sq, rfl⟩, q⟩
  | lst _ e q => cases h; exact ⟨_, _, rfl, .inl (SqL.of e), q⟩
  | scr f => cases h; exact ⟨_, _, rfl, .inl (hK ▸ f.sq), .ints _⟩
  | @loc n a e =>
    dsimp only [seqD] at h
    split at h
    · rename_i ys q
      cases h
      obtain ⟨vs, h2, h3⟩ := loc_lst r q e
      exact ⟨_, _, rfl, .inl (SqL.of h2), h3⟩
    · cases h
  | _ => cases h
theorem bi_tuple : CallR X (.type "tuple") (rBi K .tuple) := by
  intro pins s σ H vs us Q I rv ⟨W, S, ds, z, r, p, e, q⟩
  match ds, p with
  | [d], .cons (v := v) px .nil =>
    dsimp only [biD, bi1] at e
    cases c : seqD S d with
    | none => rw [c] at e; cases e
    | some xs =>
      rw [c] at e; cases e
      obtain ⟨a, ws, rfl, sq, qs⟩ := seq_or hK r px c
      rcases sq with h | ⟨h, rfl⟩
      · exact call_tuple_of pins s σ H _ us Q I rv ⟨a, ws, rfl, .inl ⟨h, q.tup r qs⟩⟩
      · exact call_tuple_of pins s σ H _ us Q I rv ⟨a, ws, rfl, .inr ⟨h, q.now r px⟩⟩
  | [], .nil => cases e
  | [_, _], .cons _ (.cons _ .nil) => cases e
  | _ :: _ :: _ :: _, .cons _ (.cons _ (.cons _ _)) => cases e
theorem bi_list : CallR X (.type "list") (rBi K .list) := by
  intro pins s σ H vs us Q I rv ⟨W, S, ds, z, r, p, e, q⟩
  match ds, p with
  | [d], .cons (v := v) px .nil =>
    dsimp only [biD, bi1] at e
    cases c : seqD S d with
    | none => rw [c] at e; cases e
    | some xs =>
      rw [c] at e; cases e
      obtain ⟨a, ws, rfl, sq, qs⟩ := seq_or hK r px c
      refine call_list_of pins s σ H _ us Q I rv ⟨a, ws, rfl, ?_, q.lst r qs⟩
      rcases sq with h | ⟨h, rfl⟩
      · exact .inl h
      · exact .inr h
  | [], .nil => cases e
  | [_, _], .cons _ (.cons _ .nil) => cases e
  | _ :: _ :: _ :: _, .cons _ (.cons _ (.cons _ _)) => cases e
theorem bi_max2 (hc : X.calm = true) : CallR X (.builtin "max") (rBi K .max2) := by
  intro pins s σ H vs us Q I rv ⟨W, S, ds, z, r, p, e, q⟩
  match ds, p with
  | [d1, d2], .cons p1 (.cons p2 .nil) =>
    cases p1 with
    | int i =>
      cases p2 with
      | int j =>
        cases e
        refine call_max2 hc pins s σ H _ us Q I rv ⟨i, j, rfl, ?_⟩
        have w : (if j > i then j else i) = max i j := by
          rw [Int.max_def]; split <;> split <;> omega
        rw [w]; exact q.now r (.int _)
      | _ => cases e
    | _ => cases e
  | [], .nil => cases e
  | [_], .cons _ .nil => cases e
  | _ :: _ :: _ :: _, .cons _ (.cons _ (.cons _ _)) => cases e
theorem bi_min2 (hc : X.calm = true) : CallR X (.builtin "min") (rBi K .min2) := by
  intro pins s σ H vs us Q I rv ⟨W, S, ds, z, r, p, e, q⟩
  match ds, p with
  | [d1, d2], .cons p1 (.cons p2 .nil) =>
    cases p1 with
    | int i =>
      cases p2 with
      | int j =>
        cases e
        refine call_min2 hc pins s σ H _ us Q I rv ⟨i, j, rfl, ?_⟩
        have w : (if j < i then j else i) = min i j := by
          rw [Int.min_def]; split <;> split <;> omega
        rw [w]; exact q.now r (.int _)
      | _ => cases e
    | _ => cases e
  | [], .nil => cases e
  | [_], .cons _ .nil => cases e
  | _ :: _ :: _ :: _, .cons _ (.cons _ (.cons _ _)) => cases e
theorem bi_all (hc : X.calm = true) : CallR X (.builtin "all") (rBi K .all) := by
  intro pins s σ H vs us Q I rv ⟨W, S, ds, z, r, p, e, q⟩
  match ds, p with
  | [d], .cons (v := v) px .nil =>
    dsimp only [biD, bi1] at e
    split at e
    · rename_i xs c
      cases c' : blsD xs with
      | none => rw [c'] at e; cases e
      | some bs =>
        rw [c'] at e; cases e
        obtain ⟨a, ws, rfl, l, qs⟩ := lst_of r px c
        have w := bls_of hK qs c'
        subst w
        exact cr_all hc pins s σ H _ us Q I rv ⟨a, bs, rfl, SqL.of l, q.now r (.bl _)⟩
    · cases e
  | [], .nil => cases e
  | [_, _], .cons _ (.cons _ .nil) => cases e
  | _ :: _ :: _ :: _, .cons _ (.cons _ (.cons _ _)) => cases e
theorem bi_any (hc : X.calm = true) : CallR X (.builtin "any") (rBi K .any) := by
  intro pins s σ H vs us Q I rv ⟨W, S, ds, z, r, p, e, q⟩
  match ds, p with
  | [d], .cons (v := v) px .nil =>
    dsimp only [biD, bi1] at e
    split at e
    · rename_i xs c
      cases c' : blsD xs with
      | none => rw [c'] at e; cases e
      | some bs =>
        rw [c'] at e; cases e
        obtain ⟨a, ws, rfl, l, qs⟩ := lst_of r px c
        have w := bls_of hK qs c'
        subst w
        exact cr_any hc pins s σ H _ us Q I rv ⟨a, bs, rfl, SqL.of l, q.now r (.bl _)⟩
    · cases e
  | [], .nil => cases e
  | [_, _], .cons _ (.cons _ .nil) => cases e
  | _ :: _ :: _ :: _, .cons _ (.cons _ (.cons _ _)) => cases e
theorem ints_of {W : Wd} {H : Hp} : ∀ {ds : List D} {vs : List V} {bs : List Int}, Reps K W H ds vs → intsD ds = some bs → vs = bs.map V.int
  | [], _, _, .nil, h => by cases h; rfl
  | .int b :: ds, _, bs, .cons p q, h => by
    cases p
    dsimp only [intsD] at h
    cases c : intsD ds with
    | none => rw [c] at h; cases h
    | some b' => rw [c] at h; cases h; rw [ints_of q c]; rfl
  | .non :: _, _, _, .cons _ _, h => by cases h
  | .bl _ :: _, _, _, .cons _ _, h => by cases h
  | .str _ :: _, _, _, .cons _ _, h => by cases h
  | .tup _ :: _, _, _, .cons _ _, h => by cases h
  | .lst _ :: _, _, _, .cons _ _, h => by cases h
  | .scr _ :: _, _, _, .cons _ _, h => by cases h
  | .loc _ :: _, _, _, .cons _ _, h => by cases h
  | .kd _ _ :: _, _, _, .cons _ _, h => by cases h
omit hK in
theorem foldl_max : ∀ (ns : List Int) (n : Int), (ns.foldl max n ∈ n :: ns) ∧ ∀ y ∈ n :: ns, y ≤ ns.foldl max n
  | [], n => by simp
  | m :: ns, n => by
    obtain ⟨h1, h2⟩ := foldl_max ns (max n m)
    refine ⟨?_, fun y hy => ?_⟩
    · rw [List.foldl_cons]
      rcases List.mem_cons.mp h1 with e | e
      · rw [e]
        rcases Int.le_total n m with l | l
        · rw [Int.max_eq_right l]; simp
        · rw [Int.max_eq_left l]; simp
      · simp [e]
    · rw [List.foldl_cons]
      have h3 := h2 (max n m) (by simp)
      rcases List.mem_cons.mp hy with rfl | hy
      · omega
      · rcases List.mem_cons.mp hy with rfl | hy
        · omega
        · exact h2 y (by simp [hy])
omit hK in
theorem foldl_min : ∀ (ns : List Int) (n : Int), (ns.foldl min n ∈ n :: ns) ∧ ∀ y ∈ n :: ns, ns.foldl min n ≤ y
  | [], n => by simp
  | m :: ns, n => by
    obtain ⟨h1, h2⟩ := foldl_min ns (min n m)
    refine ⟨?_, fun y hy => ?_⟩
    · rw [List.foldl_cons]
      rcases List.mem_cons.mp h1 with e | e
      · rw [e]
        rcases Int.le_total n m with l | l
        · rw [Int.min_eq_left l]; simp
        · rw [Int.min_eq_right l]; simp
      · simp [e]
    · rw [List.foldl_cons]
      have h3 := h2 (min n m) (by simp)
      rcases List.mem_cons.mp hy with rfl | hy
      · omega
      · rcases List.mem_cons.mp hy with rfl | hy
        · omega
        · exact h2 y (by simp [hy])
theorem bi_sum (hc : X.calm = true) : CallR X (.builtin "sum") (rBi K .sum) := by
  intro pins s σ H vs us Q I rv ⟨W, S, ds, z, r, p, e, q⟩
  match ds, p with
  | [d], .cons (v := v) px .nil =>
    dsimp only [biD, bi1] at e
    split at e
    · rename_i xs c
      cases c' : intsD xs with
      | none => rw [c'] at e; cases e
      | some bs =>
        rw [c'] at e; cases e
        obtain ⟨a, ws, rfl, l, qs⟩ := lst_of r px c
        have w := ints_of hK qs c'
        subst w
        exact cr_sum hc pins s σ H _ us Q I rv ⟨a, bs, rfl, SqL.of l, q.now r (.int _)⟩
    · cases e
  | [], .nil => cases e
  | [_, _], .cons _ (.cons _ .nil) => cases e
  | _ :: _ :: _ :: _, .cons _ (.cons _ (.cons _ _)) => cases e
theorem bi_max1 (hc : X.calm = true) : CallR X (.builtin "max") (rBi K .max1) := by
  intro pins s σ H vs us Q I rv ⟨W, S, ds, z, r, p, e, q⟩
  match ds, p with
  | [d], .cons (v := v) px .nil =>
    dsimp only [biD, bi1] at e
    split at e
    · rename_i xs c
      split at e
      · rename_i m ms c'
        cases e
        obtain ⟨a, ws, rfl, l, qs⟩ := lst_of r px c
        have w := ints_of hK qs c'
        subst w
        refine cr_max hc pins s σ H _ us Q I rv ⟨a, m :: ms, rfl, SqL.of l, by simp, fun y hy hm => ?_⟩
        obtain ⟨k1, k2⟩ := foldl_max ms m
        have ey : y = ms.foldl max m := Int.le_antisymm (k2 y hy) (hm _ k1)
        rw [ey]; exact q.now r (.int _)
      · cases e
    · cases e
  | [], .nil => cases e
  | [_, _], .cons _ (.cons _ .nil) => cases e
  | _ :: _ :: _ :: _, .cons _ (.cons _ (.cons _ _)) => cases e
theorem bi_min1 (hc : X.calm = true) : CallR X (.builtin "min") (rBi K .min1) := by
  intro pins s σ H vs us Q I rv ⟨W, S, ds, z, r, p, e, q⟩
  match ds, p with
  | [d], .cons (v := v) px .nil =>
    dsimp only [biD, bi1] at e
    split at e
    · rename_i xs c
      split at e
      · rename_i m ms c'
        cases e
        obtain ⟨a, ws, rfl, l, qs⟩ := lst_of r px c
        have w := ints_of hK qs c'
        subst w
        refine cr_min hc pins s σ H _ us Q I rv ⟨a, m :: ms, rfl, SqL.of l, by simp, fun y hy hm => ?_⟩
        obtain ⟨k1, k2⟩ := foldl_min ms m
        have ey : y = ms.foldl min m := Int.le_antisymm (hm _ k1) (k2 y hy)
        rw [ey]; exact q.now r (.int _)
      · cases e
    · cases e
  | [], .nil => cases e
  | [_, _], .cons _ (.cons _ .nil) => cases e
  | _ :: _ :: _ :: _, .cons _ (.cons _ (.cons _ _)) => cases e
end
end Mi
set_option maxHeartbeats 4000000
/-! Mi6: repr, isinstance, methods, items stored. -/
namespace Mi
open PySem PySem.Spec PyProof.Rows L2

mutual
theorem pd_noDict : ∀ {x : D} {d : PyData}, pd x = some d → d.hasDict = false
  | .non, _, h => by cases h; simp only [PyData.hasDict]
  | .bl _, _, h => by cases h; simp only [PyData.hasDict]
  | .int _, _, h => by cases h; simp only [PyData.hasDict]
  | .str _, _, h => by cases h; simp only [PyData.hasDict]
  | .tup xs, _, h => by
    unfold pd at h
    cases e : pds xs with
    | none => rw [e] at h; cases h
    | some ds => rw [e] at h; cases h; simp only [PyData.hasDict]; exact pds_noDict e
  | .lst xs, _, h => by
    unfold pd at h
    cases e : pds xs with
    | none => rw [e] at h; cases h
    | some ds => rw [e] at h; cases h; simp only [PyData.hasDict]; exact pds_noDict e
  | .scr ns, _, h => by
    cases h
    simp only [PyData.hasDict]
    induction ns with
    | nil => simp only [List.map_nil, PyData.hasDictAll]
    | cons n ns ih => simp only [List.map_cons, PyData.hasDictAll, PyData.hasDict, ih, Bool.or_self]
  | .loc _, _, h => by cases h
  | .kd _ _, _, h => by cases h
theorem pds_noDict : ∀ {xs : List D} {ds : List PyData}, pds xs = some ds → PyData.hasDictAll ds = false
  | [], _, h => by cases h; simp only [PyData.hasDictAll]
  | x :: xs, _, h => by
    unfold pds at h
    cases e : pd x with
    | none => rw [e] at h; simp at h
    | some d =>
      cases e' : pds xs with
      | none => rw [e, e'] at h; cases h
      | some ds => rw [e, e'] at h; cases h; simp only [PyData.hasDictAll, pd_noDict e, pds_noDict e', Bool.or_self]
end

section
variable {X : Cx} {K : Frg} (hK : X.K = K.K)
include hK
theorem bi_repr (hg : X.A.guards = some []) (hu : X.A.units + 160 < cLine) : CallR X (.builtin "repr") (rBi K .repr) := by
  intro pins s σ H vs us Q I rv ⟨W, S, ds, z, r, p, e, q⟩
  match ds, p with
  | [d], .cons (v := v) px .nil =>
    dsimp only [biD, bi1, reprS] at e
    cases c0 : reprD d with
    | some t0 =>
      rw [c0] at e
      cases e
      unfold reprD at c0
      cases c : pd d with
      | none => rw [c] at c0; cases c0
      | some y =>
        rw [c] at c0
        dsimp only at c0
        split at c0
        · rename_i h
          cases c0
          simp only [Bool.and_eq_true, decide_eq_true_eq] at h
          obtain ⟨⟨h1, h2⟩, h3⟩ := h
          obtain ⟨u, rfl, ru⟩ := vals1 rv
          have hQ : ∀ h' (u : Tok) tk, (∀ b o, s.heap.get? b = some o → h'.get? b = some o) → EP X pins σ Q (.str y.shown u) { s with heap := h', toks := tk } :=
            fun h' u tk k => ⟨.str y.shown, H, I.kept k, ⟨u, rfl⟩, q.now r (.str _)⟩
          obtain ⟨as, r1⟩ := Dp.reads I y v u (hK ▸ pd_dp px c) ru
          cases px with
          | non => cases c; cases ru; exact PySem.P.repr_of_none (by simpa only [PyData.shown] using hQ s.heap _ _ fun _ _ e => e)
          | bl b => cases c; cases ru; exact PySem.P.repr_of_bool (by simpa only [PyData.shown] using hQ s.heap _ _ fun _ _ e => e)
          | int i => cases c; obtain ⟨t, rfl⟩ := ru; exact PySem.P.repr_of_int (by simpa [PyData.showable] using h1) (by simpa only [PyData.shown] using hQ s.heap _ _ fun _ _ e => e)
          | str x => cases c; obtain ⟨t, rfl⟩ := ru; exact PySem.P.repr_of_str (by simpa only [PyData.shown] using hQ s.heap _ _ fun _ _ e => e) (by simpa only [PyData.shown] using h2)
          | loc _ => cases c
          | kd _ => cases c
          | tup _ _ => cases ru; exact repr_of_reads' r1 h1 (PyData.noDict_hsm (pd_noDict c)) hg (by omega) (fun _ _ e => e) hQ h2
          | lst _ _ _ => cases ru; exact repr_of_reads' r1 h1 (PyData.noDict_hsm (pd_noDict c)) hg (by omega) (fun _ _ e => e) hQ h2
          | scr _ => cases ru; exact repr_of_reads' r1 h1 (PyData.noDict_hsm (pd_noDict c)) hg (by omega) (fun _ _ e => e) hQ h2
        · cases c0
    | none =>
      rw [c0] at e
      dsimp only at e
      cases px with
      | @loc n a hw =>
        dsimp only at e
        cases hn : S n with
        | none => rw [hn] at e; cases e
        | some o =>
          cases o with
          | lst xs =>
            rw [hn] at e
            dsimp only at e
            cases c1 : reprD (.lst xs) with
            | none => rw [c1] at e; cases e
            | some t0 =>
              rw [c1] at e
              cases e
              unfold reprD at c1
              cases c : pd (.lst xs) with
              | none => rw [c] at c1; cases c1
              | some y =>
                rw [c] at c1
                dsimp only at c1
                split at c1
                · rename_i h
                  cases c1
                  simp only [Bool.and_eq_true, decide_eq_true_eq] at h
                  obtain ⟨⟨h1, h2⟩, h3⟩ := h
                  obtain ⟨u, rfl, ru⟩ := vals1 rv
                  have hQ : ∀ h' (u : Tok) tk, (∀ b o, s.heap.get? b = some o → h'.get? b = some o) → EP X pins σ Q (.str y.shown u) { s with heap := h', toks := tk } :=
                    fun h' u tk k => ⟨.str y.shown, H, I.kept k, ⟨u, rfl⟩, q.now r (.str _)⟩
                  obtain ⟨a2, ha2, vs2, hH, hr⟩ := r.dom n _ hn
                  rw [hw] at ha2
                  cases ha2
                  have nd := pd_noDict c
                  have dp : Dp K.K H (.ref a) y := by
                    unfold pd at c
                    cases c2 : pds xs with
                    | none => rw [c2] at c; cases c
                    | some ys => rw [c2] at c; cases c; exact .lst (SqL.of hH) (pds_dp hr c2)
                  obtain ⟨as, r1⟩ := Dp.reads I y (.ref a) u (hK ▸ dp) ru
                  cases ru
                  exact repr_of_reads' r1 h1 (PyData.noDict_hsm nd) hg (by omega) (fun _ _ e => e) hQ h2
                · cases c1
          | _ => rw [hn] at e; cases e
      | _ => cases e
  | [], .nil => cases e
  | [_, _], .cons _ (.cons _ .nil) => cases e
  | _ :: _ :: _ :: _, .cons _ (.cons _ (.cons _ _)) => cases e

/-! ### isinstance -/
theorem kind_ty {W : Wd} {S : Sto} {H : Hp} {d : D} {v : V} {k : String} (r : Rel K W S H) (p : Rep K W H d v) (h : kindD S d = some k) : TyX X.K H v (.type k) := by
  cases p with
  | non => cases h; exact .base .non
  | bl b => cases h; exact .base (.bl b)
  | int i => cases h; exact .base (.int i)
  | str x => cases h; exact .base (.str x)
  | tup f q =>
    cases h
    rcases f with ⟨_, e⟩ | f
    · exact .base (.tup e)
    · rcases f (fun _ => none) with e | ⟨o, its, n, hk, hc, _⟩
      · rcases e with e | ⟨_, e⟩ <;> cases e
      · exact .kTuple (hK ▸ hk) hc
  | lst _ e q => cases h; exact .base (.lst e)
  | scr _ => cases h
  | @loc n a e =>
    dsimp only [kindD] at h
    split at h
    · rename_i xs hx
      cases h
      obtain ⟨vs, l, _⟩ := loc_lst r hx e
      exact .base (.lst l)
    · rename_i xs hx
      cases h
      obtain ⟨vs, l, _⟩ := loc_dic r hx e
      exact .base (.dK l)
    · cases h
  | kd _ => cases h
/-- isinstance(x, T): asks of x alone -/
def rIsiD (K : Frg) (t : Nat) : List V → Hp → VK → Prop := fun vs H Q => ∃ W S d v k, vs = [v, .ty (tyNm t)] ∧ Rel K W S H ∧ Rep K W H d v ∧ isiD S d t = some k ∧ Q (.bl k) H
theorem kit_all (K : PySem.W.Frag) (t : Nat) {k : String} (hk : k ∈ (["NoneType", "bool", "int", "str", "tuple", "list", "dict"] : List String)) : PySem.W.kitOne K (.type k) (.type (tyNm t)) = some (k == tyNm t || (k == "bool" && t == 0)) := by
  have ht : t = 0 ∨ t = 1 ∨ t = 2 ∨ t = 3 ∨ t = 4 ∨ 5 ≤ t := by omega
  have h5 : ∀ t, 5 ≤ t → tyNm t = "dict" ∧ (t == 0) = false := fun t h => by
    match t, h with
    | t + 5, _ => exact ⟨rfl, rfl⟩
  simp only [List.mem_cons, List.not_mem_nil, or_false] at hk
  rcases ht with rfl | rfl | rfl | rfl | rfl | h
  all_goals first
    | (rcases hk with rfl | rfl | rfl | rfl | rfl | rfl | rfl <;> exact kit_ty (by decide +kernel))
    | (rw [(h5 t h).1, (h5 t h).2]; rcases hk with rfl | rfl | rfl | rfl | rfl | rfl | rfl <;> exact kit_ty (by decide +kernel))
theorem kind_mem {S : Sto} {d : D} {k : String} (h : kindD S d = some k) : k ∈ (["NoneType", "bool", "int", "str", "tuple", "list", "dict"] : List String) := by
  cases d <;> first
    | (cases h; simp; done)
    | (cases h; done)
    | (dsimp only [kindD] at h; split at h <;> first | (cases h; simp; done) | cases h)
theorem isi_all (t : Nat) : CallR X (.builtin "isinstance") (rIsiD K t) := by
  intro pins s σ H vs us Q I rv ⟨W, S, d, v, k, ev, r, p, e, q⟩
  unfold isiD at e
  cases c : kindD S d with
  | none => rw [c] at e; cases e
  | some kd =>
    rw [c] at e; cases e
    exact call_isi pins s σ H _ us Q I rv ⟨v, .ty (tyNm t), .type kd, .type (tyNm t), _, ev, .ty _, kind_ty hK r p c, kit_all hK X.K t (kind_mem hK c), q⟩
end
end Mi
set_option maxHeartbeats 4000000
/-! Mi7: the small language's text stands for the program's text. -/
namespace Mi
open PySem PySem.Spec PyProof.Rows L2

structure SC where
  N : List Str
  sc : Scope
  fc : Str → Bool
  T : Tab
def visB (s : Scope) (x : Str) : Bool := match s.names.lookup x with
  | some .local => true
  | some .cell => true
  | some .free => true
  | _ => false
def glbB (s : Scope) (x : Str) : Bool := match s.names.lookup x with
  | some .globalImplicit => true
  | _ => false
/-- a name that may be stored -/
def stoB (c : SC) (x : Str) : Bool := match c.sc.names.lookup x with
  | some .local => true
  | some .cell => c.fc x
  | _ => false
def odd (x : Str) : Bool := x == "__debug__" || x == "__classdict__" || x == "__name__"
def keyE : Key → Expr → Bool
  | .inl i, .Constant (.int j) _ _ => i == j
  | .inr x, .Constant (.str y) _ _ => x == y
  | _, _ => false
def keysE : List Key → List (Option Expr) → Bool
  | [], [] => true
  | k :: ks, some e :: es => keyE k e && keysE ks es
  | _, _ => false
def notSet : Expr → Bool
  | .Set .. => false
  | _ => true
def ckNames (c : SC) : List Nat → List Expr → Bool
  | [], [] => true
  | i :: is, .Name x _ :: es => c.N[i]? == some x && stoB c x && ckNames c is es
  | _, _ => false
def ckTg (c : SC) : Tg → Expr → Bool
  | .nm i, .Name x _ => c.N[i]? == some x && stoB c x
  | .tp is, .Tuple es _ _ => ckNames c is es
  | _, _ => false
def tgSlots : Tg → List Nat
  | .nm i => [i]
  | .tp is => is
/-- a comprehension's own scope, seen from within -/
def inner (c : SC) (scope : Scope) : SC := ⟨c.N, relS scope c.sc, fun x => scope.names.lookup x == some .cell, c.T⟩
def ownOf (N : List Str) (own : List Nat) : List (Str × Nat) := own.map fun i => (N.getD i "", i)
def notCall : Expr → Bool
  | .Call .. => false
  | _ => true
def isTup : Expr → Bool
  | .Tuple .. => true
  | _ => false

/-- what may be seen as frozen -/
def fzOk : Expr → Bool
  | .Call .. => true
  | .Name .. => true
  | .List .. => true
  | .ListComp .. => true
  | _ => false

mutual
def ckE : E → SC → Expr → Bool
  | .var i, c, .Name x _ => c.N[i]? == some x && visB c.sc x && !odd x
  | .int i, _, .Constant (.int j) _ _ => i == j
  | .str x, _, .Constant (.str y) _ _ => x == y
  | .bl b, _, .Constant (.bool d) _ _ => b == d
  | .non, _, .Constant .none _ _ => true
  | .cst i, c, .Name x _ => (c.T.cst[i]?.map (·.1)) == some x && glbB c.sc x && !odd x
  | .tup es, c, .Tuple xs _ _ => ckEs es c xs
  | .lst es, c, .List xs _ => ckEs es c xs
  | .mls es, c, .List xs _ => ckEs es c xs
  | .dic ks es, c, .Dict keys vals _ => keysE ks keys && ckEs es c vals && decide ks.Nodup && decide (ks.length ≤ 15) && decide (keys.length = vals.length)
  | .bin o a b, c, .BinOp l p r _ => (opE o == p) && ckE a c l && ckE b c r
  | .mad a b, c, .BinOp l p r _ => (opE .add == p) && ckE a c l && ckE b c r
  | .cmp o a b, c, .Compare l [p] [r] _ => (cpE o == p) && ckE a c l && ckE b c r && notSet r
  | .chn o o' a b d, c, .Compare l [p, p'] [r, t] _ => (cpE o == p) && (cpE o' == p') && ckE a c l && ckE b c r && ckE d c t && notSet t
  | .and a b, c, .BoolOp .And (x :: y :: rest) pos => ckE a c x && (if rest.isEmpty then ckE b c y else ckE b c (.BoolOp .And (y :: rest) pos))
  | .or a b, c, .BoolOp .Or (x :: y :: rest) pos => ckE a c x && (if rest.isEmpty then ckE b c y else ckE b c (.BoolOp .Or (y :: rest) pos))
  | .not a, c, .UnaryOp .Not x _ => ckE a c x
  | .neg a, c, .UnaryOp .USub x _ => ckE a c x
  | .ife t a b, c, .IfExp x y z _ => ckE t c x && ckE a c y && ckE b c z
  | .ix a b, c, .Subscript v s _ => ckE a c v && ckE b c s
  | .sl a lo hi, c, .Subscript v (.Slice l h none _) _ => ckE a c v && ckO lo c l && ckO hi c h
  | .rev a, c, .Subscript v (.Slice none none (some (.UnaryOp .USub (.Constant (.int 1) _ _) _)) _) _ => ckE a c v
  | .call f es, c, .Call (.Name x _) args [] _ => (c.T.fn[f]? == some x) && glbB c.sc x && !odd x && ckEs es c args
  | .bif b es, c, .Call (.Name x _) (a :: args) [] _ => (biNm b == x) && glbB c.sc x && ckEs es c (a :: args)
  | .isi a t, c, .Call (.Name x _) [v, .Name y _] [] _ => (x == "isinstance") && glbB c.sc x && (y == Str.ofString (tyNm t)) && glbB c.sc y && ckE a c v
  | .mli a, c, .Call (.Name x _) [v] [] _ => (x == "list") && glbB c.sc x && ckE a c v
  | .meth m o es, c, .Call (.Attribute v nm ap) args [] p => (mtNm m == nm) && (ap.endLine == p.line) && ckE o c v && ckEs es c args && decide (args.length = mtAr m) && notCall v
  | .fld o f, c, .Attribute v nm _ => (f == nm) && ckE o c v && notCall v
  | .mth m o es, c, .Call (.Attribute v nm ap) args [] p => ((c.T.mt.lookup m).map (·.2) == some nm) && (ap.endLine == p.line) && ckE o c v && ckEs es c args && decide (args.length < 29) && notCall v
  | .mk k es, c, .Call (.Name x _) args [] _ => ((c.T.cl[k]?).map (·.1) == some x) && glbB c.sc x && !odd x && ckEs es c args
  | .lc e t it d own, c, .ListComp x [⟨tg, iter, ifs, 0⟩] scope _ => ckI it c tg iter && blkC c.N c.sc scope (ownOf c.N own) && ckTg (inner c scope) t tg && ckE e (inner c scope) x && ckEs d (inner c scope) ifs && decide (ifs.length ≤ 1) && (tgSlots t).all (own.contains ·)
  | .mlc e t it d own, c, .ListComp x [⟨tg, iter, ifs, 0⟩] scope _ => ckI it c tg iter && blkC c.N c.sc scope (ownOf c.N own) && ckTg (inner c scope) t tg && ckE e (inner c scope) x && ckEs d (inner c scope) ifs && decide (ifs.length ≤ 1) && (tgSlots t).all (own.contains ·)
  | .fz e, c, x => fzOk x && ckE e c x
  | .chn3 o o' o'' a b d e, c, .Compare l [p, p', p''] [r, t, u] _ => (cpE o == p) && (cpE o' == p') && (cpE o'' == p'') && ckE a c l && ckE b c r && ckE d c t && ckE e c u && notSet u
  | .den a, c, .Call (.Name x _) [.Call (.Name y _) [v] [] _] [] _ => (x == "dict") && glbB c.sc x && (y == "enumerate") && glbB c.sc y && ckE a c v
  | .srs a, c, .Call (.Name x _) [.Call (.Name y _) [v] [] _] [] _ => (x == "sorted") && glbB c.sc x && (y == "set") && glbB c.sc y && ckE a c v
  | .lrg es, c, .Call (.Name x _) [.Call (.Name y _) args [] _] [] _ => (x == "list") && glbB c.sc x && (y == "range") && glbB c.sc y && ckEs es c args && decide (1 ≤ args.length) && decide (args.length ≤ 2)
  | .mlrg es, c, .Call (.Name x _) [.Call (.Name y _) args [] _] [] _ => (x == "list") && glbB c.sc x && (y == "range") && glbB c.sc y && ckEs es c args && decide (1 ≤ args.length) && decide (args.length ≤ 2)
  | .kget o k, c, .Call (.Attribute v nm ap) [y] [] p => (nm == "get") && (ap.endLine == p.line) && ckE o c v && ckE k c y && notCall v
  | .mdc a, c, .Call (.Name x _) [v] [] _ => (x == "dict") && glbB c.sc x && ckE a c v
  | _, _, _ => false
def ckEs : Es → SC → List Expr → Bool
  | .nil, _, [] => true
  | .cons e es, c, x :: xs => ckE e c x && ckEs es c xs
  | _, _, _ => false
def ckO : Es → SC → Option Expr → Bool
  | .nil, _, none => true
  | .cons e .nil, c, some x => ckE e c x
  | _, _, _ => false
def ckI : It → SC → Expr → Expr → Bool
  | .seq e, c, _, x => ckE e c x && notSet x
  | .rng es, c, _, .Call (.Name x _) (a :: args) [] _ => (x == "range") && glbB c.sc x && ckEs es c (a :: args) && decide (args.length ≤ 2)
  | .rvs e, c, _, .Call (.Name x _) [v] [] _ => (x == "reversed") && glbB c.sc x && ckE e c v
  | .enm e, c, .Tuple _ _ _, .Call (.Name x _) [v] [] _ => (x == "enumerate") && glbB c.sc x && ckE e c v
  | _, _, _, _ => false
end

/-- a comprehension given to a local name of the same row: the name's own store is put into it -/
def swaps (c : SC) (x : Str) (pl : Nat) (a : Expr) (g : List Comprehension) (scope : Scope) (p : Pos) : Bool :=
  (c.sc.names.lookup x == some .local) && (pl == (Expr.ListComp a g scope p).pos.line) && !(scope.names.any fun (n, k) => n == x && (k == .local || k == .cell))
def isComp : Expr → Bool
  | .ListComp .. => true
  | .SetComp .. => true
  | .DictComp .. => true
  | _ => false
def isFz : E → Bool
  | .fz _ => true
  | _ => false
mutual
def ckS : St → SC → Stmt → Bool
  | .set i e, c, .Assign [.Name x p] v _ => (c.N[i]? == some x) && stoB c x && ckE e c v && (!isComp v || (c.sc.kind == .function && !isFz e))
  | .setT is e, c, .Assign [.Tuple ts k p] v _ => ckTg c (.tp is) (.Tuple ts k p) && ckE e c v && !isTup v && !isComp v
  | .setI o k e, c, .Assign [.Subscript a b _] v _ => ckE o c a && ckE k c b && ckE e c v && !isComp v
  | .setF o f e, c, .Assign [.Attribute a nm _] v _ => (f == nm) && ckE o c a && ckE e c v && notCall a && !isComp v
  | .ifs t a b, c, .If x y z _ => ckE t c x && ckSs a c y && ckSs b c z
  | .wh t b, c, .While x y [] _ => ckE t c x && ckSs b c y
  | .for_ t it b, c, .For tg iter body [] _ => ckI it c tg iter && ckTg c t tg && ckSs b c body
  | .ret e, c, .Return (some x) _ => ckE e c x
  | .retN, _, .Return none _ => true
  | .ex e, c, .Expr x _ => ckE e c x && !isComp x
  | .brk, _, .Break _ => true
  | .cont, _, .Continue _ => true
  | .pass, _, .Pass _ => true
  | _, _, _ => false
def ckSs : List St → SC → List Stmt → Bool
  | [], _, [] => true
  | s :: ss, c, x :: xs => ckS s c x && ckSs ss c xs
  | _, _, _ => false
end
end Mi
set_option maxHeartbeats 4000000
/-! Mi8: what must hold in the small language, lifted to the machine: expressions. -/
namespace Mi
open PySem PySem.Spec PyProof.Rows L2

abbrev noX : XD := fun _ _ _ => False
def biAll : List Str := ["len", "repr", "str", "int", "tuple", "list", "max", "min", "sum", "all", "any", "abs", "isinstance", "range", "enumerate", "zip", "reversed", "bool", "dict", "sorted", "set"]

/-- the def at a keeps the promise g, by at most n calls one in another -/
def FnD (P : Program) (w : World) (K : Frg) (mg : Str → Option Value) (base : Heap) (n : Nat) (a : Addr) (g : List D → Sto → Q1 → XD → Prop) : Prop :=
  PySem.W.keepIn K.K (.ref a) = true ∧ ∀ (A : Around) (outer : List PySem.Env) (s : Shared) (H : Hp) (us : List Value) (vs : List V) (W : Wd) (S : Sto) (ds : List D) (q : Q1) (Q : VK),
    Room n A → A.guards = some [] → Env0 P w K.K mg base A outer s H → Vals vs us → Rel K W S H → Reps K W H ds vs → g ds S q noX → (∀ W' H' v d S', Ext W S H W' S' H' → Rel K W' S' H' → Rep K W' H' d v → q d S' → Q v H') →
    codeAny (model P w) A (.call (.ref a) ⟨us, []⟩) (CR CX0 outer P w H s Q (fun _ _ _ => False)) s

/-- the classes of the table: made by their __init__, their fields, their methods -/
structure ClsD (P : Program) (w : World) (K : Frg) (mg : Str → Option Value) (base : Heap) (T : Tab) (n : Nat) (G : GT) : Prop where
  made : ∀ (i : Nat) (p : Str × Nat), T.cl[i]? = some p → ∃ C f, K.cls i = some C ∧ mg p.1 = some (.ref C) ∧ L2.Mk K.K C f ∧
    ((∃ m, n = m + 1 ∧ FnD P w K mg base m f (G p.2)) ∨ ∀ ds S q, ¬ G p.2 ds S q noX)
  fl : ∀ (i : Nat) (f : Str) (C : Addr), T.fl.contains (i, f) = true → K.cls i = some C → Cls K.K C ∧ NoAttr K.K C f
  mt : ∀ (m i : Nat) (nm : Str) (C : Addr), T.mt.lookup m = some (i, nm) → K.cls i = some C → ∃ f, Cls K.K C ∧ Meth K.K C nm f ∧ FnD P w K mg base n f (G m)

structure Good (X : Cx) (K : Frg) (c : SC) (n : Nat) (G : GT) : Prop where
  hK : X.K = K.K
  hW : X.w = K.w
  hN : X.N = c.N
  sc : X.env.scope = c.sc
  fc : ∀ x, c.fc x = true → X.fn x = true
  nd : c.N.Nodup
  calm : X.calm = true
  room : Room n X.A
  grd : X.A.guards = some []
  bi : ∀ x, x ∈ biAll → X.mg x = none
  cst : ∀ (i : Nat) (p : Str × D), c.T.cst[i]? = some p → ∃ u v, X.mg p.1 = some u ∧ RelV v u ∧ ∀ W H, Rep K W H p.2 v
  fns : ∀ (f : Nat) (x : Str), c.T.fn[f]? = some x → ∃ a, X.mg x = some (.ref a) ∧ FnD X.prog X.w K X.mg X.base n a (G f)
  po : PassesOwn (model X.prog X.w) X.A X.env X.xe
  cls : ClsD X.prog X.w K X.mg X.base c.T n G

/-- an expression's reading, from what must hold in the small language -/
def LE (K : Frg) (t : Env → Sto → Q1 → Prop) : TE := fun σ H Q => ∃ W S env q, Rel K W S H ∧ EnvR K W H env σ ∧ t env S q ∧ ∀ W' S' H' d v, Ext W S H W' S' H' → Rel K W' S' H' → Rep K W' H' d v → q d S' → Q v H'
def LA (K : Frg) (t : Env → Sto → (List D → Sto → Prop) → Prop) : TA := fun σ H Q => ∃ W S env q, Rel K W S H ∧ EnvR K W H env σ ∧ t env S q ∧ ∀ W' S' H' d v, Ext W S H W' S' H' → Rel K W' S' H' → Reps K W' H' d v → q d S' → Q v H'
def LT (K : Frg) (t : Env → Sto → (Bool → Sto → Prop) → Prop) : TT := fun σ H Q => ∃ W S env q, Rel K W S H ∧ EnvR K W H env σ ∧ t env S q ∧ ∀ W' S' H' b, Ext W S H W' S' H' → Rel K W' S' H' → q b S' → Q b H'

theorem PE.imp {X : Cx} {e : Expr} {t t' : TE} (h : PE X e t) (i : ∀ σ H Q, t' σ H Q → t σ H Q) : PE X e t' := ⟨fun pins s σ H Q I q => h.run pins s σ H Q I (i σ H Q q)⟩
theorem PA.imp {X : Cx} {e : List Expr} {t t' : TA} (h : PA X e t) (i : ∀ σ H Q, t' σ H Q → t σ H Q) : PA X e t' := ⟨fun pos pins s σ H Q I q => h.run pos pins s σ H Q I (i σ H Q q)⟩
theorem PT.imp {X : Cx} {e : Expr} {t t' : TT} (h : PT X e t) (i : ∀ σ H Q, t' σ H Q → t σ H Q) : PT X e t' := ⟨fun pins s σ H Q I q => h.run pins s σ H Q I (i σ H Q q)⟩

theorem vis_of {s : Scope} {x : Str} (h : visB s x = true) : Vis s x := by
  unfold visB at h
  split at h
  · rename_i e; exact .inl e
  · rename_i e; exact .inr (.inl e)
  · rename_i e; exact .inr (.inr e)
  · cases h
theorem glb_of {s : Scope} {x : Str} (h : glbB s x = true) : s.names.lookup x = some .globalImplicit := by
  unfold glbB at h
  split at h
  · assumption
  · cases h
theorem odd_of {x : Str} (h : odd x = false) : (x == ("__debug__" : Str)) = false ∧ (x == ("__classdict__" : Str)) = false ∧ x ≠ "__name__" := by
  unfold odd at h
  rw [Bool.or_eq_false_iff, Bool.or_eq_false_iff] at h
  exact ⟨h.1.1, h.1.2, fun e => by rw [e] at h; exact absurd h.2 (by decide)⟩

/-- what E matches is no starred thing, no slice -/
theorem ck_star {e : E} {c : SC} {x : Expr} (h : ckE e c x = true) {es : List Expr} {env : PySem.Env} : starEach (x :: es) env = (false, eval x env) :: starEach es env := by
  have key : ∀ (v : Expr) (p : Pos), x ≠ .Starred v p := by
    intro v p q
    subst q
    induction e using E.rec (motive_2 := fun _ => True) (motive_3 := fun _ => True) with
    | fz e ih => exact ih (by simp only [ckE, Bool.and_eq_true] at h; exact h.2)
    | _ => first | trivial | (simp [ckE] at h)
  cases x <;> first | rfl | exact absurd rfl (key _ _)
theorem ck_plain {e : E} {c : SC} {x : Expr} (h : ckE e c x = true) : PlainIx x := by
  have key : ∀ (a b d : Option Expr) (p : Pos), x ≠ .Slice a b d p := by
    intro a b d p q
    subst q
    induction e using E.rec (motive_2 := fun _ => True) (motive_3 := fun _ => True) with
    | fz e ih => exact ih (by simp only [ckE, Bool.and_eq_true] at h; exact h.2)
    | _ => first | trivial | (simp [ckE] at h)
  cases x <;> first
    | exact fun _ _ => rfl
    | exact absurd rfl (key _ _ _ _)
/-! ### what a text of the program looks like -/
theorem ck_var {i : Nat} {c : SC} {x : Expr} (h : ckE (.var i) c x = true) : ∃ (nm : Str) (p : Pos), x = .Name nm p ∧ (c.N[i]? == some nm) = true ∧ visB c.sc nm = true ∧ (!odd nm) = true := by
  unfold ckE at h
  split at h
  all_goals first | (exact absurd h Bool.false_ne_true) | (cases (‹(.var i : E) = _›))
  try simp only [Bool.and_eq_true, decide_eq_true_eq] at h
  obtain ⟨⟨h1, h2⟩, h3⟩ := h
  exact ⟨_, _, rfl, h1, h2, h3⟩
theorem ck_int {i : Int} {c : SC} {x : Expr} (h : ckE (.int i) c x = true) : ∃ (j : Int) (k : Nat) (p : Pos), x = .Constant (.int j) k p ∧ (i == j) = true := by
  unfold ckE at h
  split at h
  all_goals first | (exact absurd h Bool.false_ne_true) | (cases (‹(.int i : E) = _›))
  try simp only [Bool.and_eq_true, decide_eq_true_eq] at h
  exact ⟨_, _, _, rfl, h⟩
theorem ck_str {i : Str} {c : SC} {x : Expr} (h : ckE (.str i) c x = true) : ∃ (j : Str) (k : Nat) (p : Pos), x = .Constant (.str j) k p ∧ (i == j) = true := by
  unfold ckE at h
  split at h
  all_goals first | (exact absurd h Bool.false_ne_true) | (cases (‹(.str i : E) = _›))
  try simp only [Bool.and_eq_true, decide_eq_true_eq] at h
  exact ⟨_, _, _, rfl, h⟩
theorem ck_bl {i : Bool} {c : SC} {x : Expr} (h : ckE (.bl i) c x = true) : ∃ (j : Bool) (k : Nat) (p : Pos), x = .Constant (.bool j) k p ∧ (i == j) = true := by
  unfold ckE at h
  split at h
  all_goals first | (exact absurd h Bool.false_ne_true) | (cases (‹(.bl i : E) = _›))
  try simp only [Bool.and_eq_true, decide_eq_true_eq] at h
  exact ⟨_, _, _, rfl, h⟩
theorem ck_non  {c : SC} {x : Expr} (h : ckE (.non) c x = true) : ∃ (k : Nat) (p : Pos), x = .Constant .none k p := by
  unfold ckE at h
  split at h
  all_goals first | (exact absurd h Bool.false_ne_true) | (cases (‹(.non : E) = _›))
  exact ⟨_, _, rfl⟩
theorem ck_cst {i : Nat} {c : SC} {x : Expr} (h : ckE (.cst i) c x = true) : ∃ (nm : Str) (p : Pos), x = .Name nm p ∧ ((c.T.cst[i]?.map (·.1)) == some nm) = true ∧ glbB c.sc nm = true ∧ (!odd nm) = true := by
  unfold ckE at h
  split at h
  all_goals first | (exact absurd h Bool.false_ne_true) | (cases (‹(.cst i : E) = _›))
  try simp only [Bool.and_eq_true, decide_eq_true_eq] at h
  obtain ⟨⟨h1, h2⟩, h3⟩ := h
  exact ⟨_, _, rfl, h1, h2, h3⟩
theorem ck_tup {es : Es} {c : SC} {x : Expr} (h : ckE (.tup es) c x = true) : ∃ (xs : List Expr) (k : Nat) (p : Pos), x = .Tuple xs k p ∧ ckEs es c xs = true := by
  unfold ckE at h
  split at h
  all_goals first | (exact absurd h Bool.false_ne_true) | (cases (‹(.tup es : E) = _›))
  try simp only [Bool.and_eq_true, decide_eq_true_eq] at h
  exact ⟨_, _, _, rfl, h⟩
theorem ck_lst {es : Es} {c : SC} {x : Expr} (h : ckE (.lst es) c x = true) : ∃ (xs : List Expr) (p : Pos), x = .List xs p ∧ ckEs es c xs = true := by
  unfold ckE at h
  split at h
  all_goals first | (exact absurd h Bool.false_ne_true) | (cases (‹(.lst es : E) = _›))
  try simp only [Bool.and_eq_true, decide_eq_true_eq] at h
  exact ⟨_, _, rfl, h⟩
theorem ck_mls {es : Es} {c : SC} {x : Expr} (h : ckE (.mls es) c x = true) : ∃ (xs : List Expr) (p : Pos), x = .List xs p ∧ ckEs es c xs = true := by
  unfold ckE at h
  split at h
  all_goals first | (exact absurd h Bool.false_ne_true) | (cases (‹(.mls es : E) = _›))
  try simp only [Bool.and_eq_true, decide_eq_true_eq] at h
  exact ⟨_, _, rfl, h⟩
theorem ck_dic {ks : List Key} {es : Es} {c : SC} {x : Expr} (h : ckE (.dic ks es) c x = true) : ∃ (keys : List (Option Expr)) (vals : List Expr) (p : Pos), x = .Dict keys vals p ∧ keysE ks keys = true ∧ ckEs es c vals = true ∧ ks.Nodup ∧ ks.length ≤ 15 ∧ keys.length = vals.length := by
  unfold ckE at h
  split at h
  all_goals first | (exact absurd h Bool.false_ne_true) | (cases (‹(.dic ks es : E) = _›))
  try simp only [Bool.and_eq_true, decide_eq_true_eq] at h
  obtain ⟨⟨⟨⟨h1, h2⟩, h3⟩, h4⟩, h5⟩ := h
  exact ⟨_, _, _, rfl, h1, h2, h3, h4, h5⟩
theorem ck_bin {o : Op} {a b : E} {c : SC} {x : Expr} (h : ckE (.bin o a b) c x = true) : ∃ (l : Expr) (q : Operator) (r : Expr) (p : Pos), x = .BinOp l q r p ∧ (opE o == q) = true ∧ ckE a c l = true ∧ ckE b c r = true := by
  unfold ckE at h
  split at h
  all_goals first | (exact absurd h Bool.false_ne_true) | (cases (‹(.bin o a b : E) = _›))
  try simp only [Bool.and_eq_true, decide_eq_true_eq] at h
  obtain ⟨⟨h1, h2⟩, h3⟩ := h
  exact ⟨_, _, _, _, rfl, h1, h2, h3⟩
theorem ck_mad {a b : E} {c : SC} {x : Expr} (h : ckE (.mad a b) c x = true) : ∃ (l : Expr) (q : Operator) (r : Expr) (p : Pos), x = .BinOp l q r p ∧ (opE .add == q) = true ∧ ckE a c l = true ∧ ckE b c r = true := by
  unfold ckE at h
  split at h
  all_goals first | (exact absurd h Bool.false_ne_true) | (cases (‹(.mad a b : E) = _›))
  try simp only [Bool.and_eq_true, decide_eq_true_eq] at h
  obtain ⟨⟨h1, h2⟩, h3⟩ := h
  exact ⟨_, _, _, _, rfl, h1, h2, h3⟩
theorem ck_cmp {o : Cp} {a b : E} {c : SC} {x : Expr} (h : ckE (.cmp o a b) c x = true) : ∃ (l : Expr) (q : CmpOp) (r : Expr) (p : Pos), x = .Compare l [q] [r] p ∧ (cpE o == q) = true ∧ ckE a c l = true ∧ ckE b c r = true ∧ notSet r = true := by
  unfold ckE at h
  split at h
  all_goals first | (exact absurd h Bool.false_ne_true) | (cases (‹(.cmp o a b : E) = _›))
  try simp only [Bool.and_eq_true, decide_eq_true_eq] at h
  obtain ⟨⟨⟨h1, h2⟩, h3⟩, h4⟩ := h
  exact ⟨_, _, _, _, rfl, h1, h2, h3, h4⟩
theorem ck_chn {o o' : Cp} {a b d : E} {c : SC} {x : Expr} (h : ckE (.chn o o' a b d) c x = true) : ∃ (l : Expr) (q : CmpOp) (q' : CmpOp) (r : Expr) (t : Expr) (p : Pos), x = .Compare l [q, q'] [r, t] p ∧ (cpE o == q) = true ∧ (cpE o' == q') = true ∧ ckE a c l = true ∧ ckE b c r = true ∧ ckE d c t = true ∧ notSet t = true := by
  unfold ckE at h
  split at h
  all_goals first | (exact absurd h Bool.false_ne_true) | (cases (‹(.chn o o' a b d : E) = _›))
  try simp only [Bool.and_eq_true, decide_eq_true_eq] at h
  obtain ⟨⟨⟨⟨⟨h1, h2⟩, h3⟩, h4⟩, h5⟩, h6⟩ := h
  exact ⟨_, _, _, _, _, _, rfl, h1, h2, h3, h4, h5, h6⟩
theorem ck_and {a b : E} {c : SC} {x : Expr} (h : ckE (.and a b) c x = true) : ∃ (y : Expr) (z : Expr) (rest : List Expr) (p : Pos), x = .BoolOp .And (y :: z :: rest) p ∧ ckE a c y = true ∧ (if rest.isEmpty then ckE b c z else ckE b c (.BoolOp .And (z :: rest) p)) = true := by
  unfold ckE at h
  split at h
  all_goals first | (exact absurd h Bool.false_ne_true) | (cases (‹(.and a b : E) = _›))
  try simp only [Bool.and_eq_true, decide_eq_true_eq] at h
  obtain ⟨h1, h2⟩ := h
  exact ⟨_, _, _, _, rfl, h1, h2⟩
theorem ck_or {a b : E} {c : SC} {x : Expr} (h : ckE (.or a b) c x = true) : ∃ (y : Expr) (z : Expr) (rest : List Expr) (p : Pos), x = .BoolOp .Or (y :: z :: rest) p ∧ ckE a c y = true ∧ (if rest.isEmpty then ckE b c z else ckE b c (.BoolOp .Or (z :: rest) p)) = true := by
  unfold ckE at h
  split at h
  all_goals first | (exact absurd h Bool.false_ne_true) | (cases (‹(.or a b : E) = _›))
  try simp only [Bool.and_eq_true, decide_eq_true_eq] at h
  obtain ⟨h1, h2⟩ := h
  exact ⟨_, _, _, _, rfl, h1, h2⟩
theorem ck_not {a : E} {c : SC} {x : Expr} (h : ckE (.not a) c x = true) : ∃ (y : Expr) (p : Pos), x = .UnaryOp .Not y p ∧ ckE a c y = true := by
  unfold ckE at h
  split at h
  all_goals first | (exact absurd h Bool.false_ne_true) | (cases (‹(.not a : E) = _›))
  try simp only [Bool.and_eq_true, decide_eq_true_eq] at h
  exact ⟨_, _, rfl, h⟩
theorem ck_neg {a : E} {c : SC} {x : Expr} (h : ckE (.neg a) c x = true) : ∃ (y : Expr) (p : Pos), x = .UnaryOp .USub y p ∧ ckE a c y = true := by
  unfold ckE at h
  split at h
  all_goals first | (exact absurd h Bool.false_ne_true) | (cases (‹(.neg a : E) = _›))
  try simp only [Bool.and_eq_true, decide_eq_true_eq] at h
  exact ⟨_, _, rfl, h⟩
theorem ck_ife {t a b : E} {c : SC} {x : Expr} (h : ckE (.ife t a b) c x = true) : ∃ (u : Expr) (y : Expr) (z : Expr) (p : Pos), x = .IfExp u y z p ∧ ckE t c u = true ∧ ckE a c y = true ∧ ckE b c z = true := by
  unfold ckE at h
  split at h
  all_goals first | (exact absurd h Bool.false_ne_true) | (cases (‹(.ife t a b : E) = _›))
  try simp only [Bool.and_eq_true, decide_eq_true_eq] at h
  obtain ⟨⟨h1, h2⟩, h3⟩ := h
  exact ⟨_, _, _, _, rfl, h1, h2, h3⟩
theorem ck_ix {a b : E} {c : SC} {x : Expr} (h : ckE (.ix a b) c x = true) : ∃ (y : Expr) (z : Expr) (p : Pos), x = .Subscript y z p ∧ ckE a c y = true ∧ ckE b c z = true := by
  unfold ckE at h
  split at h
  all_goals first | (exact absurd h Bool.false_ne_true) | (cases (‹(.ix a b : E) = _›))
  try simp only [Bool.and_eq_true, decide_eq_true_eq] at h
  obtain ⟨h1, h2⟩ := h
  exact ⟨_, _, _, rfl, h1, h2⟩
theorem ck_sl {a : E} {lo hi : Es} {c : SC} {x : Expr} (h : ckE (.sl a lo hi) c x = true) : ∃ (y : Expr) (l : Option Expr) (u : Option Expr) (p' : Pos) (p : Pos), x = .Subscript y (.Slice l u none p') p ∧ ckE a c y = true ∧ ckO lo c l = true ∧ ckO hi c u = true := by
  unfold ckE at h
  split at h
  all_goals first | (exact absurd h Bool.false_ne_true) | (cases (‹(.sl a lo hi : E) = _›))
  try simp only [Bool.and_eq_true, decide_eq_true_eq] at h
  obtain ⟨⟨h1, h2⟩, h3⟩ := h
  exact ⟨_, _, _, _, _, rfl, h1, h2, h3⟩
theorem ck_rev {a : E} {c : SC} {x : Expr} (h : ckE (.rev a) c x = true) : ∃ (y : Expr) (k : Nat) (p1 : Pos) (p2 : Pos) (p3 : Pos) (p : Pos), x = .Subscript y (.Slice none none (some (.UnaryOp .USub (.Constant (.int 1) k p1) p2)) p3) p ∧ ckE a c y = true := by
  unfold ckE at h
  split at h
  all_goals first | (exact absurd h Bool.false_ne_true) | (cases (‹(.rev a : E) = _›))
  try simp only [Bool.and_eq_true, decide_eq_true_eq] at h
  exact ⟨_, _, _, _, _, _, rfl, h⟩
theorem ck_call {f : Nat} {es : Es} {c : SC} {x : Expr} (h : ckE (.call f es) c x = true) : ∃ (nm : Str) (p' : Pos) (args : List Expr) (p : Pos), x = .Call (.Name nm p') args [] p ∧ (c.T.fn[f]? == some nm) = true ∧ glbB c.sc nm = true ∧ (!odd nm) = true ∧ ckEs es c args = true := by
  unfold ckE at h
  split at h
  all_goals first | (exact absurd h Bool.false_ne_true) | (cases (‹(.call f es : E) = _›))
  try simp only [Bool.and_eq_true, decide_eq_true_eq] at h
  obtain ⟨⟨⟨h1, h2⟩, h3⟩, h4⟩ := h
  exact ⟨_, _, _, _, rfl, h1, h2, h3, h4⟩
theorem ck_bif {b : Bi} {es : Es} {c : SC} {x : Expr} (h : ckE (.bif b es) c x = true) : ∃ (nm : Str) (p' : Pos) (a : Expr) (args : List Expr) (p : Pos), x = .Call (.Name nm p') (a :: args) [] p ∧ (biNm b == nm) = true ∧ glbB c.sc nm = true ∧ ckEs es c (a :: args) = true := by
  unfold ckE at h
  split at h
  all_goals first | (exact absurd h Bool.false_ne_true) | (cases (‹(.bif b es : E) = _›))
  try simp only [Bool.and_eq_true, decide_eq_true_eq] at h
  obtain ⟨⟨h1, h2⟩, h3⟩ := h
  exact ⟨_, _, _, _, _, rfl, h1, h2, h3⟩
theorem ck_isi {a : E} {t : Nat} {c : SC} {x : Expr} (h : ckE (.isi a t) c x = true) : ∃ (nm : Str) (p1 : Pos) (v : Expr) (ny : Str) (p2 : Pos) (p : Pos), x = .Call (.Name nm p1) [v, .Name ny p2] [] p ∧ (nm == ("isinstance" : Str)) = true ∧ glbB c.sc nm = true ∧ (ny == Str.ofString (tyNm t)) = true ∧ glbB c.sc ny = true ∧ ckE a c v = true := by
  unfold ckE at h
  split at h
  all_goals first | (exact absurd h Bool.false_ne_true) | (cases (‹(.isi a t : E) = _›))
  try simp only [Bool.and_eq_true, decide_eq_true_eq] at h
  obtain ⟨⟨⟨⟨h1, h2⟩, h3⟩, h4⟩, h5⟩ := h
  exact ⟨_, _, _, _, _, _, rfl, h1, h2, h3, h4, h5⟩
theorem ck_mli {a : E} {c : SC} {x : Expr} (h : ckE (.mli a) c x = true) : ∃ (nm : Str) (p1 : Pos) (v : Expr) (p : Pos), x = .Call (.Name nm p1) [v] [] p ∧ (nm == ("list" : Str)) = true ∧ glbB c.sc nm = true ∧ ckE a c v = true := by
  unfold ckE at h
  split at h
  all_goals first | (exact absurd h Bool.false_ne_true) | (cases (‹(.mli a : E) = _›))
  try simp only [Bool.and_eq_true, decide_eq_true_eq] at h
  obtain ⟨⟨h1, h2⟩, h3⟩ := h
  exact ⟨_, _, _, _, rfl, h1, h2, h3⟩
theorem ck_meth {m : Mt} {o : E} {es : Es} {c : SC} {x : Expr} (h : ckE (.meth m o es) c x = true) : ∃ (v : Expr) (nm : Str) (ap : Pos) (args : List Expr) (p : Pos), x = .Call (.Attribute v nm ap) args [] p ∧ (mtNm m == nm) = true ∧ (ap.endLine == p.line) = true ∧ ckE o c v = true ∧ ckEs es c args = true ∧ args.length = mtAr m ∧ notCall v = true := by
  unfold ckE at h
  split at h
  all_goals first | (exact absurd h Bool.false_ne_true) | (cases (‹(.meth m o es : E) = _›))
  try simp only [Bool.and_eq_true, decide_eq_true_eq] at h
  obtain ⟨⟨⟨⟨⟨h1, h2⟩, h3⟩, h4⟩, h5⟩, h6⟩ := h
  exact ⟨_, _, _, _, _, rfl, h1, h2, h3, h4, h5, h6⟩
theorem ck_fld {o : E} {f : Str} {c : SC} {x : Expr} (h : ckE (.fld o f) c x = true) : ∃ (v : Expr) (nm : Str) (p : Pos), x = .Attribute v nm p ∧ (f == nm) = true ∧ ckE o c v = true ∧ notCall v = true := by
  unfold ckE at h
  split at h
  all_goals first | (exact absurd h Bool.false_ne_true) | (cases (‹(.fld o f : E) = _›))
  try simp only [Bool.and_eq_true, decide_eq_true_eq] at h
  obtain ⟨⟨h1, h2⟩, h3⟩ := h
  exact ⟨_, _, _, rfl, h1, h2, h3⟩
theorem ck_mth {m : Nat} {o : E} {es : Es} {c : SC} {x : Expr} (h : ckE (.mth m o es) c x = true) : ∃ (v : Expr) (nm : Str) (ap : Pos) (args : List Expr) (p : Pos), x = .Call (.Attribute v nm ap) args [] p ∧ ((c.T.mt.lookup m).map (·.2) == some nm) = true ∧ (ap.endLine == p.line) = true ∧ ckE o c v = true ∧ ckEs es c args = true ∧ args.length < 29 ∧ notCall v = true := by
  unfold ckE at h
  split at h
  all_goals first | (exact absurd h Bool.false_ne_true) | (cases (‹(.mth m o es : E) = _›))
  try simp only [Bool.and_eq_true, decide_eq_true_eq] at h
  obtain ⟨⟨⟨⟨⟨h1, h2⟩, h3⟩, h4⟩, h5⟩, h6⟩ := h
  exact ⟨_, _, _, _, _, rfl, h1, h2, h3, h4, h5, h6⟩
theorem ck_mk {k : Nat} {es : Es} {c : SC} {x : Expr} (h : ckE (.mk k es) c x = true) : ∃ (nm : Str) (p' : Pos) (args : List Expr) (p : Pos), x = .Call (.Name nm p') args [] p ∧ ((c.T.cl[k]?).map (·.1) == some nm) = true ∧ glbB c.sc nm = true ∧ (!odd nm) = true ∧ ckEs es c args = true := by
  unfold ckE at h
  split at h
  all_goals first | (exact absurd h Bool.false_ne_true) | (cases (‹(.mk k es : E) = _›))
  try simp only [Bool.and_eq_true, decide_eq_true_eq] at h
  obtain ⟨⟨⟨h1, h2⟩, h3⟩, h4⟩ := h
  exact ⟨_, _, _, _, rfl, h1, h2, h3, h4⟩
theorem ck_lc {e : E} {t : Tg} {it : It} {d : Es} {own : List Nat} {c : SC} {x : Expr} (h : ckE (.lc e t it d own) c x = true) : ∃ (y : Expr) (tg : Expr) (iter : Expr) (ifs : List Expr) (scope : Scope) (p : Pos), x = .ListComp y [⟨tg, iter, ifs, 0⟩] scope p ∧ ckI it c tg iter = true ∧ blkC c.N c.sc scope (ownOf c.N own) = true ∧ ckTg (inner c scope) t tg = true ∧ ckE e (inner c scope) y = true ∧ ckEs d (inner c scope) ifs = true ∧ ifs.length ≤ 1 ∧ (tgSlots t).all (own.contains ·) = true := by
  unfold ckE at h
  split at h
  all_goals first | (exact absurd h Bool.false_ne_true) | (cases (‹(.lc e t it d own : E) = _›))
  try simp only [Bool.and_eq_true, decide_eq_true_eq] at h
  obtain ⟨⟨⟨⟨⟨⟨h1, h2⟩, h3⟩, h4⟩, h5⟩, h6⟩, h7⟩ := h
  exact ⟨_, _, _, _, _, _, rfl, h1, h2, h3, h4, h5, h6, h7⟩
theorem ck_mlc {e : E} {t : Tg} {it : It} {d : Es} {own : List Nat} {c : SC} {x : Expr} (h : ckE (.mlc e t it d own) c x = true) : ∃ (y : Expr) (tg : Expr) (iter : Expr) (ifs : List Expr) (scope : Scope) (p : Pos), x = .ListComp y [⟨tg, iter, ifs, 0⟩] scope p ∧ ckI it c tg iter = true ∧ blkC c.N c.sc scope (ownOf c.N own) = true ∧ ckTg (inner c scope) t tg = true ∧ ckE e (inner c scope) y = true ∧ ckEs d (inner c scope) ifs = true ∧ ifs.length ≤ 1 ∧ (tgSlots t).all (own.contains ·) = true := by
  unfold ckE at h
  split at h
  all_goals first | (exact absurd h Bool.false_ne_true) | (cases (‹(.mlc e t it d own : E) = _›))
  try simp only [Bool.and_eq_true, decide_eq_true_eq] at h
  obtain ⟨⟨⟨⟨⟨⟨h1, h2⟩, h3⟩, h4⟩, h5⟩, h6⟩, h7⟩ := h
  exact ⟨_, _, _, _, _, _, rfl, h1, h2, h3, h4, h5, h6, h7⟩
theorem ck_chn3 {o o' o'' : Cp} {a b d e : E} {c : SC} {x : Expr} (h : ckE (.chn3 o o' o'' a b d e) c x = true) : ∃ (l : Expr) (q : CmpOp) (q' : CmpOp) (q'' : CmpOp) (r : Expr) (t : Expr) (u : Expr) (p : Pos), x = .Compare l [q, q', q''] [r, t, u] p ∧ (cpE o == q) = true ∧ (cpE o' == q') = true ∧ (cpE o'' == q'') = true ∧ ckE a c l = true ∧ ckE b c r = true ∧ ckE d c t = true ∧ ckE e c u = true ∧ notSet u = true := by
  unfold ckE at h
  split at h
  all_goals first | (exact absurd h Bool.false_ne_true) | (cases (‹(.chn3 o o' o'' a b d e : E) = _›))
  try simp only [Bool.and_eq_true, decide_eq_true_eq] at h
  obtain ⟨⟨⟨⟨⟨⟨⟨h1, h2⟩, h3⟩, h4⟩, h5⟩, h6⟩, h7⟩, h8⟩ := h
  exact ⟨_, _, _, _, _, _, _, _, rfl, h1, h2, h3, h4, h5, h6, h7, h8⟩
theorem ck_mdc {a : E} {c : SC} {x : Expr} (h : ckE (.mdc a) c x = true) : ∃ (nm : Str) (p1 : Pos) (v : Expr) (p : Pos), x = .Call (.Name nm p1) [v] [] p ∧ (nm == ("dict" : Str)) = true ∧ glbB c.sc nm = true ∧ ckE a c v = true := by
  unfold ckE at h
  split at h
  all_goals first | (exact absurd h Bool.false_ne_true) | (cases (‹(.mdc a : E) = _›))
  try simp only [Bool.and_eq_true, decide_eq_true_eq] at h
  obtain ⟨⟨h1, h2⟩, h3⟩ := h
  exact ⟨_, _, _, _, rfl, h1, h2, h3⟩
theorem ck_den {a : E} {c : SC} {x : Expr} (h : ckE (.den a) c x = true) : ∃ (nm : Str) (p1 : Pos) (ny : Str) (p2 : Pos) (v : Expr) (p3 : Pos) (p : Pos), x = .Call (.Name nm p1) [.Call (.Name ny p2) [v] [] p3] [] p ∧ (nm == ("dict" : Str)) = true ∧ glbB c.sc nm = true ∧ (ny == ("enumerate" : Str)) = true ∧ glbB c.sc ny = true ∧ ckE a c v = true := by
  unfold ckE at h
  split at h
  all_goals first | (exact absurd h Bool.false_ne_true) | (cases (‹(.den a : E) = _›))
  try simp only [Bool.and_eq_true, decide_eq_true_eq] at h
  obtain ⟨⟨⟨⟨h1, h2⟩, h3⟩, h4⟩, h5⟩ := h
  exact ⟨_, _, _, _, _, _, _, rfl, h1, h2, h3, h4, h5⟩
theorem ck_srs {a : E} {c : SC} {x : Expr} (h : ckE (.srs a) c x = true) : ∃ (nm : Str) (p1 : Pos) (ny : Str) (p2 : Pos) (v : Expr) (p3 : Pos) (p : Pos), x = .Call (.Name nm p1) [.Call (.Name ny p2) [v] [] p3] [] p ∧ (nm == ("sorted" : Str)) = true ∧ glbB c.sc nm = true ∧ (ny == ("set" : Str)) = true ∧ glbB c.sc ny = true ∧ ckE a c v = true := by
  unfold ckE at h
  split at h
  all_goals first | (exact absurd h Bool.false_ne_true) | (cases (‹(.srs a : E) = _›))
  try simp only [Bool.and_eq_true, decide_eq_true_eq] at h
  obtain ⟨⟨⟨⟨h1, h2⟩, h3⟩, h4⟩, h5⟩ := h
  exact ⟨_, _, _, _, _, _, _, rfl, h1, h2, h3, h4, h5⟩
theorem ck_lrg {es : Es} {c : SC} {x : Expr} (h : ckE (.lrg es) c x = true) : ∃ (nm : Str) (p1 : Pos) (ny : Str) (p2 : Pos) (args : List Expr) (p3 : Pos) (p : Pos), x = .Call (.Name nm p1) [.Call (.Name ny p2) args [] p3] [] p ∧ (nm == ("list" : Str)) = true ∧ glbB c.sc nm = true ∧ (ny == ("range" : Str)) = true ∧ glbB c.sc ny = true ∧ ckEs es c args = true ∧ 1 ≤ args.length ∧ args.length ≤ 2 := by
  unfold ckE at h
  split at h
  all_goals first | (exact absurd h Bool.false_ne_true) | (cases (‹(.lrg es : E) = _›))
  try simp only [Bool.and_eq_true, decide_eq_true_eq] at h
  obtain ⟨⟨⟨⟨⟨⟨h1, h2⟩, h3⟩, h4⟩, h5⟩, h6⟩, h7⟩ := h
  exact ⟨_, _, _, _, _, _, _, rfl, h1, h2, h3, h4, h5, h6, h7⟩
theorem ck_mlrg {es : Es} {c : SC} {x : Expr} (h : ckE (.mlrg es) c x = true) : ∃ (nm : Str) (p1 : Pos) (ny : Str) (p2 : Pos) (args : List Expr) (p3 : Pos) (p : Pos), x = .Call (.Name nm p1) [.Call (.Name ny p2) args [] p3] [] p ∧ (nm == ("list" : Str)) = true ∧ glbB c.sc nm = true ∧ (ny == ("range" : Str)) = true ∧ glbB c.sc ny = true ∧ ckEs es c args = true ∧ 1 ≤ args.length ∧ args.length ≤ 2 := by
  unfold ckE at h
  split at h
  all_goals first | (exact absurd h Bool.false_ne_true) | (cases (‹(.mlrg es : E) = _›))
  try simp only [Bool.and_eq_true, decide_eq_true_eq] at h
  obtain ⟨⟨⟨⟨⟨⟨h1, h2⟩, h3⟩, h4⟩, h5⟩, h6⟩, h7⟩ := h
  exact ⟨_, _, _, _, _, _, _, rfl, h1, h2, h3, h4, h5, h6, h7⟩
theorem ck_kget {o k : E} {c : SC} {x : Expr} (h : ckE (.kget o k) c x = true) : ∃ (v : Expr) (nm : Str) (ap : Pos) (y : Expr) (p : Pos), x = .Call (.Attribute v nm ap) [y] [] p ∧ (nm == ("get" : Str)) = true ∧ (ap.endLine == p.line) = true ∧ ckE o c v = true ∧ ckE k c y = true ∧ notCall v = true := by
  unfold ckE at h
  split at h
  all_goals first | (exact absurd h Bool.false_ne_true) | (cases (‹(.kget o k : E) = _›))
  try simp only [Bool.and_eq_true, decide_eq_true_eq] at h
  obtain ⟨⟨⟨⟨h1, h2⟩, h3⟩, h4⟩, h5⟩ := h
  exact ⟨_, _, _, _, _, rfl, h1, h2, h3, h4, h5⟩

end Mi
set_option maxHeartbeats 4000000
/-! MiC: chains of three comparisons; dict(enumerate(..)). -/
namespace Ch
open PySem PySem.Spec PyProof.Rows L2
section
variable {X : Cx} {a b c e : Expr} {ta tb tc td : TE} {pos : Pos}
def tChain3 (r r' r'' : R2) (ta tb tc td : TE) : TE := fun σ H Q => ta σ H fun x H1 => tb σ H1 fun y H2 => r x y H2 fun z H3 => ∃ k, z = .bl k ∧
  (if k = true then tc σ H3 fun w' H4 => r' y w' H4 fun z H5 => ∃ k, z = .bl k ∧ (if k = true then td σ H5 fun v' H6 => r'' w' v' H6 Q else Q (.bl false) H5) else Q (.bl false) H3)
theorem pe_chain3 {op op' op'' : CmpOp} {r r' r'' : R2} (ho : OpR X (compareOp op) r) (ho' : OpR X (compareOp op') r') (ho'' : OpR X (compareOp op'') r'') (ha : PE X a ta) (hb : PE X b tb) (hc : PE X c tc) (hd : PE X e td)
    (hm : lastMarks [op, op', op''] [b, c, e] = false) : PE X (.Compare a [op, op', op''] [b, c, e] pos) (tChain3 r r' r'' ta tb tc td) := by
  refine ⟨fun pins s σ H Q I h => ?_⟩
  refine Compare_chain (thn (ha.run pins s σ H _ I h) fun v s1 ⟨x, H1, I1, r1, q1⟩ => chain_link (thn (hb.run pins s1 σ H1 _ I1 q1) fun u s2 ⟨y, H2, I2, r2, q2⟩ =>
    thn (ho pins s2 σ H2 x y v u _ I2 r1 r2 q2) fun d s3 ⟨z, H3, I3, r3, k, e, q3⟩ => ?_)) hm
  subst e
  cases r3
  refine wpAny_truthy_bool ?_
  cases k with
  | false => exact ite_ff ⟨.bl false, H3, I3, rfl, q3⟩
  | true =>
    refine ite_tt (chain_link (thn (hc.run pins s3 σ H3 _ I3 q3) fun w' s4 ⟨z', H4, I4, r4, q4⟩ => thn (ho' pins s4 σ H4 y z' u w' _ I4 r2 r4 q4) fun d s5 ⟨z, H5, I5, r5, k, e, q5⟩ => ?_))
    subst e
    cases r5
    refine wpAny_truthy_bool ?_
    cases k with
    | false => exact ite_ff ⟨.bl false, H5, I5, rfl, q5⟩
    | true => exact ite_tt (chain_last (thn (hd.run pins s5 σ H5 _ I5 q5) fun w2 s6 ⟨z2, H6, I6, r6, q6⟩ => ho'' pins s6 σ H6 z' z2 w' w2 Q I6 r4 r6 q6))
theorem pt_chain3 {op op' op'' : CmpOp} {r r' r'' : R2} (ho : OpR X (compareOp op) r) (ho' : OpR X (compareOp op') r') (ho'' : OpR X (compareOp op'') r'') (ha : PE X a ta) (hb : PE X b tb) (hc : PE X c tc) (hd : PE X e td)
    (hm : lastMarks [op, op', op''] [b, c, e] = false) : PT X (.Compare a [op, op', op''] [b, c, e] pos) (tTest (tChain3 r r' r'' ta tb tc td)) := by
  refine ⟨fun pins s σ H Q I h => ?_⟩
  refine isTrue_chain (thn (ha.run pins s σ H _ I h) fun v s1 ⟨x, H1, I1, r1, q1⟩ => test_link (thn (hb.run pins s1 σ H1 _ I1 q1) fun u s2 ⟨y, H2, I2, r2, q2⟩ =>
    thn (ho pins s2 σ H2 x y v u _ I2 r1 r2 q2) fun d s3 ⟨z, H3, I3, r3, k, e, q3⟩ => ?_)) hm
  subst e
  cases r3
  refine wpAny_truthy_bool ?_
  cases k with
  | false =>
    obtain ⟨k', e', q'⟩ := q3
    cases e'
    exact ite_ff ⟨H3, I3, q'⟩
  | true =>
    refine ite_tt (test_link (thn (hc.run pins s3 σ H3 _ I3 q3) fun w' s4 ⟨z', H4, I4, r4, q4⟩ => thn (ho' pins s4 σ H4 y z' u w' _ I4 r2 r4 q4) fun d s5 ⟨z, H5, I5, r5, k, e, q5⟩ => ?_))
    subst e
    cases r5
    refine wpAny_truthy_bool ?_
    cases k with
    | false =>
      obtain ⟨k', e', q'⟩ := q5
      cases e'
      exact ite_ff ⟨H5, I5, q'⟩
    | true =>
      refine ite_tt (test_last (thn (hd.run pins s5 σ H5 _ I5 q5) fun w2 s6 ⟨z2, H6, I6, r6, q6⟩ => thn (ho'' pins s6 σ H6 z' z2 w' w2 _ I6 r4 r6 q6) fun d' s7 ⟨z3, H7, I7, r7, k2, e2, q7⟩ => ?_))
      subst e2
      cases r7
      exact wpAny_truthy_bool ⟨H7, I7, q7⟩
end
end Ch
set_option maxHeartbeats 4000000
/-! Mi9: the small language is right: expressions. -/
namespace Mi
open PySem PySem.Spec PyProof.Rows L2

section
variable {X : Cx} {K : Frg} {c : SC} {n : Nat} {G : GT}
theorem Good.units (g : Good X K c n G) : X.A.units + 200 < cLine := by have := g.room.un; omega
theorem Good.gl (g : Good X K c n G) {x : Str} (h : glbB c.sc x = true) : Gl X x := by
  show X.env.scope.names.lookup x = _
  rw [g.sc]; exact glb_of h
theorem eqb {α : Type} [BEq α] [LawfulBEq α] {a b : α} (h : (a == b) = true) : a = b := eq_of_beq h

theorem le_var (g : Good X K c n G) {i : Nat} {x : Expr} (h : ckE (.var i) c x = true) : PE X x (LE K (wpE c.T G noX (.var i))) := by
  obtain ⟨nm, p, rfl, h1, h2, h3⟩ := ck_var h
  obtain ⟨o1, o2, _⟩ := odd_of (by simpa using h3)
  refine PE.imp (pe_var (i := i) (by rw [g.hN]; exact eqb h1) (by rw [g.sc]; exact vis_of h2) o1 o2) fun σ H Q ⟨W, S, env, q, r, e, w, o⟩ => ?_
  simp only [wpE] at w
  obtain ⟨d, hd, hq⟩ := w
  obtain ⟨v, hv, rv⟩ := e.at_ i d hd
  exact ⟨v, hv, o W S H d v (Ext.refl _ _ _) r rv hq⟩
theorem le_cst (g : Good X K c n G) {i : Nat} {x : Expr} (h : ckE (.cst i) c x = true) : PE X x (LE K (wpE c.T G noX (.cst i))) := by
  obtain ⟨nm, p, rfl, h1, h2, h3⟩ := ck_cst h
  obtain ⟨o1, o2, _⟩ := odd_of (by simpa using h3)
  have h1' := eqb h1
  cases e : c.T.cst[i]? with
  | none => rw [e] at h1'; cases h1'
  | some y =>
    rw [e] at h1'
    obtain ⟨u, v, hm, rv, rp⟩ := g.cst i y e
    have en : y.1 = nm := by simpa using h1'
    subst en
    refine PE.imp (pe_glob (g.gl h2) hm rv o1) fun σ H Q ⟨W, S, env, q, r, _, w, o⟩ => ?_
    simp only [wpE] at w
    obtain ⟨y', hy, hq⟩ := w
    rw [e] at hy; cases hy
    exact o W S H _ v (Ext.refl _ _ _) r (rp W H) hq
theorem le_lit {e : E} {d : D} {v : V} {x : Expr} (hx : PE X x (tC v)) (rp : ∀ W H, Rep K W H d v) (hw : ∀ env S q, wpE c.T G noX e env S q → q d S) : PE X x (LE K (wpE c.T G noX e)) := by
  refine PE.imp hx fun σ H Q ⟨W, S, env, q, r, _, w, o⟩ => ?_
  exact o W S H d v (Ext.refl _ _ _) r (rp W H) (hw _ _ _ w)

/-- two parts, then an operation by values -/
theorem le_two {r : R2} {ta tb : TE} {wa wb : Env → Sto → Q1 → Prop} {op : Sto → D → D → Q1 → Prop} (ha : ∀ σ H Q, LE K wa σ H Q → ta σ H Q) (hb : ∀ σ H Q, LE K wb σ H Q → tb σ H Q)
    (hr : ∀ W S H dx dy x y q Q, Rel K W S H → Rep K W H dx x → Rep K W H dy y → op S dx dy q → (∀ W' S' H' d v, Ext W S H W' S' H' → Rel K W' S' H' → Rep K W' H' d v → q d S' → Q v H') → r x y H Q) :
    ∀ σ H Q, LE K (fun env S q => wa env S fun x S1 => wb env S1 fun y S2 => op S2 x y q) σ H Q → tOp r ta tb σ H Q := fun σ H Q ⟨W, S, env, q, rl, er, w, o⟩ => by
  refine ha σ H _ ⟨W, S, env, _, rl, er, w, fun W1 S1 H1 dx x e1 r1 p1 w1 => ?_⟩
  refine hb σ H1 _ ⟨W1, S1, env, _, r1, er.keep (e1.keep rl), w1, fun W2 S2 H2 dy y e2 r2 p2 w2 => ?_⟩
  exact hr W2 S2 H2 dx dy x y q Q r2 (p1.keep (e2.keep r1)) p2 w2 fun W' S' H' d v e' => o W' S' H' d v ((e1.trans e2).trans e')

theorem le_bin (g : Good X K c n G) {o : Op} {a b : E} {x : Expr} (h : ckE (.bin o a b) c x = true) (ia : ∀ y, ckE a c y = true → PE X y (LE K (wpE c.T G noX a))) (ib : ∀ y, ckE b c y = true → PE X y (LE K (wpE c.T G noX b))) :
    PE X x (LE K (wpE c.T G noX (.bin o a b))) := by
  obtain ⟨l, q, r, p, rfl, h1, h2, h3⟩ := ck_bin h
  rw [← eqb h1]
  refine PE.imp (pe_op (op_bin g.hK o) (ia l h2) (ib r h3)) fun σ H Q w => ?_
  simp only [wpE] at w
  refine le_two (op := fun S x y q => ∃ z, binD o S x y = some z ∧ q z S) (fun _ _ _ z => z) (fun _ _ _ z => z) ?_ σ H Q w
  rintro W S H dx dy x y q Q rl px py ⟨z, e, hq⟩ k
  exact ⟨W, S, dx, dy, z, rl, px, py, e, fun W' H' v e' r' p' => k W' S H' z v e' r' p' hq⟩
theorem le_mad (g : Good X K c n G) {a b : E} {x : Expr} (h : ckE (.mad a b) c x = true) (ia : ∀ y, ckE a c y = true → PE X y (LE K (wpE c.T G noX a))) (ib : ∀ y, ckE b c y = true → PE X y (LE K (wpE c.T G noX b))) :
    PE X x (LE K (wpE c.T G noX (.mad a b))) := by
  obtain ⟨l, q, r, p, rfl, h1, h2, h3⟩ := ck_mad h
  rw [← eqb h1]
  refine PE.imp (pe_op (show OpR X (binaryOp (opE .add)) (rMad K) from op_mad g.hK) (ia l h2) (ib r h3)) fun σ H Q w => ?_
  simp only [wpE] at w
  refine le_two (op := fun S x y q => ∃ xs ys, lstD S x = some xs ∧ lstD S y = some ys ∧ xs.length + ys.length ≤ sizeLine ∧ ∀ n, S n = none → q (.loc n) (put S n (.lst (xs ++ ys)))) (fun _ _ _ z => z) (fun _ _ _ z => z) ?_ σ H Q w
  rintro W S H dx dy x y q Q rl px py ⟨xs, ys, e1, e2, h, hq⟩ k
  exact ⟨W, S, dx, dy, xs, ys, rl, px, py, e1, e2, h, fun n hn W' H' v e' r' p' => k W' _ H' _ v e' r' p' (hq n hn)⟩
theorem le_cmp (g : Good X K c n G) {o : Cp} {a b : E} {x : Expr} (h : ckE (.cmp o a b) c x = true) (ia : ∀ y, ckE a c y = true → PE X y (LE K (wpE c.T G noX a))) (ib : ∀ y, ckE b c y = true → PE X y (LE K (wpE c.T G noX b))) :
    PE X x (LE K (wpE c.T G noX (.cmp o a b))) := by
  obtain ⟨l, q, r, p, rfl, h1, h2, h3, h4⟩ := ck_cmp h
  rw [← eqb h1]
  have hm : behindInMarks (cpE o) r = false := by
    cases r <;> first | rfl | (simp [notSet] at h4; done)
  refine PE.imp (pe_cmpR (op_cmp g.hK o g.hW g.units) (ia l h2) (ib r h3) hm) fun σ H Q w => ?_
  simp only [wpE] at w
  refine le_two (op := fun S x y q => ∃ k, cmpD o S x y = some k ∧ q (.bl k) S) (fun _ _ _ z => z) (fun _ _ _ z => z) ?_ σ H Q w
  rintro W S H dx dy x y q Q rl px py ⟨z, e, hq⟩ k
  exact ⟨W, S, dx, dy, z, rl, px, py, e, k W S H _ _ (Ext.refl _ _ _) rl (.bl z) hq⟩
theorem le_chn (g : Good X K c n G) {o o' : Cp} {a b d : E} {x : Expr} (h : ckE (.chn o o' a b d) c x = true) (ia : ∀ y, ckE a c y = true → PE X y (LE K (wpE c.T G noX a))) (ib : ∀ y, ckE b c y = true → PE X y (LE K (wpE c.T G noX b)))
    (id : ∀ y, ckE d c y = true → PE X y (LE K (wpE c.T G noX d))) : PE X x (LE K (wpE c.T G noX (.chn o o' a b d))) := by
  obtain ⟨l, q, q', r, t, p, rfl, h1, h1', h2, h3, h3', h4⟩ := ck_chn h
  rw [← eqb h1, ← eqb h1']
  have hm : lastMarks [cpE o, cpE o'] [r, t] = false := by
    show behindInMarks (cpE o') t = false
    cases t <;> first | rfl | (simp [notSet] at h4; done)
  refine PE.imp (pe_chain (op_cmp g.hK o g.hW g.units) (op_cmp g.hK o' g.hW g.units) (ia l h2) (ib r h3) (id t h3') hm) fun σ H Q ⟨W, S, env, q, rl, er, w, ok⟩ => ?_
  simp only [wpE] at w
  refine ⟨W, S, env, _, rl, er, w, fun W1 S1 H1 dx x e1 r1 p1 w1 => ?_⟩
  refine ⟨W1, S1, env, _, r1, er.keep (e1.keep rl), w1, fun W2 S2 H2 dy y e2 r2 p2 w2 => ?_⟩
  obtain ⟨k, ek, w3⟩ := w2
  refine ⟨W2, S2, dx, dy, k, r2, p1.keep (e2.keep r1), p2, ek, k, rfl, ?_⟩
  cases k with
  | false =>
    rw [if_neg Bool.false_ne_true] at w3 ⊢
    exact ok W2 S2 H2 _ _ (e1.trans e2) r2 (.bl false) w3
  | true =>
    rw [if_pos rfl] at w3 ⊢
    refine ⟨W2, S2, env, _, r2, (er.keep (e1.keep rl)).keep (e2.keep r1), w3, fun W3 S3 H3 dz z e3 r3 p3 w4 => ?_⟩
    obtain ⟨k', ek', w5⟩ := w4
    exact ⟨W3, S3, dy, dz, k', r3, p2.keep (e3.keep r2), p3, ek', ok W3 S3 H3 _ _ ((e1.trans e2).trans e3) r3 (.bl k') w5⟩
theorem le_chn3 (g : Good X K c n G) {o o' o'' : Cp} {a b d e : E} {x : Expr} (h : ckE (.chn3 o o' o'' a b d e) c x = true) (ia : ∀ y, ckE a c y = true → PE X y (LE K (wpE c.T G noX a))) (ib : ∀ y, ckE b c y = true → PE X y (LE K (wpE c.T G noX b)))
    (id : ∀ y, ckE d c y = true → PE X y (LE K (wpE c.T G noX d))) (ie : ∀ y, ckE e c y = true → PE X y (LE K (wpE c.T G noX e))) :
    PE X x (LE K (wpE c.T G noX (.chn3 o o' o'' a b d e))) ∧ PT X x (LT K (wpT c.T G noX (.chn3 o o' o'' a b d e))) := by
  obtain ⟨l, q, q', q'', r, t, u, p, rfl, h1, h1', h1'', h2, h3, h4, h5, h6⟩ := ck_chn3 h
  rw [← eqb h1, ← eqb h1', ← eqb h1'']
  have hm : lastMarks [cpE o, cpE o', cpE o''] [r, t, u] = false := by
    show behindInMarks (cpE o'') u = false
    cases u <;> first | rfl | (simp [notSet] at h6; done)
  constructor
  · refine PE.imp (Ch.pe_chain3 (op_cmp g.hK o g.hW g.units) (op_cmp g.hK o' g.hW g.units) (op_cmp g.hK o'' g.hW g.units) (ia l h2) (ib r h3) (id t h4) (ie u h5) hm) fun σ H Q ⟨W, S, env, q, rl, er, w, ok⟩ => ?_
    simp only [wpE] at w
    refine ⟨W, S, env, _, rl, er, w, fun W1 S1 H1 dx x e1 r1 p1 w1 => ?_⟩
    refine ⟨W1, S1, env, _, r1, er.keep (e1.keep rl), w1, fun W2 S2 H2 dy y e2 r2 p2 w2 => ?_⟩
    obtain ⟨k, ek, w3⟩ := w2
    refine ⟨W2, S2, dx, dy, k, r2, p1.keep (e2.keep r1), p2, ek, k, rfl, ?_⟩
    cases k with
    | false =>
      rw [if_neg Bool.false_ne_true] at w3 ⊢
      exact ok W2 S2 H2 _ _ (e1.trans e2) r2 (.bl false) w3
    | true =>
      rw [if_pos rfl] at w3 ⊢
      have er2 := (er.keep (e1.keep rl)).keep (e2.keep r1)
      refine ⟨W2, S2, env, _, r2, er2, w3, fun W3 S3 H3 dz z e3 r3 p3 w4 => ?_⟩
      obtain ⟨k', ek', w5⟩ := w4
      refine ⟨W3, S3, dy, dz, k', r3, p2.keep (e3.keep r2), p3, ek', k', rfl, ?_⟩
      cases k' with
      | false =>
        rw [if_neg Bool.false_ne_true] at w5 ⊢
        exact ok W3 S3 H3 _ _ ((e1.trans e2).trans e3) r3 (.bl false) w5
      | true =>
        rw [if_pos rfl] at w5 ⊢
        refine ⟨W3, S3, env, _, r3, er2.keep (e3.keep r2), w5, fun W4 S4 H4 dw w4 e4 r4 p4 w6 => ?_⟩
        obtain ⟨k'', ek'', w7⟩ := w6
        exact ⟨W4, S4, dz, dw, k'', r4, p3.keep (e4.keep r3), p4, ek'', ok W4 S4 H4 _ _ (((e1.trans e2).trans e3).trans e4) r4 (.bl k'') w7⟩
  · refine PT.imp (Ch.pt_chain3 (op_cmp g.hK o g.hW g.units) (op_cmp g.hK o' g.hW g.units) (op_cmp g.hK o'' g.hW g.units) (ia l h2) (ib r h3) (id t h4) (ie u h5) hm) fun σ H Q ⟨W, S, env, q, rl, er, w, ok⟩ => ?_
    simp only [wpT, wpE] at w
    refine ⟨W, S, env, _, rl, er, w, fun W1 S1 H1 dx x e1 r1 p1 w1 => ?_⟩
    refine ⟨W1, S1, env, _, r1, er.keep (e1.keep rl), w1, fun W2 S2 H2 dy y e2 r2 p2 w2 => ?_⟩
    obtain ⟨k, ek, w3⟩ := w2
    refine ⟨W2, S2, dx, dy, k, r2, p1.keep (e2.keep r1), p2, ek, k, rfl, ?_⟩
    cases k with
    | false =>
      rw [if_neg Bool.false_ne_true] at w3 ⊢
      obtain ⟨k', ek', hq⟩ := w3
      cases ek'
      exact ⟨false, rfl, ok W2 S2 H2 _ (e1.trans e2) r2 hq⟩
    | true =>
      rw [if_pos rfl] at w3 ⊢
      have er2 := (er.keep (e1.keep rl)).keep (e2.keep r1)
      refine ⟨W2, S2, env, _, r2, er2, w3, fun W3 S3 H3 dz z e3 r3 p3 w4 => ?_⟩
      obtain ⟨k', ek', w5⟩ := w4
      refine ⟨W3, S3, dy, dz, k', r3, p2.keep (e3.keep r2), p3, ek', k', rfl, ?_⟩
      cases k' with
      | false =>
        rw [if_neg Bool.false_ne_true] at w5 ⊢
        obtain ⟨k2, ek2, hq⟩ := w5
        cases ek2
        exact ⟨false, rfl, ok W3 S3 H3 _ ((e1.trans e2).trans e3) r3 hq⟩
      | true =>
        rw [if_pos rfl] at w5 ⊢
        refine ⟨W3, S3, env, _, r3, er2.keep (e3.keep r2), w5, fun W4 S4 H4 dw w4 e4 r4 p4 w6 => ?_⟩
        obtain ⟨k'', ek'', k3, ek3, hq⟩ := w6
        cases ek3
        exact ⟨W4, S4, dz, dw, k'', r4, p3.keep (e4.keep r3), p4, ek'', k'', rfl, ok W4 S4 H4 _ (((e1.trans e2).trans e3).trans e4) r4 hq⟩
theorem le_andor (g : Good X K c n G) {a b : E} {y z : Expr} {rest : List Expr} {p : Pos} (iy : PE X y (LE K (wpE c.T G noX a))) :
    (PE X (.BoolOp .And (z :: rest) p) (LE K (wpE c.T G noX b)) → PE X (.BoolOp .And (y :: z :: rest) p) (LE K (wpE c.T G noX (.and a b)))) ∧ (PE X (.BoolOp .Or (z :: rest) p) (LE K (wpE c.T G noX b)) → PE X (.BoolOp .Or (y :: z :: rest) p) (LE K (wpE c.T G noX (.or a b)))) := by
  refine ⟨fun iz => PE.imp (pe_andT iy iz) fun σ H Q ⟨W, S, env, q, rl, er, w, ok⟩ => ?_, fun iz => PE.imp (pe_orT iy iz) fun σ H Q ⟨W, S, env, q, rl, er, w, ok⟩ => ?_⟩
  · simp only [wpE] at w
    refine ⟨W, S, env, _, rl, er, w, fun W1 S1 H1 dx x e1 r1 p1 w1 => ?_⟩
    obtain ⟨k, ek, w2⟩ := w1
    refine ⟨k, g.hK ▸ tru_of r1 p1 ek, ?_⟩
    cases k with
    | false =>
      rw [if_neg Bool.false_ne_true] at w2 ⊢
      exact ok W1 S1 H1 dx x e1 r1 p1 w2
    | true =>
      rw [if_pos rfl] at w2 ⊢
      exact ⟨W1, S1, env, _, r1, er.keep (e1.keep rl), w2, fun W2 S2 H2 dy y e2 r2 p2 w3 => ok W2 S2 H2 dy y (e1.trans e2) r2 p2 w3⟩
  · simp only [wpE] at w
    refine ⟨W, S, env, _, rl, er, w, fun W1 S1 H1 dx x e1 r1 p1 w1 => ?_⟩
    obtain ⟨k, ek, w2⟩ := w1
    refine ⟨k, g.hK ▸ tru_of r1 p1 ek, ?_⟩
    cases k with
    | true =>
      rw [if_pos rfl] at w2 ⊢
      exact ok W1 S1 H1 dx x e1 r1 p1 w2
    | false =>
      rw [if_neg Bool.false_ne_true] at w2 ⊢
      exact ⟨W1, S1, env, _, r1, er.keep (e1.keep rl), w2, fun W2 S2 H2 dy y e2 r2 p2 w3 => ok W2 S2 H2 dy y (e1.trans e2) r2 p2 w3⟩
theorem le_not (g : Good X K c n G) {a : E} {x : Expr} (h : ckE (.not a) c x = true) (ia : ∀ y, ckE a c y = true → PE X y (LE K (wpE c.T G noX a))) : PE X x (LE K (wpE c.T G noX (.not a))) := by
  obtain ⟨y, p, rfl, h1⟩ := ck_not h
  refine PE.imp (pe_notT (ia y h1)) fun σ H Q ⟨W, S, env, q, rl, er, w, ok⟩ => ?_
  simp only [wpE] at w
  refine ⟨W, S, env, _, rl, er, w, fun W1 S1 H1 dx x e1 r1 p1 w1 => ?_⟩
  obtain ⟨k, ek, w2⟩ := w1
  exact ⟨k, g.hK ▸ tru_of r1 p1 ek, ok W1 S1 H1 _ _ e1 r1 (.bl _) w2⟩
theorem le_neg (g : Good X K c n G) {a : E} {x : Expr} (h : ckE (.neg a) c x = true) (ia : ∀ y, ckE a c y = true → PE X y (LE K (wpE c.T G noX a))) : PE X x (LE K (wpE c.T G noX (.neg a))) := by
  obtain ⟨y, p, rfl, h1⟩ := ck_neg h
  refine PE.imp (pe_un un_neg (ia y h1)) fun σ H Q ⟨W, S, env, q, rl, er, w, ok⟩ => ?_
  simp only [wpE] at w
  refine ⟨W, S, env, _, rl, er, w, fun W1 S1 H1 dx x e1 r1 p1 w1 => ?_⟩
  obtain ⟨i, rfl, w2⟩ := w1
  cases p1
  exact ⟨i, rfl, ok W1 S1 H1 _ _ e1 r1 (.int _) w2⟩
theorem le_ife (g : Good X K c n G) {t a b : E} {x : Expr} (h : ckE (.ife t a b) c x = true) (it : ∀ y, ckE t c y = true → PT X y (LT K (wpT c.T G noX t))) (ia : ∀ y, ckE a c y = true → PE X y (LE K (wpE c.T G noX a)))
    (ib : ∀ y, ckE b c y = true → PE X y (LE K (wpE c.T G noX b))) : PE X x (LE K (wpE c.T G noX (.ife t a b))) := by
  obtain ⟨u, y, z, p, rfl, h1, h2, h3⟩ := ck_ife h
  refine PE.imp (pe_ifExp (it u h1) (ia y h2) (ib z h3)) fun σ H Q ⟨W, S, env, q, rl, er, w, ok⟩ => ?_
  simp only [wpE] at w
  refine ⟨W, S, env, fun k S1 => if k = true then wpE c.T G noX a env S1 q else wpE c.T G noX b env S1 q, rl, er, w, fun W1 S1 H1 k e1 r1 w1 => ?_⟩
  cases k with
  | true =>
    rw [if_pos rfl] at w1 ⊢
    exact ⟨W1, S1, env, _, r1, er.keep (e1.keep rl), w1, fun W2 S2 H2 dy y e2 r2 p2 w3 => ok W2 S2 H2 dy y (e1.trans e2) r2 p2 w3⟩
  | false =>
    rw [if_neg Bool.false_ne_true] at w1 ⊢
    exact ⟨W1, S1, env, _, r1, er.keep (e1.keep rl), w1, fun W2 S2 H2 dy y e2 r2 p2 w3 => ok W2 S2 H2 dy y (e1.trans e2) r2 p2 w3⟩
theorem le_ix (g : Good X K c n G) {a b : E} {x : Expr} (h : ckE (.ix a b) c x = true) (ia : ∀ y, ckE a c y = true → PE X y (LE K (wpE c.T G noX a))) (ib : ∀ y, ckE b c y = true → PE X y (LE K (wpE c.T G noX b))) :
    PE X x (LE K (wpE c.T G noX (.ix a b))) := by
  obtain ⟨l, r, p, rfl, h2, h3⟩ := ck_ix h
  refine PE.imp (pe_ix (ix_all g.hK g.hW (by have := g.units; omega)) (ia l h2) (ib r h3) (ck_plain h3)) fun σ H Q w => ?_
  simp only [wpE] at w
  refine le_two (op := fun S x y q => ∃ z, ixD S x y = some z ∧ q z S) (fun _ _ _ z => z) (fun _ _ _ z => z) ?_ σ H Q w
  rintro W S H dx dy x y q Q rl px py ⟨z, e, hq⟩ k
  exact ⟨W, S, dx, dy, z, rl, px, py, e, fun W' H' v e' r' p' => k W' S H' z v e' r' p' hq⟩
/-- a display's length, an argument list -/
theorem le_tup (g : Good X K c n G) {es : Es} {x : Expr} (h : ckE (.tup es) c x = true) (ia : ∀ y, ckEs es c y = true → PA X y (LA K (wpEs c.T G noX es))) : PE X x (LE K (wpE c.T G noX (.tup es))) := by
  obtain ⟨xs, k, p, rfl, h1⟩ := ck_tup h
  refine PE.imp (pe_tup (ia xs h1)) fun σ H Q ⟨W, S, env, q, rl, er, w, ok⟩ => ?_
  simp only [wpE] at w
  refine ⟨W, S, env, _, rl, er, w, fun W1 S1 H1 ds vs e1 r1 p1 w1 => ?_⟩
  refine ⟨?_, Out.tup (S := S1) (fun W' H' v e' r' p' => ok W' S1 H' _ v (e1.trans e') r' p' w1.2) r1 p1⟩
  rw [← p1.length]; exact Nat.le_trans w1.1 (by decide)
theorem le_lst (g : Good X K c n G) {es : Es} {x : Expr} (h : ckE (.lst es) c x = true) (ia : ∀ y, ckEs es c y = true → PA X y (LA K (wpEs c.T G noX es))) : PE X x (LE K (wpE c.T G noX (.lst es))) := by
  obtain ⟨xs, p, rfl, h1⟩ := ck_lst h
  refine PE.imp (pe_lst (ia xs h1)) fun σ H Q ⟨W, S, env, q, rl, er, w, ok⟩ => ?_
  simp only [wpE] at w
  refine ⟨W, S, env, _, rl, er, w, fun W1 S1 H1 ds vs e1 r1 p1 w1 => ?_⟩
  refine ⟨?_, Out.lst (S := S1) (fun W' H' v e' r' p' => ok W' S1 H' _ v (e1.trans e') r' p' w1.2) r1 p1⟩
  rw [← p1.length]; exact Nat.le_trans w1.1 (by decide)
theorem le_mls (g : Good X K c n G) {es : Es} {x : Expr} (h : ckE (.mls es) c x = true) (ia : ∀ y, ckEs es c y = true → PA X y (LA K (wpEs c.T G noX es))) : PE X x (LE K (wpE c.T G noX (.mls es))) := by
  obtain ⟨xs, p, rfl, h1⟩ := ck_mls h
  refine PE.imp (pe_lst (ia xs h1)) fun σ H Q ⟨W, S, env, q, rl, er, w, ok⟩ => ?_
  simp only [wpE] at w
  refine ⟨W, S, env, _, rl, er, w, fun W1 S1 H1 ds vs e1 r1 p1 w1 => ?_⟩
  refine ⟨?_, Out.mls (S := S1) (fun m hm W' H' v e' r' p' => ok W' _ H' _ v (e1.trans e') r' p' (w1.2 m hm)) r1 p1⟩
  rw [← p1.length]; exact Nat.le_trans w1.1 (by decide)
theorem le_fz (g : Good X K c n G) {a : E} {x : Expr} (ia : PE X x (LE K (wpE c.T G noX a))) : PE X x (LE K (wpE c.T G noX (.fz a))) := by
  refine PE.imp ia fun σ H Q ⟨W, S, env, q, rl, er, w, ok⟩ => ?_
  simp only [wpE] at w
  refine ⟨W, S, env, _, rl, er, w, fun W1 S1 H1 dx x e1 r1 p1 w1 => ?_⟩
  obtain ⟨m, xs, rfl, hm, hq⟩ := w1
  obtain ⟨a, ha, r2, e2, p2⟩ := rel_fz r1 hm
  cases p1 with
  | loc e =>
    rw [ha] at e; cases e
    exact ok _ _ _ _ _ (e1.trans e2) r2 p2 hq
end
end Mi
set_option maxHeartbeats 4000000
/-! MiR: a list or a tuple backwards. -/
namespace Mi
open PySem PySem.Spec PyProof.Rows L2
section
variable {prog : Program} {w : World} {A : Around} {E : Value → Shared → Prop} {s : Shared}
theorem back_pick (xs : Array Value) : ((List.range xs.size).filterMap fun (k : Nat) => xs[(((xs.size : Nat) : Int) - 1 + (k : Int) * (-1)).toNat]?).toArray = xs.toList.reverse.toArray := by
  have e : (List.range xs.size).filterMap (fun (k : Nat) => xs[(((xs.size : Nat) : Int) - 1 + (k : Int) * (-1)).toNat]?) = xs.toList.reverse := by
    obtain ⟨l⟩ := xs
    apply List.ext_getElem?
    intro i
    have all : ∀ (n : Nat) (f : Nat → Option Value), (∀ k, k < n → (f k).isSome = true) → ∀ i : Nat, ((List.range n).filterMap f)[i]? = if i < n then f i else none := by
      intro n f
      induction n with
      | zero => intro _ i; simp
      | succ n ih =>
        intro h i
        rw [List.range_succ, List.filterMap_append]
        obtain ⟨y, hy⟩ := Option.isSome_iff_exists.mp (h n (by omega))
        have len : ((List.range n).filterMap f).length = n := by
          have q := ih (fun k hk => h k (by omega))
          have a1 := q n
          rw [if_neg (by omega)] at a1
          have a2 := List.getElem?_eq_none_iff.mp a1
          refine Nat.le_antisymm a2 ?_
          cases n with
          | zero => omega
          | succ m =>
            have b1 := q m
            rw [if_pos (by omega)] at b1
            obtain ⟨y', hy'⟩ := Option.isSome_iff_exists.mp (h m (by omega))
            rw [hy'] at b1
            have b2 := (List.getElem?_eq_some_iff.mp b1).1
            omega
        by_cases hi : i < n
        · rw [List.getElem?_append_left (by omega), ih (fun k hk => h k (by omega)), if_pos hi, if_pos (by omega)]
        · rw [List.getElem?_append_right (by omega), len]
          by_cases e : i = n
          · subst e; simp [hy]
          · rw [if_neg (by omega)]
            have : i - n ≠ 0 := by omega
            simp [hy, this]
    have hs : (⟨l⟩ : Array Value).size = l.length := rfl
    rw [hs, all l.length]
    · by_cases hi : i < l.length
      · rw [if_pos hi]
        have t : (((l.length : Nat) : Int) - 1 + (i : Int) * (-1)).toNat = l.length - 1 - i := by omega
        rw [t]
        simp [List.getElem?_reverse hi]
      · rw [if_neg hi, List.getElem?_eq_none (by simp; omega)]
    · intro k hk
      have t : (((l.length : Nat) : Int) - 1 + (k : Int) * (-1)).toNat = l.length - 1 - k := by omega
      rw [t]
      have : l.length - 1 - k < l.length := by omega
      simp [this]
  rw [e]
theorem tup_back {t sl : Addr} {items : Array Value} {vs : Value} {Q : Value → Shared → Prop} (ht : IsTup s.heap t items) (hs : s.heap.IsSliceOf sl .none .none vs) (ps : IsPart vs (some (-1)))
    (h : Q (.ref s.heap.objs.size) { s with heap := s.heap.push { cls := .type "tuple", data := .seq items.toList.reverse.toArray } }) (hsz : items.size ≤ sizeLine) : wpAny (model prog w) A (getItem (.ref t) (.ref sl)) Q E s := by
  have fits : sizeOk (.seq items.toList.reverse.toArray) := by
    show items.toList.reverse.toArray.size ≤ sizeLine
    rw [List.size_toArray, List.length_reverse, Array.length_toList]
    exact hsz
  obtain ⟨os, e1, e2, e3⟩ := id hs
  have tS : s.TypeIs (.ref sl) "slice" := ⟨os, e1, e2⟩
  unfold getItem
  try with_reducible apply wpAny_holding
  first | apply wpAny_bind (wpAny_pure _) | skip
  refine wpAny_bind (wpAny_sequenceKey ht.typeIs (by decide) ?_)
  refine wpAny_bind (wpAny_callSpecial?_slot (name := Str.ofString "__getitem__") ht.typeIs PyProof.Rows.slot_tuple_getitem (wpAny_call_entry PyProof.Rows.slot_tuple_getitem ht.typeIs entry_tuple_getitem ?_ (args_tuple_getitem _ _)))
  show wpAny _ _ (Builtin.Tuple.tupleItemsOf (.ref t) >>= _) _ _ s
  refine wpAny_bind (tupleItemsOf_ ht (wpAny_bind (wpAny_typeOf tS ?_)))
  rw [if_pos (by decide)]
  have parts : ∀ {A' : Around} {E' : Value → Shared → Prop} {Q' : Int × Int × Nat → Shared → Prop}, Q' (((items.size : Nat) : Int) - 1, -1, items.size) s → wpAny (model prog w) A' (Builtin.Slice.sliceApplied (.ref sl) (pure (items.size : Int))) Q' E' s := fun {A' E' Q'} hq => by
    unfold Builtin.Slice.sliceApplied Builtin.Slice.sliceFields
    refine wpAny_bind (wpAny_bind (wpAny_field e1 e3 (x := .none) rfl (wpAny_bind (wpAny_field e1 e3 (x := .none) rfl (wpAny_bind (wpAny_field e1 e3 (x := vs) rfl (wpAny_pure ?_)))))))
    refine wpAny_bind (HT.slicePart_ ps ?_)
    show wpAny _ _ (if ((-1 : Int) == 0) = true then _ else _) _ _ s
    rw [if_neg (by decide)]
    refine wpAny_bind (HT.slicePart_ .none (wpAny_bind (HT.slicePart_ .none (wpAny_bind (wpAny_pure ?_)))))
    show wpAny _ _ (match Builtin.Slice.sliceAdjust none none (-1) (items.size : Int) with | (lo, hi) => pure (lo, (-1 : Int), Builtin.Slice.slicePlaces lo hi (-1))) _ _ s
    have a1 : Builtin.Slice.sliceAdjust none none (-1) (items.size : Int) = ((items.size : Int) - 1, -1) := by
      unfold Builtin.Slice.sliceAdjust
      simp
    rw [a1]
    show wpAny _ _ (pure ((items.size : Int) - 1, (-1 : Int), Builtin.Slice.slicePlaces ((items.size : Int) - 1) (-1) (-1))) _ _ s
    have a2 : Builtin.Slice.slicePlaces ((items.size : Int) - 1) (-1) (-1) = items.size := by
      unfold Builtin.Slice.slicePlaces
      simp
      first | omega | (split <;> omega) | trace_state
    rw [a2]
    exact wpAny_pure hq
  refine wpAny_bind (parts ?_)
  show wpAny _ _ (if (((items.size : Int) - 1) == 0 && (-1 : Int) == 1 && items.size == items.size) = true then _ else _) _ _ s
  rw [if_neg (by simp), back_pick]
  first
    | exact wpAny_bind (m := Builtin.Tuple.tupleExact _) (wpAny_newObj_type (wpAny_pure ⟨_, rfl, wpAny_pure h⟩) fits)
    | exact wpAny_bind (m := Builtin.Tuple.tupleExact _) (wpAny_newObj_type (wpAny_bind (wpAny_pure (wpAny_pure ⟨_, rfl, wpAny_pure h⟩))) fits)
    | exact wpAny_bind (wpAny_bind (m := Builtin.Tuple.tupleExact _) (wpAny_newObj_type (wpAny_pure (wpAny_pure ⟨_, rfl, wpAny_pure h⟩)) fits))
    | exact wpAny_bind (wpAny_bind (m := Builtin.Tuple.tupleExact _) (wpAny_newObj_type (wpAny_pure ⟨_, rfl, wpAny_pure h⟩) fits))
end
/-- x[::-1], x a list or a tuple -/
def tRevA (K : PySem.W.Frag) (te : TE) : TE := fun σ H Q => te σ H fun x H1 => ∃ a xs, x = .ref a ∧ ((SqL K H1 a xs ∧ ∀ p, H1 p = none → Q (.ref p) (upd H1 p (.lst xs.reverse))) ∨ (SqT K H1 a xs ∧ ∀ p, H1 p = none → Q (.ref p) (upd H1 p (.tup xs.reverse))))
theorem pe_revA {X : Cx} {e : Expr} {te : TE} {k : Nat} {p1 p2 p3 pos : Pos} (he : PE X e te) : PE X (.Subscript e (.Slice none none (some (.UnaryOp .USub (.Constant (.int 1) k p1) p2)) p3) pos) (tRevA X.K te) := by
  refine ⟨fun pins s σ H Q I h => Subscript_ (thn (he.run pins s σ H _ I h) fun v s1 ⟨x, H1, I1, r1, a, xs, ex, q⟩ => ?_)⟩
  subst ex
  cases r1
  have hst : PO X (some (.UnaryOp .USub (.Constant (.int 1) k p1) p2)) (tPart (tUn (rU fun i => .int (-i)) (tC (.int 1)))) := po_some (pe_un un_neg pe_int)
  refine wpAny_Slice (thn (po_none.run pins s1 σ H1 (fun o H2 => o = none ∧ H2 = H1) I1 ⟨rfl, rfl⟩) fun vl s2 ⟨l, H2, I2, pl, el, e2⟩ => ?_)
  subst el e2
  refine thn (po_none.run pins s2 σ H2 (fun o H3 => o = none ∧ H3 = H2) I2 ⟨rfl, rfl⟩) fun vu s3 ⟨u, H3, I3, pu, eu, e3⟩ => ?_
  subst eu e3
  refine thn (hst.run pins s3 σ H3 (fun o H4 => o = some (-1) ∧ H4 = H3) I3 ⟨1, rfl, -1, rfl, rfl, rfl⟩) fun vs s4 ⟨o, H4, I4, ps, eo, e4⟩ => ?_
  subst eo e4
  have I5 : Inv X pins σ H4 { s4 with heap := s4.heap.push { cls := .type "slice", data := .fields #[vl, vu, vs] } } := I4.kept (t' := s4.toks) fun b ob q => Heap.get?_push_of_some _ q
  show wpAny (model X.prog X.w) X.A (subscriptTail e (.Slice none none (some (.UnaryOp .USub (.Constant (.int 1) k p1) p2)) p3) (.ref a) (.ref s4.heap.objs.size)) (EP X pins σ Q) X.xe { s4 with heap := s4.heap.push { cls := .type "slice", data := .fields #[vl, vu, vs] } }
  rcases q with ⟨hx, q⟩ | ⟨hx, q⟩
  · obtain ⟨its, r, ht, hz⟩ := I5.list hx
    have hlen := r.length
    refine tail_any (ops := [.ref a, .ref s4.heap.objs.size]) ht.isList.typeIs (PySem.slot_list_getitem.lookup) ?_ (by with_unfolding_all rfl)
    refine wpAny_getItem_list_slice ht.isList (Heap.IsSliceOf.new _ vl vu vs) pl pu ps (by decide) ?_ (by rw [List.size_toArray]; omega)
    rw [PySem.W.krv_pick]
    exact ⟨.ref _, _, I5.laid (t' := s4.toks) (o := .lst xs.reverse) (fun b ob q => Heap.get?_push_of_some _ q) (Nat.le_refl _) ⟨by rw [List.length_reverse]; exact hz, _, 0, r.reverse, Heap.get?_push_size _ rfl⟩, rfl, q _ (I5.hok.fresh (Nat.le_refl _))⟩
  · obtain ⟨its, r, ht, hz⟩ := I5.tuple hx
    have hlen := r.length
    cases pl
    cases pu
    refine tail_any (ops := [.ref a, .ref s4.heap.objs.size]) ht.typeIs (PyProof.Rows.slot_tuple_getitem.lookup) ?_ (by with_unfolding_all rfl)
    refine tup_back ht (Heap.IsSliceOf.new _ .none .none vs) ps ?_ (by rw [List.size_toArray]; omega)
    exact ⟨.ref _, _, I5.laid (t' := s4.toks) (o := .tup xs.reverse) (fun b ob q => Heap.get?_push_of_some _ q) (Nat.le_refl _) ⟨by rw [List.length_reverse]; exact hz, _, r.reverse, ⟨_, Heap.get?_push_size _ rfl, rfl, _, rfl⟩⟩, rfl, q _ (I5.hok.fresh (Nat.le_refl _))⟩
end Mi
set_option maxHeartbeats 4000000
/-! Mi10: the small language is right: slices, arguments, calls. -/
namespace Mi
open PySem PySem.Spec PyProof.Rows L2

section
variable {X : Cx} {K : Frg} {c : SC} {n : Nat} {G : GT}

theorem la_nil : PA X [] (LA K (wpEs c.T G noX .nil)) := PA.imp pa_nil fun σ H Q ⟨W, S, env, q, rl, er, w, ok⟩ => by
  simp only [wpEs] at w
  exact ok W S H [] [] (Ext.refl _ _ _) rl .nil w
theorem la_cons {e : E} {es : Es} {x : Expr} {xs : List Expr} (h : ckE e c x = true) (ie : PE X x (LE K (wpE c.T G noX e))) (is : PA X xs (LA K (wpEs c.T G noX es))) : PA X (x :: xs) (LA K (wpEs c.T G noX (.cons e es))) :=
  PA.imp (pa_cons ie is (ck_star h)) fun σ H Q ⟨W, S, env, q, rl, er, w, ok⟩ => by
    simp only [wpEs] at w
    refine ⟨W, S, env, _, rl, er, w, fun W1 S1 H1 dx x e1 r1 p1 w1 => ?_⟩
    exact ⟨W1, S1, env, _, r1, er.keep (e1.keep rl), w1, fun W2 S2 H2 ds vs e2 r2 p2 w2 => ok W2 S2 H2 _ _ (e1.trans e2) r2 (.cons (p1.keep (e2.keep r1)) p2) w2⟩

/-- a slice's part -/
def LO (K : Frg) (t : Env → Sto → (Option Int → Sto → Prop) → Prop) : TO := fun σ H Q => ∃ W S env q, Rel K W S H ∧ EnvR K W H env σ ∧ t env S q ∧ ∀ W' S' H' o, Ext W S H W' S' H' → Rel K W' S' H' → q o S' → Q o H'
def wpO (T : Tab) (G : GT) (es : Es) (env : Env) (S : Sto) (q : Option Int → Sto → Prop) : Prop := wpEs T G noX es env S fun ds S' => ∃ is, intsD ds = some is ∧ q is[0]? S'
theorem lo_nil : PO X none (LO K (wpO c.T G .nil)) := ⟨fun pins s σ H Q I ⟨W, S, env, q, rl, er, w, ok⟩ => by
  simp only [wpO, wpEs] at w
  obtain ⟨is, hi, hq⟩ := w
  cases hi
  exact po_none.run pins s σ H Q I (ok W S H none (Ext.refl _ _ _) rl hq)⟩
theorem lo_one {e : E} {x : Expr} (ie : PE X x (LE K (wpE c.T G noX e))) : PO X (some x) (LO K (wpO c.T G (.cons e .nil))) := ⟨fun pins s σ H Q I ⟨W, S, env, q, rl, er, w, ok⟩ => by
  refine (po_some ie).run pins s σ H Q I ?_
  simp only [wpO, wpEs] at w
  refine ⟨W, S, env, _, rl, er, w, fun W1 S1 H1 dx x e1 r1 p1 w1 => ?_⟩
  obtain ⟨is, hi, hq⟩ := w1
  cases p1 with
  | int i =>
    cases hi
    exact ⟨i, rfl, ok W1 S1 H1 _ e1 r1 hq⟩
  | _ => cases hi⟩
theorem le_sl (g : Good X K c n G) {a : E} {lo hi : Es} {x : Expr} (h : ckE (.sl a lo hi) c x = true) (ia : ∀ y, ckE a c y = true → PE X y (LE K (wpE c.T G noX a))) (il : ∀ y, ckO lo c y = true → PO X y (LO K (wpO c.T G lo))) (ih : ∀ y, ckO hi c y = true → PO X y (LO K (wpO c.T G hi))) :
    PE X x (LE K (wpE c.T G noX (.sl a lo hi))) := by
  obtain ⟨y, l, u, p', p, rfl, h1, h2, h3⟩ := ck_sl h
  refine PE.imp (pe_slice (sl_all g.hK) (ia y h1) (il l h2) (ih u h3)) fun σ H Q ⟨W, S, env, q, rl, er, w, ok⟩ => ?_
  simp only [wpE] at w
  refine ⟨W, S, env, _, rl, er, w, fun W1 S1 H1 dx x e1 r1 p1 w1 => ?_⟩
  refine ⟨W1, S1, env, fun o S2 => wpO c.T G hi env S2 fun o' S3 => ∃ z, slD S3 dx o o' = some z ∧ q z S3, r1, er.keep (e1.keep rl), ?_, fun W2 S2 H2 o e2 r2 w2 => ?_⟩
  · unfold wpO
    exact w1
  refine ⟨W2, S2, env, _, r2, (er.keep (e1.keep rl)).keep (e2.keep r1), w2, fun W3 S3 H3 o' e3 r3 w3 => ?_⟩
  obtain ⟨z, ez, hq⟩ := w3
  exact ⟨W3, S3, dx, z, r3, (p1.keep (e2.keep r1)).keep (e3.keep r2), ez, fun W' H' v e' r' p' => ok W' S3 H' z v (((e1.trans e2).trans e3).trans e') r' p' hq⟩
theorem le_rev (g : Good X K c n G) {a : E} {x : Expr} (h : ckE (.rev a) c x = true) (ia : ∀ y, ckE a c y = true → PE X y (LE K (wpE c.T G noX a))) : PE X x (LE K (wpE c.T G noX (.rev a))) := by
  obtain ⟨y, k, p1, p2, p3, p, rfl, h1⟩ := ck_rev h
  refine PE.imp (pe_revA (ia y h1)) fun σ H Q ⟨W, S, env, q, rl, er, w, ok⟩ => ?_
  simp only [wpE] at w
  refine ⟨W, S, env, _, rl, er, w, fun W1 S1 H1 dx x e1 r1 p1 w1 => ?_⟩
  obtain ⟨z, ez, hq⟩ := w1
  have lst : ∀ {xs : List D}, lstD S1 dx = some xs → z = .lst xs.reverse → ∃ a vs, x = V.ref a ∧ ((SqL X.K H1 a vs ∧ ∀ p, H1 p = none → Q (.ref p) (upd H1 p (.lst vs.reverse))) ∨ (SqT X.K H1 a vs ∧ ∀ p, H1 p = none → Q (.ref p) (upd H1 p (.tup vs.reverse)))) := fun {xs} hl e => by
    subst e
    obtain ⟨b, vs, rfl, l, qs⟩ := lst_of r1 p1 hl
    exact ⟨b, vs, rfl, .inl ⟨SqL.of l, Out.lst (S := S1) (fun W' H' v e' r' p' => ok W' S1 H' _ v (e1.trans e') r' p' hq) r1 qs.reverse⟩⟩
  have viaL : (lstD S1 dx).map (fun xs => D.lst xs.reverse) = some z → ∃ a vs, x = V.ref a ∧ ((SqL X.K H1 a vs ∧ ∀ p, H1 p = none → Q (.ref p) (upd H1 p (.lst vs.reverse))) ∨ (SqT X.K H1 a vs ∧ ∀ p, H1 p = none → Q (.ref p) (upd H1 p (.tup vs.reverse)))) := fun hz => by
    cases c' : lstD S1 dx with
    | none => rw [c'] at hz; cases hz
    | some xs => rw [c'] at hz; cases hz; exact lst c' rfl
  cases p1 with
  | tup f qs =>
    cases ez
    exact ⟨_, _, rfl, .inr ⟨g.hK ▸ f.sq, Out.tup (S := S1) (fun W' H' v e' r' p' => ok W' S1 H' _ v (e1.trans e') r' p' hq) r1 qs.reverse⟩⟩
  | _ => exact viaL ez

/-! ### built-in functions -/
theorem es_any {args : List Expr} {es : Es} {env : PySem.Env} (h : ckEs es c args = true) : ∀ pos, (backTo pos (starEach args env)).any (·.1) = false := by
  intro pos
  induction args generalizing es with
  | nil => rfl
  | cons x xs ih =>
    cases es with
    | nil => simp [ckEs] at h
    | cons e es =>
      simp only [ckEs, Bool.and_eq_true] at h
      rw [ck_star h.1]
      show (backTo pos ((false, eval x env) :: starEach xs env)).any (·.1) = false
      show ((false, _) :: backTo pos (starEach xs env)).any (·.1) = false
      rw [List.any_cons, ih h.2]; rfl
theorem es_hd {a : Expr} {args : List Expr} {es : Es} {env : PySem.Env} (h : ckEs es c (a :: args) = true) : starEach (a :: args) env = (false, eval a env) :: starEach args env ∧ ∃ es', ckEs es' c args = true := by
  cases es with
  | nil => simp [ckEs] at h
  | cons e es =>
    simp only [ckEs, Bool.and_eq_true] at h
    exact ⟨ck_star h.1, es, h.2⟩
theorem le_bif (g : Good X K c n G) {b : Bi} {es : Es} {x : Expr} (h : ckE (.bif b es) c x = true) (ia : ∀ y, ckEs es c y = true → PA X y (LA K (wpEs c.T G noX es))) : PE X x (LE K (wpE c.T G noX (.bif b es))) := by
  obtain ⟨nm, p', a, args, p, rfl, h1, h2, h3⟩ := ck_bif h
  obtain ⟨st, es', hes⟩ := es_hd (env := X.env) h3
  have e1 := eqb h1
  subst e1
  have hm : X.mg (biNm b) = none := g.bi _ (by cases b <;> decide)
  have key : ∀ {r : List V → Hp → VK → Prop}, (∀ vs H Q, rBi K b vs H Q → r vs H Q) → ∀ σ H Q, LE K (wpE c.T G noX (.bif b es)) σ H Q → tCB r (LA K (wpEs c.T G noX es)) σ H Q := fun {r} hr σ H Q ⟨W, S, env, q, rl, er, w, ok⟩ => by
    simp only [wpE] at w
    refine ⟨W, S, env, _, rl, er, w, fun W1 S1 H1 ds vs e1 r1 p1 w1 => ?_⟩
    obtain ⟨z, ez, hq⟩ := w1
    exact hr _ _ _ ⟨W1, S1, ds, z, r1, p1, ez, fun W' H' v e' r' p' => ok W' S1 H' z v (e1.trans e') r' p' hq⟩
  cases b with
  | len => exact PE.imp (pe_callB (bi_len g.hK) (g.gl h2) hm (by decide +kernel) (ia _ h3) (by decide) (by decide) st (es_any hes p)) (key fun _ _ _ z => z)
  | repr => exact PE.imp (pe_callB (bi_repr g.hK g.grd (by have := g.units; omega)) (g.gl h2) hm (by decide +kernel) (ia _ h3) (by decide) (by decide) st (es_any hes p)) (key fun _ _ _ z => z)
  | str => exact PE.imp (pe_callTy (bi_str g.hK) (g.gl h2) hm (by decide +kernel) (ia _ h3) (by decide) (by decide) st (es_any hes p)) (key fun _ _ _ z => z)
  | int => exact PE.imp (pe_callTy (bi_int g.hK) (g.gl h2) hm (by decide +kernel) (ia _ h3) (by decide) (by decide) st (es_any hes p)) (key fun _ _ _ z => z)
  | tuple => exact PE.imp (pe_callTy (bi_tuple g.hK) (g.gl h2) hm (by decide +kernel) (ia _ h3) (by decide) (by decide) st (es_any hes p)) (key fun _ _ _ z => z)
  | list => exact PE.imp (pe_callTy (bi_list g.hK) (g.gl h2) hm (by decide +kernel) (ia _ h3) (by decide) (by decide) st (es_any hes p)) (key fun _ _ _ z => z)
  | max1 => exact PE.imp (pe_callB (bi_max1 g.hK g.calm) (g.gl h2) hm (by decide +kernel) (ia _ h3) (by decide) (by decide) st (es_any hes p)) (key fun _ _ _ z => z)
  | min1 => exact PE.imp (pe_callB (bi_min1 g.hK g.calm) (g.gl h2) hm (by decide +kernel) (ia _ h3) (by decide) (by decide) st (es_any hes p)) (key fun _ _ _ z => z)
  | max2 => exact PE.imp (pe_callB (bi_max2 g.hK g.calm) (g.gl h2) hm (by decide +kernel) (ia _ h3) (by decide) (by decide) st (es_any hes p)) (key fun _ _ _ z => z)
  | min2 => exact PE.imp (pe_callB (bi_min2 g.hK g.calm) (g.gl h2) hm (by decide +kernel) (ia _ h3) (by decide) (by decide) st (es_any hes p)) (key fun _ _ _ z => z)
  | sum => exact PE.imp (pe_callB (bi_sum g.hK g.calm) (g.gl h2) hm (by decide +kernel) (ia _ h3) (by decide) (by decide) st (es_any hes p)) (key fun _ _ _ z => z)
  | all => exact PE.imp (pe_callB (bi_all g.hK g.calm) (g.gl h2) hm (by decide +kernel) (ia _ h3) (by decide) (by decide) st (es_any hes p)) (key fun _ _ _ z => z)
  | any => exact PE.imp (pe_callB (bi_any g.hK g.calm) (g.gl h2) hm (by decide +kernel) (ia _ h3) (by decide) (by decide) st (es_any hes p)) (key fun _ _ _ z => z)

theorem ty_boot (t : Nat) : bootBuiltins (Str.ofString (tyNm t)) = some (.type (tyNm t)) ∧ Str.ofString (tyNm t) ∈ biAll ∧ Str.ofString (tyNm t) ≠ "__name__" ∧ (Str.ofString (tyNm t) == ("__debug__" : Str)) = false := by
  have h5 : ∀ t, 5 ≤ t → tyNm t = "dict" := fun t h => by
    match t, h with
    | t + 5, _ => rfl
  have ht : t = 0 ∨ t = 1 ∨ t = 2 ∨ t = 3 ∨ t = 4 ∨ 5 ≤ t := by omega
  rcases ht with rfl | rfl | rfl | rfl | rfl | h
  · exact ⟨by decide +kernel, by decide, by decide, by decide⟩
  · exact ⟨by decide +kernel, by decide, by decide, by decide⟩
  · exact ⟨by decide +kernel, by decide, by decide, by decide⟩
  · exact ⟨by decide +kernel, by decide, by decide, by decide⟩
  · exact ⟨by decide +kernel, by decide, by decide, by decide⟩
  · rw [h5 t h]; exact ⟨by decide +kernel, by decide, by decide, by decide⟩
theorem le_isi (g : Good X K c n G) {a : E} {t : Nat} {x : Expr} (h : ckE (.isi a t) c x = true) (ia : ∀ y, ckE a c y = true → PE X y (LE K (wpE c.T G noX a))) : PE X x (LE K (wpE c.T G noX (.isi a t))) := by
  obtain ⟨nm, p1, v, ny, p2, p, rfl, h1, h2, h3, h4, h5⟩ := ck_isi h
  have e1 := eqb h1
  have e3 := eqb h3
  subst e1 e3
  obtain ⟨b1, b2, b3, b4⟩ := ty_boot t
  have hm : X.mg "isinstance" = none := g.bi _ (by decide)
  have pt : PE X (.Name (Str.ofString (tyNm t)) p2) (tC (.ty (tyNm t))) := pe_bltn (g.gl h4) (g.bi _ b2) b1 rfl b3 b4
  have pa : PA X [v, .Name (Str.ofString (tyNm t)) p2] (tCons (LE K (wpE c.T G noX a)) (tCons (tC (.ty (tyNm t))) tNil)) := pa_cons (ia v h5) (pa_cons pt pa_nil) (ck_star h5)
  refine PE.imp (pe_callB (isi_all g.hK t) (g.gl h2) hm (by decide +kernel) pa (by decide) (by decide) (ck_star h5) (by rfl)) fun σ H Q ⟨W, S, env, q, rl, er, w, ok⟩ => ?_
  simp only [wpE] at w
  refine ⟨W, S, env, _, rl, er, w, fun W1 S1 H1 dx x e1 r1 p1 w1 => ?_⟩
  obtain ⟨k, ek, hq⟩ := w1
  exact ⟨W1, S1, dx, x, k, rfl, r1, p1, ek, ok W1 S1 H1 _ _ e1 r1 (.bl k) hq⟩
theorem le_mli (g : Good X K c n G) {a : E} {x : Expr} (h : ckE (.mli a) c x = true) (ia : ∀ y, ckE a c y = true → PE X y (LE K (wpE c.T G noX a))) : PE X x (LE K (wpE c.T G noX (.mli a))) := by
  obtain ⟨nm, p1, v, p, rfl, h1, h2, h3⟩ := ck_mli h
  have e1 := eqb h1
  subst e1
  have hm : X.mg "list" = none := g.bi _ (by decide)
  refine PE.imp (pe_callTy call_list_of (g.gl h2) hm (by decide +kernel) (pa_cons (ia v h3) pa_nil (ck_star h3)) (by decide) (by decide) (ck_star h3) (by rfl)) fun σ H Q ⟨W, S, env, q, rl, er, w, ok⟩ => ?_
  simp only [wpE] at w
  refine ⟨W, S, env, _, rl, er, w, fun W1 S1 H1 dx x e1 r1 p1 w1 => ?_⟩
  obtain ⟨xs, exs, hq⟩ := w1
  obtain ⟨b, vs, rfl, sq, qs⟩ := seq_or g.hK r1 p1 exs
  refine ⟨b, vs, rfl, ?_, Out.mls (S := S1) (fun m hm W' H' v e' r' p' => ok W' _ H' _ v (e1.trans e') r' p' (hq m hm)) r1 qs⟩
  rcases sq with h | ⟨h, _⟩
  · exact .inl h
  · exact .inr h
theorem le_mdc (g : Good X K c n G) {a : E} {x : Expr} (h : ckE (.mdc a) c x = true) (ia : ∀ y, ckE a c y = true → PE X y (LE K (wpE c.T G noX a))) : PE X x (LE K (wpE c.T G noX (.mdc a))) := by
  obtain ⟨nm, p1, v, p, rfl, h1, h2, h3⟩ := ck_mdc h
  have e1 := eqb h1
  subst e1
  have hm : X.mg "dict" = none := g.bi _ (by decide)
  refine PE.imp (pe_callTy call_dictD (g.gl h2) hm (by decide +kernel) (pa_cons (ia v h3) pa_nil (ck_star h3)) (by decide) (by decide) (ck_star h3) (by rfl)) fun σ H Q ⟨W, S, env, q, rl, er, w, ok⟩ => ?_
  simp only [wpE] at w
  refine ⟨W, S, env, _, rl, er, w, fun W1 S1 H1 dx x e1 r1 p1 w1 => ?_⟩
  obtain ⟨n, kvs, rfl, hn, hq⟩ := w1
  cases p1 with
  | loc he =>
    obtain ⟨vs, lv, qs⟩ := loc_dic r1 hn he
    refine ⟨_, vs, rfl, .inl lv, fun a ha => ?_⟩
    obtain ⟨m, hm, r', e, hr⟩ := rel_new r1 ha (.dic kvs) (.dK vs) fun W' H' k h => ⟨vs, h, qs.keep k⟩
    exact ok _ _ _ _ _ (e1.trans e) r' (.loc hr) (hq m hm)
end
end Mi
set_option maxHeartbeats 4000000
/-! Mi11: the small language is right: methods, calls, tests, walks. -/
namespace Mi
open PySem PySem.Spec PyProof.Rows L2

section
variable {X : Cx} {K : Frg} {c : SC} {n : Nat} {G : GT}

/-! ### calls of the program's own defs -/
theorem run_d (g : Good X K c n G) {a : Addr} {gf : List D → Sto → Q1 → XD → Prop} (F : FnD X.prog X.w K X.mg X.base n a gf) {pins : List (Addr × Obj)} {σ : L2.St} {H : Hp} {s : Shared} {us : List Value} {vs : List V} {W : Wd} {S : Sto} {ds : List D} {q : Q1} {Q : VK}
    (I : Inv X pins σ H s) (rv : Vals vs us) (rl : Rel K W S H) (rp : Reps K W H ds vs) (hg : gf ds S q noX) (ok : ∀ W' H' v d S', Ext W S H W' S' H' → Rel K W' S' H' → Rep K W' H' d v → q d S' → Q v H') :
    wpAny (model X.prog X.w) X.A (call (.ref a) us) (EP X pins σ Q) X.xe s := by
  have E0 := I.env0
  rw [g.hK] at E0
  refine wpAny_call (codeAny_mono (F.2 X.A X.stack s H us vs W S ds q Q g.room g.grd E0 rv rl rp hg ok) fun r s' hq => ?_)
  cases r with
  | error e => exact False.elim hq
  | ok fl =>
    cases fl with
    | ret u => exact I.after hq
    | next => exact False.elim hq
    | brk => exact False.elim hq
    | cont => exact False.elim hq
theorem le_call (g : Good X K c n G) {f : Nat} {es : Es} {x : Expr} (h : ckE (.call f es) c x = true) (ia : ∀ y, ckEs es c y = true → PA X y (LA K (wpEs c.T G noX es))) : PE X x (LE K (wpE c.T G noX (.call f es))) := by
  obtain ⟨nm, p', args, p, rfl, h1, h2, h3, h4⟩ := ck_call h
  obtain ⟨o1, _, _⟩ := odd_of (by simpa using h3)
  obtain ⟨a, hm, F⟩ := g.fns f nm (eqb h1)
  have hk : PySem.W.keepIn X.K (.ref a) = true := by rw [g.hK]; exact F.1
  refine ⟨fun pins s σ H Q I ⟨W, S, env, q, rl, er, w, ok⟩ => wpAny_Call_Name_kw (ld_glob I (g.gl h2) hm ?_ o1)⟩
  simp only [wpE] at w
  cases args with
  | nil =>
    have en : es = .nil := by cases es with
      | nil => rfl
      | cons _ _ => simp [ckEs] at h4
    subst en
    simp only [wpEs] at w
    exact PySem.W.callWith_K0 I.kIn hk (run_d g F I .nil rl .nil w fun W' H' v d S' e r p hq => ok W' S' H' d v e r p hq)
  | cons y ys =>
    obtain ⟨st, es', hes⟩ := es_hd (env := X.env) h4
    have step : wpAny (model X.prog X.w) X.A (spliced (backTo p (starEach (y :: ys) X.env))) (AP X pins σ fun vs H1 => ∃ W1 S1 ds, Ext W S H W1 S1 H1 ∧ Rel K W1 S1 H1 ∧ Reps K W1 H1 ds vs ∧ G f ds S1 q noX) X.xe s :=
      (ia _ h4).run p pins s σ H _ I ⟨W, S, env, _, rl, er, w, fun W1 S1 H1 ds vs e1 r1 p1 w1 => ⟨W1, S1, ds, e1, r1, p1, w1⟩⟩
    refine PySem.W.callWith_K (h₀ := X.base) I.ok.mod.kin hk (thn step fun us s1 hh => ?_) st (es_any hes p)
    obtain ⟨vs, H1, I1, rv, W1, S1, ds, e1, r1, p1, w1⟩ := hh
    exact ⟨I1.kIn, run_d g F I1 rv r1 p1 w1 fun W' H' v d S' e r p hq => ok W' S' H' d v (e1.trans e) r p hq⟩

/-! ### classes -/
theorem make_guards {A : Around} {C : Addr} {us : List Value} {kw : List (Str × Value)} : (A.under (.builtin "type.__call__" ⟨.ref C :: us, kw⟩)).guards = A.guards := by
  first | rfl | simp [Around.under, Code.guards, Code.isGuard, Code.weight, pushGuards, guardIds]
/-- a new instance in the store -/
theorem rel_made {W : Wd} {S : Sto} {H : Hp} (r : Rel K W S H) {x dx C : Addr} {i : Nat} (hc : K.cls i = some C) (h1 : H x = none) (h2 : H dx = none) (ne : dx ≠ x) :
    ∃ m W', S m = none ∧ Rel K W' (put S m (.ins i [])) (upd (upd H dx (.own x)) x (.ins C dx [])) ∧ Ext W S H W' (put S m (.ins i [])) (upd (upd H dx (.own x)) x (.ins C dx [])) ∧ W'.rho m = some x := by
  have n1 : ¬ Ins S W dx := fun ⟨m, o, e1, e2⟩ => by
    obtain ⟨a, e3, e4⟩ := r.dom m o e1
    rw [e2] at e3; cases e3
    exact e4.there h2
  have n2 : ¬ W.fz dx := fun z => (r.sep dx z).1 h2
  obtain ⟨r1, _⟩ := rel_other r n1 n2 (.own x)
  have e1 := (Ext.refl W S H).other h2 (.own x)
  obtain ⟨m, hm, r2, e2, hr⟩ := rel_new r1 (p := x) (by rw [upd_ne (Ne.symm ne)]; exact h1) (.ins i []) (.ins C dx []) fun W' H' k e => ⟨C, dx, [], hc, e, .nil⟩
  exact ⟨m, _, hm, r2, e1.trans e2, hr⟩
theorem run_mk (g : Good X K c n G) {C f : Addr} {i j k : Nat} (hc : K.cls i = some C) (M : L2.Mk K.K C f) (hn : n = k + 1) (F : FnD X.prog X.w K X.mg X.base k f (G j)) {pins : List (Addr × Obj)} {σ : L2.St} {H : Hp} {s : Shared} {us : List Value} {vs : List V} {W : Wd} {S : Sto} {ds : List D} {q : Q1} {Q : VK}
    (I : Inv X pins σ H s) (rv : Vals vs us) (rl : Rel K W S H) (rp : Reps K W H ds vs) (hg : ∀ m, S m = none → G j (.loc m :: ds) (put S m (.ins i [])) (fun v S2 => v = .non ∧ q (.loc m) S2) noX)
    (ok : ∀ W' H' v d S', Ext W S H W' S' H' → Rel K W' S' H' → Rep K W' H' d v → q d S' → Q v H') :
    wpAny (model X.prog X.w) X.A (call (.ref C) us) (EP X pins σ Q) X.xe s := by
  have I2 := Inv.made (C := C) I
  obtain ⟨m, W', hm, r2, e2, hr⟩ := rel_made rl (x := s.heap.objs.size + 1) (dx := s.heap.objs.size) hc (I.hok.fresh (Nat.le_succ _)) (I.hok.fresh (Nat.le_refl _)) (Nat.ne_of_lt (Nat.lt_succ_self _))
  have E0 := I2.env0.make C us []
  rw [g.hK] at E0
  have hroom : Room (k + 1) X.A := hn ▸ g.room
  have run := F.2 _ X.stack _ _ (Value.ref (s.heap.objs.size + 1) :: us) (V.ref (s.heap.objs.size + 1) :: vs) W' _ (.loc m :: ds) _ (fun v H2 => v = .non ∧ Q (.ref (s.heap.objs.size + 1)) H2) (hroom.make C us []) (by rw [make_guards]; exact g.grd) E0 (.cons rfl rv) r2 (.cons (.loc hr) (rp.keep (e2.keep rl))) (hg m hm)
    fun W3 H3 v d S3 e3 r3 p3 h3 => by
      obtain ⟨ed, hq⟩ := h3
      subst ed
      cases p3
      exact ⟨rfl, ok W3 H3 _ (.loc m) S3 (e2.trans e3) r3 (.loc (e3.rho _ _ hr)) hq⟩
  refine wpAny_call (make_map (f := f) I.kIn (by rw [g.hK]; exact M.makes) (by rw [g.hK]; exact M.init) (by rw [g.hK]; exact beq_iff_eq.mp M.fn) (codeAny_mono run fun r s' hq' => ?_))
  cases r with
  | error e => exact False.elim hq'
  | ok fl =>
    cases fl with
    | ret u =>
      obtain ⟨v, H', I3, rv, ev, q3⟩ := I2.after hq'
      subst ev
      exact ⟨rv, ⟨V.ref (s.heap.objs.size + 1), H', I3, rfl, q3⟩⟩
    | next => exact False.elim hq'
    | brk => exact False.elim hq'
    | cont => exact False.elim hq'
theorem le_mk (g : Good X K c n G) {f : Nat} {es : Es} {x : Expr} (h : ckE (.mk f es) c x = true) (ia : ∀ y, ckEs es c y = true → PA X y (LA K (wpEs c.T G noX es))) : PE X x (LE K (wpE c.T G noX (.mk f es))) := by
  obtain ⟨nm, p', args, p, rfl, h1, h2, h3, h4⟩ := ck_mk h
  obtain ⟨o1, _, _⟩ := odd_of (by simpa using h3)
  have h1 := eqb h1
  cases hp : c.T.cl[f]? with
  | none => rw [hp] at h1; cases h1
  | some pc =>
  rw [hp] at h1
  have h1 : pc.1 = nm := Option.some.inj h1
  obtain ⟨C, a, hcl, hm, M, hF⟩ := g.cls.made f pc hp
  rw [h1] at hm
  have hk : PySem.W.keepIn X.K (.ref C) = true := by rw [g.hK]; exact M.kp
  have key : ∀ {pins : List (Addr × Obj)} {σ : L2.St} {H : Hp} {s : Shared} {us : List Value} {vs : List V} {W : Wd} {S : Sto} {ds : List D} {q : Q1} {Q : VK}, Inv X pins σ H s → Vals vs us → Rel K W S H → Reps K W H ds vs →
      (∃ p, c.T.cl[f]? = some p ∧ ∀ n, S n = none → G p.2 (.loc n :: ds) (put S n (.ins f [])) (fun v S2 => v = .non ∧ q (.loc n) S2) noX) → (∀ W' H' v d S', Ext W S H W' S' H' → Rel K W' S' H' → Rep K W' H' d v → q d S' → Q v H') →
      wpAny (model X.prog X.w) X.A (call (.ref C) us) (EP X pins σ Q) X.xe s := fun {pins σ H s us vs W S ds q Q} I rv rl rp hg ok => by
    obtain ⟨p, ep, hg⟩ := hg
    rw [hp] at ep
    cases ep
    rcases hF with ⟨m, em, F⟩ | hno
    · exact run_mk g hcl M em F I rv rl rp hg ok
    · obtain ⟨N, hN⟩ := rl.bd
      have hS : S N = none := by
        cases e : S N with
        | none => rfl
        | some u => obtain ⟨a, h, _⟩ := rl.dom N u e; rw [hN N (Nat.le_refl _)] at h; cases h
      exact (hno _ _ _ (hg N hS)).elim
  refine ⟨fun pins s σ H Q I ⟨W, S, env, q, rl, er, w, ok⟩ => wpAny_Call_Name_kw (ld_glob I (g.gl h2) hm ?_ o1)⟩
  simp only [wpE] at w
  cases args with
  | nil =>
    have en : es = .nil := by cases es with
      | nil => rfl
      | cons _ _ => simp [ckEs] at h4
    subst en
    simp only [wpEs] at w
    exact PySem.W.callWith_K0 I.kIn hk (key I .nil rl .nil w fun W' H' v d S' e r p hq => ok W' S' H' d v e r p hq)
  | cons y ys =>
    obtain ⟨st, es', hes⟩ := es_hd (env := X.env) h4
    have step : wpAny (model X.prog X.w) X.A (spliced (backTo p (starEach (y :: ys) X.env))) (AP X pins σ fun vs H1 => ∃ W1 S1 ds, Ext W S H W1 S1 H1 ∧ Rel K W1 S1 H1 ∧ Reps K W1 H1 ds vs ∧ ∃ p, c.T.cl[f]? = some p ∧ ∀ n, S1 n = none → G p.2 (.loc n :: ds) (put S1 n (.ins f [])) (fun v S2 => v = .non ∧ q (.loc n) S2) noX) X.xe s :=
      (ia _ h4).run p pins s σ H _ I ⟨W, S, env, _, rl, er, w, fun W1 S1 H1 ds vs e1 r1 p1 w1 => ⟨W1, S1, ds, e1, r1, p1, w1⟩⟩
    refine PySem.W.callWith_K (h₀ := X.base) I.ok.mod.kin hk (thn step fun us s1 hh => ?_) st (es_any hes p)
    obtain ⟨vs, H1, I1, rv, W1, S1, ds, e1, r1, p1, w1⟩ := hh
    exact ⟨I1.kIn, key I1 rv r1 p1 w1 fun W' H' v d S' e r p hq => ok W' S' H' d v (e1.trans e) r p hq⟩

/-! ### methods -/
theorem ab_of {v : Expr} (h : notCall v = true) {m : Str} {env : PySem.Env} : attributeBase v m env (eval v env) = eval v env := by
  cases v <;> first | rfl | (simp [notCall] at h; done)
theorem le_fld (g : Good X K c n G) {o : E} {f : Str} {x : Expr} (h : ckE (.fld o f) c x = true) (io : ∀ y, ckE o c y = true → PE X y (LE K (wpE c.T G noX o))) : PE X x (LE K (wpE c.T G noX (.fld o f))) := by
  obtain ⟨v, nm, p, rfl, h1, h2, h3⟩ := ck_fld h
  have e1 := eqb h1
  subst e1
  refine PE.imp (pe_fld (io v h2) (ab_of h3)) fun σ H Q ⟨W, S, env, q, rl, er, w, ok⟩ => ?_
  simp only [wpE] at w
  refine ⟨W, S, env, _, rl, er, w, fun W1 S1 H1 dx x e1 r1 p1 w1 => ?_⟩
  obtain ⟨m, i, fs, d, rfl, hS, hfl, hd, hq⟩ := w1
  cases p1 with
  | @loc _ a he =>
    obtain ⟨C, dxa, vs, hC, hH, hfr⟩ := loc_ins r1 hS he
    obtain ⟨hc, hno⟩ := g.cls.fl i f C hfl hC
    obtain ⟨u, hu, pu⟩ := hfr.look f hd
    exact ⟨a, C, dxa, vs, u, rfl, hH, by rw [g.hK]; exact hc, by rw [g.hK]; exact hno, hu, ok _ _ _ _ _ e1 r1 pu hq⟩
theorem form_of {args : List Expr} {es : Es} (h : ckEs es c args = true) (hl : args.length < 29) (p : Pos) (env : PySem.Env) : methodCallForm (args.length + ([] : List Keyword).length) (backTo p (starEach args env)) (backToKw p (keywordEach [] env)) = true := by
  have e : (backTo p (starEach args env)).all (fun x => !x.1) = true := by
    have := es_any (env := env) h p
    rw [List.all_eq_true]
    intro y hy
    rw [List.any_eq_false] at this
    simpa using this y hy
  unfold methodCallForm
  have e2 : backToKw p (keywordEach [] env) = [] := rfl
  rw [e, e2]
  simp
  omega
/-- a call of a method: the tree -/
theorem call_own {o : Expr} {name : Str} {apos pos : Pos} {args : List Expr} {env : PySem.Env} {P : Program} {w : World} {A : Around} {Q : Value → Shared → Prop} {E : Value → Shared → Prop} {s : Shared}
    (hbase : attributeBase o name env (eval o env) = eval o env) (hform : methodCallForm (args.length + ([] : List Keyword).length) (backTo pos (starEach args env)) (backToKw pos (keywordEach [] env)) = true) (hline : (apos.endLine == pos.line) = true)
    (h : wpAny (model P w) A (eval o env) (fun ov s₁ => wpAny (model P w) A (getMethod ov name (do return (← importBound o env).getD true)) (fun fx s₂ => wpAny (model P w) A (callWith pos fx.1 fx.2 (backTo pos (starEach args env)) (backToKw pos (keywordEach [] env))) Q E s₂) E s₁) E s) :
    wpAny (model P w) A (eval (.Call (.Attribute o name apos) args [] pos) env) Q E s := by
  have hpos : methodCallPos true o env apos pos = pure pos := by unfold methodCallPos; simp [hline]
  rw [arm_eval_Call, hbase]
  refine wpAny_bind (wpAny_mono h (fun ov s₁ h₁ => ?_) fun _ _ e => e)
  refine wpAny_bind (wpAny_standAt ?_)
  unfold methodCall
  rw [hform]
  refine wpAny_bind (wpAny_holding ?_)
  refine wpAny_mono h₁ (fun fx s₂ h₂ => ?_) fun _ _ e => e
  exact wpAny_bind (wpAny_of_eq hpos h₂)
theorem le_mth (g : Good X K c n G) {m : Nat} {o : E} {es : Es} {x : Expr} (h : ckE (.mth m o es) c x = true) (io : ∀ y, ckE o c y = true → PE X y (LE K (wpE c.T G noX o))) (ia : ∀ y, ckEs es c y = true → PA X y (LA K (wpEs c.T G noX es))) : PE X x (LE K (wpE c.T G noX (.mth m o es))) := by
  obtain ⟨v, nm, ap, args, p, rfl, h1, h2, h3, h4, h5, h6⟩ := ck_mth h
  have h1 := eqb h1
  refine ⟨fun pins s σ H Q I ⟨W, S, env, q, rl, er, w, ok⟩ => call_own (ab_of h6) (form_of h4 h5 p X.env) h2 ?_⟩
  simp only [wpE] at w
  refine thn ((io v h3).run pins s σ H _ I ⟨W, S, env, _, rl, er, w, fun W1 S1 H1 dx x e1 r1 p1 w1 => (⟨W1, S1, dx, e1, r1, p1, w1⟩ : ∃ W1 S1 dx, Ext W S H W1 S1 H1 ∧ Rel K W1 S1 H1 ∧ Rep K W1 H1 dx x ∧ ((∃ n' ci fs nm, dx = .loc n' ∧ S1 n' = some (.ins ci fs) ∧ c.T.mt.lookup m = some (ci, nm) ∧ fs.lookup nm = none) ∧ wpEs c.T G noX es env S1 fun ds S2 => G m (dx :: ds) S2 q noX))⟩) fun u s1 hh => ?_
  obtain ⟨x, H1, I1, rx, W1, S1, dx, e1, r1, p1, ⟨k, i, fs, nm', rfl, hS, hmt, hno⟩, w1⟩ := hh
  rw [hmt] at h1
  have h1 : nm' = nm := Option.some.inj h1
  subst h1
  cases p1 with
  | @loc _ a he =>
  obtain rfl : u = Value.ref a := rx
  obtain ⟨C, dxa, vs0, hC, hH, hfr⟩ := loc_ins r1 hS he
  obtain ⟨fa, hc, hm, F⟩ := g.cls.mt m i _ C hmt hC
  have hk : PySem.W.keepIn X.K (.ref fa) = true := by rw [g.hK]; exact hm.kp
  refine getmeth_ok I1 hH (by rw [g.hK]; exact hc) (by rw [g.hK]; exact hm) (hfr.lookN _ hno) ?_
  cases args with
  | nil =>
    have en : es = .nil := by cases es with
      | nil => rfl
      | cons _ _ => simp [ckEs] at h4
    subst en
    simp only [wpEs] at w1
    exact PySem.W.callWith_K0 (first := [.ref a]) I1.kIn hk (run_d (us := [.ref a]) (vs := [.ref a]) g F I1 (.cons rfl .nil) r1 (.cons (.loc he) .nil) w1 fun W' H' v d S' e r p hq => ok W' S' H' d v (e1.trans e) r p hq)
  | cons y ys =>
    obtain ⟨st, es', hes⟩ := es_hd (env := X.env) h4
    have step : wpAny (model X.prog X.w) X.A (spliced (backTo p (starEach (y :: ys) X.env))) (AP X pins σ fun vs H2 => ∃ W2 S2 ds, Ext W1 S1 H1 W2 S2 H2 ∧ Rel K W2 S2 H2 ∧ Reps K W2 H2 ds vs ∧ G m (.loc k :: ds) S2 q noX) X.xe s1 :=
      (ia _ h4).run p pins s1 σ H1 _ I1 ⟨W1, S1, env, _, r1, er.keep (e1.keep rl), w1, fun W2 S2 H2 ds vs e2 r2 p2 w2 => ⟨W2, S2, ds, e2, r2, p2, w2⟩⟩
    refine PySem.W.callWith_K (first := [.ref a]) (h₀ := X.base) I.ok.mod.kin hk (thn step fun us s2 hh => ?_) st (es_any hes p)
    obtain ⟨vs, H2, I2, rv, W2, S2, ds, e2, r2, p2, w2⟩ := hh
    exact ⟨I2.kIn, run_d (us := .ref a :: us) (vs := .ref a :: vs) g F I2 (.cons rfl rv) r2 (.cons (.loc (e2.rho _ _ he)) p2) w2 fun W' H' v d S' e r p hq => ok W' S' H' d v ((e1.trans e2).trans e) r p hq⟩
theorem lst_ty {W : Wd} {S : Sto} {H : Hp} {d : D} {v : V} (g : Good X K c n G) (r : Rel K W S H) (p : Rep K W H d v) (h : kindD S d = some "list") : tyV X.K "list" v H := by
  cases p with
  | lst _ e _ => exact .inl ⟨rfl, _, SqL.of e⟩
  | @loc m a e =>
    dsimp only [kindD] at h
    split at h
    · rename_i xs hx
      obtain ⟨vs, l, _⟩ := loc_lst r hx e
      exact .inl ⟨rfl, _, SqL.of l⟩
    · exact absurd h (by decide)
    · exact absurd h (by simp)
  | _ => exact absurd h (by first | decide | simp [kindD])
theorem dic_ty {W : Wd} {S : Sto} {H : Hp} {d : D} {v : V} (r : Rel K W S H) (p : Rep K W H d v) (h : kindD S d = some "dict") : ∃ m a kvs vs, d = .loc m ∧ v = .ref a ∧ S m = some (.dic kvs) ∧ W.rho m = some a ∧ H a = some (.dK vs) := by
  cases p with
  | @loc m a e =>
    dsimp only [kindD] at h
    split at h
    · exact absurd h (by decide)
    · rename_i xs hx
      obtain ⟨vs, l, _⟩ := loc_dic r hx e
      exact ⟨m, a, xs, vs, rfl, rfl, hx, e, l⟩
    · exact absurd h (by simp)
  | _ => exact absurd h (by first | decide | simp [kindD])
theorem key_of {W : Wd} {H : Hp} {d : D} {v : V} {k : Key} (p : Rep K W H d v) (h : keyD d = some k) : v = kV k := by
  cases p <;> first | (cases h; rfl) | cases h
theorem es_one {es : Es} {y : Expr} (h : ckEs es c [y] = true) : ∃ e, es = .cons e .nil ∧ ckE e c y = true := by
  cases es with
  | nil => simp [ckEs] at h
  | cons e es =>
    simp only [ckEs, Bool.and_eq_true] at h
    cases es with
    | nil => exact ⟨e, rfl, h.1⟩
    | cons _ _ => exact absurd h.2 (by simp [ckEs])
theorem es_two {es : Es} {y z : Expr} (h : ckEs es c [y, z] = true) : ∃ e f, es = .cons e (.cons f .nil) ∧ ckE e c y = true ∧ ckE f c z = true := by
  cases es with
  | nil => simp [ckEs] at h
  | cons e es =>
    simp only [ckEs, Bool.and_eq_true] at h
    obtain ⟨f, rfl, h2⟩ := es_one h.2
    exact ⟨e, f, rfl, h.1, h2⟩
theorem es_three {es : Es} {y z u : Expr} (h : ckEs es c [y, z, u] = true) : ∃ e f d, es = .cons e (.cons f (.cons d .nil)) ∧ ckE e c y = true ∧ ckE f c z = true ∧ ckE d c u = true := by
  cases es with
  | nil => simp [ckEs] at h
  | cons e es =>
    simp only [ckEs, Bool.and_eq_true] at h
    obtain ⟨f, d, rfl, h2, h3⟩ := es_two h.2
    exact ⟨e, f, d, rfl, h.1, h2, h3⟩
theorem seqI_nat {j n : Nat} (h : j < n) : PySem.seqIndex? (j : Int) n = some j := by
  unfold PySem.seqIndex?
  first
    | (simp; omega)
    | (split <;> simp_all <;> omega)
theorem le_meth (g : Good X K c n G) {m : Mt} {o : E} {es : Es} {x : Expr} (h : ckE (.meth m o es) c x = true) (io : ∀ y, ckE o c y = true → PE X y (LE K (wpE c.T G noX o)))
    (i1 : ∀ (e : E) (y : Expr), es = .cons e .nil → ckE e c y = true → PE X y (LE K (wpE c.T G noX e))) (i2 : ∀ (e f : E) (y : Expr), es = .cons e (.cons f .nil) → (ckE e c y = true → PE X y (LE K (wpE c.T G noX e))) ∧ (ckE f c y = true → PE X y (LE K (wpE c.T G noX f)))) :
    PE X x (LE K (wpE c.T G noX (.meth m o es))) := by
  obtain ⟨v, nm, ap, args, p, rfl, h1, h2, h3, h4, h5, h6⟩ := ck_meth h
  have e1 := eqb h1
  subst e1
  have hu : X.A.units + 1 < cLine := by have := g.units; omega
  cases m with
  | append =>
    match args, h5, h4 with
    | [y], _, h4 =>
      obtain ⟨e, rfl, hy⟩ := es_one h4
      refine PE.imp (pe_bm PySem.F.plainAttrs_list PySem.F.slot_list_append PySem.F.type_list_append mt_append (io v h3) (pa_cons (i1 e y rfl hy) pa_nil (ck_star hy)) (ab_of h6) (by rw [ck_star hy]; rfl) h2 (ck_star hy) rfl) fun σ H Q ⟨W, S, env, q, rl, er, w, ok⟩ => ?_
      simp only [wpE, wpEs] at w
      refine ⟨W, S, env, _, rl, er, w, fun W1 S1 H1 dx x e1 r1 p1 w1 => ⟨lst_ty g r1 p1 w1.1, ?_⟩⟩
      refine ⟨W1, S1, env, _, r1, er.keep (e1.keep rl), w1.2, fun W2 S2 H2 dy y e2 r2 p2 w2 => ?_⟩
      obtain ⟨z, ez, hq⟩ := w2
      have p1' := p1.keep (e2.keep r1)
      cases p1' with
      | @loc mm a he =>
        dsimp only [mtD] at ez
        split at ez
        · rename_i xs hx
          split at ez
          · rename_i hl
            cases ez
            obtain ⟨vs, l, qs⟩ := loc_lst r2 hx he
            obtain ⟨r3, e3⟩ := rel_put r2 hx he (.lst (xs ++ [dy])) (.lst (vs ++ [y])) fun H' k e => ⟨_, e, (qs.keep k).append (.cons (p2.keep k) .nil)⟩
            exact ⟨a, vs, y, rfl, rfl, l, by rw [← qs.length]; exact Nat.lt_trans hl (by decide), ok _ _ _ _ _ ((e1.trans e2).trans e3) r3 .non hq⟩
          · cases ez
        · cases ez
        · cases ez
      | _ => cases ez
  | extend =>
    match args, h5, h4 with
    | [y], _, h4 =>
      obtain ⟨e, rfl, hy⟩ := es_one h4
      refine PE.imp (pe_bm PySem.F.plainAttrs_list PySem.F.slot_list_extend PySem.F.type_list_extend mt_extend (io v h3) (pa_cons (i1 e y rfl hy) pa_nil (ck_star hy)) (ab_of h6) (by rw [ck_star hy]; rfl) h2 (ck_star hy) rfl) fun σ H Q ⟨W, S, env, q, rl, er, w, ok⟩ => ?_
      simp only [wpE, wpEs] at w
      refine ⟨W, S, env, _, rl, er, w, fun W1 S1 H1 dx x e1 r1 p1 w1 => ⟨lst_ty g r1 p1 w1.1, ?_⟩⟩
      refine ⟨W1, S1, env, _, r1, er.keep (e1.keep rl), w1.2, fun W2 S2 H2 dy y e2 r2 p2 w2 => ?_⟩
      obtain ⟨z, ez, hq⟩ := w2
      have p1' := p1.keep (e2.keep r1)
      cases p1' with
      | @loc mm a he =>
        dsimp only [mtD] at ez
        split at ez
        · rename_i xs hx
          split at ez
          · rename_i ys hy
            split at ez
            · rename_i hl
              cases ez
              obtain ⟨vs, l, qs⟩ := loc_lst r2 hx he
              obtain ⟨b, us, rfl, l2, qs2⟩ := lst_of r2 p2 hy
              obtain ⟨r3, e3⟩ := rel_put r2 hx he (.lst (xs ++ ys)) (.lst (vs ++ us)) fun H' k e => ⟨_, e, (qs.keep k).append (qs2.keep k)⟩
              exact ⟨a, b, vs, us, rfl, rfl, l, l2, by rw [← qs.length, ← qs2.length]; exact Nat.le_trans (Nat.le_of_lt hl) (by decide), ok _ _ _ _ _ ((e1.trans e2).trans e3) r3 .non hq⟩
            · cases ez
          · cases ez
        · cases ez
        · cases ez
      | _ => cases ez
  | pop0 =>
    match args, h5, h4 with
    | [], _, h4 =>
      have en : es = .nil := by cases es with
        | nil => rfl
        | cons _ _ => simp [ckEs] at h4
      subst en
      refine PE.imp (pe_bm0 PySem.F.plainAttrs_list PySem.F.slot_list_pop PySem.F.type_list_pop mt_pop (io v h3) (ab_of h6) h2) fun σ H Q ⟨W, S, env, q, rl, er, w, ok⟩ => ?_
      simp only [wpE, wpEs] at w
      refine ⟨W, S, env, _, rl, er, w, fun W1 S1 H1 dx x e1 r1 p1 w1 => ⟨lst_ty g r1 p1 w1.1, ?_⟩⟩
      obtain ⟨_, z, ez, hq⟩ := w1
      cases p1 with
      | @loc mm a he =>
        dsimp only [mtD] at ez
        split at ez
        · rename_i xs hx
          obtain ⟨vs, l, qs⟩ := loc_lst r1 hx he
          cases cc : xs[xs.length - 1]? with
          | none => rw [cc] at ez; cases ez
          | some d =>
            rw [cc] at ez; cases ez
            obtain ⟨u, hu, pu⟩ := qs.get cc
            rw [qs.length] at hu
            have qd : Reps K W1 H1 xs.dropLast vs.dropLast := by
              rw [List.dropLast_eq_take, List.dropLast_eq_take, qs.length]
              exact qs.take _
            obtain ⟨r3, e3⟩ := rel_put r1 hx he (.lst xs.dropLast) (.lst vs.dropLast) fun H' k e => ⟨_, e, qd.keep k⟩
            exact ⟨a, vs, u, rfl, rfl, l, hu, ok _ _ _ _ _ (e1.trans e3) r3 (pu.keep (e3.keep r1)) hq⟩
        · cases ez
        · cases ez
      | _ => cases ez
  | reverse =>
    match args, h5, h4 with
    | [], _, h4 =>
      have en : es = .nil := by cases es with
        | nil => rfl
        | cons _ _ => simp [ckEs] at h4
      subst en
      refine PE.imp (pe_bm0 PySem.F.plainAttrs_list PySem.F.slot_list_reverse PySem.F.type_list_reverse mt_reverse (io v h3) (ab_of h6) h2) fun σ H Q ⟨W, S, env, q, rl, er, w, ok⟩ => ?_
      simp only [wpE, wpEs] at w
      refine ⟨W, S, env, _, rl, er, w, fun W1 S1 H1 dx x e1 r1 p1 w1 => ⟨lst_ty g r1 p1 w1.1, ?_⟩⟩
      obtain ⟨_, z, ez, hq⟩ := w1
      cases p1 with
      | @loc mm a he =>
        dsimp only [mtD] at ez
        split at ez
        · rename_i xs hx
          cases ez
          obtain ⟨vs, l, qs⟩ := loc_lst r1 hx he
          obtain ⟨r3, e3⟩ := rel_put r1 hx he (.lst xs.reverse) (.lst vs.reverse) fun H' k e => ⟨_, e, (qs.keep k).reverse⟩
          exact ⟨a, vs, rfl, rfl, l, ok _ _ _ _ _ (e1.trans e3) r3 .non hq⟩
        · cases ez
        · cases ez
      | _ => cases ez
  | pop1 =>
    match args, h5, h4 with
    | [y], _, h4 =>
      obtain ⟨e, rfl, hy⟩ := es_one h4
      refine PE.imp (pe_bm PySem.F.plainAttrs_list PySem.F.slot_list_pop PySem.F.type_list_pop mt_popAt (io v h3) (pa_cons (i1 e y rfl hy) pa_nil (ck_star hy)) (ab_of h6) (by rw [ck_star hy]; rfl) h2 (ck_star hy) rfl) fun σ H Q ⟨W, S, env, q, rl, er, w, ok⟩ => ?_
      simp only [wpE, wpEs] at w
      refine ⟨W, S, env, _, rl, er, w, fun W1 S1 H1 dx x e1 r1 p1 w1 => ⟨lst_ty g r1 p1 w1.1, ?_⟩⟩
      refine ⟨W1, S1, env, _, r1, er.keep (e1.keep rl), w1.2, fun W2 S2 H2 dy y e2 r2 p2 w2 => ?_⟩
      obtain ⟨z, ez, hq⟩ := w2
      have p1' := p1.keep (e2.keep r1)
      cases p1' with
      | @loc mm a he =>
        dsimp only [mtD] at ez
        split at ez
        · rename_i xs hx
          cases p2 with
          | int i =>
            dsimp only at ez
            split at ez
            · rename_i hi
              obtain ⟨i0, i1⟩ := hi
              obtain ⟨j, rfl⟩ := Int.eq_ofNat_of_zero_le i0
              obtain ⟨vs, l, qs⟩ := loc_lst r2 hx he
              rw [Int.toNat_natCast] at ez
              cases cc : xs[j]? with
              | none => rw [cc] at ez; cases ez
              | some d =>
                rw [cc] at ez; cases ez
                obtain ⟨u, hu, pu⟩ := qs.get cc
                have hj : j < vs.length := (List.getElem?_eq_some_iff.mp hu).1
                obtain ⟨r3, e3⟩ := rel_put r2 hx he (.lst (xs.eraseIdx j)) (.lst (vs.eraseIdx j)) fun H' k e => ⟨_, e, (qs.keep k).erase j⟩
                have hs : PySem.seqIndex? (j : Int) vs.length = some j := seqI_nat hj
                exact ⟨a, vs, (j : Int), j, u, rfl, rfl, l, by omega, by omega, hs, hu, ok _ _ _ _ _ ((e1.trans e2).trans e3) r3 (pu.keep (e3.keep r2)) hq⟩
            · cases ez
          | _ => cases ez
        · cases ez
        · cases ez
      | _ => cases ez
  | insert =>
    match args, h5, h4 with
    | [y, y2], _, h4 =>
      obtain ⟨e, f, rfl, hy, hy2⟩ := es_two h4
      refine PE.imp (pe_bm PySem.F.plainAttrs_list PySem.F.slot_list_insert PySem.F.type_list_insert mt_insert (io v h3) (pa_cons ((i2 e f y rfl).1 hy) (pa_cons ((i2 e f y2 rfl).2 hy2) pa_nil (ck_star hy2)) (ck_star hy)) (ab_of h6) (by rw [ck_star hy, ck_star hy2]; rfl) h2 (ck_star hy) (by rw [ck_star hy2]; rfl)) fun σ H Q ⟨W, S, env, q, rl, er, w, ok⟩ => ?_
      simp only [wpE, wpEs] at w
      refine ⟨W, S, env, _, rl, er, w, fun W1 S1 H1 dx x e1 r1 p1 w1 => ⟨lst_ty g r1 p1 w1.1, ?_⟩⟩
      refine ⟨W1, S1, env, _, r1, er.keep (e1.keep rl), w1.2, fun W2 S2 H2 dy y e2 r2 p2 w2 => ?_⟩
      refine ⟨W2, S2, env, _, r2, (er.keep (e1.keep rl)).keep (e2.keep r1), w2, fun W3 S3 H3 dz y3 e3 r3 p3 w3 => ?_⟩
      obtain ⟨z, ez, hq⟩ := w3
      have p1' := (p1.keep (e2.keep r1)).keep (e3.keep r2)
      have p2' := p2.keep (e3.keep r2)
      cases p1' with
      | @loc mm a he =>
        dsimp only [mtD] at ez
        split at ez
        · rename_i xs hx
          cases p2' with
          | int i =>
            dsimp only at ez
            split at ez
            · rename_i hl
              cases ez
              obtain ⟨vs, l, qs⟩ := loc_lst r3 hx he
              obtain ⟨r4, e4⟩ := rel_put r3 hx he (.lst (xs.take i.toNat ++ [dz] ++ xs.drop i.toNat)) (.lst (vs.take i.toNat ++ [y3] ++ vs.drop i.toNat)) fun H' k e => ⟨_, e, (((qs.keep k).take _).append (.cons (p3.keep k) .nil)).append ((qs.keep k).drop _)⟩
              exact ⟨a, vs, i, y3, rfl, rfl, l, by rw [← qs.length]; exact Nat.lt_trans hl.1 (by decide), hl.2.1, Int.lt_trans hl.2.2 (by decide), ok _ _ _ _ _ (((e1.trans e2).trans e3).trans e4) r4 .non hq⟩
            · cases ez
          | _ => cases ez
        · cases ez
        · cases ez
      | _ => cases ez
  | get1 =>
    match args, h5, h4 with
    | [y], _, h4 =>
      obtain ⟨e, rfl, hy⟩ := es_one h4
      refine PE.imp (pe_dget1 hu (io v h3) (i1 e y rfl hy) ⟨ab_of h6, by rw [ck_star hy]; rfl, h2, by rw [ck_star hy]; rfl⟩) fun σ H Q ⟨W, S, env, q, rl, er, w, ok⟩ => ?_
      simp only [wpE, wpEs] at w
      refine ⟨W, S, env, _, rl, er, w, fun W1 S1 H1 dx x e1 r1 p1 w1 => ?_⟩
      obtain ⟨mm, a, kvs0, vs0, rfl, rfl, _, hr, l0⟩ := dic_ty r1 p1 w1.1
      refine ⟨a, rfl, .inl ⟨_, .inl l0⟩, W1, S1, env, _, r1, er.keep (e1.keep rl), w1.2, fun W2 S2 H2 dy y e2 r2 p2 w2 => ?_⟩
      obtain ⟨z, ez, hq⟩ := w2
      dsimp only [mtD] at ez
      split at ez
      · cases ez
      · rename_i kvs hx
        cases ck : keyD dy with
        | none => rw [ck] at ez; cases ez
        | some k =>
          rw [ck] at ez; cases ez; dsimp only at hq
          obtain ⟨vs, l, qs⟩ := loc_dic r2 hx (e2.rho _ _ hr)
          have ey := key_of p2 ck
          subst ey
          refine ⟨_, DGet.k l, ?_⟩
          cases cl : lkD kvs k with
          | none =>
            rw [(qs.look k).2 cl]
            rw [cl] at hq
            exact ok _ _ _ _ _ (e1.trans e2) r2 .non hq
          | some d =>
            obtain ⟨u, hu, pu⟩ := (qs.look k).1 d cl
            rw [hu]
            rw [cl] at hq
            exact ok _ _ _ _ _ (e1.trans e2) r2 pu hq
      · cases ez
  | get2 =>
    match args, h5, h4 with
    | [y, y2], _, h4 =>
      obtain ⟨e, f, rfl, hy, hy2⟩ := es_two h4
      refine PE.imp (pe_dget2 hu (io v h3) ((i2 e f y rfl).1 hy) ((i2 e f y2 rfl).2 hy2) ⟨ab_of h6, by rw [ck_star hy, ck_star hy2]; rfl, h2, by rw [ck_star hy, ck_star hy2]; rfl⟩) fun σ H Q ⟨W, S, env, q, rl, er, w, ok⟩ => ?_
      simp only [wpE, wpEs] at w
      refine ⟨W, S, env, _, rl, er, w, fun W1 S1 H1 dx x e1 r1 p1 w1 => ?_⟩
      obtain ⟨mm, a, kvs0, vs0, rfl, rfl, _, hr, l0⟩ := dic_ty r1 p1 w1.1
      refine ⟨a, rfl, .inl ⟨_, .inl l0⟩, W1, S1, env, _, r1, er.keep (e1.keep rl), w1.2, fun W2 S2 H2 dy y e2 r2 p2 w2 => ?_⟩
      refine ⟨W2, S2, env, _, r2, (er.keep (e1.keep rl)).keep (e2.keep r1), w2, fun W3 S3 H3 dz y3 e3 r3 p3 w3 => ?_⟩
      obtain ⟨z, ez, hq⟩ := w3
      dsimp only [mtD] at ez
      split at ez
      · cases ez
      · rename_i kvs hx
        cases ck : keyD dy with
        | none => rw [ck] at ez; cases ez
        | some k =>
          rw [ck] at ez; cases ez; dsimp only at hq
          obtain ⟨vs, l, qs⟩ := loc_dic r3 hx (e3.rho _ _ (e2.rho _ _ hr))
          have ey := key_of p2 ck
          subst ey
          refine ⟨_, DGet.k l, ?_⟩
          cases cl : lkD kvs k with
          | none =>
            rw [(qs.look k).2 cl]
            rw [cl] at hq
            exact ok _ _ _ _ _ ((e1.trans e2).trans e3) r3 p3 hq
          | some d =>
            obtain ⟨u, hu, pu⟩ := (qs.look k).1 d cl
            rw [hu]
            rw [cl] at hq
            exact ok _ _ _ _ _ ((e1.trans e2).trans e3) r3 pu hq
      · cases ez
end
end Mi
set_option maxHeartbeats 4000000
/-! Mi12: the small language is right: tests, targets, walks. -/
namespace Mi
open PySem PySem.Spec PyProof.Rows L2

section
variable {X : Cx} {K : Frg} {c : SC} {n : Nat} {G : GT}

/-! ### tests -/
/-- a value taken as a test, where the model looks at it so -/
theorem lt_truth (g : Good X K c n G) {e : E} {x : Expr} (ie : PE X x (LE K (wpE c.T G noX e))) (he : ∀ whole, isTrue x X.env whole = (do let v ← whole; standAt x.pos; holding [v] (truthy v))) : PT X x (LT K (wpT c.T G noX e)) :=
  PT.imp (pt_truth ie he) fun σ H Q ⟨W, S, env, q, rl, er, w, ok⟩ => by
    refine ⟨W, S, env, _, rl, er, w, fun W1 S1 H1 dx x e1 r1 p1 w1 => ?_⟩
    obtain ⟨k, ek, hq⟩ := w1
    exact ⟨k, g.hK ▸ tru_of r1 p1 ek, ok W1 S1 H1 k e1 r1 hq⟩
theorem lt_not (g : Good X K c n G) {a : E} {y : Expr} {p : Pos} (ia : PT X y (LT K (wpT c.T G noX a))) : PT X (.UnaryOp .Not y p) (LT K (wpT c.T G noX (.not a))) :=
  PT.imp (pt_not ia) fun σ H Q ⟨W, S, env, q, rl, er, w, ok⟩ => by
    simp only [wpT, wpE] at w
    refine ⟨W, S, env, fun k S1 => ∃ k', truD S1 (.bl (!k)) = some k' ∧ q k' S1, rl, er, w, fun W1 S1 H1 k e1 r1 w1 => ?_⟩
    obtain ⟨k', ek, hq⟩ := w1
    cases ek
    exact ok W1 S1 H1 _ e1 r1 hq
theorem lt_cmp (g : Good X K c n G) {o : Cp} {a b : E} {x : Expr} (h : ckE (.cmp o a b) c x = true) (ia : ∀ y, ckE a c y = true → PE X y (LE K (wpE c.T G noX a))) (ib : ∀ y, ckE b c y = true → PE X y (LE K (wpE c.T G noX b))) :
    PT X x (LT K (wpT c.T G noX (.cmp o a b))) := by
  obtain ⟨l, q, r, p, rfl, h1, h2, h3, h4⟩ := ck_cmp h
  rw [← eqb h1]
  have hm : behindInMarks (cpE o) r = false := by
    cases r <;> first | rfl | (simp [notSet] at h4; done)
  refine PT.imp (pt_cmpR (op_cmp g.hK o g.hW g.units) (ia l h2) (ib r h3) hm) fun σ H Q ⟨W, S, env, q, rl, er, w, ok⟩ => ?_
  simp only [wpT, wpE] at w
  refine ⟨W, S, env, _, rl, er, w, fun W1 S1 H1 dx x e1 r1 p1 w1 => ?_⟩
  refine ⟨W1, S1, env, _, r1, er.keep (e1.keep rl), w1, fun W2 S2 H2 dy y e2 r2 p2 w2 => ?_⟩
  obtain ⟨k, ek, k', ek', hq⟩ := w2
  cases ek'
  exact ⟨W2, S2, dx, dy, k, r2, p1.keep (e2.keep r1), p2, ek, k, rfl, ok W2 S2 H2 _ (e1.trans e2) r2 hq⟩
theorem lt_chn (g : Good X K c n G) {o o' : Cp} {a b d : E} {x : Expr} (h : ckE (.chn o o' a b d) c x = true) (ia : ∀ y, ckE a c y = true → PE X y (LE K (wpE c.T G noX a))) (ib : ∀ y, ckE b c y = true → PE X y (LE K (wpE c.T G noX b)))
    (id : ∀ y, ckE d c y = true → PE X y (LE K (wpE c.T G noX d))) : PT X x (LT K (wpT c.T G noX (.chn o o' a b d))) := by
  obtain ⟨l, q, q', r, t, p, rfl, h1, h1', h2, h3, h3', h4⟩ := ck_chn h
  rw [← eqb h1, ← eqb h1']
  have hm : lastMarks [cpE o, cpE o'] [r, t] = false := by
    show behindInMarks (cpE o') t = false
    cases t <;> first | rfl | (simp [notSet] at h4; done)
  refine PT.imp (pt_chain (op_cmp g.hK o g.hW g.units) (op_cmp g.hK o' g.hW g.units) (ia l h2) (ib r h3) (id t h3') hm) fun σ H Q ⟨W, S, env, q, rl, er, w, ok⟩ => ?_
  simp only [wpT, wpE] at w
  refine ⟨W, S, env, _, rl, er, w, fun W1 S1 H1 dx x e1 r1 p1 w1 => ?_⟩
  refine ⟨W1, S1, env, _, r1, er.keep (e1.keep rl), w1, fun W2 S2 H2 dy y e2 r2 p2 w2 => ?_⟩
  obtain ⟨k, ek, w3⟩ := w2
  refine ⟨W2, S2, dx, dy, k, r2, p1.keep (e2.keep r1), p2, ek, k, rfl, ?_⟩
  cases k with
  | false =>
    rw [if_neg Bool.false_ne_true] at w3 ⊢
    obtain ⟨k', ek', hq⟩ := w3
    cases ek'
    exact ⟨false, rfl, ok W2 S2 H2 _ (e1.trans e2) r2 hq⟩
  | true =>
    rw [if_pos rfl] at w3 ⊢
    refine ⟨W2, S2, env, _, r2, (er.keep (e1.keep rl)).keep (e2.keep r1), w3, fun W3 S3 H3 dz z e3 r3 p3 w4 => ?_⟩
    obtain ⟨k', ek', k'', ek'', hq⟩ := w4
    cases ek''
    exact ⟨W3, S3, dy, dz, k', r3, p2.keep (e3.keep r2), p3, ek', k', rfl, ok W3 S3 H3 _ ((e1.trans e2).trans e3) r3 hq⟩
theorem pw_or1' {a : Expr} {p : Pos} {op : BoolOp} {t : TT} (h : PT X a t) : PW X (.BoolOp op [a] p) t := by
  cases op with
  | And => exact pw_and1 h
  | Or => exact pw_or1 h
theorem lt_and {a b : E} {y z : Expr} {rest : List Expr} {p : Pos} (iy : PT X y (LT K (wpT c.T G noX a))) (iz : PW X (.BoolOp .And (z :: rest) p) (LT K (wpT c.T G noX b))) : PW X (.BoolOp .And (y :: z :: rest) p) (LT K (wpT c.T G noX (.and a b))) := by
  have h := pw_and iy iz
  refine ⟨fun whole pins s σ H Q I ⟨W, S, env, q, rl, er, w, ok⟩ => h.run whole pins s σ H Q I ?_⟩
  simp only [wpT, wpE] at w
  refine ⟨W, S, env, fun k S1 => if k = true then wpT c.T G noX b env S1 q else q false S1, rl, er, ?_, fun W1 S1 H1 k e1 r1 w1 => ?_⟩
  · have conv : (fun (x : D) (S1 : Sto) => ∃ k, truD S1 x = some k ∧ if k = true then wpE c.T G noX b env S1 (fun x S1 => ∃ k, truD S1 x = some k ∧ q k S1) else ∃ k, truD S1 x = some k ∧ q k S1) = (fun x S1 => ∃ k, truD S1 x = some k ∧ if k = true then wpT c.T G noX b env S1 q else q false S1) := by
      funext x S1
      apply propext
      refine ⟨fun ⟨k, ek, hk⟩ => ⟨k, ek, ?_⟩, fun ⟨k, ek, hk⟩ => ⟨k, ek, ?_⟩⟩
      · cases k with
        | true => rw [if_pos rfl] at hk ⊢; exact hk
        | false =>
          rw [if_neg Bool.false_ne_true] at hk ⊢
          obtain ⟨k', ek', hq⟩ := hk
          rw [ek] at ek'; cases ek'; exact hq
      · cases k with
        | true => rw [if_pos rfl] at hk ⊢; exact hk
        | false => rw [if_neg Bool.false_ne_true] at hk ⊢; exact ⟨false, ek, hk⟩
    rw [conv] at w
    exact w
  · cases k with
    | true =>
      rw [if_pos rfl] at w1 ⊢
      exact ⟨W1, S1, env, q, r1, er.keep (e1.keep rl), w1, fun W2 S2 H2 k2 e2 r2 w3 => ok W2 S2 H2 k2 (e1.trans e2) r2 w3⟩
    | false =>
      rw [if_neg Bool.false_ne_true] at w1 ⊢
      exact ok W1 S1 H1 _ e1 r1 w1
theorem lt_or {a b : E} {y z : Expr} {rest : List Expr} {p : Pos} (iy : PT X y (LT K (wpT c.T G noX a))) (iz : PW X (.BoolOp .Or (z :: rest) p) (LT K (wpT c.T G noX b))) : PW X (.BoolOp .Or (y :: z :: rest) p) (LT K (wpT c.T G noX (.or a b))) := by
  have h := pw_or iy iz
  refine ⟨fun whole pins s σ H Q I ⟨W, S, env, q, rl, er, w, ok⟩ => h.run whole pins s σ H Q I ?_⟩
  simp only [wpT, wpE] at w
  refine ⟨W, S, env, fun k S1 => if k = true then q true S1 else wpT c.T G noX b env S1 q, rl, er, ?_, fun W1 S1 H1 k e1 r1 w1 => ?_⟩
  · have conv : (fun (x : D) (S1 : Sto) => ∃ k, truD S1 x = some k ∧ if k = true then (∃ k, truD S1 x = some k ∧ q k S1) else wpE c.T G noX b env S1 (fun x S1 => ∃ k, truD S1 x = some k ∧ q k S1)) = (fun x S1 => ∃ k, truD S1 x = some k ∧ if k = true then q true S1 else wpT c.T G noX b env S1 q) := by
      funext x S1
      apply propext
      refine ⟨fun ⟨k, ek, hk⟩ => ⟨k, ek, ?_⟩, fun ⟨k, ek, hk⟩ => ⟨k, ek, ?_⟩⟩
      · cases k with
        | false => rw [if_neg Bool.false_ne_true] at hk ⊢; exact hk
        | true =>
          rw [if_pos rfl] at hk ⊢
          obtain ⟨k', ek', hq⟩ := hk
          rw [ek] at ek'; cases ek'; exact hq
      · cases k with
        | false => rw [if_neg Bool.false_ne_true] at hk ⊢; exact hk
        | true => rw [if_pos rfl] at hk ⊢; exact ⟨true, ek, hk⟩
    rw [conv] at w
    exact w
  · cases k with
    | false =>
      rw [if_neg Bool.false_ne_true] at w1 ⊢
      exact ⟨W1, S1, env, q, r1, er.keep (e1.keep rl), w1, fun W2 S2 H2 k2 e2 r2 w3 => ok W2 S2 H2 k2 (e1.trans e2) r2 w3⟩
    | true =>
      rw [if_pos rfl] at w1 ⊢
      exact ok W1 S1 H1 _ e1 r1 w1
theorem lt_ife (g : Good X K c n G) {t a b : E} {x : Expr} (h : ckE (.ife t a b) c x = true) (it : ∀ y, ckE t c y = true → PT X y (LT K (wpT c.T G noX t))) (ia : ∀ y, ckE a c y = true → PT X y (LT K (wpT c.T G noX a)))
    (ib : ∀ y, ckE b c y = true → PT X y (LT K (wpT c.T G noX b))) : PT X x (LT K (wpT c.T G noX (.ife t a b))) := by
  obtain ⟨u, y, z, p, rfl, h1, h2, h3⟩ := ck_ife h
  refine ⟨fun pins s σ H Q I ⟨W, S, env, q, rl, er, w, ok⟩ => ?_⟩
  rw [arm_isTrue_IfExp]
  simp only [wpT, wpE] at w
  refine wpAny_bind (thn ((it u h1).run pins s σ H (fun k H1 => if k = true then LT K (wpT c.T G noX a) σ H1 Q else LT K (wpT c.T G noX b) σ H1 Q) I ⟨W, S, env, fun k S1 => if k = true then wpT c.T G noX a env S1 q else wpT c.T G noX b env S1 q, rl, er, w, fun W1 S1 H1 k e1 r1 w1 => ?_⟩) fun k s1 ⟨H1, I1, q1⟩ => ?_)
  · cases k with
    | true =>
      rw [if_pos rfl] at w1 ⊢
      exact ⟨W1, S1, env, q, r1, er.keep (e1.keep rl), w1, fun W2 S2 H2 k2 e2 r2 w3 => ok W2 S2 H2 k2 (e1.trans e2) r2 w3⟩
    | false =>
      rw [if_neg Bool.false_ne_true] at w1 ⊢
      exact ⟨W1, S1, env, q, r1, er.keep (e1.keep rl), w1, fun W2 S2 H2 k2 e2 r2 w3 => ok W2 S2 H2 k2 (e1.trans e2) r2 w3⟩
  · cases k with
    | true =>
      rw [if_pos rfl] at q1 ⊢
      exact (ia y h2).run pins s1 σ H1 Q I1 q1
    | false =>
      rw [if_neg Bool.false_ne_true] at q1
      rw [if_neg Bool.false_ne_true]
      exact (ib z h3).run pins s1 σ H1 Q I1 q1

/-! ### targets -/
def LG (K : Frg) (t : Tg) : TG := fun v σ H Q => ∃ W S env d env', Rel K W S H ∧ EnvR K W H env σ ∧ Rep K W H d v ∧ bindT t d env = some env' ∧ ∀ σ', EnvR K W H env' σ' → (∀ i, i ∉ tgSlots t → (σ' : List (Option V))[i]? = (σ : List (Option V))[i]?) → σ'.length = σ.length → Q σ' H
theorem ck_name {i : Nat} {x : Expr} {is : List Nat} {es : List Expr} (h : ckNames c (i :: is) (x :: es) = true) : ∃ nm p, x = .Name nm p ∧ c.N[i]? = some nm ∧ stoB c nm = true ∧ ckNames c is es = true := by
  cases x <;> first
    | (simp [ckNames] at h; done)
    | (simp only [ckNames, Bool.and_eq_true] at h; exact ⟨_, _, rfl, eqb h.1.1, h.1.2, h.2⟩)
theorem sto_of (g : Good X K c n G) {x : Str} (h : stoB c x = true) : Loc X.env.scope x ∧ (X.fn x = true ∨ X.env.scope.names.lookup x = some .local) := by
  unfold stoB at h
  rw [g.sc]
  split at h
  · rename_i e; exact ⟨.inl e, .inr e⟩
  · rename_i e; exact ⟨.inr e, .inl (g.fc _ h)⟩
  · cases h
theorem lg_names (g : Good X K c n G) : ∀ {is : List Nat} {es : List Expr}, ckNames c is es = true → ∃ t : TGs, PGs X es t ∧ (assignEach es X.env).length = is.length ∧ (assignEach es X.env).findIdx? (·.1) = none ∧
    ∀ W H env env' σ ds vs Q, EnvR K W H env σ → Reps K W H ds vs → setAll is ds env = some env' → (∀ σ', EnvR K W H env' σ' → (∀ i, i ∉ is → (σ' : List (Option V))[i]? = (σ : List (Option V))[i]?) → σ'.length = σ.length → Q σ' H) → t vs σ H Q := by
  intro is
  induction is with
  | nil =>
    intro es h
    cases es with
    | nil =>
      refine ⟨gNil, pgs_nil, rfl, rfl, fun W H env env' σ ds vs Q er rp hs hq => ?_⟩
      cases rp with
      | nil => cases hs; exact ⟨rfl, hq σ er (fun _ _ => rfl) rfl⟩
      | cons _ _ => cases hs
    | cons _ _ => simp [ckNames] at h
  | cons i is ih =>
    intro es h
    cases es with
    | nil => simp [ckNames] at h
    | cons x es =>
      obtain ⟨nm, p, rfl, h1, h2, h3⟩ := ck_name h
      obtain ⟨t, pt, hl, hf, ht⟩ := ih h3
      obtain ⟨l1, l2⟩ := sto_of g h2
      refine ⟨gCons (gName i) t, pgs_cons (pg_name (by rw [g.hN]; exact g.nd) (by rw [g.hN]; exact h1) l1 l2) pt, ?_, ?_, fun W H env env' σ ds vs Q er rp hs hq => ?_⟩
      · show (assignEach es X.env).length + 1 = is.length + 1
        rw [hl]
      · show ((false, assign (.Name nm p) X.env) :: assignEach es X.env).findIdx? (·.1) = none
        rw [List.findIdx?_cons, hf]; rfl
      · cases rp with
        | nil => cases hs
        | @cons d v ds vs pd ps =>
          refine ⟨v, vs, rfl, ht W H (env.set i (some d)) env' (σ.set i (some v)) ds vs Q (er.set pd) ps hs fun σ' e' o' l' => hq σ' e' (fun j hj => ?_) (by rw [l', List.length_set])⟩
          rw [o' j (fun hm => hj (List.mem_cons_of_mem _ hm))]
          exact List.getElem?_set_ne (fun e => hj (by rw [← e]; exact List.mem_cons_self))
theorem lg_tg (g : Good X K c n G) {t : Tg} {x : Expr} (h : ckTg c t x = true) : PG X x (LG K t) := by
  cases t with
  | nm i =>
    have hx : ∃ nm p, x = .Name nm p ∧ c.N[i]? = some nm ∧ stoB c nm = true := by
      cases x <;> first
        | (simp [ckTg] at h; done)
        | (simp only [ckTg, Bool.and_eq_true] at h; exact ⟨_, _, rfl, eqb h.1, h.2⟩)
    obtain ⟨nm, p, rfl, h1, h2⟩ := hx
    obtain ⟨l1, l2⟩ := sto_of g h2
    refine ⟨fun pins s σ H v u Q I r ⟨W, S, env, d, env', rl, er, pd, hb, hq⟩ => (pg_name (pos := p) (by rw [g.hN]; exact g.nd) (by rw [g.hN]; exact h1) l1 l2).run pins s σ H v u Q I r ?_⟩
    cases hb
    exact hq _ (er.set pd) (fun j hj => List.getElem?_set_ne (fun e => hj (by rw [← e]; exact List.mem_cons_self))) (List.length_set ..)
  | tp is =>
    have hx : ∃ es k p, x = .Tuple es k p ∧ ckNames c is es = true := by
      cases x <;> first
        | (simp [ckTg] at h; done)
        | (simp only [ckTg] at h; exact ⟨_, _, _, rfl, h⟩)
    obtain ⟨es, k, p, rfl, h1⟩ := hx
    obtain ⟨t, pt, hl, hf, ht⟩ := lg_names g h1
    refine ⟨fun pins s σ H v u Q I r ⟨W, S, env, d, env', rl, er, pd, hb, hq⟩ => (pg_tup (pos := p) (k := k) (n := is.length) g.calm pt hl hf).run pins s σ H v u Q I r ?_⟩
    dsimp only [bindT] at hb
    cases pd with
    | tup f ps =>
      refine ⟨_, _, rfl, g.hK ▸ f.sq, ?_, ht W H env env' σ _ _ Q er ps hb hq⟩
      rw [← ps.length]
      suffices ∀ (is : List Nat) (ds : List D) (e e' : Env), setAll is ds e = some e' → ds.length = is.length from this _ _ _ _ hb
      intro is
      induction is with
      | nil => intro ds e e' h; cases ds with
        | nil => rfl
        | cons _ _ => cases h
      | cons i is ih => intro ds e e' h; cases ds with
        | nil => cases h
        | cons d ds => rw [List.length_cons, List.length_cons, ih ds _ _ h]
    | _ => cases hb
end
end Mi
set_option maxHeartbeats 4000000
/-! MiN: enumerate over a tuple. -/
namespace En
open PySem PySem.Spec PyProof.Rows L2
section
variable {prog : Program} {w : World} {A : Around} {E : Value → Shared → Prop} {s : Shared}
/-- the next one of a tuple's iterator -/
theorem next_tup {j t : Addr} {n : Nat} {xs : Array Value} {y : Value} {Q : Value → Shared → Prop} (hj : s.heap.IsTupleIter j t n) (ht : s.heap.IsTuple t xs) (hy : xs[n]? = some y)
    (k : ∀ g, g.IsTupleIter j t (n + 1) → Heap.SameBut j s.heap g → Q y { s with heap := g }) : wpAny (model prog w) A (Builtin.SmallTypes.nextOf (.ref j)) Q E s := by
  obtain ⟨ob, e1, e2, e3⟩ := id hj
  obtain ⟨ot, f1, _, m, f2⟩ := ht
  unfold Builtin.SmallTypes.nextOf
  refine wpAny_bind (wpAny_callSpecial?_slot (name := Str.ofString "__next__") hj.typeIs F.slot_tuple_iterator_next (wpAny_call_entry F.slot_tuple_iterator_next hj.typeIs F.entry_tuple_iterator_next ?_ (F.args_tuple_iterator_next_1 _)))
  show wpAny _ _ (field (.ref j) 0 >>= _) _ _ s
  refine wpAny_bind (wpAny_field e1 e3 (x := .ref t) rfl ?_)
  show wpAny _ _ (if (Value.ref t == Value.none) = true then _ else _) _ _ s
  refine (if_neg (show ¬ ((Value.ref t == Value.none) = true) from Bool.false_ne_true)).symm ▸ ?_
  show wpAny _ _ (field (.ref j) 1 >>= _) _ _ s
  refine wpAny_bind (wpAny_field e1 e3 (x := .int n 0) rfl ?_)
  show wpAny _ _ (seqItems? (.ref t) >>= _) _ _ s
  refine wpAny_bind (wpAny_seqItems f1 f2 ?_)
  simp only [Int.toNat_natCast, hy]
  refine wpAny_bind (wpAny_setField e1 e3 (by simp) (wpAny_pure ⟨y, rfl, wpAny_pure (k _ ⟨_, Heap.get?_update_self _ e1 (Obj.isFreed_of_fields (Obj.data_mapFields e3 _)), (Obj.cls_mapFields ..).trans e2, ?_⟩ (Heap.SameBut.update ..))⟩))
  rw [Obj.data_mapFields e3]
  simp [rawInt]
theorem next_tup_end {j t : Addr} {n : Nat} {xs : Array Value} {Q : Value → Shared → Prop} (hh : A.handled = none) (hj : s.heap.IsTupleIter j t n) (ht : s.heap.IsTuple t xs) (hy : xs[n]? = none)
    (k : ∀ g z, Heap.ExtBut j s.heap g → (∃ o, g.get? z = some o ∧ o.cls = .type "StopIteration") → E (.ref z) { s with heap := g }) : wpAny (model prog w) A (Builtin.SmallTypes.nextOf (.ref j)) Q E s := by
  obtain ⟨ob, e1, e2, e3⟩ := id hj
  obtain ⟨ot, f1, _, m, f2⟩ := ht
  unfold Builtin.SmallTypes.nextOf
  refine wpAny_bind (wpAny_callSpecial?_slot (name := Str.ofString "__next__") hj.typeIs F.slot_tuple_iterator_next (wpAny_call_entry F.slot_tuple_iterator_next hj.typeIs F.entry_tuple_iterator_next ?_ (F.args_tuple_iterator_next_1 _)))
  show wpAny _ _ (field (.ref j) 0 >>= _) _ _ s
  refine wpAny_bind (wpAny_field e1 e3 (x := .ref t) rfl ?_)
  show wpAny _ _ (if (Value.ref t == Value.none) = true then _ else _) _ _ s
  refine (if_neg (show ¬ ((Value.ref t == Value.none) = true) from Bool.false_ne_true)).symm ▸ ?_
  show wpAny _ _ (field (.ref j) 1 >>= _) _ _ s
  refine wpAny_bind (wpAny_field e1 e3 (x := .int n 0) rfl ?_)
  show wpAny _ _ (seqItems? (.ref t) >>= _) _ _ s
  refine wpAny_bind (wpAny_seqItems f1 f2 ?_)
  simp only [Int.toNat_natCast, hy]
  refine wpAny_bind (wpAny_rule (wpAny_bind (wpAny_setField e1 e3 (by simp) ?_)))
  show wpAny _ _ (newExc (.type "StopIteration") [] >>= _) _ _ _
  refine wpAny_bind ?_
  simp only [newExc, newTuple]
  refine wpAny_bind (wpAny_newObj_type ?_ (by size_fits)) 
  refine wpAny_bind (m := firstArgMember _ _) (wpAny_of_eq (a := Value.none) (by first | rfl | (simp only [firstArgMember]; rfl)) (wpAny_newObj_type ?_ (by size_fits)))
  simp only [raiseNew]
  refine wpAny_bind (wpAny_handled ?_)
  first | rw [show A.in1.handled = none from hh] | rw [hh]
  exact wpAny_bind (wpAny_pure (wpAny_throw (k _ _ (((Heap.SameBut.update ..).extBut.push _).push _) ⟨_, Heap.get?_push_size _ rfl, rfl⟩)))
/-- enumerate's next pair -/
theorem en_item {e j t : Addr} {n : Nat} {xs : Array Value} {y old : Value} {Q : Value → Shared → Prop} (he : IsEnum s.heap e j n old) (hj : s.heap.IsTupleIter j t n) (ht : s.heap.IsTuple t xs) (hy : xs[n]? = some y) (hne : e ≠ j)
    (k : ∀ g, IsEnumOut g e j ((n : Int) + 1) y s.heap.objs.size → g.IsTupleIter j t (n + 1) → g.get? s.heap.objs.size = some { cls := .type "tuple", data := .seq #[.int n s.toks, y] } → g.objs.size = s.heap.objs.size + 1 →
      (∀ b o, b ≠ e → b ≠ j → s.heap.get? b = some o → g.get? b = some o) → Q (.ref s.heap.objs.size) { s with heap := g, toks := s.toks + 1 }) :
    wpAny (model prog w) A (Builtin.«enumerate.__next__» ⟨[.ref e], []⟩) (fun fin s' => ∃ v, fin = .done (.ret v) ∧ Q v s') E s := by
  obtain ⟨hp, gs, dr, tk, os⟩ := s
  show wpAny _ _ (field (.ref e) 2 >>= _) _ _ _
  refine wpAny_bind (wpAny_field he rfl (x := .ref j) rfl (wpAny_bind (next_tup hj ht hy fun g1 j1 b1 => ?_)))
  have b1 : Heap.SameBut j hp g1 := b1
  have a1 : IsEnum g1 e j n old := (b1.2 e hne).trans he
  show wpAny _ _ (field (.ref e) 3 >>= _) _ _ ⟨g1, gs, dr, tk, os⟩
  refine wpAny_bind (wpAny_field a1 rfl (x := rawInt n) rfl ?_)
  show wpAny _ _ (field (.ref e) 4 >>= _) _ _ ⟨g1, gs, dr, tk, os⟩
  refine wpAny_bind (wpAny_field a1 rfl (x := .none) rfl ?_)
  show wpAny _ _ (mkInt n >>= _) _ _ ⟨g1, gs, dr, tk, os⟩
  refine wpAny_bind (wpAny_mkInt ?_)
  show wpAny _ _ (setField (.ref e) 3 (rawInt ((n : Int) + 1)) >>= _) _ _ ⟨g1, gs, dr, tk + 1, os⟩
  refine wpAny_bind (wpAny_setField_rec a1 (by simp) fun g2 a2 b2 => ?_)
  have b2 : Heap.SameBut e g1 g2 := b2
  have a2 : IsEnum g2 e j ((n : Int) + 1) old := a2
  show wpAny _ _ (setField (.ref e) 4 .none >>= _) _ _ ⟨g2, gs, dr, tk + 1, os⟩
  refine wpAny_bind (wpAny_setField_rec a2 (by simp) fun g3 a3 b3 => ?_)
  have b3 : Heap.SameBut e g2 g3 := b3
  have a3 : IsEnum g3 e j ((n : Int) + 1) old := a3
  show wpAny _ _ (newTuple [.int n tk, y] >>= _) _ _ ⟨g3, gs, dr, tk + 1, os⟩
  refine wpAny_bind (wpAny_newTuple ?_)
  have a4 : IsEnum (g3.push { cls := .type "tuple", data := .seq #[.int n tk, y] }) e j ((n : Int) + 1) old := Heap.get?_push_of_some _ a3
  generalize q4 : g3.push { cls := .type "tuple", data := .seq #[.int n tk, y] } = g4 at a4
  have z3 : g3.objs.size = hp.objs.size := by rw [b3.1, b2.1, b1.1]
  have le : e < hp.objs.size := Heap.lt_size he
  have t4 : g4.get? hp.objs.size = some { cls := .type "tuple", data := .seq #[.int n tk, y] } := by rw [← q4, ← z3]; exact Heap.get?_push_size _ rfl
  have z4 : g4.objs.size = hp.objs.size + 1 := by rw [← q4, Heap.size_push, z3]
  have r4 : ∀ b o, b ≠ e → b ≠ j → hp.get? b = some o → g4.get? b = some o := fun b o n1 n2 h => by
    rw [← q4]
    exact Heap.get?_push_of_some _ (b3.extBut b o n1 (b2.extBut b o n1 (b1.extBut b o n2 h)))
  have j4 : g4.IsTupleIter j t (n + 1) := by
    rw [← q4]
    obtain ⟨o, ho, r⟩ := (j1.extBut b2.extBut (Ne.symm hne)).extBut b3.extBut (Ne.symm hne)
    exact ⟨o, Heap.get?_push_of_some _ ho, r⟩
  show wpAny _ _ (Builtin.SmallTypes.ownedTupleIsFree (.ref e) >>= _) _ _ ⟨g4, gs, dr, tk + 1, os⟩
  rw [z3]
  refine wpAny_bind ?_
  unfold Builtin.SmallTypes.ownedTupleIsFree
  refine wpAny_bind (wpAny_field a4 rfl (x := .none) rfl (wpAny_pure ?_))
  simp only [if_true]
  refine wpAny_bind (wpAny_rule (wpAny_bind (wpAny_field a4 rfl (x := old) rfl ?_)))
  refine wpAny_bind (wpAny_setField_rec a4 (by simp) fun g5 a5 b5 => ?_)
  have b5 : Heap.SameBut e g4 g5 := b5
  have a5 : IsEnum g5 e j ((n : Int) + 1) y := a5
  show wpAny _ _ (Builtin.SmallTypes.ownedTupleHandOut (.ref e) (.ref hp.objs.size) >>= _) _ _ ⟨g5, gs, dr, tk + 1, os⟩
  refine wpAny_bind ?_
  unfold Builtin.SmallTypes.ownedTupleHandOut
  refine wpAny_bind (wpAny_setField_rec a5 (by simp) fun g6 a6 b6 => ?_)
  have b6 : Heap.SameBut e g5 g6 := b6
  have a6 : IsEnumOut g6 e j ((n : Int) + 1) y hp.objs.size := a6
  refine wpAny_setField_rec a6 (by simp) fun g7 a7 b7 => ?_
  have b7 : Heap.SameBut e g6 g7 := b7
  have a7 : IsEnumOut g7 e j ((n : Int) + 1) y hp.objs.size := a7
  have ne : hp.objs.size ≠ e := Nat.ne_of_gt le
  refine wpAny_bind (wpAny_letGo (wpAny_pure ⟨_, rfl, k g7 a7 (((j4.extBut b5.extBut (Ne.symm hne)).extBut b6.extBut (Ne.symm hne)).extBut b7.extBut (Ne.symm hne)) (b7.extBut _ _ ne (b6.extBut _ _ ne (b5.extBut _ _ ne t4))) (by rw [b7.1, b6.1, b5.1, z4]) fun b o n1 n2 h => b7.extBut b o n1 (b6.extBut b o n1 (b5.extBut b o n1 (r4 b o n1 n2 h)))⟩))
theorem py_item {e j t : Addr} {n : Nat} {xs : Array Value} {y old : Value} {Q : Option Value → Shared → Prop} (he : IsEnum s.heap e j n old) (hj : s.heap.IsTupleIter j t n) (ht : s.heap.IsTuple t xs) (hy : xs[n]? = some y) (hne : e ≠ j)
    (k : ∀ g, IsEnumOut g e j ((n : Int) + 1) y s.heap.objs.size → g.IsTupleIter j t (n + 1) → g.get? s.heap.objs.size = some { cls := .type "tuple", data := .seq #[.int n s.toks, y] } → g.objs.size = s.heap.objs.size + 1 →
      (∀ b o, b ≠ e → b ≠ j → s.heap.get? b = some o → g.get? b = some o) → Q (some (.ref s.heap.objs.size)) { s with heap := g, toks := s.toks + 1 }) :
    wpAny (model prog w) A (pyNext (.ref e)) Q E s := by
  have ty : s.TypeIs (.ref e) "enumerate" := ⟨_, he, rfl⟩
  unfold pyNext
  exact wpAny_bind (wpAny_attempt (wpAny_callSpecial?_slot (name := Str.ofString "__next__") ty F.slot_enumerate_next (wpAny_call_entry F.slot_enumerate_next ty F.entry_enumerate_next (en_item he hj ht hy hne fun g a b c d r => wpAny_pure (k g a b c d r)) (F.args_enumerate_next_1 _))))
theorem py_end {e j t : Addr} {n : Nat} {xs : Array Value} {old : Value} {Q : Option Value → Shared → Prop} (hh : A.handled = none) (he : IsEnum s.heap e j n old) (hj : s.heap.IsTupleIter j t n) (ht : s.heap.IsTuple t xs) (hy : xs[n]? = none)
    (k : ∀ g, Heap.ExtBut j s.heap g → Q none { s with heap := g }) : wpAny (model prog w) A (pyNext (.ref e)) Q E s := by
  have ty : s.TypeIs (.ref e) "enumerate" := ⟨_, he, rfl⟩
  unfold pyNext
  refine wpAny_bind (wpAny_attempt (wpAny_callSpecial?_slot (name := Str.ofString "__next__") ty F.slot_enumerate_next (wpAny_call_entry F.slot_enumerate_next ty F.entry_enumerate_next ?_ (F.args_enumerate_next_1 _))))
  show wpAny _ _ (field (.ref e) 2 >>= _) _ _ _
  refine wpAny_bind (wpAny_field he rfl (x := .ref j) rfl (wpAny_bind (next_tup_end hh hj ht hy fun g z a c => ?_)))
  obtain ⟨o, ho, hc⟩ := c
  exact wpAny_bind (wpAny_isInstance (T := "StopIteration") (b := true) ⟨o, ho, hc⟩ isSubtype_stop (wpAny_pure (k _ a)))
theorem new_enum (l : Addr) (items : Array Value) (m : Nat) (dct : Option Addr) (sl : Array (Option Value)) :
    Meets (Builtin.«enumerate.__new__» ⟨[.type "enumerate", .ref l], []⟩) (fun _ R s => s.heap.get? l = some { cls := .type "tuple", dict := dct, data := .seq items m, slots := sl } ∧
      R (.ok (.ret (.ref (s.heap.push { cls := .type "tuple_iterator", data := .fields #[.ref l, .int 0 0] }).objs.size)))
        { s with heap := (s.heap.push { cls := .type "tuple_iterator", data := .fields #[.ref l, .int 0 0] }).push { cls := .type "enumerate", data := .fields #[.none, .bool false, .ref s.heap.objs.size, rawInt 0, .none, .none] } }) :=
  .of_wp fun prog w A R s h => by
    obtain ⟨hp, g, d, tk, os⟩ := s
    obtain ⟨hl, h⟩ := h
    have hsub := sub_enumerate
    have hT : Heap.IsTuple (Shared.heap ⟨hp, g, d, tk, os⟩) l items := ⟨_, hl, rfl, m, rfl⟩
    wp_walk using AutoSeq1.wpAny_loadPart' hl
    refine wpAny_stack_any fun st => wpAny_pure ?_
    split
    · rename_i c _ _ _ _ _
      cases (c == Value.type "enumerate")
      all_goals
        wp_walk using AutoSeq1.wpAny_loadPart' hl, wpAny_pyIter_tuple hT
        exact ⟨_, rfl, h⟩
    · wp_walk using AutoSeq1.wpAny_loadPart' hl, wpAny_pyIter_tuple hT
      exact ⟨_, rfl, h⟩
theorem call_enum {l : Addr} {items : Array Value} {Q : Value → Shared → Prop} (hT : s.heap.IsTuple l items)
    (k : ∀ g, IsEnum g (s.heap.objs.size + 1) s.heap.objs.size 0 .none → g.IsTupleIter s.heap.objs.size l 0 → g.objs.size = s.heap.objs.size + 2 → (∀ b o, s.heap.get? b = some o → g.get? b = some o) → Q (.ref (s.heap.objs.size + 1)) { s with heap := g }) :
    wpAny (model prog w) A (call (.type "enumerate") [.ref l]) Q E s := by
  obtain ⟨⟨c, dct, dt, sl⟩, hl, hc, m, hd⟩ := hT
  have hc : c = .type "tuple" := hc
  have hd : dt = .seq items m := hd
  subst hc hd
  refine callType_new F.called_enumerate (by decide) (F.typeCall_enumerate_1 _) (F.newCall_enumerate_1 _) (fun obj => F.args_object_init_2 obj _) F.entry_enumerate_new (new_enum l items m dct sl) ⟨hl, ?_⟩
  have z1 : (s.heap.push { cls := .type "tuple_iterator", data := .fields #[.ref l, .int 0 0] }).objs.size = s.heap.objs.size + 1 := Heap.size_push ..
  show _ ∧ _
  rw [z1]
  have a1 : IsEnum ((s.heap.push { cls := .type "tuple_iterator", data := .fields #[.ref l, .int 0 0] }).push { cls := .type "enumerate", data := .fields #[.none, .bool false, .ref s.heap.objs.size, rawInt 0, .none, .none] }) (s.heap.objs.size + 1) s.heap.objs.size 0 .none := by
    have q := Heap.get?_push_size (s.heap.push { cls := .type "tuple_iterator", data := .fields #[.ref l, .int 0 0] }) (o := { cls := .type "enumerate", data := .fields #[.none, .bool false, .ref s.heap.objs.size, rawInt 0, .none, .none] }) rfl
    rw [z1] at q
    exact q
  exact ⟨⟨_, a1, rfl⟩, k _ a1 ⟨_, Heap.get?_push_of_some _ (Heap.get?_push_size _ rfl), rfl, rfl⟩ (by rw [Heap.size_push, z1]) fun b o x => Heap.get?_push_of_some _ (Heap.get?_push_of_some _ x)⟩
end
/-- the tuple at a, each item in a new pair with its place -/
def IteT (K : PySem.W.Frag) (a : Addr) : It :=
  ⟨fun i H => ∃ (xs : List V) (x : V), SqT K H a xs ∧ xs[i]? = some x, fun i H v H' => ∃ T x, v = .ref T ∧ H T = none ∧ H' = upd H T (.tup [.int (i : Nat), x]) ∧ ∀ xs, SqT K H a xs → xs[i]? = some x, fun i H => ∃ xs : List V, SqT K H a xs ∧ xs.length ≤ i⟩
theorem turn_enumT {P : Program} {w : World} {K : PySem.W.Frag} {elts : List Expr} {kk : Nat} {tpos : Pos} (a e it : Addr) :
    Turn P w K (.Tuple elts kk tpos) (IteT K a) [e, it] e (fun i h => (∃ old, IsEnum h e it ((i : Nat) : Int) old) ∧ h.IsTupleIter it a i ∧ e ≠ it) where
  mem := by simp
  obj := fun i h st b hb => by
    obtain ⟨⟨old, h1⟩, ⟨o, h2, _, h3⟩, _⟩ := st
    have z : b = e ∨ b = it := by simpa using hb
    rcases z with rfl | rfl
    · exact ⟨_, h1, fun v q => nomatch q⟩
    · exact ⟨o, h2, fun v q => by rw [h3] at q; cases q⟩
  keep := fun i h h' st k => by
    obtain ⟨⟨old, h1⟩, h2, h3⟩ := st
    exact ⟨⟨old, k e (by simp) _ h1⟩, h2.at fun o q => k it (by simp) o q, h3⟩
  item := by
    intro X hP hw hK hc i pins s σ H E I hf st hg
    subst hP hw hK
    obtain ⟨⟨old, h1⟩, h2, hne⟩ := st
    obtain ⟨xs, x, hq, hx⟩ := hg
    obtain ⟨its, rv, p, hz⟩ := I.tuple hq
    obtain ⟨u, hu, ru⟩ := rv.get hx
    have le : e < s.heap.objs.size := Heap.lt_size h1
    have li : it < s.heap.objs.size := by obtain ⟨_, q, _⟩ := h2; exact Heap.lt_size q
    refine py_item h1 h2 (show s.heap.IsTuple a its.toArray from p) (y := u) (by simpa using hu) hne fun g ho hit hT hsz hk => ?_
    refine ⟨_, rfl, wpAny_letOwnedTupleGo_enum (s := { s with heap := g, toks := s.toks + 1 }) ho fun g2 he2 sb => ?_⟩
    have hT2 : g2.get? s.heap.objs.size = some { cls := .type "tuple", data := .seq #[.int i s.toks, u] } := (sb.2 _ (Nat.ne_of_gt le)).trans hT
    have new : ObjOk X.prog X.w (upd H s.heap.objs.size (.tup [.int (i : Nat), x])) g2 s.heap.objs.size (.tup [.int (i : Nat), x]) := ⟨by show 2 ≤ sizeLine; decide, [.int i s.toks, u], .cons ⟨_, rfl⟩ (.cons ru .nil), ⟨_, hT2, rfl, _, rfl⟩⟩
    have I1 : Inv X pins σ (upd H s.heap.objs.size (.tup [.int (i : Nat), x])) { s with heap := g2, toks := s.toks + 1 } :=
      I.turnedNew (ch := [e, it]) (fun b ob hb q => (sb.2 b (fun z => hb (by simp [z]))).trans (hk b ob (fun z => hb (by simp [z])) (fun z => hb (by simp [z])) q)) hf (Nat.le_refl _) new
    refine ⟨.ref s.heap.objs.size, _, I1, rfl, ⟨_, x, rfl, I.hok.fresh (Nat.le_refl _), rfl, fun ys hy => by rw [I.tuple_inj hy hq]; exact hx⟩, ⟨⟨u, ?_⟩, hit.at fun o q => (sb.2 it (Ne.symm hne)).trans q, hne⟩, fun b hb => ?_⟩
    · rw [show ((i + 1 : Nat) : Int) = (i : Int) + 1 by omega]
      exact he2
    · have lb : b < s.heap.objs.size := by
        have z : b = e ∨ b = it := by simpa using hb
        rcases z with rfl | rfl
        · exact le
        · exact li
      rw [upd_ne (Nat.ne_of_lt lb)]
      exact (hf b hb).1
  done := by
    intro X hP hw hK hc i pins s σ H E I hf st hg
    subst hP hw hK
    obtain ⟨⟨old, h1⟩, h2, hne⟩ := st
    obtain ⟨xs, hq, hx⟩ := hg
    obtain ⟨its, rv, p, hz⟩ := I.tuple hq
    obtain ⟨f0, f1, f2, f3, f4, f5⟩ := hf it (by simp)
    have hl := rv.length
    exact py_end (I.ok.hd hc) h1 h2 (show s.heap.IsTuple a its.toArray from p) (by simp; omega) fun g eb => ⟨rfl, I.turned (t' := s.toks) (fun b o hb q => eb b o hb q) f0 f1 f3 f4 f5⟩
  self := fun A i s Q E st h => by
    obtain ⟨⟨_, h1⟩, _⟩ := st
    exact wpAny_pyIter_enum h1 h
/-- over a list or a tuple, with places -/
def iEn (K : PySem.W.Frag) (ta : TA) : TI := fun σ H R => ta σ H fun vs H1 => ∃ a, vs = [.ref a] ∧ (((∃ xs, SqL K H1 a xs) ∧ R (Ite K a) H1) ∨ ((∃ xs, SqT K H1 a xs) ∧ R (IteT K a) H1))
theorem pi_en {X : Cx} {e : Expr} {ta : TA} {p pos tpos : Pos} {elts : List Expr} {kk : Nat} (hg : Gl X "enumerate") (hm : X.mg "enumerate" = none) (ha : PA X [e] ta) (hs : starEach [e] X.env = [(false, eval e X.env)]) :
    PI X (.Tuple elts kk tpos) (.Call (.Name "enumerate" p) [e] [] pos) (iEn X.K ta) := by
  refine ⟨fun pins s σ H R I h => ?_⟩
  refine Call_ (ld_blt I hg hm boot_enumerate (PyProof.Rows.callWith_type1 (thn (ha.run pos pins s σ H _ I h) fun us s1 ⟨vs, H1, I1, r1, q1⟩ => ?_) hs rfl))
  obtain ⟨a, rfl, q⟩ := q1
  obtain rfl := Vals.ref1 r1
  have fin : ∀ b, b ∈ [s1.heap.objs.size + 1, s1.heap.objs.size] → FpOk X pins H1 b := fun b hb => by
    have hle : s1.heap.objs.size ≤ b := by
      have z : b = s1.heap.objs.size + 1 ∨ b = s1.heap.objs.size := by simpa using hb
      rcases z with rfl | rfl
      · exact Nat.le_add_right _ _
      · exact Nat.le_refl _
    exact I1.fpOk hle (I1.hok.fresh hle)
  rcases q with ⟨⟨xs, hq⟩, q⟩ | ⟨⟨xs, hq⟩, q⟩
  · obtain ⟨its, rv, p', hz⟩ := I1.list hq
    refine call_enumerate_list p'.isList fun g he hit hsz hk => wpAny_pyIter_enum he ?_
    exact ⟨s1.heap.objs.size + 1, [s1.heap.objs.size + 1, s1.heap.objs.size], _, _, H1, rfl, I1.kept (t' := s1.toks) hk, turn_enum a (s1.heap.objs.size + 1) s1.heap.objs.size, ⟨⟨.none, he⟩, hit, Nat.succ_ne_self _⟩, fin, q⟩
  · obtain ⟨its, rv, p', hz⟩ := I1.tuple hq
    refine call_enum (show s1.heap.IsTuple a its.toArray from p') fun g he hit hsz hk => wpAny_pyIter_enum he ?_
    exact ⟨s1.heap.objs.size + 1, [s1.heap.objs.size + 1, s1.heap.objs.size], _, _, H1, rfl, I1.kept (t' := s1.toks) hk, turn_enumT a (s1.heap.objs.size + 1) s1.heap.objs.size, ⟨⟨.none, he⟩, hit, Nat.succ_ne_self _⟩, fin, q⟩
end En
set_option maxHeartbeats 4000000
/-! Mi13: the small language is right: what is walked. -/
namespace Mi
open PySem PySem.Spec PyProof.Rows L2

/-- J walks xs, while chk stands -/
def Real (K : Frg) (J : L2.It) (xs : List D) (chk : Sto → Prop) (W0 : Wd) (H0 : Hp) : Prop := ∀ W S H (i : Nat), Keep W0 H0 W H → Rel K W S H → chk S →
  (xs.length ≤ i → J.stop i H) ∧ ∀ d, xs[i]? = some d → J.go i H ∧ ∀ x H', J.yld i H x H' → ∃ W', Ext W S H W' S H' ∧ Rel K W' S H' ∧ Rep K W' H' d x
def LI (K : Frg) (t : Env → Sto → (List D → (Sto → Prop) → Sto → Prop) → Prop) : TI := fun σ H R => ∃ W S env q, Rel K W S H ∧ EnvR K W H env σ ∧ t env S q ∧ ∀ W' S' H' xs chk (J : L2.It), Ext W S H W' S' H' → Rel K W' S' H' → Real K J xs chk W' H' → q xs chk S' → R J H'

section
variable {X : Cx} {K : Frg} {c : SC} {n : Nat} {G : GT} {tg : Expr}
theorem PI.imp {x : Expr} {t t' : TI} (h : PI X tg x t) (i : ∀ σ H R, t' σ H R → t σ H R) : PI X tg x t' := ⟨fun pins s σ H R I q => h.run pins s σ H R I (i σ H R q)⟩

/-- over a list or a tuple -/
def iSeq (K : PySem.W.Frag) (tl : TE) : TI := fun σ H R => tl σ H fun x H1 => ∃ a, x = .ref a ∧ (((∃ xs, SqL K H1 a xs) ∧ R (Itl K a) H1) ∨ ((∃ xs, SqT K H1 a xs) ∧ R (Itt K a) H1))
theorem pi_seq {l : Expr} {tl : TE} (hl : PE X l tl) : PI X tg l (iSeq X.K tl) := by
  refine ⟨fun pins s σ H R I h => thn (hl.run pins s σ H _ I h) fun v s1 ⟨x, H1, I1, r1, a, e, q⟩ => ?_⟩
  subst e
  cases r1
  rcases q with ⟨⟨xs, hq⟩, q⟩ | ⟨⟨xs, hq⟩, q⟩
  · obtain ⟨its, rv, p, hz⟩ := I1.list hq
    refine wpAny_pyIter_list p.isList ⟨s1.heap.objs.size, [s1.heap.objs.size], _, _, H1, rfl, I1.kept (t' := s1.toks) fun b o e => Heap.get?_push_of_some _ e, turn_list a _, ⟨_, Heap.get?_push_size _ rfl, rfl, rfl⟩, fun b hb => ?_, q⟩
    obtain rfl : b = s1.heap.objs.size := by simpa using hb
    exact I1.fpOk (Nat.le_refl _) (I1.hok.fresh (Nat.le_refl _))
  · obtain ⟨its, rv, p, hz⟩ := I1.tuple hq
    refine wpAny_pyIter_tuple (show s1.heap.IsTuple a its.toArray from p) ⟨s1.heap.objs.size, [s1.heap.objs.size], _, _, H1, rfl, I1.kept (t' := s1.toks) fun b o e => Heap.get?_push_of_some _ e, turn_tuple a _, ⟨_, Heap.get?_push_size _ rfl, rfl, rfl⟩, fun b hb => ?_, q⟩
    obtain rfl : b = s1.heap.objs.size := by simpa using hb
    exact I1.fpOk (Nat.le_refl _) (I1.hok.fresh (Nat.le_refl _))
/-- the place of what is walked, as long as chk stands -/
theorem seq_now {x : D} {xs : List D} {a : Addr} {W0 : Wd} {S0 : Sto} {H0 : Hp} (r0 : Rel K W0 S0 H0) (p0 : Rep K W0 H0 x (.ref a)) (h0 : seqD S0 x = some xs) (hX : X.K = K.K) :
    ((∃ vs, SqL X.K H0 a vs) ∧ ∀ W S H, Keep W0 H0 W H → Rel K W S H → chkD x xs S → ∃ vs, SqL X.K H a vs ∧ Reps K W H xs vs) ∨ ((∃ vs, SqT X.K H0 a vs) ∧ ∀ W S H, Keep W0 H0 W H → Rel K W S H → chkD x xs S → ∃ vs, SqT X.K H a vs ∧ Reps K W H xs vs) := by
  cases p0 with
  | tup f q => cases h0; exact .inr ⟨⟨_, hX ▸ f.sq⟩, fun W S H k r _ => ⟨_, hX ▸ (f.keep k).sq, q.keep k⟩⟩
  | lst z e q => cases h0; exact .inl ⟨⟨_, SqL.of e⟩, fun W S H k r _ => ⟨_, SqL.of ((k.fz _ z).2.trans e), q.keep k⟩⟩
  | scr f => cases h0; exact .inl ⟨⟨_, hX ▸ f.sq⟩, fun W S H k r _ => ⟨_, hX ▸ (f.keep k).sq, .ints _⟩⟩
  | @loc m a e =>
    dsimp only [seqD] at h0
    split at h0
    · rename_i ys hy
      cases h0
      obtain ⟨vs, l, q⟩ := loc_lst r0 hy e
      refine .inl ⟨⟨_, SqL.of l⟩, fun W S H k r hc => ?_⟩
      obtain ⟨us, l', q'⟩ := loc_lst r hc (k.rho _ _ e)
      exact ⟨us, SqL.of l', q'⟩
    · cases h0
  | _ => cases h0
theorem real_l {a : Addr} {xs : List D} {chk : Sto → Prop} {W0 : Wd} {H0 : Hp} (h : ∀ W S H, Keep W0 H0 W H → Rel K W S H → chk S → ∃ vs, SqL X.K H a vs ∧ Reps K W H xs vs) : Real K (Itl X.K a) xs chk W0 H0 := fun W S H i k r hc => by
  obtain ⟨vs, l, q⟩ := h W S H k r hc
  refine ⟨fun hi => ⟨vs, l, by rw [← q.length]; exact hi⟩, fun d hd => ?_⟩
  obtain ⟨v, hv, pv⟩ := q.get hd
  refine ⟨⟨vs, v, l, hv⟩, fun x H' y => ?_⟩
  obtain ⟨e, hy⟩ := y
  have := hy vs l
  rw [hv] at this; cases this
  subst e
  exact ⟨W, Ext.refl _ _ _, r, pv⟩
theorem real_t {a : Addr} {xs : List D} {chk : Sto → Prop} {W0 : Wd} {H0 : Hp} (h : ∀ W S H, Keep W0 H0 W H → Rel K W S H → chk S → ∃ vs, SqT X.K H a vs ∧ Reps K W H xs vs) : Real K (Itt X.K a) xs chk W0 H0 := fun W S H i k r hc => by
  obtain ⟨vs, l, q⟩ := h W S H k r hc
  refine ⟨fun hi => ⟨vs, l, by rw [← q.length]; exact hi⟩, fun d hd => ?_⟩
  obtain ⟨v, hv, pv⟩ := q.get hd
  refine ⟨⟨vs, v, l, hv⟩, fun x H' y => ?_⟩
  obtain ⟨e, hy⟩ := y
  have := hy vs l
  rw [hv] at this; cases this
  subst e
  exact ⟨W, Ext.refl _ _ _, r, pv⟩
theorem li_seq (g : Good X K c n G) {e : E} {x : Expr} (ie : PE X x (LE K (wpE c.T G noX e))) : PI X tg x (LI K (wpI c.T G noX (.seq e))) :=
  PI.imp (pi_seq ie) fun σ H R ⟨W, S, env, q, rl, er, w, ok⟩ => by
    simp only [wpI] at w
    refine ⟨W, S, env, _, rl, er, w, fun W1 S1 H1 dx x e1 r1 p1 w1 => ?_⟩
    obtain ⟨xs, hx, hq⟩ := w1
    obtain ⟨a, vs, ev, _, _⟩ := seq_of r1 p1 hx
    subst ev
    refine ⟨a, rfl, ?_⟩
    rcases seq_now (X := X) r1 p1 hx g.hK with ⟨h1, h2⟩ | ⟨h1, h2⟩
    · exact .inl ⟨h1, ok W1 S1 H1 xs _ _ e1 r1 (real_l h2) hq⟩
    · exact .inr ⟨h1, ok W1 S1 H1 xs _ _ e1 r1 (real_t h2) hq⟩
theorem rngD_get : ∀ (m : Nat) (lo : Int) (i : Nat), (rngD lo m)[i]? = if i < m then some (.int (lo + i)) else none
  | 0, lo, i => by simp [rngD]
  | m + 1, lo, 0 => by simp [rngD]
  | m + 1, lo, i + 1 => by
    rw [rngD, List.getElem?_cons_succ, rngD_get m (lo + 1) i]
    by_cases h : i < m
    · rw [if_pos h, if_pos (by omega)]; congr 2; omega
    · rw [if_neg h, if_neg (by omega)]
theorem rngD_length : ∀ (m : Nat) (lo : Int), (rngD lo m).length = m
  | 0, _ => rfl
  | m + 1, lo => by rw [rngD, List.length_cons, rngD_length]
theorem real_r {lo : Int} {m : Nat} {W0 : Wd} {H0 : Hp} : Real K (Itr lo m) (rngD lo m) (fun _ => True) W0 H0 := fun W S H i k r _ => by
  refine ⟨fun hi => by rw [rngD_length] at hi; exact hi, fun d hd => ?_⟩
  rw [rngD_get] at hd
  split at hd
  · rename_i h
    cases hd
    refine ⟨h, fun x H' y => ?_⟩
    obtain ⟨e, ex⟩ := y
    subst e ex
    exact ⟨W, Ext.refl _ _ _, r, .int _⟩
  · cases hd
theorem rngC_get : ∀ (m : Nat) (lo c : Int) (i : Nat), (rngC lo c m)[i]? = if i < m then some (.int (lo + (i : Nat) * c)) else none
  | 0, lo, c, i => by simp [rngC]
  | m + 1, lo, c, 0 => by simp [rngC]
  | m + 1, lo, c, i + 1 => by
    rw [rngC, List.getElem?_cons_succ, rngC_get m (lo + c) c i]
    by_cases h : i < m
    · rw [if_pos h, if_pos (by omega)]
      congr 2
      push_cast
      rw [Int.add_mul]
      omega
    · rw [if_neg h, if_neg (by omega)]
theorem rngC_length : ∀ (m : Nat) (lo c : Int), (rngC lo c m).length = m
  | 0, _, _ => rfl
  | m + 1, lo, c => by rw [rngC, List.length_cons, rngC_length]
theorem real_rc {lo c : Int} {m : Nat} {W0 : Wd} {H0 : Hp} : Real K (Itc lo c m) (rngC lo c m) (fun _ => True) W0 H0 := fun W S H i k r _ => by
  refine ⟨fun hi => by rw [rngC_length] at hi; exact hi, fun d hd => ?_⟩
  rw [rngC_get] at hd
  split at hd
  · rename_i h
    cases hd
    refine ⟨h, fun x H' y => ?_⟩
    obtain ⟨e, ex⟩ := y
    subst e ex
    exact ⟨W, Ext.refl _ _ _, r, .int _⟩
  · cases hd
theorem li_rng (g : Good X K c n G) {es : Es} {x : Expr} (h : ckI (.rng es) c tg x = true) (ia : ∀ y, ckEs es c y = true → PA X y (LA K (wpEs c.T G noX es))) : PI X tg x (LI K (wpI c.T G noX (.rng es))) := by
  have hx : ∃ nm p' a args p, x = .Call (.Name nm p') (a :: args) [] p ∧ nm = "range" ∧ glbB c.sc nm = true ∧ ckEs es c (a :: args) = true ∧ args.length ≤ 2 := by
    unfold ckI at h
    split at h
    all_goals first | (exact absurd h Bool.false_ne_true) | (cases (‹It.rng es = _›))
    simp only [Bool.and_eq_true, decide_eq_true_eq] at h
    exact ⟨_, _, _, _, _, rfl, eqb h.1.1.1, h.1.1.2, h.1.2, h.2⟩
  obtain ⟨nm, p', a, args, p, rfl, rfl, h2, h3, h4⟩ := hx
  have hm : X.mg "range" = none := g.bi _ (by decide)
  obtain ⟨st, es', hes⟩ := es_hd (env := X.env) h3
  match args, h3, hes, h4, st with
  | [], h3, hes, _, st =>
    obtain ⟨e, rfl, _⟩ := es_one h3
    refine PI.imp (pi_range1 (g.gl h2) hm (ia _ h3) (by rw [st]; rfl)) fun σ H R ⟨W, S, env, q, rl, er, w, ok⟩ => ?_
    simp only [wpI, wpEs] at w
    refine ⟨W, S, env, fun ds S1 => ∃ j, ds = [.int j] ∧ -(2 ^ 62) ≤ j ∧ j < 2 ^ 62 ∧ q (rngD 0 j.toNat) (fun _ => True) S1, rl, er, ?_, fun W1 S1 H1 ds vs e1 r1 p1 w1 => ?_⟩
    · simp only [wpEs]
      have conv : (fun (x : D) (S1 : Sto) => rngW [x] fun xs => q xs (fun _ => True) S1) = fun x S1 => ∃ j, [x] = [D.int j] ∧ -(2 ^ 62) ≤ j ∧ j < 2 ^ 62 ∧ q (rngD 0 j.toNat) (fun _ => True) S1 := by
        funext x S1
        apply propext
        unfold rngW
        cases x <;> first
          | (refine ⟨fun h => h.elim, fun ⟨j, h, _⟩ => ?_⟩; cases h; done)
          | (refine ⟨fun h => ⟨_, rfl, h⟩, fun ⟨j, h, k⟩ => ?_⟩; cases h; exact k)
      rw [← conv]
      exact w
    · obtain ⟨j, rfl, b1, b2, hq⟩ := w1
      cases p1 with
      | cons pi pn =>
        cases pi
        cases pn
        exact ⟨j, rfl, b1, b2, ok W1 S1 H1 _ _ _ e1 r1 real_r hq⟩
  | [b], h3, hes, _, st =>
    obtain ⟨e, f, rfl, ka, kb⟩ := es_two h3
    refine PI.imp (pi_range2 (g.gl h2) hm (ia _ h3) (by rw [st, ck_star kb]; rfl) (by rw [ck_star kb]; rfl)) fun σ H R ⟨W, S, env, q, rl, er, w, ok⟩ => ?_
    simp only [wpI, wpEs] at w
    refine ⟨W, S, env, fun ds S1 => ∃ i j, ds = [.int i, .int j] ∧ (-(2 ^ 62) ≤ i ∧ i < 2 ^ 62 ∧ -(2 ^ 62) ≤ j ∧ j < 2 ^ 62) ∧ q (rngD i (j - i).toNat) (fun _ => True) S1, rl, er, ?_, fun W1 S1 H1 ds vs e1 r1 p1 w1 => ?_⟩
    · simp only [wpEs]
      have conv : ∀ x : D, (fun (y : D) (S1 : Sto) => rngW [x, y] fun xs => q xs (fun _ => True) S1) = fun y S1 => ∃ i j, [x, y] = [D.int i, D.int j] ∧ (-(2 ^ 62) ≤ i ∧ i < 2 ^ 62 ∧ -(2 ^ 62) ≤ j ∧ j < 2 ^ 62) ∧ q (rngD i (j - i).toNat) (fun _ => True) S1 := by
        intro x
        funext y S1
        apply propext
        unfold rngW
        cases x <;> first
          | (refine ⟨fun h => h.elim, fun ⟨i, j, h, _⟩ => ?_⟩; cases h; done)
          | (cases y <;> first
              | (refine ⟨fun h => h.elim, fun ⟨i, j, h, _⟩ => ?_⟩; cases h; done)
              | (refine ⟨fun h => ⟨_, _, rfl, ⟨h.1, h.2.1, h.2.2.1, h.2.2.2.1⟩, h.2.2.2.2⟩, fun ⟨i, j, h, k, l⟩ => ?_⟩; cases h; exact ⟨k.1, k.2.1, k.2.2.1, k.2.2.2, l⟩))
      simp only [conv] at w
      exact w
    · obtain ⟨i, j, rfl, b1, hq⟩ := w1
      cases p1 with
      | cons pi pn =>
        cases pi
        cases pn with
        | cons pj pn =>
          cases pj
          cases pn
          exact ⟨i, j, rfl, b1, ok W1 S1 H1 _ _ _ e1 r1 real_r hq⟩
  | [b, d], h3, hes, _, st =>
    obtain ⟨e, f, f2, rfl, ka, kb, kd⟩ := es_three h3
    refine PI.imp (pi_range3 (g.gl h2) hm (ia _ h3) (by rw [st]) (by rw [ck_star kb, ck_star kd]; rfl)) fun σ H R ⟨W, S, env, q, rl, er, w, ok⟩ => ?_
    simp only [wpI, wpEs] at w
    refine ⟨W, S, env, fun ds S1 => ∃ i j c0 n, ds = [.int i, .int j, .int c0] ∧ RgC i j c0 n ∧ q (rngC i c0 n) (fun _ => True) S1, rl, er, ?_, fun W1 S1 H1 ds vs e1 r1 p1 w1 => ?_⟩
    · simp only [wpEs]
      have conv : ∀ x y : D, (fun (z : D) (S1 : Sto) => rngW [x, y, z] fun xs => q xs (fun _ => True) S1) = fun z S1 => ∃ i j c0 n, [x, y, z] = [D.int i, D.int j, D.int c0] ∧ RgC i j c0 n ∧ q (rngC i c0 n) (fun _ => True) S1 := by
        intro x y
        funext z S1
        apply propext
        unfold rngW
        cases x <;> first
          | (refine ⟨fun h => h.elim, fun ⟨i, j, c0, n, h, _⟩ => ?_⟩; cases h; done)
          | (cases y <;> first
              | (refine ⟨fun h => h.elim, fun ⟨i, j, c0, n, h, _⟩ => ?_⟩; cases h; done)
              | (cases z <;> first
                  | (refine ⟨fun h => h.elim, fun ⟨i, j, c0, n, h, _⟩ => ?_⟩; cases h; done)
                  | (refine ⟨fun ⟨n, h⟩ => ⟨_, _, _, n, rfl, h⟩, fun ⟨i, j, c0, n, h, k⟩ => ?_⟩; cases h; exact ⟨n, k⟩)))
      simp only [conv] at w
      exact w
    · obtain ⟨i, j, c0, n, rfl, b1, hq⟩ := w1
      cases p1 with
      | cons pi pn =>
        cases pi
        cases pn with
        | cons pj pn =>
          cases pj
          cases pn with
          | cons pk pn =>
            cases pk
            cases pn
            exact ⟨i, j, c0, n, rfl, b1, ok W1 S1 H1 _ _ _ e1 r1 real_rc hq⟩
/-- backwards -/
theorem real_v {a : Addr} {xs : List D} {chk : Sto → Prop} {W0 : Wd} {H0 : Hp} (h : ∀ W S H, Keep W0 H0 W H → Rel K W S H → chk S → ∃ vs, SqL X.K H a vs ∧ Reps K W H xs vs) : Real K (Itv X.K a xs.length) xs.reverse chk W0 H0 := fun W S H i k r hc => by
  obtain ⟨vs, l, q⟩ := h W S H k r hc
  refine ⟨fun hi => by rw [List.length_reverse] at hi; exact hi, fun d hd => ?_⟩
  have hl : i < xs.length := by
    have := (List.getElem?_eq_some_iff.mp hd).1
    rwa [List.length_reverse] at this
  rw [List.getElem?_reverse hl] at hd
  obtain ⟨v, hv, pv⟩ := q.get hd
  refine ⟨⟨hl, vs, v, l, hv⟩, fun x H' y => ?_⟩
  obtain ⟨e, hy⟩ := y
  have := hy vs l
  rw [hv] at this; cases this
  subst e
  exact ⟨W, Ext.refl _ _ _, r, pv⟩
theorem real_vt {a : Addr} {xs : List D} {chk : Sto → Prop} {W0 : Wd} {H0 : Hp} (h : ∀ W S H, Keep W0 H0 W H → Rel K W S H → chk S → ∃ vs, SqT X.K H a vs ∧ Reps K W H xs vs) : Real K (RT.ItvT X.K a xs.length) xs.reverse chk W0 H0 := fun W S H i k r hc => by
  obtain ⟨vs, l, q⟩ := h W S H k r hc
  refine ⟨fun hi => by rw [List.length_reverse] at hi; exact hi, fun d hd => ?_⟩
  have hl : i < xs.length := by
    have := (List.getElem?_eq_some_iff.mp hd).1
    rwa [List.length_reverse] at this
  rw [List.getElem?_reverse hl] at hd
  obtain ⟨v, hv, pv⟩ := q.get hd
  refine ⟨⟨hl, vs, v, l, hv⟩, fun x H' y => ?_⟩
  obtain ⟨e, hy⟩ := y
  have := hy vs l
  rw [hv] at this; cases this
  subst e
  exact ⟨W, Ext.refl _ _ _, r, pv⟩
theorem ck_rvs {e : E} {x : Expr} (h : ckI (.rvs e) c tg x = true) : ∃ p' v p, x = .Call (.Name "reversed" p') [v] [] p ∧ glbB c.sc "reversed" = true ∧ ckE e c v = true := by
  unfold ckI at h
  split at h
  all_goals first | (exact absurd h Bool.false_ne_true) | (cases (‹It.rvs e = _›))
  simp only [Bool.and_eq_true] at h
  have := eqb h.1.1
  subst this
  exact ⟨_, _, _, rfl, h.1.2, h.2⟩
theorem li_rvs (g : Good X K c n G) {e : E} {x : Expr} (h : ckI (.rvs e) c tg x = true) (ie : ∀ y, ckE e c y = true → PE X y (LE K (wpE c.T G noX e))) : PI X tg x (LI K (wpI c.T G noX (.rvs e))) := by
  obtain ⟨p', v, p, rfl, h2, h3⟩ := ck_rvs h
  have hm : X.mg "reversed" = none := g.bi _ (by decide)
  refine PI.imp (RT.pi_revA (g.gl h2) hm (ie v h3) (ck_star h3)) fun σ H R ⟨W, S, env, q, rl, er, w, ok⟩ => ?_
  simp only [wpI] at w
  refine ⟨W, S, env, _, rl, er, w, fun W1 S1 H1 dx x e1 r1 p1 w1 => ?_⟩
  obtain ⟨xs, hx, hq⟩ := w1
  obtain ⟨a, vs, ev, _, _⟩ := seq_of r1 p1 hx
  subst ev
  rcases seq_now (X := X) r1 p1 hx g.hK with ⟨⟨vs, h1⟩, h2⟩ | ⟨⟨vs, h1⟩, h2⟩
  · have hc : chkD dx xs S1 := by
      cases p1 with
      | loc e => dsimp only [seqD] at hx; dsimp only [chkD]; split at hx <;> first | (cases hx; assumption) | cases hx
      | _ => trivial
    obtain ⟨us, l, qs⟩ := h2 W1 S1 H1 Keep.refl r1 hc
    refine ⟨a, us, rfl, .inl ⟨l, ?_⟩⟩
    rw [← qs.length]
    exact ok W1 S1 H1 _ _ _ e1 r1 (real_v h2) hq
  · have hc : chkD dx xs S1 := by
      cases p1 with
      | loc e => dsimp only [seqD] at hx; dsimp only [chkD]; split at hx <;> first | (cases hx; assumption) | cases hx
      | _ => trivial
    obtain ⟨us, l, qs⟩ := h2 W1 S1 H1 Keep.refl r1 hc
    refine ⟨a, us, rfl, .inr ⟨l, ?_⟩⟩
    rw [← qs.length]
    exact ok W1 S1 H1 _ _ _ e1 r1 (real_vt h2) hq
/-! with places -/
theorem enumD_get : ∀ (xs : List D) (lo i : Nat), (enumD lo xs)[i]? = (xs[i]?).map fun x => .tup [.int ((lo + i : Nat) : Int), x]
  | [], lo, i => by simp [enumD]
  | x :: xs, lo, 0 => by simp [enumD]
  | x :: xs, lo, i + 1 => by
    rw [enumD, List.getElem?_cons_succ, enumD_get xs (lo + 1) i, List.getElem?_cons_succ]
    congr 2
    funext y
    congr 3
    omega
theorem enumD_length : ∀ (xs : List D) (lo : Nat), (enumD lo xs).length = xs.length
  | [], _ => rfl
  | x :: xs, lo => by rw [enumD, List.length_cons, List.length_cons, enumD_length]
theorem pair_new {W : Wd} {S : Sto} {H : Hp} {T : Addr} {d : D} {v : V} {i : Nat} (r : Rel K W S H) (hT : H T = none) (p : Rep K W H d v) : ∃ W', Ext W S H W' S (upd H T (.tup [.int (i : Nat), v])) ∧ Rel K W' S (upd H T (.tup [.int (i : Nat), v])) ∧ Rep K W' (upd H T (.tup [.int (i : Nat), v])) (.tup [.int ((0 + i : Nat) : Int), d]) (.ref T) := by
  obtain ⟨r', e⟩ := rel_frz r hT (.tup [.int (i : Nat), v])
  have z : ((0 + i : Nat) : Int) = (i : Int) := by omega
  rw [z]
  exact ⟨_, e, r', .tup (.inl ⟨.inl rfl, upd_same⟩) (.cons (.int _) (.cons (p.keep (e.keep r)) .nil))⟩
theorem real_el {a : Addr} {xs : List D} {chk : Sto → Prop} {W0 : Wd} {H0 : Hp} (h : ∀ W S H, Keep W0 H0 W H → Rel K W S H → chk S → ∃ vs, SqL X.K H a vs ∧ Reps K W H xs vs) : Real K (Ite X.K a) (enumD 0 xs) chk W0 H0 := fun W S H i k r hc => by
  obtain ⟨vs, l, q⟩ := h W S H k r hc
  refine ⟨fun hi => ⟨vs, l, by rw [enumD_length] at hi; rw [← q.length]; exact hi⟩, fun d hd => ?_⟩
  rw [enumD_get] at hd
  cases hx : xs[i]? with
  | none => rw [hx] at hd; cases hd
  | some d' =>
    rw [hx] at hd
    cases hd
    obtain ⟨v, hv, pv⟩ := q.get hx
    refine ⟨⟨vs, v, l, hv⟩, fun x H' y => ?_⟩
    obtain ⟨T, x', ex, hT, eH, hy⟩ := y
    have := hy vs l
    rw [hv] at this; cases this
    subst ex eH
    exact pair_new r hT pv
theorem real_et {a : Addr} {xs : List D} {chk : Sto → Prop} {W0 : Wd} {H0 : Hp} (h : ∀ W S H, Keep W0 H0 W H → Rel K W S H → chk S → ∃ vs, SqT X.K H a vs ∧ Reps K W H xs vs) : Real K (En.IteT X.K a) (enumD 0 xs) chk W0 H0 := fun W S H i k r hc => by
  obtain ⟨vs, l, q⟩ := h W S H k r hc
  refine ⟨fun hi => ⟨vs, l, by rw [enumD_length] at hi; rw [← q.length]; exact hi⟩, fun d hd => ?_⟩
  rw [enumD_get] at hd
  cases hx : xs[i]? with
  | none => rw [hx] at hd; cases hd
  | some d' =>
    rw [hx] at hd
    cases hd
    obtain ⟨v, hv, pv⟩ := q.get hx
    refine ⟨⟨vs, v, l, hv⟩, fun x H' y => ?_⟩
    obtain ⟨T, x', ex, hT, eH, hy⟩ := y
    have := hy vs l
    rw [hv] at this; cases this
    subst ex eH
    exact pair_new r hT pv
theorem ck_enm {e : E} {x : Expr} (h : ckI (.enm e) c tg x = true) : ∃ es kk tp p' v p, tg = .Tuple es kk tp ∧ x = .Call (.Name "enumerate" p') [v] [] p ∧ glbB c.sc "enumerate" = true ∧ ckE e c v = true := by
  unfold ckI at h
  split at h
  all_goals first | (exact absurd h Bool.false_ne_true) | (cases (‹It.enm e = _›))
  simp only [Bool.and_eq_true] at h
  have := eqb h.1.1
  subst this
  exact ⟨_, _, _, _, _, _, rfl, rfl, h.1.2, h.2⟩
theorem li_enm (g : Good X K c n G) {e : E} {x : Expr} (h : ckI (.enm e) c tg x = true) (ie : ∀ y, ckE e c y = true → PE X y (LE K (wpE c.T G noX e))) : PI X tg x (LI K (wpI c.T G noX (.enm e))) := by
  obtain ⟨es, kk, tp, p', v, p, rfl, rfl, h2, h3⟩ := ck_enm h
  have hm : X.mg "enumerate" = none := g.bi _ (by decide)
  refine PI.imp (En.pi_en (g.gl h2) hm (pa_cons (ie v h3) pa_nil (ck_star h3)) (by rw [ck_star h3]; rfl)) fun σ H R ⟨W, S, env, q, rl, er, w, ok⟩ => ?_
  simp only [wpI] at w
  refine ⟨W, S, env, _, rl, er, w, fun W1 S1 H1 dx x e1 r1 p1 w1 => ?_⟩
  obtain ⟨xs, hx, hq⟩ := w1
  obtain ⟨a, vs, ev, _, _⟩ := seq_of r1 p1 hx
  subst ev
  refine ⟨a, rfl, ?_⟩
  rcases seq_now (X := X) r1 p1 hx g.hK with ⟨h1, h2⟩ | ⟨h1, h2⟩
  · exact .inl ⟨h1, ok W1 S1 H1 _ _ _ e1 r1 (real_el h2) hq⟩
  · exact .inr ⟨h1, ok W1 S1 H1 _ _ _ e1 r1 (real_et h2) hq⟩
end
end Mi
set_option maxHeartbeats 4000000
/-! Mi14: the small language is right: comprehensions. -/
namespace Mi
open PySem PySem.Spec PyProof.Rows L2

theorem wipe_get (σ : L2.St) (vs : List Nat) (i : Nat) : (L2.wipe σ vs : List (Option V))[i]? = if i ∈ vs then (if i < σ.length then some none else none) else (σ : List (Option V))[i]? := by
  induction vs with
  | nil => simp [L2.wipe]
  | cons v vs ih =>
    show ((L2.wipe σ vs).set v none : List (Option V))[i]? = _
    by_cases e : v = i
    · subst e
      by_cases hl : v < σ.length
      · rw [List.getElem?_set_self (by rw [wipe_length]; exact hl), if_pos List.mem_cons_self, if_pos hl]
      · rw [List.getElem?_eq_none (by rw [List.length_set, wipe_length]; omega), if_pos List.mem_cons_self, if_neg hl]
    · rw [List.getElem?_set_ne e, ih]
      by_cases hm : i ∈ vs
      · rw [if_pos hm, if_pos (List.mem_cons_of_mem _ hm)]
      · rw [if_neg hm, if_neg (fun h => (List.mem_cons.mp h).elim (fun q => e q.symm) hm)]
theorem wipe_back {σ σ2 : L2.St} {vs is : List Nat} (hs : ∀ i ∈ is, i ∈ vs) (h : ∀ i, i ∉ is → (σ2 : List (Option V))[i]? = (L2.wipe σ vs : List (Option V))[i]?) (hl : σ2.length = (L2.wipe σ vs).length) : L2.wipe σ2 vs = L2.wipe σ vs := by
  apply List.ext_getElem?
  intro i
  rw [wipe_get]
  have hl' : σ2.length = σ.length := by rw [hl, wipe_length]
  by_cases hm : i ∈ vs
  · rw [if_pos hm, wipe_get, if_pos hm, hl']
  · rw [if_neg hm, h i (fun q => hm (hs i q))]
theorem own_snd (N : List Str) (own : List Nat) : (ownOf N own).map (·.2) = own := by
  unfold ownOf
  rw [List.map_map]
  exact List.map_id own

section
variable {X : Cx} {K : Frg} {c : SC} {n : Nat} {G : GT}
theorem Good.blk (g : Good X K c n G) (scope : Scope) (s : Shared) (H : Hp) (C : Addr) (cl : List (Str × Addr)) (fp : List Addr) : Good (X.blk s H scope (compEnvC scope cl C X.env) fp) K (inner c scope) n G :=
  ⟨g.hK, g.hW, g.hN, by show relS scope X.env.scope = relS scope c.sc; rw [g.sc], fun x h => h, g.nd, g.calm, g.room, g.grd, g.bi, g.cst, g.fns, PassesOwn.never, g.cls⟩

/-- a comprehension's if -/
def wpC (T : Tab) (G : GT) (d : Es) (e1 : Env) (S : Sto) (q : Bool → Sto → Prop) : Prop := wpEs T G noX d e1 S fun ds S2 => match ds with
  | [] => q true S2
  | x :: _ => ∃ k, truD S2 x = some k ∧ q k S2
/-- the turns of a comprehension -/
theorem lc_turns (g : Good X K c n G) {e : E} {t : Tg} {d : Es} {own : List Nat} {q' : List D → Sto → Prop}
    {σ : L2.St} {env : Env} {J : L2.It} {xs : List D} {chk : Sto → Prop} {W1 : Wd} {S1 : Sto} {H1 : Hp} {Q : VK} (hown : ∀ i ∈ tgSlots t, i ∈ own)
    (r1 : Rel K W1 S1 H1) (er : EnvR K W1 H1 env σ) (rj : Real K J xs chk W1 H1) {p : Addr} (hp : H1 p = none)
    (w : lcL chk (fun x => bindT t x (wipeD env own)) (wpC c.T G d) (wpE c.T G noX e) xs [] S1 q')
    (ok : ∀ W S H ys vs, Ext W1 S1 H1 W S H → Rel K W S H → ¬ Ins S W p → ¬ W.fz p → H p = some (.lst vs) → Reps K W H ys vs → q' ys S → Q (.ref p) H) :
    ∃ Wv : Nat → Nat → Hp → Prop, (∃ m, Wv 0 m (upd H1 p (.lst []))) ∧ ∀ i m H, Wv i m H →
      (J.stop i H ∧ Q (.ref p) H) ∨ (J.go i H ∧ ∃ Nx : Hp → Prop, (∀ H', Nx H' → ∃ m', m' < m ∧ Wv (i + 1) m' H') ∧ ∀ x H', J.yld i H x H' → LG K t x (L2.wipe σ own) H' fun σ2 H2 => L2.wipe σ2 own = L2.wipe σ own ∧
        LT K (wpC c.T G d) σ2 H2 fun b H3 => if b = true then LE K (wpE c.T G noX e) σ2 H3 fun y H4 => ∃ acc, H4 p = some (.lst acc) ∧ acc.length < sizeLine ∧ Nx (upd H4 p (.lst (acc ++ [y]))) else Nx H3) := by
  have n1 : ¬ Ins S1 W1 p := fun ⟨m, u, h1, h2⟩ => by
    obtain ⟨a, h3, h4⟩ := r1.dom m u h1
    rw [h2] at h3; cases h3
    exact h4.there hp
  have n2 : ¬ W1.fz p := fun z => (r1.sep p z).1 hp
  refine ⟨fun i m H => m = xs.length - i ∧ i ≤ xs.length ∧ ∃ W S ys vs, Ext W1 S1 H1 W S H ∧ Rel K W S H ∧ ¬ Ins S W p ∧ ¬ W.fz p ∧ H p = some (.lst vs) ∧ Reps K W H ys vs ∧ lcL chk (fun x => bindT t x (wipeD env own)) (wpC c.T G d) (wpE c.T G noX e) (xs.drop i) ys S q', ⟨xs.length, rfl, Nat.zero_le _, W1, S1, [], [], ?_⟩, ?_⟩
  · obtain ⟨r2, k2⟩ := rel_other r1 n1 n2 (.lst [])
    exact ⟨(Ext.refl W1 S1 H1).other hp _, r2, n1, n2, upd_same, .nil, w⟩
  rintro i m H ⟨rfl, hi, W, S, ys, vs, ex, r, m1, m2, hl, qs, wl⟩
  have kp : Keep W1 H1 W H := ex.keep r1
  by_cases hlt : i < xs.length
  · right
    rw [List.drop_eq_getElem_cons hlt] at wl
    obtain ⟨hc, e1, hb, wl⟩ := wl
    obtain ⟨_, go⟩ := rj W S H i kp r hc
    obtain ⟨hgo, hy⟩ := go xs[i] (by simp [hlt])
    refine ⟨hgo, fun H' => ∃ W S ys vs, Ext W1 S1 H1 W S H' ∧ Rel K W S H' ∧ ¬ Ins S W p ∧ ¬ W.fz p ∧ H' p = some (.lst vs) ∧ Reps K W H' ys vs ∧ lcL chk (fun x => bindT t x (wipeD env own)) (wpC c.T G d) (wpE c.T G noX e) (xs.drop (i + 1)) ys S q', fun H' h => ⟨xs.length - (i + 1), by omega, rfl, hlt, h⟩, fun x H' y => ?_⟩
    obtain ⟨W2, x2, r2, pd⟩ := hy x H' y
    have tr : ∀ {W3 : Wd} {S3 : Sto} {H3 : Hp}, Ext W S H W3 S3 H3 → H3 p = H p ∧ ¬ Ins S3 W3 p ∧ ¬ W3.fz p := fun {W3 S3 H3} z => by
      obtain ⟨z1, z2, z3⟩ := z.fr p (by rw [hl]; simp) m1
      exact ⟨z1, z2, fun q => m2 (z3 q)⟩
    refine ⟨W2, S, wipeD env own, xs[i], e1, r2, ((er.keep kp).keep (x2.keep r)).wipe own, pd, hb, fun σ2 er2 o2 l2 => ⟨wipe_back hown o2 l2, ?_⟩⟩
    refine ⟨W2, S, e1, fun b S1 => if b = true then wpE c.T G noX e e1 S1 (fun y S2 => ys.length < 1000000 ∧ lcL chk (fun x => bindT t x (wipeD env own)) (wpC c.T G d) (wpE c.T G noX e) (xs.drop (i + 1)) (ys ++ [y]) S2 q') else lcL chk (fun x => bindT t x (wipeD env own)) (wpC c.T G d) (wpE c.T G noX e) (xs.drop (i + 1)) ys S1 q', r2, er2, wl, fun W3 S3 H3 b x3 r3 w3 => ?_⟩
    cases b with
    | false =>
      rw [if_neg Bool.false_ne_true] at w3 ⊢
      obtain ⟨t1, t2, t3⟩ := tr (x2.trans x3)
      exact ⟨W3, S3, ys, vs, ex.trans (x2.trans x3), r3, t2, t3, t1.trans hl, qs.keep ((x2.trans x3).keep r), w3⟩
    | true =>
      rw [if_pos rfl] at w3 ⊢
      refine ⟨W3, S3, e1, _, r3, er2.keep (x3.keep r2), w3, fun W4 S4 H4 dy y x4 r4 p4 w4 => ?_⟩
      obtain ⟨t1, t2, t3⟩ := tr ((x2.trans x3).trans x4)
      obtain ⟨wlen, w5⟩ := w4
      have q4 := qs.keep (((x2.trans x3).trans x4).keep r)
      refine ⟨vs, t1.trans hl, by rw [← q4.length]; exact Nat.lt_trans wlen (by decide), ?_⟩
      obtain ⟨r5, k5⟩ := rel_other r4 t2 t3 (.lst (vs ++ [y]))
      exact ⟨W4, S4, ys ++ [dy], vs ++ [y], (ex.trans ((x2.trans x3).trans x4)).other hp _, r5, t2, t3, upd_same, (q4.keep k5).append (.cons (p4.keep k5) .nil), w5⟩
  · left
    have e : i = xs.length := by omega
    subst e
    rw [List.drop_length] at wl
    obtain ⟨st, _⟩ := rj W S H xs.length kp r wl.1
    exact ⟨st (Nat.le_refl _), ok W S H ys vs ex r m1 m2 hl qs wl.2⟩

theorem lt_conds (g : Good X K c n G) {d : Es} {ifs : List Expr} (h : ckEs d c ifs = true) (hl : ifs.length ≤ 1) (it : ∀ (e : E) (y : Expr), d = .cons e .nil → ckE e c y = true → PT X y (LT K (wpT c.T G noX e))) : PTs X ifs (LT K (wpC c.T G d)) := by
  match ifs, hl, h with
  | [], _, h =>
    have en : d = .nil := by cases d with
      | nil => rfl
      | cons _ _ => simp [ckEs] at h
    subst en
    refine ⟨fun pins s σ H Q I ⟨W, S, env, q, rl, er, w, ok⟩ => pts_nil.run pins s σ H Q I ?_⟩
    simp only [wpC, wpEs] at w
    exact ok W S H true (Ext.refl _ _ _) rl w
  | [x], _, h =>
    obtain ⟨e, rfl, hx⟩ := es_one h
    refine ⟨fun pins s σ H Q I ⟨W, S, env, q, rl, er, w, ok⟩ => (pts_one (it e x rfl hx)).run pins s σ H Q I ?_⟩
    simp only [wpC, wpEs] at w
    exact ⟨W, S, env, q, rl, er, w, ok⟩
theorem le_lcs (g : Good X K c n G) {e : E} {t : Tg} {it : It} {d : Es} {own : List Nat} {y tg iter : Expr} {ifs : List Expr} {scope : Scope} {p : Pos} (h2 : blkC c.N c.sc scope (ownOf c.N own) = true) (hown : (tgSlots t).all (own.contains ·) = true)
    (ii : PI X tg iter (LI K (wpI c.T G noX it))) (hs : notSet iter = true) (it' : ∀ X', Good X' K (inner c scope) n G → PG X' tg (LG K t)) (ic : ∀ X', Good X' K (inner c scope) n G → PTs X' ifs (LT K (wpC c.T G d))) (ie : ∀ X', Good X' K (inner c scope) n G → PE X' y (LE K (wpE c.T G noX e))) :
    PE X (.ListComp y [⟨tg, iter, ifs, 0⟩] scope p) (tLc (LI K (wpI c.T G noX it)) (LG K t) (LT K (wpC c.T G d)) (LE K (wpE c.T G noX e)) own) ∧ BlkOk X.N X.env.scope scope (ownOf c.N own) ∧ (∀ i ∈ tgSlots t, i ∈ own) ∧ ∀ x, foldedSetIterable iter X.env x = pure x := by
  have ok : BlkOk X.N X.env.scope scope (ownOf c.N own) := blkOk_by (by rw [g.hN, g.sc]; exact h2)
  have hf : ∀ x, foldedSetIterable iter X.env x = pure x := by
    intro x
    cases iter <;> first | rfl | (simp [notSet] at hs; done)
  have ho : ∀ i ∈ tgSlots t, i ∈ own := fun i hi => by
    have := List.all_eq_true.mp hown i hi
    simpa using this
  have h := pe_lc (pos := p) g.calm (by rw [g.hN]; exact g.nd) ii ok (fun s H C cl fp => it' _ (g.blk scope s H C cl fp)) (fun s H C cl fp => ic _ (g.blk scope s H C cl fp)) (fun s H C cl fp => ie _ (g.blk scope s H C cl fp)) hf
  rw [own_snd] at h
  exact ⟨h, ok, ho, hf⟩
theorem lc_all (g : Good X K c n G) {e : E} {t : Tg} {it : It} {d : Es} {own : List Nat} (ho : ∀ i ∈ tgSlots t, i ∈ own) (mut_ : Bool) :
    ∀ σ H Q, LE K (wpE c.T G noX (if mut_ = true then .mlc e t it d own else .lc e t it d own)) σ H Q → tLc (LI K (wpI c.T G noX it)) (LG K t) (LT K (wpC c.T G d)) (LE K (wpE c.T G noX e)) own σ H Q := by
  intro σ H Q ⟨W, S, env, q, rl, er, w, ok⟩
  cases mut_ with
  | false =>
    rw [if_neg Bool.false_ne_true] at w
    simp only [wpE] at w
    refine ⟨W, S, env, _, rl, er, w, fun W1 S1 H1 xs chk J e1 r1 rj w1 p hp => ?_⟩
    refine lc_turns g ho r1 (er.keep (e1.keep rl)) rj hp w1 fun W2 S2 H2 ys vs e2 r2 m1 m2 hl qs hq => ?_
    obtain ⟨r3, k3⟩ := rel_stop r2 m1 (by rw [hl]; simp)
    have e3 := e2.stop hp
    exact ok _ _ _ _ _ (e1.trans e3) r3 (.lst (.inl rfl) hl (qs.keep k3)) hq
  | true =>
    rw [if_pos rfl] at w
    simp only [wpE] at w
    refine ⟨W, S, env, _, rl, er, w, fun W1 S1 H1 xs chk J e1 r1 rj w1 p hp => ?_⟩
    refine lc_turns g ho r1 (er.keep (e1.keep rl)) rj hp w1 fun W2 S2 H2 ys vs e2 r2 m1 m2 hl qs hq => ?_
    obtain ⟨m, hm, r3, k3, hr, e3⟩ := rel_come r2 m1 m2 hl qs
    exact ok _ _ _ _ _ (e1.trans (e3 e2 hp)) r3 (.loc hr) (hq m hm)
end
end Mi
set_option maxHeartbeats 4000000
/-! MiD: dict(enumerate(..)) of a tuple. -/
namespace En
open PySem PySem.Spec PyProof.Rows L2 PySem.W
section
variable {prog : Program} {w : World} {A : Around} {E : Value → Shared → Prop} {s : Shared}
theorem en_itemH {e j t T : Addr} {n : Nat} {xs : Array Value} {y old : Value} {f : Bool} {oT : Obj} {Q : Value → Shared → Prop} (he : IsEnumHeld s.heap e j n old T f) (hT : s.heap.get? T = some oT) (n1 : T ≠ e) (n2 : T ≠ j)
    (hj : s.heap.IsTupleIter j t n) (ht : s.heap.IsTuple t xs) (hy : xs[n]? = some y) (hne : e ≠ j)
    (k : ∀ g, IsEnumHeld g e j ((n : Int) + 1) old T true → g.IsTupleIter j t (n + 1) → g.get? s.heap.objs.size = some { cls := .type "tuple", data := .seq #[.int n s.toks, y] } → g.objs.size = s.heap.objs.size + 1 →
      (∀ b o, b ≠ e → b ≠ j → s.heap.get? b = some o → g.get? b = some o) → Q (.ref s.heap.objs.size) { s with heap := g, toks := s.toks + 1 }) :
    wpAny (model prog w) A (Builtin.«enumerate.__next__» ⟨[.ref e], []⟩) (fun fin s' => ∃ v, fin = .done (.ret v) ∧ Q v s') E s := by
  obtain ⟨hp, gs, dr, tk, os⟩ := s
  show wpAny _ _ (field (.ref e) 2 >>= _) _ _ _
  refine wpAny_bind (wpAny_field he rfl (x := .ref j) rfl (wpAny_bind (next_tup hj ht hy fun g1 j1 b1 => ?_)))
  have b1 : Heap.SameBut j hp g1 := b1
  have a1 : IsEnumHeld g1 e j n old T f := (b1.2 e hne).trans he
  show wpAny _ _ (field (.ref e) 3 >>= _) _ _ ⟨g1, gs, dr, tk, os⟩
  refine wpAny_bind (wpAny_field a1 rfl (x := rawInt n) rfl ?_)
  show wpAny _ _ (field (.ref e) 4 >>= _) _ _ ⟨g1, gs, dr, tk, os⟩
  refine wpAny_bind (wpAny_field a1 rfl (x := .none) rfl ?_)
  show wpAny _ _ (mkInt n >>= _) _ _ ⟨g1, gs, dr, tk, os⟩
  refine wpAny_bind (wpAny_mkInt ?_)
  show wpAny _ _ (setField (.ref e) 3 (rawInt ((n : Int) + 1)) >>= _) _ _ ⟨g1, gs, dr, tk + 1, os⟩
  refine wpAny_bind (wpAny_setField_rec a1 (by simp) fun g2 a2 b2 => ?_)
  have b2 : Heap.SameBut e g1 g2 := b2
  have a2 : IsEnumHeld g2 e j ((n : Int) + 1) old T f := a2
  show wpAny _ _ (setField (.ref e) 4 .none >>= _) _ _ ⟨g2, gs, dr, tk + 1, os⟩
  refine wpAny_bind (wpAny_setField_rec a2 (by simp) fun g3 a3 b3 => ?_)
  have b3 : Heap.SameBut e g2 g3 := b3
  have a3 : IsEnumHeld g3 e j ((n : Int) + 1) old T f := a3
  show wpAny _ _ (newTuple [.int n tk, y] >>= _) _ _ ⟨g3, gs, dr, tk + 1, os⟩
  refine wpAny_bind (wpAny_newTuple ?_)
  have a4 : IsEnumHeld (g3.push { cls := .type "tuple", data := .seq #[.int n tk, y] }) e j ((n : Int) + 1) old T f := Heap.get?_push_of_some _ a3
  generalize q4 : g3.push { cls := .type "tuple", data := .seq #[.int n tk, y] } = g4 at a4
  have z3 : g3.objs.size = hp.objs.size := by rw [b3.1, b2.1, b1.1]
  have le : e < hp.objs.size := Heap.lt_size he
  have t4 : g4.get? hp.objs.size = some { cls := .type "tuple", data := .seq #[.int n tk, y] } := by rw [← q4, ← z3]; exact Heap.get?_push_size _ rfl
  have z4 : g4.objs.size = hp.objs.size + 1 := by rw [← q4, Heap.size_push, z3]
  have r4 : ∀ b o, b ≠ e → b ≠ j → hp.get? b = some o → g4.get? b = some o := fun b o m1 m2 h => by
    rw [← q4]
    exact Heap.get?_push_of_some _ (b3.extBut b o m1 (b2.extBut b o m1 (b1.extBut b o m2 h)))
  have j4 : g4.IsTupleIter j t (n + 1) := by
    rw [← q4]
    obtain ⟨o, ho, r⟩ := (j1.extBut b2.extBut (Ne.symm hne)).extBut b3.extBut (Ne.symm hne)
    exact ⟨o, Heap.get?_push_of_some _ ho, r⟩
  show wpAny _ _ (Builtin.SmallTypes.ownedTupleIsFree (.ref e) >>= _) _ _ ⟨g4, gs, dr, tk + 1, os⟩
  rw [z3]
  refine wpAny_bind (wpAny_tupleHeld_enum (s := ⟨g4, gs, dr, tk + 1, os⟩) a4 (r4 T oT n1 n2 hT) fun g5 a5 b5 => ?_)
  have b5 : Heap.SameBut e g4 g5 := b5
  simp only [Bool.false_eq_true, if_false]
  exact wpAny_pure ⟨_, rfl, k g5 a5 (j4.extBut b5.extBut (Ne.symm hne)) (b5.extBut _ _ (Nat.ne_of_gt le) t4) (by show g5.objs.size = hp.objs.size + 1; rw [b5.1, z4]) fun b o m1 m2 h => b5.extBut b o m1 (r4 b o m1 m2 h)⟩
theorem py_itemH {e j t T : Addr} {n : Nat} {xs : Array Value} {y old : Value} {f : Bool} {oT : Obj} {Q : Option Value → Shared → Prop} (he : IsEnumHeld s.heap e j n old T f) (hT : s.heap.get? T = some oT) (n1 : T ≠ e) (n2 : T ≠ j)
    (hj : s.heap.IsTupleIter j t n) (ht : s.heap.IsTuple t xs) (hy : xs[n]? = some y) (hne : e ≠ j)
    (k : ∀ g, IsEnumHeld g e j ((n : Int) + 1) old T true → g.IsTupleIter j t (n + 1) → g.get? s.heap.objs.size = some { cls := .type "tuple", data := .seq #[.int n s.toks, y] } → g.objs.size = s.heap.objs.size + 1 →
      (∀ b o, b ≠ e → b ≠ j → s.heap.get? b = some o → g.get? b = some o) → Q (some (.ref s.heap.objs.size)) { s with heap := g, toks := s.toks + 1 }) :
    wpAny (model prog w) A (pyNext (.ref e)) Q E s := by
  have ty : s.TypeIs (.ref e) "enumerate" := ⟨_, he, rfl⟩
  unfold pyNext
  exact wpAny_bind (wpAny_attempt (wpAny_callSpecial?_slot (name := Str.ofString "__next__") ty F.slot_enumerate_next (wpAny_call_entry F.slot_enumerate_next ty F.entry_enumerate_next (en_itemH he hT n1 n2 hj ht hy hne fun g a b c d r => wpAny_pure (k g a b c d r)) (F.args_enumerate_next_1 _))))
theorem py_endH {e j t T : Addr} {n : Nat} {xs : Array Value} {old : Value} {f : Bool} {Q : Option Value → Shared → Prop} (hh : A.handled = none) (he : IsEnumHeld s.heap e j n old T f) (hj : s.heap.IsTupleIter j t n) (ht : s.heap.IsTuple t xs) (hy : xs[n]? = none)
    (k : ∀ g, Heap.ExtBut j s.heap g → Q none { s with heap := g }) : wpAny (model prog w) A (pyNext (.ref e)) Q E s := by
  have ty : s.TypeIs (.ref e) "enumerate" := ⟨_, he, rfl⟩
  unfold pyNext
  refine wpAny_bind (wpAny_attempt (wpAny_callSpecial?_slot (name := Str.ofString "__next__") ty F.slot_enumerate_next (wpAny_call_entry F.slot_enumerate_next ty F.entry_enumerate_next ?_ (F.args_enumerate_next_1 _))))
  show wpAny _ _ (field (.ref e) 2 >>= _) _ _ _
  refine wpAny_bind (wpAny_field he rfl (x := .ref j) rfl (wpAny_bind (next_tup_end hh hj ht hy fun g z a c => ?_)))
  obtain ⟨o, ho, hc⟩ := c
  exact wpAny_bind (wpAny_isInstance (T := "StopIteration") (b := true) ⟨o, ho, hc⟩ isSubtype_stop (wpAny_pure (k _ a)))
end
section
variable {prog : Program} {w : World}
theorem arg_tup (e j l : Addr) (h1 : e ≠ j) (h2 : l ≠ e) (h3 : l ≠ j) (xs : Array Value) :
    PairArg prog w "enumerate" e [e, j, l] [e, j] xs.size (fun i k v => (∃ t, k = .int i t) ∧ xs[i]? = some v) (fun h => (∃ old, IsEnum h e j 0 old) ∧ h.IsTupleIter j l 0 ∧ h.IsTuple l xs) where
  type := fun s ok => by
    obtain ⟨⟨_, he⟩, _⟩ := ok
    exact ⟨_, he, rfl⟩
  notDict := by decide
  keep := fun h h' ok hk => by
    obtain ⟨⟨old, he⟩, ⟨o, a1, a2⟩, ⟨o', b1, b2⟩⟩ := ok
    exact ⟨⟨old, hk _ _ he⟩, ⟨o, hk _ _ a1, a2⟩, ⟨o', hk _ _ b1, b2⟩⟩
  there := fun h ok b hb => by
    obtain ⟨⟨old, he⟩, ⟨o, a1, _⟩, ⟨o', b1, _⟩⟩ := ok
    simp only [List.mem_cons, List.not_mem_nil, or_false] at hb
    rcases hb with rfl | rfl | rfl
    · exact ⟨_, he⟩
    · exact ⟨_, a1⟩
    · exact ⟨_, b1⟩
  sub := fun b hb => by
    simp at hb ⊢
    rcases hb with rfl | rfl <;> simp
  noKeys := fun A s Q E hA ok h => by
    obtain ⟨⟨_, he⟩, _⟩ := ok
    exact getAttrOr_miss_enumerate he rfl rfl rfl enumerate_no_keys (by decide +kernel) hA h
  iter := fun A s d Q E hA ok hd hdf h => by
    obtain ⟨⟨old, he⟩, hj, hl⟩ := ok
    simp only [List.mem_cons, List.not_mem_nil, or_false, not_or] at hdf
    obtain ⟨de, dj, dl⟩ := hdf
    refine wpAny_pyIter_enum he (h e [e, j] (fun i h => h.IsTupleIter j l i ∧ h.IsTuple l xs ∧ ((∃ old, IsEnum h e j i old) ∨ ∃ old T f oT, IsEnumHeld h e j i old T f ∧ h.get? T = some oT ∧ T ≠ e ∧ T ≠ j ∧ T ≠ d)) s.heap s.toks ?_ ⟨hj, hl, .inl ⟨old, he⟩⟩ (fun _ _ z => z) fun b hb => .inl hb)
    exact {
      off := fun hm => by
        simp only [List.mem_cons, List.not_mem_nil, or_false] at hm
        rcases hm with x | x
        · exact de x
        · exact dj x
      frame := fun i g1 g2 st hk => by
        obtain ⟨⟨o, a1, a2⟩, ⟨o', b1, b2⟩, st⟩ := st
        refine ⟨⟨o, hk _ _ (Ne.symm dj) a1, a2⟩, ⟨o', hk _ _ (Ne.symm dl) b1, b2⟩, ?_⟩
        rcases st with ⟨old, x⟩ | ⟨old, T, f, oT, x, hT, r1, r2, r3⟩
        · exact .inl ⟨old, hk _ _ (Ne.symm de) x⟩
        · exact .inr ⟨old, T, f, oT, hk _ _ (Ne.symm de) x, hk _ _ r3 hT, r1, r2, r3⟩
      item := fun i s1 Q1 E1 hi st hds hQ => by
        obtain ⟨a, b, st⟩ := st
        have ex := Array.getElem?_eq_getElem hi
        have ec : ((i + 1 : Nat) : Int) = (i : Int) + 1 := by omega
        have nj : s1.heap.objs.size ≠ j := by
          obtain ⟨_, x, _⟩ := a
          exact Nat.ne_of_gt (Heap.lt_size x)
        have tl : ∀ {g : Heap}, (∀ b o, b ≠ e → b ≠ j → s1.heap.get? b = some o → g.get? b = some o) → g.IsTuple l xs := fun hk => by
          obtain ⟨o, x, y⟩ := b
          exact ⟨o, hk l o h2 h3 x, y⟩
        rcases st with ⟨old, x⟩ | ⟨old, T, f, oT, x, hT, r1, r2, r3⟩
        · refine py_item x a b ex h1 fun g ho hit hT hsz hk => ?_
          exact hQ s1.heap.objs.size _ _ g (s1.toks + 1) ⟨⟨_, rfl⟩, ex⟩ (.inl ⟨_, hT, rfl, _, rfl⟩)
            ⟨hit, tl hk, .inr ⟨_, s1.heap.objs.size, false, _, (by rw [ec]; exact ho), hT, Nat.ne_of_gt (Heap.lt_size x), nj, Nat.ne_of_gt hds⟩⟩ fun b o hb z => hk b o (fun y => hb (by simp [y])) (fun y => hb (by simp [y])) z
        · refine py_itemH x hT r1 r2 a b ex h1 fun g ho hit hT' hsz hk => ?_
          exact hQ s1.heap.objs.size _ _ g (s1.toks + 1) ⟨⟨_, rfl⟩, ex⟩ (.inl ⟨_, hT', rfl, _, rfl⟩)
            ⟨hit, tl hk, .inr ⟨old, T, true, oT, (by rw [ec]; exact ho), hk _ _ r1 r2 hT, r1, r2, r3⟩⟩ fun b o hb z => hk b o (fun y => hb (by simp [y])) (fun y => hb (by simp [y])) z
      done := fun s1 Q1 E1 st hQ => by
        obtain ⟨a, b, st⟩ := st
        have hx : xs[xs.size]? = none := Array.getElem?_eq_none (Nat.le_refl _)
        rcases st with ⟨old, x⟩ | ⟨old, T, f, oT, x, hT, r1, r2, r3⟩
        · exact py_end hA x a b hx fun g hk => hQ g s1.toks fun b o hb z => hk b o (fun y => hb (by simp [y])) z
        · exact py_endH hA x a b hx fun g hk => hQ g s1.toks fun b o hb z => hk b o (fun y => hb (by simp [y])) z }
end
end En
set_option maxHeartbeats 4000000
/-! MiE: dict(enumerate(..)). -/
namespace En
open PySem PySem.Spec PyProof.Rows L2
/-- numbered from n on -/
def numK {α : Type} : Nat → List α → List (Key × α)
  | _, [] => []
  | n, x :: xs => (.inl (n : Int), x) :: numK (n + 1) xs
theorem numK_len {α : Type} : ∀ (xs : List α) (n : Nat), (numK n xs).length = xs.length
  | [], _ => rfl
  | x :: xs, n => by rw [numK, List.length_cons, List.length_cons, numK_len]
theorem numK_get {α : Type} : ∀ (xs : List α) (n i : Nat), (numK n xs)[i]? = (xs[i]?).map fun x => (.inl ((n + i : Nat) : Int), x)
  | [], n, i => by simp [numK]
  | x :: xs, n, 0 => by simp [numK]
  | x :: xs, n, i + 1 => by
    rw [numK, List.getElem?_cons_succ, numK_get xs (n + 1) i, List.getElem?_cons_succ]
    congr 2
    funext y
    congr 2
    omega
theorem numK_kv : ∀ {xs : List V} {us : List Value} (n : Nat), Vals xs us → KV (numK n xs) (numK n us)
  | _, _, _, .nil => .nil
  | _, _, n, .cons a b => .cons ⟨rfl, a⟩ (numK_kv (n + 1) b)
theorem have_num {P : Program} {w : World} (us : List Value) : PySem.PairsHave (mixKind P w) us.toArray.size (fun i k v => (∃ t, k = .int i t) ∧ us.toArray[i]? = some v) (numK 0 us) := by
  refine ⟨by rw [numK_len]; simp, fun i key v h => ?_⟩
  obtain ⟨⟨t, rfl⟩, hv⟩ := h
  have hv : us[i]? = some v := by simpa using hv
  refine ⟨.inl ((0 + i : Nat) : Int), by rw [numK_get, hv]; rfl, ?_⟩
  rw [Nat.zero_add]
  exact kV_is (k := .inl (i : Int)) (u := .int i t) ⟨t, rfl⟩
def tDen (K : PySem.W.Frag) (te : TE) : TE := fun σ H Q => te σ H fun x H1 => ∃ a xs, x = .ref a ∧ (SqL K H1 a xs ∨ SqT K H1 a xs) ∧ ∀ p, H1 p = none → Q (.ref p) (upd H1 p (.dK (mergeK [] (numK 0 xs))))
theorem pe_den {X : Cx} {v : Expr} {p1 p2 p3 p4 : Pos} {te : TE} (hc : X.calm = true) (g1 : Gl X "dict") (m1 : X.mg "dict" = none) (g2 : Gl X "enumerate") (m2 : X.mg "enumerate" = none) (hv : PE X v te) (hs : starEach [v] X.env = [(false, eval v X.env)]) :
    PE X (.Call (.Name "dict" p1) [.Call (.Name "enumerate" p2) [v] [] p3] [] p4) (tDen X.K te) := by
  refine ⟨fun pins s σ H Q I h => ?_⟩
  refine Call_ (ld_blt I g1 m1 (show bootBuiltins "dict" = some (.type "dict") by decide +kernel) (PyProof.Rows.callWith_type1 ?_ rfl rfl))
  show wpAny _ _ (spliced [(false, eval (.Call (.Name "enumerate" p2) [v] [] p3) X.env)]) _ _ s
  refine Calls.spliced_cons ?_
  refine Call_ (ld_blt I g2 m2 boot_enumerate (PyProof.Rows.callWith_type1 ?_ hs rfl))
  rw [hs]
  show wpAny _ _ (spliced [(false, eval v X.env)]) _ _ s
  refine Calls.spliced_cons (thn (hv.run pins s σ H _ I h) fun u s1 ⟨x, H1, I1, r1, a, xs, ex, hq, q⟩ => Calls.spliced_nil ?_)
  subst ex
  cases (show u = Value.ref a from r1)
  have big : s1.heap.objs.size + 2 ≠ sysModules := Nat.ne_of_gt (Nat.lt_of_lt_of_le I1.big (Nat.le_add_right _ 2))
  have fin : ∀ (us : List Value) (g g' : Heap) (tk : Tok), Vals xs us → us.length ≤ sizeLine → g.objs.size = s1.heap.objs.size + 2 → (∀ b o, s1.heap.get? b = some o → g.get? b = some o) → g'.DictOf (mixKind X.prog X.w) (s1.heap.objs.size + 2) (merged [] (numK 0 us)) →
      (∀ b o, b ∉ [s1.heap.objs.size + 1, s1.heap.objs.size] → g.get? b = some o → g'.get? b = some o) → EP X pins σ Q (.ref (s1.heap.objs.size + 2)) { s1 with heap := g', toks := tk } := by
    intro us g g' tk rv hl hz hk hd hk'
    have len : (mergeK [] (numK 0 xs)).length ≤ sizeLine := by
      refine Nat.le_trans (length_mergeK _ []) ?_
      rw [List.length_nil, Nat.zero_add, numK_len, rv.length]
      exact hl
    refine ⟨.ref (s1.heap.objs.size + 2), _, I1.laid (t' := tk) (h' := g') (a := s1.heap.objs.size + 2) (fun b o e => hk' b o (fun z => ?_) (hk b o e)) (Nat.le_add_right _ _) (show ObjOk X.prog X.w _ _ _ (.dK (mergeK [] (numK 0 xs))) from ⟨len, beq_eq_false_iff_ne.mpr big, merged [] (numK 0 us), KV.merge (numK_kv 0 rv) .nil, hd⟩), rfl, q _ (I1.hok.fresh (Nat.le_add_right _ _))⟩
    have lb := Heap.lt_size e
    simp only [List.mem_cons, List.not_mem_nil, or_false] at z
    rcases z with z | z
    · rw [z] at lb; exact absurd lb (Nat.not_lt.mpr (Nat.le_succ _))
    · rw [z] at lb; exact Nat.lt_irrefl _ lb
  rcases hq with hq | hq
  · obtain ⟨its, rv, p, hz⟩ := I1.list hq
    refine call_enumerate_list p.isList fun g he hit hsz hk => Calls.spliced_nil ?_
    have lt : a < s1.heap.objs.size := by obtain ⟨_, z, _⟩ := p.isList; exact Heap.lt_size z
    refine PySem.call_dict_pairs (s := { s1 with heap := g }) (knd := mixKind X.prog X.w) (PySem.PairArg.enumerate (s1.heap.objs.size + 1) s1.heap.objs.size a (Nat.succ_ne_self _) (Nat.ne_of_lt (Nat.lt_succ_of_lt lt)) (Nat.ne_of_lt lt) its.toArray) (I1.ok.hd hc) ⟨⟨_, he⟩, hit, p.isList.at fun o z => hk _ o z⟩ (have_num its) (by rw [List.size_toArray, ← rv.length]; exact hz) fun h' tk hd hk' => ?_
    rw [hsz] at hd ⊢
    exact fin its g h' tk rv (by rw [← rv.length]; exact hz) hsz hk hd hk'
  · obtain ⟨its, rv, p, hz⟩ := I1.tuple hq
    refine call_enum (show s1.heap.IsTuple a its.toArray from p) fun g he hit hsz hk => Calls.spliced_nil ?_
    have pt : s1.heap.IsTuple a its.toArray := p
    have lt : a < s1.heap.objs.size := by obtain ⟨_, z, _⟩ := pt; exact Heap.lt_size z
    have pg : g.IsTuple a its.toArray := by obtain ⟨o, z, r⟩ := pt; exact ⟨o, hk _ o z, r⟩
    refine PySem.call_dict_pairs (s := { s1 with heap := g }) (knd := mixKind X.prog X.w) (arg_tup (s1.heap.objs.size + 1) s1.heap.objs.size a (Nat.succ_ne_self _) (Nat.ne_of_lt (Nat.lt_succ_of_lt lt)) (Nat.ne_of_lt lt) its.toArray) (I1.ok.hd hc) ⟨⟨_, he⟩, hit, pg⟩ (have_num its) (by rw [List.size_toArray, ← rv.length]; exact hz) fun h' tk hd hk' => ?_
    rw [hsz] at hd ⊢
    exact fin its g h' tk rv (by rw [← rv.length]; exact hz) hsz hk hd hk'
end En
set_option maxHeartbeats 4000000
/-! MiS: sorted(set(..)) of ints. -/
namespace Ss
open PySem PySem.Spec PyProof.Rows L2
abbrev emS (w : World) : Obj := { cls := .type "set", dict := none, data := .set #[] 0 (.fresh 0 0 (!w.params.followText "set-order")) }
section
variable {P : Program} {w : World} {A : Around} {E : Value → Shared → Prop} {s : Shared}
set_option maxHeartbeats 3200000 in
theorem set_of_list {l : Addr} {items : Array Value} (ns : List Int) {Q : Value → Shared → Prop} (hA : A.handled = none) (isl : s.heap.IsList l items) (hin : IntsAre items.toList ns) (small : ns.length + 1 < scanBound)
    (fin : ∀ (g : Heap) (tk c : Nat), SetR w g s.heap.objs.size (fun j => decide (j ∈ ns)) c → c ≤ ns.length → (∀ b o, s.heap.get? b = some o → g.get? b = some o) → Q (.ref s.heap.objs.size) { s with heap := g, toks := tk }) :
    wpAny (model P w) A (call (.type "set") [.ref l]) Q E s := by
  have size : items.size = ns.length := by
    have z := IntsAre.length hin
    rwa [Array.length_toList] at z
  obtain ⟨c0, t0, mro⟩ := F.called_set.mro
  have made := F.called_set.made
  have sub := F.called_set.sub
  refine wpAny_call (codeAny_of_tree ?_)
  show wpAny _ _ (callAny (.type "set") _) _ _ _
  refine wpAny_pure ⟨Code.quiet_builtin _ (by decide +kernel), codeAny_builtin F.entry_type_call ?_⟩
  rw [Around.under_plain (weight_type_call_type "set" [.ref l] []) rfl]
  have g1 := F.called_set.notType
  have g2 := F.called_set.canCreate
  have g3 := F.typeCall_set_1 (.ref l)
  repeat (any_goals (first | assumption | wp_step))
  refine codeAny_mono (code_set_led1 (.ref l) (E := E) (Q₁ := fun obj t => obj = .ref s.heap.objs.size ∧ t = { s with heap := s.heap.push (emS w) }) ⟨rfl, rfl⟩) fun r t hr => ?_
  match r, hr with
  | .error e, hr => exact hr
  | .ok .next, hr => exact hr.elim
  | .ok .brk, hr => exact hr.elim
  | .ok .cont, hr => exact hr.elim
  | .ok (.ret ob), hr =>
    obtain ⟨rfl, rfl⟩ := hr
    have at0 : (s.heap.push (emS w)).get? s.heap.objs.size = some (emS w) := Heap.get?_push_size _ rfl
    have ty0 : Shared.TypeIs { s with heap := s.heap.push (emS w) } (.ref s.heap.objs.size) "set" := ⟨_, at0, rfl⟩
    have g4 := F.called_set.init.lookup
    have g5 := F.called_set.init.bind (.ref s.heap.objs.size)
    repeat (any_goals (first | assumption | wp_step))
    refine codeAny_mono (codeAny_call_builtin (R := wants (fun r t => r = .none ∧ ∃ g tk c, t = { s with heap := g, toks := tk } ∧ SetR w g s.heap.objs.size (fun j => decide (j ∈ ns)) c ∧ c ≤ ns.length ∧
        (∀ b o, s.heap.get? b = some o → g.get? b = some o)) E) F.called_set.init.plain F.entry_set_init (check_set_init_1 ty0 ?_)) fun r2 t2 hr2 => ?_
    · obtain ⟨ob, hob, k1, nl, k2⟩ := isl
      obtain ⟨oc, od, odt, osl⟩ := ob
      simp only at k1 k2
      subst k1 k2
      have at1 : (s.heap.push (emS w)).get? l = some { cls := .type "list", dict := od, data := .seq items nl, slots := osl } := Heap.get?_push_of_some _ hob
      have g6 := F.sub_list_set
      have g7 := F.sub_list_frozenset
      have g8 : (Value.type "list" == Value.type "dict") = false := by decide
      have l1 : (s.heap.push (emS w)).IsList l items := ⟨_, at1, rfl, nl, rfl⟩
      unfold Builtin.«set.__init__» noKeywords Builtin.Frozenset.updateFrom
      generalize qi : pyIter = PI
      wp_walk
      subst qi
      refine wpAny_pyIter_list l1 ?_
      refine wpAny_bind (wpAny_runValue ?_)
      have lt : l < s.heap.objs.size := Heap.lt_size hob
      have hA3 : A.in1.in1.in1.handled = none := by simp [hA]
      have ne1 : l ≠ (s.heap.push (emS w)).objs.size := by rw [Heap.size_push]; exact Nat.ne_of_lt (Nat.lt_succ_of_lt lt)
      have ni : s.heap.objs.size ∉ [(s.heap.push (emS w)).objs.size, l] := by
        rw [Heap.size_push]
        simp only [List.mem_cons, List.not_mem_nil, or_false, not_or]
        exact ⟨Nat.ne_of_lt (Nat.lt_succ_self _), Nat.ne_of_gt lt⟩
      have vals : ∀ (i : Nat) (v : Value), items[i]? = some v → ∃ k t, ns[i]? = some k ∧ v = .int k t := fun i v hv => by
        have hi : i < ns.length := by rw [← size]; exact (Array.getElem?_eq_some_iff.mp hv).1
        obtain ⟨t, e⟩ := PyProof.Rows.IntsAre.int_at hin i v (by rw [Array.getElem?_toList]; exact hv)
        refine ⟨ns[i], t, List.getElem?_eq_getElem hi, e.trans ?_⟩
        rw [List.getD_eq_getElem?_getD, List.getElem?_eq_getElem hi]
        rfl
      refine set_update_ints ((Walks.list hA3 _ l ne1 items).toS) s.heap.objs.size ni ns size small vals (items.size - 0) 0 _ (by omega) (Nat.zero_le _)
        ⟨⟨_, Heap.get?_push_size _ rfl, rfl, rfl⟩, (l1.push _)⟩ ⟨0, Nat.le_refl 0, setR_new_at (Heap.get?_push_of_some _ at0)⟩ fun t' c' mv hc hS => ?_
      obtain ⟨g, gs, dr, tk, os⟩ := t'
      have q1 : gs = s.gens := mv.gens
      have q2 : dr = s.drawn := mv.drawn
      have q3 : os = s.os := mv.os
      subst q1 q2 q3
      show wpAny _ _ _ _ _ _
      refine wpAny_pure ?_
      show wpAny _ _ (ret Value.none) _ _ _
      rw [size] at hc
      refine wpAny_pure ⟨rfl, g, tk, c', rfl, hS, hc, fun b o e => ?_⟩
      have lb : b < s.heap.objs.size := Heap.lt_size e
      refine mv.heap b o ?_ (Heap.get?_push_of_some _ (Heap.get?_push_of_some _ e))
      rw [Heap.size_push]
      simp only [List.mem_cons, List.not_mem_nil, or_false, not_or]
      exact ⟨Nat.ne_of_lt lb, Nat.ne_of_lt (Nat.lt_succ_of_lt lb)⟩
    · match r2, hr2 with
      | .error e, hr2 => exact hr2
      | .ok .next, hr2 => exact hr2.elim
      | .ok .brk, hr2 => exact hr2.elim
      | .ok .cont, hr2 => exact hr2.elim
      | .ok (.ret r), hr2 =>
        obtain ⟨rfl, g, tk, c', rfl, hS, hc, hk⟩ := hr2
        repeat (any_goals (first | assumption | wp_step))
        exact fin _ _ _ hS hc hk
end
theorem sort_count {w : World} {h : Heap} {a : Addr} {ns : List Int} {c : Nat} (R : SetR w h a (fun j => decide (j ∈ ns)) c) : c = (Mi.sortU ns).length := by
  obtain ⟨o, es, ep, t, ho, hex, hdt, g, nd, hm, hb, hf, hn, hr, hl⟩ := R
  rw [← hn]
  have e : (es.toList.map keyOf).length = es.size := by rw [List.length_map, Array.length_toList]
  rw [← e]
  refine List.Perm.length_eq ((List.perm_ext_iff_of_nodup nd ((Mi.sortU_ris ns).imp fun h => Int.ne_of_lt h)).mpr fun k => ?_)
  rw [← hm k, Mi.sortU_mem, decide_eq_true_eq]
/-- set(xs), xs a list or a tuple of ints -/
def tSet (K : PySem.W.Frag) (w : World) (te : TE) : TE := fun σ H Q => te σ H fun x H1 => ∃ (a : Addr) (ns : List Int), x = .ref a ∧ (SqL K H1 a (ns.map V.int) ∨ SqT K H1 a (ns.map V.int)) ∧ ns.length ≤ 1000 ∧
  ∀ (c : Nat) (b : Addr), H1 b = none → c = (Mi.sortU ns).length → Q (.ref b) (upd H1 b (SetO w b (fun j => decide (j ∈ ns)) c))
theorem pe_set {X : Cx} {v : Expr} {p2 p3 : Pos} {te : TE} (hc : X.calm = true) (g2 : Gl X "set") (m2 : X.mg "set" = none) (hv : PE X v te) (hs : starEach [v] X.env = [(false, eval v X.env)]) :
    PE X (.Call (.Name "set" p2) [v] [] p3) (tSet X.K X.w te) := by
  refine ⟨fun pins s σ H Q I h => ?_⟩
  refine Call_ (ld_blt I g2 m2 PyProof.Rows.boot_set (PyProof.Rows.callWith_type1 ?_ hs rfl))
  rw [hs]
  show wpAny _ _ (spliced [(false, eval v X.env)]) _ _ s
  refine Calls.spliced_cons (thn (hv.run pins s σ H _ I h) fun u s1 ⟨x, H1, I1, r1, a, ns, ex, hq, hl, q⟩ => Calls.spliced_nil ?_)
  subst ex
  cases (show u = Value.ref a from r1)
  have hd := I1.ok.hd hc
  have big : ns.length + 1 < scanBound := by unfold scanBound; omega
  have go : ∀ (g : Heap) (tk c : Nat), SetR X.w g s1.heap.objs.size (fun j => decide (j ∈ ns)) c → c ≤ ns.length → (∀ b o, s1.heap.get? b = some o → g.get? b = some o) → EP X pins σ Q (.ref s1.heap.objs.size) { s1 with heap := g, toks := tk } := by
    intro g tk c hS hcl hk
    exact ⟨.ref _, upd H1 s1.heap.objs.size (SetO X.w s1.heap.objs.size (fun j => decide (j ∈ ns)) c), I1.laid (t' := tk) hk (Nat.le_refl _) (setO_new hS), rfl, q c _ (I1.hok.fresh (Nat.le_refl _)) (sort_count hS)⟩
  rcases hq with hq | hq
  · obtain ⟨its, rv, pl, hz⟩ := I1.list hq
    have hi : IntsAre its.toArray.toList ns := ints_of_vals rv
    exact set_of_list ns hd pl.isList hi big go
  · obtain ⟨its, rv, pt, hz⟩ := I1.tuple hq
    have hi : IntsAre its.toArray.toList ns := ints_of_vals rv
    exact call_set_tupI ns hd (show s1.heap.IsTuple a its.toArray from pt) hi big go
theorem pe_srs {X : Cx} {v : Expr} {p1 p2 p3 p4 : Pos} {te : TE} (hc : X.calm = true) (g1 : Gl X "sorted") (m1 : X.mg "sorted" = none) (g2 : Gl X "set") (m2 : X.mg "set" = none) (hv : PE X v te) (hs : starEach [v] X.env = [(false, eval v X.env)]) :
    PE X (.Call (.Name "sorted" p1) [.Call (.Name "set" p2) [v] [] p3] [] p4) (tCB (rSortedSet X.w) (tCons (tSet X.K X.w te) tNil)) := by
  have st : starEach [Expr.Call (.Name "set" p2) [v] [] p3] X.env = [(false, eval (.Call (.Name "set" p2) [v] [] p3) X.env)] := rfl
  exact pe_callB (cr_sortedSet hc) g1 m1 (by decide +kernel) (pa_cons (pe_set hc g2 m2 hv hs) pa_nil st) (by decide) (by decide) st (by rfl)
end Ss
set_option maxHeartbeats 4000000
/-! Mi15: dict displays; every expression. -/
namespace Mi
open PySem PySem.Spec PyProof.Rows L2

theorem rel_comeO {K : Frg} {W : Wd} {S : Sto} {H : Hp} (r : Rel K W S H) {p : Addr} (n1 : ¬ Ins S W p) (n2 : ¬ W.fz p) (o : Ob) (q : ∀ W', Keep W H W' H → ObR K W' H p o) :
    ∃ n, S n = none ∧ Rel K (W.new n p) (put S n o) H ∧ Keep W H (W.new n p) H ∧ (W.new n p).rho n = some p ∧ ∀ {W1 : Wd} {S1 : Sto} {H1 : Hp}, Ext W1 S1 H1 W S H → H1 p = none → Ext W1 S1 H1 (W.new n p) (put S n o) H := by
  obtain ⟨N, hN⟩ := r.bd
  have hS : S N = none := by
    cases e : S N with
    | none => rfl
    | some u => obtain ⟨a, h, _⟩ := r.dom N u e; rw [hN N (Nat.le_refl _)] at h; cases h
  have hr : (W.new N p).rho N = some p := if_pos rfl
  have hr2 : ∀ m, m ≠ N → (W.new N p).rho m = W.rho m := fun m h => if_neg h
  have k : Keep W H (W.new N p) H := ⟨fun m a h => by
    by_cases e : m = N
    · subst e; rw [hN _ (Nat.le_refl _)] at h; cases h
    · rw [hr2 m e]; exact h, fun b h => ⟨h, rfl⟩⟩
  have insb : ∀ b, Ins (put S N o) (W.new N p) b → b = p ∨ Ins S W b := fun b ⟨m, v, h1, h2⟩ => by
    by_cases e : m = N
    · subst e; rw [hr] at h2; cases h2; exact .inl rfl
    · rw [hr2 m e] at h2; rw [put_ne e] at h1; exact .inr ⟨m, v, h1, h2⟩
  refine ⟨N, hS, ⟨⟨N + 1, fun n h => by rw [hr2 n (by omega)]; exact hN n (by omega)⟩, fun m v z => ?_, fun i j b x y h1 h2 h3 h4 => ?_, fun b z => ⟨(r.sep b z).1, fun y => ?_⟩⟩, k, hr, fun {W1 S1 H1} e hp => ⟨fun m a z => k.rho m a (e.rho m a z), e.fz, fun a h1 h2 => ⟨(e.fr a h1 h2).1, fun y => ?_, (e.fr a h1 h2).2.2⟩⟩⟩
  · by_cases e : m = N
    · subst e; rw [put_same] at z; cases z
      exact ⟨p, hr, q _ k⟩
    · rw [put_ne e] at z
      obtain ⟨b, h1, h2⟩ := r.dom m v z
      exact ⟨b, (hr2 m e).trans h1, h2.keep k rfl⟩
  · by_cases e : i = N
    · subst e
      by_cases e' : j = i
      · exact e'.symm
      · exfalso
        rw [hr] at h3; cases h3
        rw [hr2 j e'] at h4; rw [put_ne e'] at h2
        exact n1 ⟨j, y, h2, h4⟩
    · rw [hr2 i e] at h3; rw [put_ne e] at h1
      by_cases e' : j = N
      · exfalso
        subst e'
        rw [hr] at h4; cases h4
        exact n1 ⟨i, x, h1, h3⟩
      · rw [hr2 j e'] at h4; rw [put_ne e'] at h2
        exact r.inj i j b x y h1 h2 h3 h4
  · rcases insb b y with z' | z'
    · subst z'; exact n2 z
    · exact (r.sep b z).2 z'
  · rcases insb a y with z' | z'
    · subst z'; exact h1 hp
    · exact (e.fr a h1 h2).2.1 z'

section
variable {X : Cx} {K : Frg} {c : SC} {n : Nat} {G : GT}

/-- the pairs of a dict display -/
def DP (X : Cx) (K : Frg) (c : SC) (G : GT) (es : Es) (ks : List Key) (keys : List (Option Expr)) (vals : List Expr) : Prop := ∀ pos, ∃ trs, PPs X pos keys vals trs ∧
  ∀ W S H env σ q Q, Rel K W S H → EnvR K W H env σ → wpEs c.T G noX es env S q → (∀ W' S' H' ds vs, Ext W S H W' S' H' → Rel K W' S' H' → Reps K W' H' ds vs → ds.length = ks.length → q ds S' → Q ((ks.zip vs).map fun kv => (kV kv.1, kv.2)) H') → tPairs trs σ H Q
theorem pe_key {k : Key} {e : Expr} (h : keyE k e = true) : PE X e (tC (kV k)) := by
  unfold keyE at h
  split at h
  · rw [← eqb h]; exact pe_int
  · rw [← eqb h]; exact pe_str
  · cases h
theorem dp_nil : DP X K c G .nil [] [] [] := fun pos => ⟨[], pps_nil, fun W S H env σ q Q r er w ok => by
  simp only [wpEs] at w
  exact ok W S H [] [] (Ext.refl _ _ _) r .nil rfl w⟩
theorem dp_cons {e : E} {es : Es} {k : Key} {ks : List Key} {y ye : Expr} {keys : List (Option Expr)} {vals : List Expr} (hk : keyE k ye = true) (ie : PE X y (LE K (wpE c.T G noX e))) (is : DP X K c G es ks keys vals) : DP X K c G (.cons e es) (k :: ks) (some ye :: keys) (y :: vals) := fun pos => by
  obtain ⟨trs, hp, ht⟩ := is pos
  refine ⟨_, pps_cons (pe_key hk) ie hp, fun W S H env σ q Q r er w ok => ?_⟩
  simp only [wpEs] at w
  show tC (kV k) σ H _
  refine ⟨W, S, env, _, r, er, w, fun W1 S1 H1 dx x e1 r1 p1 w1 => ?_⟩
  refine ht W1 S1 H1 env σ _ _ r1 (er.keep (e1.keep r)) w1 fun W2 S2 H2 ds vs e2 r2 p2 hl w2 => ?_
  exact ok W2 S2 H2 (dx :: ds) (x :: vs) (e1.trans e2) r2 (.cons (p1.keep (e2.keep r1)) p2) (by simp [hl]) w2
theorem merge_id : ∀ (more acc : List (Key × V)), ((acc ++ more).map (·.1)).Nodup → mergeK acc more = acc ++ more
  | [], acc, _ => by simp [mergeK]
  | p :: more, acc, h => by
    have hn : valV acc p.1 = none := by
      unfold valV
      rw [Option.map_eq_none_iff, List.find?_eq_none]
      intro x hx
      rw [List.map_append, List.nodup_append] at h
      have := h.2.2 x.1 (List.mem_map_of_mem hx) p.1 (by simp)
      simpa using this
    show mergeK (putK acc p.1 p.2) more = _
    rw [putK_new p.2 hn, merge_id more (acc ++ [(p.1, p.2)]) (by simpa using h)]
    simp
theorem kr_zip {W : Wd} {H : Hp} : ∀ {ks : List Key} {ds : List D} {vs : List V}, Reps K W H ds vs → KR K W H (ks.zip ds) (ks.zip vs)
  | [], _, _, _ => by simpa using KR.nil
  | _ :: _, _, _, .nil => .nil
  | _ :: _, _, _, .cons a r => .cons a (kr_zip r)
theorem le_dic (g : Good X K c n G) {ks : List Key} {es : Es} {x : Expr} (h : ckE (.dic ks es) c x = true) (ia : ∀ keys vals, keysE ks keys = true → ckEs es c vals = true → keys.length = vals.length → DP X K c G es ks keys vals) : PE X x (LE K (wpE c.T G noX (.dic ks es))) := by
  obtain ⟨keys, vals, p, rfl, h1, h2, h3, h4, h5⟩ := ck_dic h
  cases keys with
  | nil =>
    cases vals with
    | cons _ _ => cases h5
    | nil =>
      have en : es = .nil := by cases es with
        | nil => rfl
        | cons _ _ => simp [ckEs] at h2
      subst en
      refine PE.imp pe_dnewK fun σ H Q ⟨W, S, env, q, r, er, w, ok⟩ a ha => ?_
      simp only [wpE, wpEs] at w
      obtain ⟨m, hm, r', e, hr⟩ := rel_new r ha (.dic (ks.zip [])) (.dK []) fun W' H' k h => ⟨[], h, by simpa using KR.nil⟩
      exact ok _ _ _ _ _ e r' (.loc hr) (w m hm)
  | cons k0 keys =>
    have hkl : ∀ {ks : List Key} {keys : List (Option Expr)}, keysE ks keys = true → ks.length = keys.length ∧ keys.all (·.isSome) = true := by
      intro ks
      induction ks with
      | nil => intro keys h; cases keys with
        | nil => exact ⟨rfl, rfl⟩
        | cons _ _ => simp [keysE] at h
      | cons k ks ih =>
        intro keys h
        match keys, h with
        | some e :: keys, h =>
          simp only [keysE, Bool.and_eq_true] at h
          obtain ⟨a, b⟩ := ih h.2
          exact ⟨by simp [a], by simpa using b⟩
        | none :: _, h => simp [keysE] at h
        | [], h => simp [keysE] at h
    obtain ⟨kl, ka⟩ := hkl h1
    obtain ⟨trs, hp, ht⟩ := ia _ _ h1 h2 h5 p
    refine PE.imp (pe_disp hp ka h5 (by simp) (by rw [← kl]; exact h4)) fun σ H Q ⟨W, S, env, q, r, er, w, ok⟩ a ha => ?_
    simp only [wpE] at w
    have n1 : ¬ Ins S W a := fun ⟨m, u, z1, z2⟩ => by
      obtain ⟨b, z3, z4⟩ := r.dom m u z1
      rw [z2] at z3; cases z3
      exact z4.there ha
    have n2 : ¬ W.fz a := fun z => (r.sep a z).1 ha
    obtain ⟨r1, k1⟩ := rel_other r n1 n2 (.dK [])
    refine ht W S _ env σ _ _ r1 (er.keep k1) w fun W2 S2 H2 ds vs e2 r2 p2 hl w2 => ?_
    obtain ⟨t1, t2, t3⟩ := e2.fr a (by rw [upd_same]; simp) n1
    have t4 : ¬ W2.fz a := fun z => n2 (t3 z)
    have lvs : vs.length = ks.length := p2.length ▸ hl
    refine ⟨t1.trans upd_same, ks.zip vs, rfl, by rw [List.length_zip]; omega, ?_⟩
    rw [merge_id _ [] (by rw [List.nil_append, List.map_fst_zip (by omega)]; exact h3), List.nil_append]
    obtain ⟨r3, k3⟩ := rel_other r2 t2 t4 (.dK (ks.zip vs))
    obtain ⟨m, hm, r4, k4, hr, e4⟩ := rel_comeO r3 t2 t4 (.dic (ks.zip ds)) fun W' k => ⟨_, upd_same, (kr_zip (p2.keep k3)).keep k⟩
    exact ok _ _ _ _ _ (e4 ((((Ext.refl W S H).other ha (.dK [])).trans e2).other ha (.dK (ks.zip vs))) ha) r4 (.loc hr) (w2 m hm)
theorem numK_keys {α : Type} : ∀ (xs : List α) (n : Nat), ∀ k ∈ (En.numK n xs).map (·.1), ∃ m : Nat, n ≤ m ∧ k = .inl (m : Int)
  | [], _, k, h => by cases h
  | x :: xs, n, k, h => by
    rw [En.numK, List.map_cons] at h
    rcases List.mem_cons.mp h with rfl | h
    · exact ⟨n, Nat.le_refl _, rfl⟩
    · obtain ⟨m, h1, h2⟩ := numK_keys xs (n + 1) k h
      exact ⟨m, by omega, h2⟩
theorem numK_nodup {α : Type} : ∀ (xs : List α) (n : Nat), ((En.numK n xs).map (·.1)).Nodup
  | [], _ => List.nodup_nil
  | x :: xs, n => by
    rw [En.numK, List.map_cons, List.nodup_cons]
    refine ⟨fun h => ?_, numK_nodup xs (n + 1)⟩
    obtain ⟨m, h1, h2⟩ := numK_keys xs (n + 1) _ h
    have : (n : Int) = (m : Int) := by simpa using h2
    omega
theorem kr_num {W : Wd} {H : Hp} : ∀ {ds : List D} {vs : List V} (n : Nat), Reps K W H ds vs → KR K W H (numD n ds) (En.numK n vs)
  | _, _, _, .nil => .nil
  | _, _, n, .cons a r => .cons a (kr_num (n + 1) r)
theorem le_den (g : Good X K c n G) {a : E} {x : Expr} (h : ckE (.den a) c x = true) (ia : ∀ y, ckE a c y = true → PE X y (LE K (wpE c.T G noX a))) : PE X x (LE K (wpE c.T G noX (.den a))) := by
  obtain ⟨nm, p1, ny, p2, v, p3, p, rfl, h1, h2, h3, h4, h5⟩ := ck_den h
  have e1 := eqb h1
  have e2 := eqb h3
  subst e1 e2
  refine PE.imp (En.pe_den g.calm (g.gl h2) (g.bi _ (by decide)) (g.gl h4) (g.bi _ (by decide)) (ia v h5) (by rw [ck_star h5]; rfl)) fun σ H Q ⟨W, S, env, q, rl, er, w, ok⟩ => ?_
  simp only [wpE] at w
  refine ⟨W, S, env, _, rl, er, w, fun W1 S1 H1 dx x e1 r1 p1 w1 => ?_⟩
  obtain ⟨xs, exs, hq⟩ := w1
  obtain ⟨b, vs, rfl, sq, qs⟩ := seq_of r1 p1 exs
  refine ⟨b, vs, rfl, ?_, fun a ha => ?_⟩
  · rw [g.hK]
    cases sq with
    | l z => exact .inl z
    | t z => exact .inr z
  · rw [merge_id _ [] (by rw [List.nil_append]; exact numK_nodup vs 0), List.nil_append]
    obtain ⟨m, hm, r', e, hr⟩ := rel_new r1 ha (.dic (numD 0 xs)) (.dK (En.numK 0 vs)) fun W' H' k h => ⟨_, h, (kr_num 0 qs).keep k⟩
    exact ok _ _ _ _ _ (e1.trans e) r' (.loc hr) (hq m hm)
theorem le_srs (g : Good X K c n G) {a : E} {x : Expr} (h : ckE (.srs a) c x = true) (ia : ∀ y, ckE a c y = true → PE X y (LE K (wpE c.T G noX a))) : PE X x (LE K (wpE c.T G noX (.srs a))) := by
  obtain ⟨nm, p1, ny, p2, v, p3, p, rfl, h1, h2, h3, h4, h5⟩ := ck_srs h
  have e1 := eqb h1
  have e2 := eqb h3
  subst e1 e2
  refine PE.imp (Ss.pe_srs g.calm (g.gl h2) (g.bi _ (by decide)) (g.gl h4) (g.bi _ (by decide)) (ia v h5) (by rw [ck_star h5]; rfl)) fun σ H Q ⟨W, S, env, q, rl, er, w, ok⟩ => ?_
  simp only [wpE] at w
  refine ⟨W, S, env, _, rl, er, w, fun W1 S1 H1 dx x e1 r1 p1 w1 => ?_⟩
  obtain ⟨xs, ns, exs, ens, l1, l2, hq⟩ := w1
  obtain ⟨b, vs, rfl, sq, qs⟩ := seq_of r1 p1 exs
  have ev := ints_of g.hK qs ens
  subst ev
  refine ⟨b, ns, rfl, ?_, l1, fun cc p0 hp hcc => ?_⟩
  · rw [g.hK]
    cases sq with
    | l z => exact .inl z
    | t z => exact .inr z
  · have nI : ¬ Ins S1 W1 p0 := fun ⟨m, u, z1, z2⟩ => by
      obtain ⟨a', z3, z4⟩ := r1.dom m u z1
      rw [z2] at z3; cases z3
      exact z4.there hp
    have nF : ¬ W1.fz p0 := fun z => (r1.sep p0 z).1 hp
    obtain ⟨r2, k2⟩ := rel_other r1 nI nF (SetO X.w p0 (fun j => decide (j ∈ ns)) cc)
    refine ⟨p0, _, cc, rfl, upd_same, by rw [hcc]; exact l2, fun ms pp hr hmem hlen hpp => ?_⟩
    have em : ms = sortU ns := ris_eq _ _ hr (sortU_ris ns) fun k => by rw [hmem k, sortU_mem, decide_eq_true_eq]
    subst em
    refine Out.lst (S := S1) (fun W' H' v' e' r' p' => ok W' S1 H' _ v' ((e1.trans ((Ext.refl W1 S1 H1).other hp _)).trans e') r' p' hq) r2 (.ints _) pp hpp
theorem rngD_rgV {K : Frg} {W : Wd} {H : Hp} : ∀ (n : Nat) (a : Int), Reps K W H (rngD a n) ((List.range n).map fun i => V.int (a + (i : Nat)))
  | 0, a => .nil
  | n + 1, a => by
    rw [rngD, List.range_succ_eq_map, List.map_cons, List.map_map]
    refine .cons (by show Rep K W H (.int a) (.int (a + ((0 : Nat) : Int))); rw [show a + ((0 : Nat) : Int) = a by omega]; exact .int a) ?_
    have := @rngD_rgV K W H n (a + 1)
    have e : ((List.range n).map ((fun i => V.int (a + (i : Nat))) ∘ Nat.succ)) = (List.range n).map fun i => V.int (a + 1 + (i : Nat)) := by
      refine List.map_congr_left fun i _ => ?_
      show V.int (a + ((i + 1 : Nat) : Int)) = _
      congr 1
      push_cast
      omega
    rw [e]
    exact this
theorem le_lrg (g : Good X K c n G) {es : Es} {x : Expr} (h : ckE (.lrg es) c x = true) (ia : ∀ (e : E) (es' : Es) (y : Expr), es = .cons e es' → ckE e c y = true → PE X y (LE K (wpE c.T G noX e)))
    (ib : ∀ (e f : E) (es' : Es) (y : Expr), es = .cons e (.cons f es') → ckE f c y = true → PE X y (LE K (wpE c.T G noX f))) : PE X x (LE K (wpE c.T G noX (.lrg es))) := by
  obtain ⟨nm, p1, ny, p2, args, p3, p, rfl, h1, h2, h3, h4, h5, h6, h7⟩ := ck_lrg h
  have e1 := eqb h1
  have e2 := eqb h3
  subst e1 e2
  have hm1 : X.mg "list" = none := g.bi _ (by decide)
  have hm2 : X.mg "range" = none := g.bi _ (by decide)
  match args, h5, h6, h7 with
  | [y], h5, _, _ =>
    obtain ⟨e, rfl, hy⟩ := es_one h5
    refine PE.imp (pe_listRg g.calm (g.gl h2) hm1 (prg_1 (g.gl h4) hm2 (ia e _ y rfl hy) (ck_star hy))) fun σ H Q ⟨W, S, env, q, rl, er, w, ok⟩ => ?_
    simp only [wpE, wpEs] at w
    refine ⟨W, S, env, _, rl, er, w, fun W1 S1 H1 dx x e1 r1 p1 w1 => ?_⟩
    cases p1 <;> first
      | exact w1.elim
      | skip
    rename_i j
    obtain ⟨w1, hq⟩ := (show RgOk 0 j ∧ q (.lst (rngD 0 j.toNat)) S1 from w1)
    refine ⟨j, rfl, w1, fun pp hp => ?_⟩
    have r0 : Reps K W1 H1 (rngD 0 j.toNat) (rgV 0 j) := by
      unfold rgV
      rw [show (j - 0).toNat = j.toNat by rw [Int.sub_zero]]
      exact rngD_rgV _ _
    exact Out.lst (S := S1) (fun W' H' v' e' r' p' => ok W' S1 H' _ v' (e1.trans e') r' p' hq) r1 r0 pp hp
  | [y, z], h5, _, _ =>
    obtain ⟨e, f, rfl, hy, hz⟩ := es_two h5
    refine PE.imp (pe_listRg g.calm (g.gl h2) hm1 (prg_2 (g.gl h4) hm2 (ia e _ y rfl hy) (ib e f _ z rfl hz) (ck_star hy) (ck_star hz) (by rw [ck_star hz]; rfl))) fun σ H Q ⟨W, S, env, q, rl, er, w, ok⟩ => ?_
    simp only [wpE, wpEs] at w
    refine ⟨W, S, env, _, rl, er, w, fun W1 S1 H1 dx x e1 r1 p1 w1 => ?_⟩
    refine ⟨W1, S1, env, _, r1, er.keep (e1.keep rl), w1, fun W2 S2 H2 dy y' e2 r2 p2 w2 => ?_⟩
    cases p1 <;> first
      | exact w2.elim
      | (cases p2 <;> first
          | exact w2.elim
          | skip)
    rename_i i j
    obtain ⟨w2, hq⟩ := (show RgOk i j ∧ q (.lst (rngD i (j - i).toNat)) S2 from w2)
    refine ⟨i, j, rfl, rfl, w2, fun pp hp => ?_⟩
    exact Out.lst (S := S2) (fun W' H' v' e' r' p' => ok W' S2 H' _ v' ((e1.trans e2).trans e') r' p' hq) r2 (rngD_rgV _ _) pp hp
theorem le_mlrg (g : Good X K c n G) {es : Es} {x : Expr} (h : ckE (.mlrg es) c x = true) (ia : ∀ (e : E) (es' : Es) (y : Expr), es = .cons e es' → ckE e c y = true → PE X y (LE K (wpE c.T G noX e)))
    (ib : ∀ (e f : E) (es' : Es) (y : Expr), es = .cons e (.cons f es') → ckE f c y = true → PE X y (LE K (wpE c.T G noX f))) : PE X x (LE K (wpE c.T G noX (.mlrg es))) := by
  obtain ⟨nm, p1, ny, p2, args, p3, p, rfl, h1, h2, h3, h4, h5, h6, h7⟩ := ck_mlrg h
  have e1 := eqb h1
  have e2 := eqb h3
  subst e1 e2
  have hm1 : X.mg "list" = none := g.bi _ (by decide)
  have hm2 : X.mg "range" = none := g.bi _ (by decide)
  match args, h5, h6, h7 with
  | [y], h5, _, _ =>
    obtain ⟨e, rfl, hy⟩ := es_one h5
    refine PE.imp (pe_listRg g.calm (g.gl h2) hm1 (prg_1 (g.gl h4) hm2 (ia e _ y rfl hy) (ck_star hy))) fun σ H Q ⟨W, S, env, q, rl, er, w, ok⟩ => ?_
    simp only [wpE, wpEs] at w
    refine ⟨W, S, env, _, rl, er, w, fun W1 S1 H1 dx x e1 r1 p1 w1 => ?_⟩
    cases p1 <;> first
      | exact w1.elim
      | skip
    rename_i j
    obtain ⟨w1, hq⟩ := (show RgOk 0 j ∧ (∀ n, S1 n = none → q (.loc n) (put S1 n (.lst (rngD 0 j.toNat)))) from w1)
    refine ⟨j, rfl, w1, fun pp hp => ?_⟩
    have r0 : Reps K W1 H1 (rngD 0 j.toNat) (rgV 0 j) := by
      unfold rgV
      rw [show (j - 0).toNat = j.toNat by rw [Int.sub_zero]]
      exact rngD_rgV _ _
    exact Out.mls (S := S1) (fun n hn W' H' v' e' r' p' => ok W' _ H' _ v' (e1.trans e') r' p' (hq n hn)) r1 r0 pp hp
  | [y, z], h5, _, _ =>
    obtain ⟨e, f, rfl, hy, hz⟩ := es_two h5
    refine PE.imp (pe_listRg g.calm (g.gl h2) hm1 (prg_2 (g.gl h4) hm2 (ia e _ y rfl hy) (ib e f _ z rfl hz) (ck_star hy) (ck_star hz) (by rw [ck_star hz]; rfl))) fun σ H Q ⟨W, S, env, q, rl, er, w, ok⟩ => ?_
    simp only [wpE, wpEs] at w
    refine ⟨W, S, env, _, rl, er, w, fun W1 S1 H1 dx x e1 r1 p1 w1 => ?_⟩
    refine ⟨W1, S1, env, _, r1, er.keep (e1.keep rl), w1, fun W2 S2 H2 dy y' e2 r2 p2 w2 => ?_⟩
    cases p1 <;> first
      | exact w2.elim
      | (cases p2 <;> first
          | exact w2.elim
          | skip)
    rename_i i j
    obtain ⟨w2, hq⟩ := (show RgOk i j ∧ (∀ n, S2 n = none → q (.loc n) (put S2 n (.lst (rngD i (j - i).toNat)))) from w2)
    refine ⟨i, j, rfl, rfl, w2, fun pp hp => ?_⟩
    exact Out.mls (S := S2) (fun n hn W' H' v' e' r' p' => ok W' _ H' _ v' ((e1.trans e2).trans e') r' p' (hq n hn)) r2 (rngD_rgV _ _) pp hp
theorem pe_kget {o e : Expr} {td ty : TE} {apos cpos : Pos} (ho : PE X o td) (he : PE X e ty) (m : M1 X o "get" apos e cpos) : PE X (.Call (.Attribute o "get" apos) [e] [] cpos)
    (fun σ H Q => td σ H fun x H1 => ∃ a es n, x = .ref a ∧ KDict X.K X.w a es n ∧ ty σ H1 fun y H2 => ∃ z r v0, y = .str z ∧ PySem.W.nsIn X.K a z = some r ∧ L2.RelV v0 (r.getD .none) ∧ Q v0 H2) := by
  refine ⟨fun pins s σ H Q I h => ?_⟩
  refine wpAny_Call_method m.base m.few m.line PySem.F.plainAttrs_dict PySem.F.slot_dict_get PySem.F.type_dict_get (thn (ho.run pins s σ H _ I h) fun u s1 ⟨x, H1, I1, rx, a, es, n, ex, D, q1⟩ => ?_)
  subst ex
  obtain rfl : u = Value.ref a := rx
  refine ⟨kd_type D I1, fun b q => ?_, ?_⟩
  · cases q
    exact ⟨_, I1.kIn _ _ D.at_, rfl⟩
  rw [m.trees]
  refine Calls.callWith_builtin rfl (Calls.evalArgs_plain (Calls.spliced_cons (thn (he.run pins s1 σ H1 _ I1 q1) fun iv s2 ⟨y, H2, I2, ry, z, r, v0, ey, hr, rv0, q2⟩ => Calls.spliced_nil ?_)))
  subst ey
  obtain ⟨t, rfl⟩ := (show ∃ t, iv = Value.str z t from ry)
  have mo := PySem.W.mapOf_K (prog := X.prog) (w := X.w) I2.kIn D.at_ D.lit
  refine call_meetsIn PySem.F.slot_dict_get mo.typeIs PySem.F.entry_dict_get (PySem.F.args_dict_get_2 _ _) (meets_dict_get (strKind X.prog X.w) a (PySem.strKind_is X.prog X.w z t) D.low) ⟨_, mo, ?_⟩
  rw [PySem.W.find_K D.at_ hr]
  exact ⟨v0, H2, I2.tok _, rv0, q2⟩
theorem le_kget (g : Good X K c n G) {o k : E} {x : Expr} (h : ckE (.kget o k) c x = true) (io : ∀ y, ckE o c y = true → PE X y (LE K (wpE c.T G noX o))) (ik : ∀ y, ckE k c y = true → PE X y (LE K (wpE c.T G noX k))) :
    PE X x (LE K (wpE c.T G noX (.kget o k))) := by
  obtain ⟨v, nm, ap, y, p, rfl, h1, h2, h3, h4, h5⟩ := ck_kget h
  have e1 := eqb h1
  subst e1
  refine PE.imp (pe_kget (io v h3) (ik y h4) ⟨ab_of h5, by rw [ck_star h4]; rfl, h2, by rw [ck_star h4]; rfl⟩) fun σ H Q ⟨W, S, env, q, rl, er, w, ok⟩ => ?_
  simp only [wpE] at w
  refine ⟨W, S, env, _, rl, er, w, fun W1 S1 H1 dx x e1 r1 p1 w1 => ?_⟩
  obtain ⟨ks, vs, rfl, w1⟩ := w1
  cases p1 with
  | @kd a _ _ hk =>
    obtain ⟨es, m, D⟩ := hk.at_
    have D' : KDict X.K X.w a es m := by rw [g.hK, g.hW]; exact D
    refine ⟨a, es, m, rfl, D', W1, S1, env, _, r1, er.keep (e1.keep rl), w1, fun W2 S2 H2 dy y e2 r2 p2 w2 => ?_⟩
    obtain ⟨z, rfl, hq⟩ := w2
    cases p2
    cases cl : (ks.zip vs).lookup z with
    | none =>
      rw [cl] at hq
      exact ⟨z, none, .non, rfl, by rw [g.hK]; exact hk.no z cl, rfl, ok _ _ _ _ _ (e1.trans e2) r2 .non hq⟩
    | some d =>
      rw [cl] at hq
      obtain ⟨u, z1, z2⟩ := hk.yes z d cl
      obtain ⟨v0, z3, z4⟩ := relD_ok _ u z2
      exact ⟨z, some u, v0, rfl, by rw [g.hK]; exact z1, z3, ok _ _ _ _ _ (e1.trans e2) r2 (z4 _ _) hq⟩
end
end Mi
set_option maxHeartbeats 4000000
/-! Mi16: the small language is right: every expression. -/
namespace Mi
open PySem PySem.Spec PyProof.Rows L2

def SE (e : E) : Prop := ∀ {X : Cx} {K : Frg} {c : SC} {n : Nat} {G : GT} {x : Expr}, Good X K c n G → ckE e c x = true →
  PE X x (LE K (wpE c.T G noX e)) ∧ PT X x (LT K (wpT c.T G noX e)) ∧ ∀ op l p, x = .BoolOp op l p → PW X x (LT K (wpT c.T G noX e))
def AllE (P : E → Prop) : Es → Prop
  | .nil => True
  | .cons e es => P e ∧ AllE P es
def SI (it : It) : Prop := ∀ {X : Cx} {K : Frg} {c : SC} {n : Nat} {G : GT} {tg x : Expr}, Good X K c n G → ckI it c tg x = true → PI X tg x (LI K (wpI c.T G noX it)) ∧ notSet x = true
def plainT : Expr → Bool
  | .BoolOp .. => false
  | .Compare .. => false
  | .UnaryOp .Not _ _ => false
  | .IfExp .. => false
  | .NamedExpr .. => false
  | _ => true
theorem isTrue_plain {x : Expr} (h : plainT x = true) (env : PySem.Env) : ∀ whole, isTrue x env whole = (do let v ← whole; standAt x.pos; holding [v] (truthy v)) := by
  intro whole
  cases x <;> first
    | rfl
    | (simp [plainT] at h; done)
    | (rename_i op _ _; cases op <;> first | rfl | (simp [plainT] at h; done))
theorem plain_bool {op : BoolOp} {l : List Expr} {p : Pos} (h : plainT (.BoolOp op l p) = true) : False := by simp [plainT] at h
/-- what is no test of its own -/
theorem se_plain {e : E} (hp : ∀ {c : SC} {x : Expr}, ckE e c x = true → plainT x = true) (h : ∀ {X : Cx} {K : Frg} {c : SC} {n : Nat} {G : GT} {x : Expr}, Good X K c n G → ckE e c x = true → PE X x (LE K (wpE c.T G noX e))) : SE e := by
  intro X K c n G x g hc
  refine ⟨h g hc, lt_truth g (h g hc) (isTrue_plain (hp hc) _), fun op l p ex => ?_⟩
  subst ex
  exact (plain_bool (hp hc)).elim
/-- a test that is no and, no or -/
theorem se_test {e : E} (hp : ∀ {c : SC} {x : Expr} {op : BoolOp} {l : List Expr} {p : Pos}, ckE e c x = true → x = .BoolOp op l p → False) (h : ∀ {X : Cx} {K : Frg} {c : SC} {n : Nat} {G : GT} {x : Expr}, Good X K c n G → ckE e c x = true → PE X x (LE K (wpE c.T G noX e)) ∧ PT X x (LT K (wpT c.T G noX e))) : SE e := by
  intro X K c n G x g hc
  exact ⟨(h g hc).1, (h g hc).2, fun op l p ex => (hp hc ex).elim⟩

section
variable {X : Cx} {K : Frg} {c : SC} {n : Nat} {G : GT}
theorem es_pa (g : Good X K c n G) : ∀ {es : Es}, AllE SE es → ∀ xs, ckEs es c xs = true → PA X xs (LA K (wpEs c.T G noX es))
  | .nil, _, [], _ => la_nil
  | .nil, _, _ :: _, h => by simp [ckEs] at h
  | .cons e es, _, [], h => by simp [ckEs] at h
  | .cons e es, ⟨ie, is⟩, x :: xs, h => by
    simp only [ckEs, Bool.and_eq_true] at h
    exact la_cons h.1 (ie g h.1).1 (es_pa g is xs h.2)
theorem es_po (g : Good X K c n G) : ∀ {es : Es}, AllE SE es → ∀ o, ckO es c o = true → PO X o (LO K (wpO c.T G es))
  | .nil, _, none, _ => lo_nil
  | .nil, _, some _, h => by simp [ckO] at h
  | .cons e .nil, ⟨ie, _⟩, some x, h => by
    simp only [ckO] at h
    exact lo_one (ie g h).1
  | .cons e .nil, _, none, h => by simp [ckO] at h
  | .cons e (.cons _ _), _, o, h => by cases o <;> simp [ckO] at h
theorem es_dp (g : Good X K c n G) : ∀ {es : Es}, AllE SE es → ∀ {ks : List Key} {keys vals}, keysE ks keys = true → ckEs es c vals = true → keys.length = vals.length → DP X K c G es ks keys vals
  | .nil, _, ks, keys, vals, hk, h, hl => by
    cases vals with
    | cons _ _ => simp [ckEs] at h
    | nil =>
      cases keys with
      | cons _ _ => cases hl
      | nil => cases ks with
        | nil => exact dp_nil
        | cons _ _ => simp [keysE] at hk
  | .cons e es, ⟨ie, is⟩, ks, keys, vals, hk, h, hl => by
    cases vals with
    | nil => simp [ckEs] at h
    | cons y vals =>
      simp only [ckEs, Bool.and_eq_true] at h
      cases ks with
      | nil => cases keys with
        | nil => cases hl
        | cons _ _ => simp [keysE] at hk
      | cons k ks =>
        match keys, hk, hl with
        | some ye :: keys, hk, hl =>
          simp only [keysE, Bool.and_eq_true] at hk
          exact dp_cons hk.1 (ie g h.1).1 (es_dp g is hk.2 h.2 (by simpa using hl))
        | none :: _, hk, _ => simp [keysE] at hk
        | [], hk, _ => simp [keysE] at hk
theorem es_conds (g : Good X K c n G) {d : Es} (id : AllE SE d) : ∀ (e : E) (y : Expr), d = .cons e .nil → ckE e c y = true → PT X y (LT K (wpT c.T G noX e)) := fun e y q h => by
  subst q
  exact (id.1 g h).2.1
end

theorem se_var (i : Nat) : SE (.var i) := se_plain (fun h => by obtain ⟨_, _, rfl, _⟩ := ck_var h; rfl) fun g h => le_var g h
theorem se_int (i : Int) : SE (.int i) := se_plain (fun h => by obtain ⟨_, _, _, rfl, _⟩ := ck_int h; rfl) fun g h => by
  obtain ⟨_, _, _, rfl, e⟩ := ck_int h
  rw [← eqb e]
  exact le_lit pe_int (fun _ _ => .int i) fun env S q w => by simpa only [wpE] using w
theorem se_str (x : Str) : SE (.str x) := se_plain (fun h => by obtain ⟨_, _, _, rfl, _⟩ := ck_str h; rfl) fun g h => by
  obtain ⟨_, _, _, rfl, e⟩ := ck_str h
  rw [← eqb e]
  exact le_lit pe_str (fun _ _ => .str x) fun env S q w => by simpa only [wpE] using w
theorem se_bl (b : Bool) : SE (.bl b) := se_plain (fun h => by obtain ⟨_, _, _, rfl, _⟩ := ck_bl h; rfl) fun g h => by
  obtain ⟨_, _, _, rfl, e⟩ := ck_bl h
  rw [← eqb e]
  exact le_lit pe_bl (fun _ _ => .bl b) fun env S q w => by simpa only [wpE] using w
theorem se_non : SE .non := se_plain (fun h => by obtain ⟨_, _, rfl⟩ := ck_non h; rfl) fun g h => by
  obtain ⟨_, _, rfl⟩ := ck_non h
  exact le_lit pe_non (fun _ _ => .non) fun env S q w => by simpa only [wpE] using w
theorem se_cst (i : Nat) : SE (.cst i) := se_plain (fun h => by obtain ⟨_, _, rfl, _⟩ := ck_cst h; rfl) fun g h => le_cst g h
theorem se_tup (es : Es) (is : AllE SE es) : SE (.tup es) := se_plain (fun h => by obtain ⟨_, _, _, rfl, _⟩ := ck_tup h; rfl) fun g h => le_tup g h (es_pa g is)
theorem se_lst (es : Es) (is : AllE SE es) : SE (.lst es) := se_plain (fun h => by obtain ⟨_, _, rfl, _⟩ := ck_lst h; rfl) fun g h => le_lst g h (es_pa g is)
theorem se_mls (es : Es) (is : AllE SE es) : SE (.mls es) := se_plain (fun h => by obtain ⟨_, _, rfl, _⟩ := ck_mls h; rfl) fun g h => le_mls g h (es_pa g is)
theorem se_dic (ks : List Key) (es : Es) (is : AllE SE es) : SE (.dic ks es) := se_plain (fun h => by obtain ⟨_, _, _, rfl, _⟩ := ck_dic h; rfl) fun g h => le_dic g h fun keys vals a b d => es_dp g is a b d
theorem se_bin (o : Op) (a b : E) (ia : SE a) (ib : SE b) : SE (.bin o a b) := se_plain (fun h => by obtain ⟨_, _, _, _, rfl, _⟩ := ck_bin h; rfl) fun g h => le_bin g h (fun y h => (ia g h).1) fun y h => (ib g h).1
theorem se_mad (a b : E) (ia : SE a) (ib : SE b) : SE (.mad a b) := se_plain (fun h => by obtain ⟨_, _, _, _, rfl, _⟩ := ck_mad h; rfl) fun g h => le_mad g h (fun y h => (ia g h).1) fun y h => (ib g h).1
theorem se_cmp (o : Cp) (a b : E) (ia : SE a) (ib : SE b) : SE (.cmp o a b) := se_test (fun h e => by obtain ⟨_, _, _, _, rfl, _⟩ := ck_cmp h; cases e) fun g h => ⟨le_cmp g h (fun y h => (ia g h).1) fun y h => (ib g h).1, lt_cmp g h (fun y h => (ia g h).1) fun y h => (ib g h).1⟩
theorem se_chn (o p : Cp) (a b d : E) (ia : SE a) (ib : SE b) (id : SE d) : SE (.chn o p a b d) := se_test (fun h e => by obtain ⟨_, _, _, _, _, _, rfl, _⟩ := ck_chn h; cases e) fun g h =>
  ⟨le_chn g h (fun y h => (ia g h).1) (fun y h => (ib g h).1) fun y h => (id g h).1, lt_chn g h (fun y h => (ia g h).1) (fun y h => (ib g h).1) fun y h => (id g h).1⟩
theorem se_and (a b : E) (ia : SE a) (ib : SE b) : SE (.and a b) := by
  intro X K c n G x g h
  obtain ⟨y, z, rest, p, rfl, h1, h2⟩ := ck_and h
  have hz : PE X (.BoolOp .And (z :: rest) p) (LE K (wpE c.T G noX b)) ∧ PW X (.BoolOp .And (z :: rest) p) (LT K (wpT c.T G noX b)) := by
    cases rest with
    | nil => exact ⟨pe_one (ib g h2).1, pw_and1 (ib g h2).2.1⟩
    | cons r rest => exact ⟨(ib g h2).1, (ib g h2).2.2 _ _ _ rfl⟩
  have hw := lt_and (ia g h1).2.1 hz.2
  exact ⟨(le_andor g (ia g h1).1).1 hz.1, hw.pt, fun _ _ _ _ => hw⟩
theorem se_or (a b : E) (ia : SE a) (ib : SE b) : SE (.or a b) := by
  intro X K c n G x g h
  obtain ⟨y, z, rest, p, rfl, h1, h2⟩ := ck_or h
  have hz : PE X (.BoolOp .Or (z :: rest) p) (LE K (wpE c.T G noX b)) ∧ PW X (.BoolOp .Or (z :: rest) p) (LT K (wpT c.T G noX b)) := by
    cases rest with
    | nil => exact ⟨pe_one (ib g h2).1, pw_or1 (ib g h2).2.1⟩
    | cons r rest => exact ⟨(ib g h2).1, (ib g h2).2.2 _ _ _ rfl⟩
  have hw := lt_or (ia g h1).2.1 hz.2
  exact ⟨(le_andor g (ia g h1).1).2 hz.1, hw.pt, fun _ _ _ _ => hw⟩
theorem se_not (a : E) (ia : SE a) : SE (.not a) := se_test (fun h e => by obtain ⟨_, _, rfl, _⟩ := ck_not h; cases e) fun g h => ⟨le_not g h fun y h => (ia g h).1, by
  obtain ⟨_, _, rfl, h1⟩ := ck_not h
  exact lt_not g (ia g h1).2.1⟩
theorem se_neg (a : E) (ia : SE a) : SE (.neg a) := se_plain (fun h => by obtain ⟨_, _, rfl, _⟩ := ck_neg h; rfl) fun g h => le_neg g h fun y h => (ia g h).1
theorem se_ife (t a b : E) (it : SE t) (ia : SE a) (ib : SE b) : SE (.ife t a b) := se_test (fun h e => by obtain ⟨_, _, _, _, rfl, _⟩ := ck_ife h; cases e) fun g h =>
  ⟨le_ife g h (fun y h => (it g h).2.1) (fun y h => (ia g h).1) fun y h => (ib g h).1, lt_ife g h (fun y h => (it g h).2.1) (fun y h => (ia g h).2.1) fun y h => (ib g h).2.1⟩
theorem se_ix (a b : E) (ia : SE a) (ib : SE b) : SE (.ix a b) := se_plain (fun h => by obtain ⟨_, _, _, rfl, _⟩ := ck_ix h; rfl) fun g h => le_ix g h (fun y h => (ia g h).1) fun y h => (ib g h).1
theorem se_sl (a : E) (lo hi : Es) (ia : SE a) (il : AllE SE lo) (ih : AllE SE hi) : SE (.sl a lo hi) := se_plain (fun h => by obtain ⟨_, _, _, _, _, rfl, _⟩ := ck_sl h; rfl) fun g h => le_sl g h (fun y h => (ia g h).1) (es_po g il) (es_po g ih)
theorem se_rev (a : E) (ia : SE a) : SE (.rev a) := se_plain (fun h => by obtain ⟨_, _, _, _, _, _, rfl, _⟩ := ck_rev h; rfl) fun g h => le_rev g h fun y h => (ia g h).1
theorem se_call (f : Nat) (es : Es) (is : AllE SE es) : SE (.call f es) := se_plain (fun h => by obtain ⟨_, _, _, _, rfl, _⟩ := ck_call h; rfl) fun g h => le_call g h (es_pa g is)
theorem se_bif (b : Bi) (es : Es) (is : AllE SE es) : SE (.bif b es) := se_plain (fun h => by obtain ⟨_, _, _, _, _, rfl, _⟩ := ck_bif h; rfl) fun g h => le_bif g h (es_pa g is)
theorem se_isi (a : E) (t : Nat) (ia : SE a) : SE (.isi a t) := se_plain (fun h => by obtain ⟨_, _, _, _, _, _, rfl, _⟩ := ck_isi h; rfl) fun g h => le_isi g h fun y h => (ia g h).1
theorem se_mli (a : E) (ia : SE a) : SE (.mli a) := se_plain (fun h => by obtain ⟨_, _, _, _, rfl, _⟩ := ck_mli h; rfl) fun g h => le_mli g h fun y h => (ia g h).1
theorem se_meth (m : Mt) (o : E) (es : Es) (io : SE o) (is : AllE SE es) : SE (.meth m o es) := se_plain (fun h => by obtain ⟨_, _, _, _, _, rfl, _⟩ := ck_meth h; rfl) fun g h =>
  le_meth g h (fun y h => (io g h).1) (fun e y q h' => by subst q; exact (is.1 g h').1) fun e f y q => by subst q; exact ⟨fun h' => (is.1 g h').1, fun h' => (is.2.1 g h').1⟩
theorem se_fld (o : E) (f : Str) (io : SE o) : SE (.fld o f) := se_plain (fun h => by obtain ⟨_, _, _, rfl, _⟩ := ck_fld h; rfl) fun g h => le_fld g h fun y h => (io g h).1
theorem se_mth (m : Nat) (o : E) (es : Es) (io : SE o) (is : AllE SE es) : SE (.mth m o es) := se_plain (fun h => by obtain ⟨_, _, _, _, _, rfl, _⟩ := ck_mth h; rfl) fun g h => le_mth g h (fun y h => (io g h).1) (es_pa g is)
theorem se_mk (c : Nat) (es : Es) (is : AllE SE es) : SE (.mk c es) := se_plain (fun h => by obtain ⟨_, _, _, _, rfl, _⟩ := ck_mk h; rfl) fun g h => le_mk g h (es_pa g is)
theorem se_lc (e : E) (t : Tg) (it : It) (d : Es) (own : List Nat) (ie : SE e) (ii : SI it) (id : AllE SE d) : SE (.lc e t it d own) := se_plain (fun h => by obtain ⟨_, _, _, _, _, _, rfl, _⟩ := ck_lc h; rfl) fun g h => by
  obtain ⟨y, tg, iter, ifs, scope, p, rfl, h1, h2, h3, h4, h5, h6, h7⟩ := ck_lc h
  obtain ⟨a, _, ho, _⟩ := le_lcs (p := p) g h2 h7 (ii g h1).1 (ii g h1).2 (fun X' g' => lg_tg g' h3) (fun X' g' => lt_conds g' h5 h6 (es_conds g' id)) fun X' g' => (ie g' h4).1
  exact PE.imp a (lc_all g ho false)
theorem se_mlc (e : E) (t : Tg) (it : It) (d : Es) (own : List Nat) (ie : SE e) (ii : SI it) (id : AllE SE d) : SE (.mlc e t it d own) := se_plain (fun h => by obtain ⟨_, _, _, _, _, _, rfl, _⟩ := ck_mlc h; rfl) fun g h => by
  obtain ⟨y, tg, iter, ifs, scope, p, rfl, h1, h2, h3, h4, h5, h6, h7⟩ := ck_mlc h
  obtain ⟨a, _, ho, _⟩ := le_lcs (p := p) g h2 h7 (ii g h1).1 (ii g h1).2 (fun X' g' => lg_tg g' h3) (fun X' g' => lt_conds g' h5 h6 (es_conds g' id)) fun X' g' => (ie g' h4).1
  exact PE.imp a (lc_all g ho true)
theorem se_fz (a : E) (ia : SE a) : SE (.fz a) := se_plain (fun {c x} h => by
    simp only [ckE, Bool.and_eq_true] at h
    cases x <;> first | rfl | (simp [fzOk] at h; done)) fun g h => le_fz g (ia g (by simp only [ckE, Bool.and_eq_true] at h; exact h.2)).1
theorem se_chn3 (o p r : Cp) (a b d e : E) (ia : SE a) (ib : SE b) (id : SE d) (ie : SE e) : SE (.chn3 o p r a b d e) := se_test (fun h e => by obtain ⟨_, _, _, _, _, _, _, _, rfl, _⟩ := ck_chn3 h; cases e) fun g h =>
  le_chn3 g h (fun y h => (ia g h).1) (fun y h => (ib g h).1) (fun y h => (id g h).1) fun y h => (ie g h).1
theorem se_mdc (a : E) (ia : SE a) : SE (.mdc a) := se_plain (fun h => by obtain ⟨_, _, _, _, rfl, _⟩ := ck_mdc h; rfl) fun g h => le_mdc g h fun y h => (ia g h).1
theorem se_den (a : E) (ia : SE a) : SE (.den a) := se_plain (fun h => by obtain ⟨_, _, _, _, _, _, _, rfl, _⟩ := ck_den h; rfl) fun g h => le_den g h fun y h => (ia g h).1
theorem se_srs (a : E) (ia : SE a) : SE (.srs a) := se_plain (fun h => by obtain ⟨_, _, _, _, _, _, _, rfl, _⟩ := ck_srs h; rfl) fun g h => le_srs g h fun y h => (ia g h).1
theorem se_lrg (es : Es) (is : AllE SE es) : SE (.lrg es) := se_plain (fun h => by obtain ⟨_, _, _, _, _, _, _, rfl, _⟩ := ck_lrg h; rfl) fun g h =>
  le_lrg g h (fun e es' y q h' => by subst q; exact (is.1 g h').1) fun e f es' y q h' => by subst q; exact (is.2.1 g h').1
theorem se_mlrg (es : Es) (is : AllE SE es) : SE (.mlrg es) := se_plain (fun h => by obtain ⟨_, _, _, _, _, _, _, rfl, _⟩ := ck_mlrg h; rfl) fun g h =>
  le_mlrg g h (fun e es' y q h' => by subst q; exact (is.1 g h').1) fun e f es' y q h' => by subst q; exact (is.2.1 g h').1
theorem se_kget (o k : E) (io : SE o) (ik : SE k) : SE (.kget o k) := se_plain (fun h => by obtain ⟨_, _, _, _, _, rfl, _⟩ := ck_kget h; rfl) fun g h => le_kget g h (fun y h => (io g h).1) fun y h => (ik g h).1
theorem si_seq (e : E) (ie : SE e) : SI (.seq e) := fun g h => by
  simp only [ckI, Bool.and_eq_true] at h
  exact ⟨li_seq g (ie g h.1).1, h.2⟩
theorem si_rng (es : Es) (is : AllE SE es) : SI (.rng es) := fun {X K c n G tg x} g h => ⟨li_rng g h (es_pa g is), by
  unfold ckI at h
  split at h
  all_goals first | (exact absurd h Bool.false_ne_true) | (cases (‹It.rng es = _›))
  rfl⟩
theorem si_enm (e : E) (ie : SE e) : SI (.enm e) := fun {X K c n G tg x} g h => ⟨li_enm g h fun y h => (ie g h).1, by
  obtain ⟨_, _, _, _, _, _, rfl, rfl, _⟩ := ck_enm h
  rfl⟩
theorem si_zip (a b : E) (ia : SE a) (ib : SE b) : SI (.zip a b) := fun g h => by simp [ckI] at h
theorem si_rvs (e : E) (ie : SE e) : SI (.rvs e) := fun {X K c n G tg x} g h => ⟨li_rvs g h fun y h => (ie g h).1, by
  obtain ⟨_, _, _, rfl, _⟩ := ck_rvs h
  rfl⟩
theorem sE (e : E) : SE e := by
  induction e using E.rec (motive_2 := AllE SE) (motive_3 := SI) with
  | var i => exact se_var i
  | int i => exact se_int i
  | str i => exact se_str i
  | bl i => exact se_bl i
  | non => exact se_non
  | cst i => exact se_cst i
  | tup es is => exact se_tup es is
  | lst es is => exact se_lst es is
  | mls es is => exact se_mls es is
  | dic ks es is => exact se_dic ks es is
  | bin o a b ia ib => exact se_bin o a b ia ib
  | cmp o a b ia ib => exact se_cmp o a b ia ib
  | chn o p a b d ia ib id => exact se_chn o p a b d ia ib id
  | and a b ia ib => exact se_and a b ia ib
  | or a b ia ib => exact se_or a b ia ib
  | not a ia => exact se_not a ia
  | neg a ia => exact se_neg a ia
  | ife t a b it ia ib => exact se_ife t a b it ia ib
  | ix a b ia ib => exact se_ix a b ia ib
  | sl a lo hi ia il ih => exact se_sl a lo hi ia il ih
  | rev a ia => exact se_rev a ia
  | call f es is => exact se_call f es is
  | «bif» b es is => exact se_bif b es is
  | isi a t ia => exact se_isi a t ia
  | mli a ia => exact se_mli a ia
  | mad a b ia ib => exact se_mad a b ia ib
  | meth m o es io is => exact se_meth m o es io is
  | fld o f io => exact se_fld o f io
  | mth m o es io is => exact se_mth m o es io is
  | mk c es is => exact se_mk c es is
  | lc e t it d own ie ii id => exact se_lc e t it d own ie ii id
  | mlc e t it d own ie ii id => exact se_mlc e t it d own ie ii id
  | fz a ia => exact se_fz a ia
  | chn3 o p r a b d e ia ib id ie => exact se_chn3 o p r a b d e ia ib id ie
  | mdc a ia => exact se_mdc a ia
  | den a ia => exact se_den a ia
  | srs a ia => exact se_srs a ia
  | lrg es is => exact se_lrg es is
  | mlrg es is => exact se_mlrg es is
  | kget o k io ik => exact se_kget o k io ik
  | nil => exact True.intro
  | cons e es ie is => exact ⟨ie, is⟩
  | seq e ie => exact si_seq e ie
  | rng es is => exact si_rng es is
  | enm e ie => exact si_enm e ie
  | zip a b ia ib => exact si_zip a b ia ib
  | rvs e ie => exact si_rvs e ie
theorem sAll : ∀ es : Es, AllE SE es
  | .nil => True.intro
  | .cons e es => ⟨sE e, sAll es⟩
theorem sI : ∀ it : It, SI it
  | .seq e => si_seq e (sE e)
  | .rng es => si_rng es (sAll es)
  | .enm e => si_enm e (sE e)
  | .zip a b => si_zip a b (sE a) (sE b)
  | .rvs e => si_rvs e (sE e)
end Mi
set_option maxHeartbeats 4000000
/-! Mi17: the small language is right: statements. -/
namespace Mi
open PySem PySem.Spec PyProof.Rows L2

/-- a statement's reading -/
structure LSat (K : Frg) (W : Wd) (S : Sto) (H : Hp) (k : En) (D : Ends) : Prop where
  nx : ∀ W' S' H' env' σ', Ext W S H W' S' H' → Rel K W' S' H' → EnvR K W' H' env' σ' → k.nx env' S' → D.nx σ' H'
  bk : ∀ W' S' H' env' σ', Ext W S H W' S' H' → Rel K W' S' H' → EnvR K W' H' env' σ' → k.bk env' S' → D.bk σ' H'
  ct : ∀ W' S' H' env' σ', Ext W S H W' S' H' → Rel K W' S' H' → EnvR K W' H' env' σ' → k.ct env' S' → D.ct σ' H'
  rt : ∀ W' S' H' d v, Ext W S H W' S' H' → Rel K W' S' H' → Rep K W' H' d v → k.rt d S' → D.rt v H'
theorem LSat.ext {K : Frg} {W W1 : Wd} {S S1 : Sto} {H H1 : Hp} {k : En} {D : Ends} (l : LSat K W S H k D) (e : Ext W S H W1 S1 H1) : LSat K W1 S1 H1 k D :=
  ⟨fun _ _ _ _ _ x => l.nx _ _ _ _ _ (e.trans x), fun _ _ _ _ _ x => l.bk _ _ _ _ _ (e.trans x), fun _ _ _ _ _ x => l.ct _ _ _ _ _ (e.trans x), fun _ _ _ _ _ x => l.rt _ _ _ _ _ (e.trans x)⟩
def LS (K : Frg) (t : En → Env → Sto → Prop) : TS := fun D σ H => ∃ W S env k, Rel K W S H ∧ EnvR K W H env σ ∧ t k env S ∧ LSat K W S H k D

theorem PS.imp {X : Cx} {st : Stmt} {t t' : TS} (h : PS X st t) (i : ∀ D σ H, t' D σ H → t D σ H) : PS X st t' := ⟨fun pins s σ H D I q => h.run pins s σ H D I (i D σ H q)⟩
theorem PSs.imp {X : Cx} {st : List Stmt} {t t' : TS} (h : PSs X st t) (i : ∀ D σ H, t' D σ H → t D σ H) : PSs X st t' := ⟨fun pins s σ H D I q => h.run pins s σ H D I (i D σ H q)⟩

section
variable {X : Cx} {K : Frg} {c : SC} {n : Nat} {G : GT}
theorem sw_none {v : Expr} (h : isComp v = false) (t : Option Expr) (l : Nat) (env : PySem.Env) : swapsWith v t l env = pure false := by
  cases v <;> first | rfl | (simp [isComp] at h; done)
theorem sw_sole {v : Expr} (h : isComp v = false) {t : Expr} {l : Nat} {env : PySem.Env} : swapsWithSole [t] v l env = pure false := sw_none h _ _ _
theorem sto_name {tg : Expr} {e : Expr} (h : isTup e = false) (env : PySem.Env) : swappedStores [tg] e env = pure none := by
  cases tg <;> first | rfl | (cases e <;> first | rfl | (simp [isTup] at h; done))
theorem set_to {te : TE} {i : Nat} {D : Ends} {σ : L2.St} {H : Hp} {e : E} {k : En} {W : Wd} {S : Sto} {env : Env} (hte : ∀ σ H Q, LE K (wpE c.T G noX e) σ H Q → te σ H Q)
    (rl : Rel K W S H) (er : EnvR K W H env σ) (w : wpS c.T G noX (.set i e) k env S) (l : LSat K W S H k D) : tAsg te (gName i) D σ H := by
  simp only [wpS] at w
  refine hte σ H _ ⟨W, S, env, _, rl, er, w, fun W1 S1 H1 dx x e1 r1 p1 w1 => ?_⟩
  exact l.nx W1 S1 H1 _ _ e1 r1 ((er.keep (e1.keep rl)).set p1) w1
theorem sw_false {c : SC} {env : PySem.Env} (hs : env.scope = c.sc) {x : Str} {p : Pos} {l : Nat} {a : Expr} {g : List Comprehension} {scope : Scope} {q : Pos} (hk : c.sc.kind = .function) (h : swaps c x p.line a g scope q = false) :
    swapsWith (.ListComp a g scope q) (some (.Name x p)) l env = pure false := by
  have hb : env.blockKind = .function := by unfold Env.blockKind; rw [hs, hk]; rfl
  have ky : env.kindOf x = c.sc.names.lookup x := by show env.scope.names.lookup x = _; rw [hs]
  unfold swapsWith
  unfold swaps at h
  simp only [hb, ky]
  simp only [Bool.and_assoc] at h ⊢
  have e0 : ((PySem.ScopeKind.function == PySem.ScopeKind.function) = true) := rfl
  first
    | (rw [e0, Bool.true_and, h]; rfl)
    | (simp only [h]; rfl)
    | (simp [h])
theorem ps_setE (g : Good X K c n G) {i : Nat} {e : E} {x : Str} {p pos : Pos} {v : Expr} (h1 : c.N[i]? = some x) (h2 : stoB c x = true) (h3 : ckE e c v = true) (h4 : (!isComp v || (c.sc.kind == .function && !isFz e)) = true) :
    PS X (.Assign [.Name x p] v pos) (LS K (wpS c.T G noX (.set i e))) := by
  obtain ⟨lo, fn⟩ := sto_of g h2
  by_cases hc : isComp v = true
  · rw [hc] at h4
    simp only [Bool.not_true, Bool.false_or, Bool.and_eq_true] at h4
    have hk : c.sc.kind = .function := eqb h4.1
    obtain ⟨a, gs, scope, q, rfl⟩ : ∃ a gs scope q, v = .ListComp a gs scope q := by
      cases e with
      | lc e t it d own => obtain ⟨y, tg, iter, ifs, scope, p, rfl, _⟩ := ck_lc h3; exact ⟨_, _, _, _, rfl⟩
      | mlc e t it d own => obtain ⟨y, tg, iter, ifs, scope, p, rfl, _⟩ := ck_mlc h3; exact ⟨_, _, _, _, rfl⟩
      | fz _ => exact absurd h4.2 (by simp [isFz])
      | _ => cases v <;> first | (simp [isComp] at hc; done) | (simp [ckE] at h3; done)
    by_cases hs : swaps c x p.line a gs scope q = true
    · have hsw : swapsWith (.ListComp a gs scope q) (some (.Name x p)) pos.line X.env = pure true := by
        unfold swaps at hs
        simp only [Bool.and_eq_true] at hs
        refine sw_true (by rw [g.sc]; exact hk) (by rw [g.sc]; exact eqb hs.1.1) hs.1.2 ?_
        simpa using hs.2
      have hyl : X.env.scope.names.lookup x = some .local := by
        unfold swaps at hs
        simp only [Bool.and_eq_true] at hs
        rw [g.sc]; exact eqb hs.1.1
      have fin : ∀ {e' : E} {t : Tg} {it : It} {d : Es} {own : List Nat} (m : Bool), e = (if m = true then E.mlc e' t it d own else E.lc e' t it d own) → (∃ y tg iter ifs, Expr.ListComp a gs scope q = .ListComp y [⟨tg, iter, ifs, 0⟩] scope q ∧ ckI it c tg iter = true ∧ blkC c.N c.sc scope (ownOf c.N own) = true ∧ ckTg (inner c scope) t tg = true ∧ ckE e' (inner c scope) y = true ∧ ckEs d (inner c scope) ifs = true ∧ ifs.length ≤ 1 ∧ (tgSlots t).all (own.contains ·) = true) →
          PS X (.Assign [.Name x p] (.ListComp a gs scope q) pos) (LS K (wpS c.T G noX (.set i e))) := by
        rintro e' t it d own m rfl ⟨y, tg, iter, ifs, ex, k1, k2, k3, k4, k5, k6, k7⟩
        cases ex
        obtain ⟨_, ok, ho, hf⟩ := le_lcs (p := q) g k2 k7 (sI it g k1).1 (sI it g k1).2 (fun X' g' => lg_tg g' k3) (fun X' g' => lt_conds g' k5 k6 (es_conds g' (sAll d))) fun X' g' => (sE e' g' k4).1
        refine PS.imp (ps_setLc g.calm (by rw [g.hN]; exact g.nd) (by rw [g.hN]; exact h1) hyl hsw (sI it g k1).1 ok (fun s H C cl fp => lg_tg (g.blk scope s H C cl fp) k3) (fun s H C cl fp => lt_conds (g.blk scope s H C cl fp) k5 k6 (es_conds (g.blk scope s H C cl fp) (sAll d))) (fun s H C cl fp => (sE e' (g.blk scope s H C cl fp) k4).1) hf) fun D σ H ⟨W, S, env, k, rl, er, w, l⟩ => ?_
        rw [own_snd]
        exact set_to (lc_all g ho m) rl er w l
      cases e with
      | lc e t it d own => obtain ⟨y, tg, iter, ifs, scope, p, ex, k⟩ := ck_lc h3; cases ex; exact fin false rfl ⟨_, tg, iter, ifs, rfl, k⟩
      | mlc e t it d own => obtain ⟨y, tg, iter, ifs, scope, p, ex, k⟩ := ck_mlc h3; cases ex; exact fin true rfl ⟨_, tg, iter, ifs, rfl, k⟩
      | fz _ => exact absurd h4.2 (by simp [isFz])
      | _ => simp [ckE] at h3
    · exact PS.imp (ps_set (by rw [g.hN]; exact g.nd) (by rw [g.hN]; exact h1) lo (sE e g h3).1 (sw_false g.sc hk (by simpa using hs)) fn) fun D σ H ⟨W, S, env, k, rl, er, w, l⟩ => set_to (fun _ _ _ z => z) rl er w l
  · exact PS.imp (ps_set (by rw [g.hN]; exact g.nd) (by rw [g.hN]; exact h1) lo (sE e g h3).1 (sw_none (by simpa using hc) _ _ _) fn) fun D σ H ⟨W, S, env, k, rl, er, w, l⟩ => set_to (fun _ _ _ z => z) rl er w l

theorem ps_setTE (g : Good X K c n G) {is : List Nat} {e : E} {tg : Expr} {pos : Pos} {v : Expr} (h1 : ckTg c (.tp is) tg = true) (h3 : ckE e c v = true) (h4 : isTup v = false) (h5 : isComp v = false) :
    PS X (.Assign [tg] v pos) (LS K (wpS c.T G noX (.setT is e))) := by
  obtain ⟨ts, k, p, rfl⟩ : ∃ ts k p, tg = .Tuple ts k p := by
    cases tg <;> first | exact ⟨_, _, _, rfl⟩ | (simp [ckTg] at h1; done)
  refine PS.imp (ps_asg (sE e g h3).1 (lg_tg g h1) (sw_sole h5) (sto_name h4 _) rfl) fun D σ H ⟨W, S, env, k, rl, er, w, l⟩ => ?_
  simp only [wpS] at w
  refine ⟨W, S, env, _, rl, er, w, fun W1 S1 H1 dx x e1 r1 p1 w1 => ?_⟩
  obtain ⟨env', hb, hn⟩ := w1
  exact ⟨W1, S1, env, dx, env', r1, er.keep (e1.keep rl), p1, hb, fun σ' er' _ _ => l.nx W1 S1 H1 env' σ' e1 r1 er' hn⟩

def rSet : TSet := fun o i v H Q => rSetL o i v H Q ∨ rSetD o i v H Q
theorem set_any (hu : X.A.units + 1 < cLine) : PSet X rSet := by
  intro pins s σ H o i v ov iv u Q I ro ri rv h
  rcases h with h | h
  · exact set_list pins s σ H o i v ov iv u Q I ro ri rv h
  · exact set_dict hu pins s σ H o i v ov iv u Q I ro ri rv h
theorem ck_asg {k : E} {b : Expr} (h : ckE k c b = true) {a : Expr} {p : Pos} {env : PySem.Env} (v : Value) : assign (.Subscript a b p) env v = (do
      let ov ← holding [v] (eval a env)
      let iv ← holding [v, ov] (eval b env)
      standAt p
      holding [v, ov, iv] (setItem ov iv v)
      release [v, ov, iv] []) := by
  have key : ∀ (a d e : Option Expr) (p : Pos), b ≠ .Slice a d e p := by
    intro a d e p q
    subst q
    induction k using E.rec (motive_2 := fun _ => True) (motive_3 := fun _ => True) with
    | fz e ih => exact ih (by simp only [ckE, Bool.and_eq_true] at h; exact h.2)
    | _ => first | trivial | (simp [ckE] at h)
  cases b <;> first
    | rfl
    | exact absurd rfl (key _ _ _ _)
theorem ps_setIE (g : Good X K c n G) {o k e : E} {a b v : Expr} {p pos : Pos} (h1 : ckE o c a = true) (h2 : ckE k c b = true) (h3 : ckE e c v = true) (h5 : isComp v = false) :
    PS X (.Assign [.Subscript a b p] v pos) (LS K (wpS c.T G noX (.setI o k e))) := by
  refine PS.imp (ps_asg (sE e g h3).1 (pg_sub (sE o g h1).1 (sE k g h2).1 (set_any (by have := g.units; omega)) (ck_asg h2)) (sw_sole h5) rfl rfl) fun D σ H ⟨W, S, env, k', rl, er, w, l⟩ => ?_
  simp only [wpS] at w
  refine ⟨W, S, env, _, rl, er, w, fun W1 S1 H1 dv v e1 r1 p1 w1 => ?_⟩
  refine ⟨W1, S1, env, _, r1, er.keep (e1.keep rl), w1, fun W2 S2 H2 dx x e2 r2 p2 w2 => ?_⟩
  refine ⟨W2, S2, env, _, r2, (er.keep (e1.keep rl)).keep (e2.keep r1), w2, fun W3 S3 H3 dy y e3 r3 p3 w3 => ?_⟩
  obtain ⟨S4, hs, hn⟩ := w3
  have er3 := ((er.keep (e1.keep rl)).keep (e2.keep r1)).keep (e3.keep r2)
  have pv := (p1.keep (e2.keep r1)).keep (e3.keep r2)
  have px := p2.keep (e3.keep r2)
  cases px with
  | @loc m ad he =>
    dsimp only [setIx] at hs
    split at hs
    · rename_i xs hx
      obtain ⟨vs, lv, qs⟩ := loc_lst r3 hx he
      split at hs
      · rename_i i
        cases ej : ixN xs.length i with
        | none => rw [ej] at hs; cases hs
        | some j =>
          rw [ej] at hs; cases hs
          cases p3
          obtain ⟨r4, e4⟩ := rel_put r3 hx he (.lst (xs.set j dv)) (.lst (vs.set j v)) fun H' k e => ⟨_, e, (qs.keep k).set j (pv.keep k)⟩
          exact .inl ⟨ad, vs, i, j, rfl, rfl, lv, by rw [← qs.length]; exact ej, l.nx _ _ _ _ _ (((e1.trans e2).trans e3).trans e4) r4 (er3.keep (e4.keep r3)) hn⟩
      · cases hs
    · rename_i kvs hx
      obtain ⟨vs, lv, qs⟩ := loc_dic r3 hx he
      cases ek : keyD dy with
      | none => rw [ek] at hs; cases hs
      | some ky =>
        rw [ek] at hs
        dsimp only at hs
        split at hs
        · rename_i hl
          cases hs
          have ey := key_of p3 ek
          subst ey
          have hlen : vs.length < sizeLine := by
            have : kvs.length = vs.length := by
              clear hx lv hl hn
              induction qs with
              | nil => rfl
              | cons _ _ ih => simp [ih]
            rw [← this]; exact Nat.lt_trans hl (by decide)
          obtain ⟨r4, e4⟩ := rel_put r3 hx he (.dic (putD kvs ky dv)) (.dK (putK vs ky v)) fun H' k e => ⟨_, e, (qs.keep k).put ky (pv.keep k)⟩
          exact .inr ⟨ad, _, rfl, DPut.k lv hlen, l.nx _ _ _ _ _ (((e1.trans e2).trans e3).trans e4) r4 (er3.keep (e4.keep r3)) hn⟩
        · cases hs
    · cases hs
  | _ => cases hs

/-- what is asked of a block, and of one of its statements -/
def SB (b : List St) : Prop := ∀ (X : Cx) (K : Frg) (c : SC) (n : Nat) (G : GT) (xs : List Stmt), Good X K c n G → ckSs b c xs = true → PSs X xs (LS K (wpSs c.T G noX b))
def S1 (s : St) : Prop := ∀ (X : Cx) (K : Frg) (c : SC) (n : Nat) (G : GT) (x : Stmt), Good X K c n G → ckS s c x = true → PS X x (LS K (wpS c.T G noX s))

theorem ps_setFE (g : Good X K c n G) {o e : E} {f : Str} {a v : Expr} {p pos : Pos} (h1 : ckE o c a = true) (h2 : ckE e c v = true) (h5 : isComp v = false) :
    PS X (.Assign [.Attribute a f p] v pos) (LS K (wpS c.T G noX (.setF o f e))) := by
  refine PS.imp (ps_fld (sE o g h1).1 (sE e g h2).1 (sw_none h5 _ _ _)) fun D σ H ⟨W, S, env, k', rl, er, w, l⟩ => ?_
  simp only [wpS] at w
  refine ⟨W, S, env, _, rl, er, w, fun W1 S1 H1 dv v e1 r1 p1 w1 => ?_⟩
  refine ⟨W1, S1, env, _, r1, er.keep (e1.keep rl), w1, fun W2 S2 H2 dx x e2 r2 p2 w2 => ?_⟩
  obtain ⟨m, i, fs, rfl, hS, hfl, hlen, hn⟩ := w2
  cases p2 with
  | @loc _ ad he =>
    obtain ⟨C, dxa, vs, hC, hH, hfr⟩ := loc_ins r2 hS he
    obtain ⟨hc, hno⟩ := g.cls.fl i f C hfl hC
    have pv := p1.keep (e2.keep r1)
    obtain ⟨r3, e3⟩ := rel_put r2 hS he (.ins i (putFD f dv fs)) (.ins C dxa (putF f v vs)) fun H' k e => ⟨C, dxa, _, hC, e, (hfr.keep k).put f (pv.keep k)⟩
    exact ⟨ad, C, dxa, vs, rfl, hH, by rw [g.hK]; exact hc, by rw [g.hK]; exact hno, by rw [← hfr.length]; omega, l.nx _ _ _ _ _ ((e1.trans e2).trans e3) r3 ((er.keep ((e1.trans e2).keep rl)).keep (e3.keep r2)) hn⟩
theorem ps_ifE (g : Good X K c n G) {t : E} {a b : List St} {x : Expr} {y z : List Stmt} {p : Pos} (h1 : ckE t c x = true) (h2 : ckSs a c y = true) (h3 : ckSs b c z = true) (ia : SB a) (ib : SB b) :
    PS X (.If x y z p) (LS K (wpS c.T G noX (.ifs t a b))) := by
  refine PS.imp (ps_if (sE t g h1).2.1 (ia _ _ _ _ _ _ g h2) (ib _ _ _ _ _ _ g h3)) fun D σ H ⟨W, S, env, k, rl, er, w, l⟩ => ?_
  simp only [wpS] at w
  refine ⟨W, S, env, _, rl, er, w, fun W1 S1 H1 d e1 r1 w1 => ?_⟩
  cases d with
  | true => exact ⟨W1, S1, env, k, r1, er.keep (e1.keep rl), by simpa using w1, l.ext e1⟩
  | false => exact ⟨W1, S1, env, k, r1, er.keep (e1.keep rl), by simpa using w1, l.ext e1⟩
theorem ps_whE (g : Good X K c n G) {t : E} {b : List St} {x : Expr} {y : List Stmt} {p : Pos} (h1 : ckE t c x = true) (h2 : ckSs b c y = true) (ib : SB b) :
    PS X (.While x y [] p) (LS K (wpS c.T G noX (.wh t b))) := by
  refine PS.imp (ps_while g.po (sE t g h1).2.1 (ib _ _ _ _ _ _ g h2)) fun D σ H ⟨W, S, env, k, rl, er, w, l⟩ => ?_
  simp only [wpS] at w
  obtain ⟨m, w⟩ := w
  refine ⟨fun m σ' H' => ∃ W' S' env', Ext W S H W' S' H' ∧ Rel K W' S' H' ∧ EnvR K W' H' env' σ' ∧ whL (wpT c.T G noX t) (wpSs c.T G noX b) k m env' S', ⟨m, W, S, env, Ext.refl _ _ _, rl, er, w⟩, ?_⟩
  rintro m σ' H' ⟨W', S', env', ex, r', er', w'⟩
  cases m with
  | zero => exact w'.elim
  | succ m =>
    refine ⟨W', S', env', _, r', er', w', fun W1 S1 H1 d e1 r1 w1 => ?_⟩
    have er1 := er'.keep (e1.keep r')
    cases d with
    | false =>
      rw [if_neg Bool.false_ne_true] at w1
      show D.nx σ' H1
      exact l.nx W1 S1 H1 env' σ' (ex.trans e1) r1 er1 w1
    | true =>
      rw [if_pos rfl] at w1
      show ∃ N : L2.St → Hp → Prop, _
      refine ⟨fun σ2 H2 => ∃ W2 S2 env2, Ext W S H W2 S2 H2 ∧ Rel K W2 S2 H2 ∧ EnvR K W2 H2 env2 σ2 ∧ whL (wpT c.T G noX t) (wpSs c.T G noX b) k m env2 S2, fun σ2 H2 q => ⟨m, Nat.lt_succ_self m, q⟩, ?_⟩
      refine ⟨W1, S1, env', _, r1, er1, w1, ⟨fun W2 S2 H2 env2 σ2 e2 r2 er2 q => ⟨W2, S2, env2, (ex.trans e1).trans e2, r2, er2, q⟩, fun W2 S2 H2 env2 σ2 e2 r2 er2 q => l.nx _ _ _ _ _ ((ex.trans e1).trans e2) r2 er2 q, fun W2 S2 H2 env2 σ2 e2 r2 er2 q => ⟨W2, S2, env2, (ex.trans e1).trans e2, r2, er2, q⟩, fun W2 S2 H2 d v e2 r2 p2 q => l.rt _ _ _ _ _ ((ex.trans e1).trans e2) r2 p2 q⟩⟩
theorem ps_forIE (g : Good X K c n G) {t : Tg} {it : It} {b : List St} {tg iter : Expr} {y : List Stmt} {p : Pos} (h1 : ckI it c tg iter = true) (h2 : ckTg c t tg = true) (h3 : ckSs b c y = true) (ib : SB b) :
    PS X (.For tg iter y [] p) (LS K (wpS c.T G noX (.for_ t it b))) := by
  have hf : ∀ x, foldedSetIterable iter X.env x = pure x := by
    intro x
    have hs := (sI it g h1).2
    cases iter <;> first | rfl | (simp [notSet] at hs; done)
  refine PS.imp (ps_for g.po g.calm (sI it g h1).1 (lg_tg g h2) (ib _ _ _ _ _ _ g h3) hf) fun D σ H ⟨W, S, env, k, rl, er, w, l⟩ => ?_
  simp only [wpS] at w
  refine ⟨W, S, env, _, rl, er, w, fun W1 S1 H1 xs chk J e1 r1 rj w1 => ?_⟩
  refine ⟨fun i m σ' H' => m = xs.length - i ∧ i ≤ xs.length ∧ ∃ W' S' env', Ext W1 S1 H1 W' S' H' ∧ Rel K W' S' H' ∧ EnvR K W' H' env' σ' ∧ forL chk (bindT t) (wpSs c.T G noX b) k (xs.drop i) env' S', ⟨xs.length, rfl, Nat.zero_le _, W1, S1, env, Ext.refl _ _ _, r1, er.keep (e1.keep rl), w1⟩, ?_⟩
  rintro i m σ' H' ⟨rfl, hi, W', S', env', ex, r', er', w'⟩
  have kp := ex.keep r1
  by_cases hlt : i < xs.length
  · right
    rw [List.drop_eq_getElem_cons hlt] at w'
    obtain ⟨hc, env2, hb, w'⟩ := w'
    obtain ⟨_, go⟩ := rj W' S' H' i kp r' hc
    obtain ⟨hgo, hy⟩ := go xs[i] (by simp [hlt])
    refine ⟨hgo, fun σ2 H2 => ∃ W2 S2 env2, Ext W1 S1 H1 W2 S2 H2 ∧ Rel K W2 S2 H2 ∧ EnvR K W2 H2 env2 σ2 ∧ forL chk (bindT t) (wpSs c.T G noX b) k (xs.drop (i + 1)) env2 S2, fun σ2 H2 q => ⟨xs.length - (i + 1), by omega, rfl, hlt, q⟩, fun x H2 y => ?_⟩
    obtain ⟨W2, x2, r2, pd⟩ := hy x H2 y
    refine ⟨W2, S', env', xs[i], env2, r2, er'.keep (x2.keep r'), pd, hb, fun σ2 er2 _ _ => ?_⟩
    have ee := ex.trans x2
    refine ⟨W2, S', env2, _, r2, er2, w', ⟨fun W3 S3 H3 env3 σ3 e3 r3 er3 q => ⟨W3, S3, env3, ee.trans e3, r3, er3, q⟩, fun W3 S3 H3 env3 σ3 e3 r3 er3 q => l.nx _ _ _ _ _ ((e1.trans ee).trans e3) r3 er3 q, fun W3 S3 H3 env3 σ3 e3 r3 er3 q => ⟨W3, S3, env3, ee.trans e3, r3, er3, q⟩, fun W3 S3 H3 d v e3 r3 p3 q => l.rt _ _ _ _ _ ((e1.trans ee).trans e3) r3 p3 q⟩⟩
  · left
    have e : i = xs.length := by omega
    subst e
    rw [List.drop_length] at w'
    obtain ⟨st, _⟩ := rj W' S' H' xs.length kp r' w'.1
    exact ⟨st (Nat.le_refl _), l.nx _ _ _ _ _ (e1.trans ex) r' er' w'.2⟩
end

theorem ck_ss_cons {s : St} {ss : List St} {c : SC} {x : Stmt} {xs : List Stmt} (h : ckSs (s :: ss) c (x :: xs) = true) : ckS s c x = true ∧ ckSs ss c xs = true := by
  simpa only [ckSs, Bool.and_eq_true] using h
theorem sb_nil : SB [] := by
  intro X K c n G xs g h
  cases xs with
  | cons _ _ => simp [ckSs] at h
  | nil =>
      refine PSs.imp pss_nil fun D σ H ⟨W, S, env, k, rl, er, w, l⟩ => ?_
      simp only [wpSs] at w
      exact l.nx W S H env σ (Ext.refl _ _ _) rl er w
theorem sb_cons {s : St} {ss : List St} (is : S1 s) (iss : SB ss) : SB (s :: ss) := by
  intro X K c n G xs g h
  cases xs with
  | nil => simp [ckSs] at h
  | cons x xs =>
    obtain ⟨h1, h2⟩ := ck_ss_cons h
    refine PSs.imp (pss_cons (is _ _ _ _ _ _ g h1) (iss _ _ _ _ _ _ g h2)) fun D σ H ⟨W, S, env, k, rl, er, w, l⟩ => ?_
    simp only [wpSs] at w
    exact ⟨W, S, env, _, rl, er, w, ⟨fun W1 S1 H1 env1 σ1 e1 r1 er1 q => ⟨W1, S1, env1, k, r1, er1, q, l.ext e1⟩, l.bk, l.ct, l.rt⟩⟩
mutual
theorem sS : ∀ s : St, S1 s
  | .set i e => by
    intro X K c n G x g h
    unfold ckS at h
    split at h
    all_goals first | (exact absurd h Bool.false_ne_true) | (cases (‹St.set i e = _›))
    simp only [Bool.and_eq_true] at h
    exact ps_setE g (eqb h.1.1.1) h.1.1.2 h.1.2 h.2
  | .setT is e => by
    intro X K c n G x g h
    unfold ckS at h
    split at h
    all_goals first | (exact absurd h Bool.false_ne_true) | (cases (‹St.setT is e = _›))
    simp only [Bool.and_eq_true, Bool.not_eq_true'] at h
    exact ps_setTE g h.1.1.1 h.1.1.2 h.1.2 h.2
  | .setI o k e => by
    intro X K c n G x g h
    unfold ckS at h
    split at h
    all_goals first | (exact absurd h Bool.false_ne_true) | (cases (‹St.setI o k e = _›))
    simp only [Bool.and_eq_true, Bool.not_eq_true'] at h
    exact ps_setIE g h.1.1.1 h.1.1.2 h.1.2 h.2
  | .setF o f e => by
    intro X K c n G x g h
    unfold ckS at h
    split at h
    all_goals first | (exact absurd h Bool.false_ne_true) | (cases (‹St.setF o f e = _›))
    simp only [Bool.and_eq_true, Bool.not_eq_true'] at h
    have ef := eqb h.1.1.1.1
    subst ef
    exact ps_setFE g h.1.1.1.2 h.1.1.2 h.2
  | .ifs t a b => by
    intro X K c n G x g h
    unfold ckS at h
    split at h
    all_goals first | (exact absurd h Bool.false_ne_true) | (cases (‹St.ifs t a b = _›))
    simp only [Bool.and_eq_true] at h
    exact ps_ifE g h.1.1 h.1.2 h.2 (sSs a) (sSs b)
  | .wh t b => by
    intro X K c n G x g h
    unfold ckS at h
    split at h
    all_goals first | (exact absurd h Bool.false_ne_true) | (cases (‹St.wh t b = _›))
    simp only [Bool.and_eq_true] at h
    exact ps_whE g h.1 h.2 (sSs b)
  | .for_ t it b => by
    intro X K c n G x g h
    unfold ckS at h
    split at h
    all_goals first | (exact absurd h Bool.false_ne_true) | (cases (‹St.for_ t it b = _›))
    simp only [Bool.and_eq_true] at h
    exact ps_forIE g h.1.1 h.1.2 h.2 (sSs b)
  | .ret e => by
    intro X K c n G x g h
    unfold ckS at h
    split at h
    all_goals first | (exact absurd h Bool.false_ne_true) | (cases (‹St.ret e = _›))
    exact PS.imp (ps_ret (sE e g h).1) fun D σ H ⟨W, S, env, k, rl, er, w, l⟩ => by
      simp only [wpS] at w
      exact ⟨W, S, env, _, rl, er, w, l.rt⟩
  | .retN => by
    intro X K c n G x g h
    unfold ckS at h
    split at h
    all_goals first | (exact absurd h Bool.false_ne_true) | (cases (‹St.retN = _›)) | skip
    exact PS.imp ps_retN fun D σ H ⟨W, S, env, k, rl, er, w, l⟩ => by
      simp only [wpS] at w
      exact l.rt W S H _ _ (Ext.refl _ _ _) rl .non w
  | .ex e => by
    intro X K c n G x g h
    unfold ckS at h
    split at h
    all_goals first | (exact absurd h Bool.false_ne_true) | (cases (‹St.ex e = _›))
    simp only [Bool.and_eq_true, Bool.not_eq_true'] at h
    exact PS.imp (ps_expr (sE e g h.1).1 (sw_none h.2 _ _ _)) fun D σ H ⟨W, S, env, k, rl, er, w, l⟩ => by
      simp only [wpS] at w
      exact ⟨W, S, env, _, rl, er, w, fun W1 S1 H1 dx x e1 r1 p1 w1 => l.nx W1 S1 H1 env σ e1 r1 (er.keep (e1.keep rl)) w1⟩
  | .brk => by
    intro X K c n G x g h
    unfold ckS at h
    split at h
    all_goals first | (exact absurd h Bool.false_ne_true) | (cases (‹St.brk = _›)) | skip
    exact PS.imp ps_break fun D σ H ⟨W, S, env, k, rl, er, w, l⟩ => by
      simp only [wpS] at w
      exact l.bk W S H _ _ (Ext.refl _ _ _) rl er w
  | .cont => by
    intro X K c n G x g h
    unfold ckS at h
    split at h
    all_goals first | (exact absurd h Bool.false_ne_true) | (cases (‹St.cont = _›)) | skip
    exact PS.imp ps_continue fun D σ H ⟨W, S, env, k, rl, er, w, l⟩ => by
      simp only [wpS] at w
      exact l.ct W S H _ _ (Ext.refl _ _ _) rl er w
  | .pass => by
    intro X K c n G x g h
    unfold ckS at h
    split at h
    all_goals first | (exact absurd h Bool.false_ne_true) | (cases (‹St.pass = _›)) | skip
    exact PS.imp ps_pass fun D σ H ⟨W, S, env, k, rl, er, w, l⟩ => by
      simp only [wpS] at w
      exact l.nx W S H _ _ (Ext.refl _ _ _) rl er w
theorem sSs : ∀ ss : List St, SB ss
  | [] => sb_nil
  | s :: ss => sb_cons (sS s) (sSs ss)
end
end Mi
set_option maxHeartbeats 4000000
/-! Mi18: a def by its body; a law's end. -/
namespace Mi
open PySem PySem.Spec PyProof.Rows L2

def startD (N : List Str) (ds : List D) : Env := ds.map some ++ List.replicate (N.length - ds.length) none
def bodyEn (q : Q1) : En := { nx := fun _ S' => ∃ S'', Sub S'' S' ∧ q .non S'', rt := fun d S' => ∃ S'', Sub S'' S' ∧ q d S'', bk := fun _ _ => False, ct := fun _ _ => False }

theorem Reps.getD : ∀ {K : Frg} {W : Wd} {H : Hp} {ds : List D} {vs : List V}, Reps K W H ds vs → ∀ (i : Nat) (d : D), ds[i]? = some d → ∃ v, vs[i]? = some v ∧ Rep K W H d v := fun r i d h => r.get h
theorem env_start {K : Frg} {W : Wd} {H : Hp} {N : List Str} {ds : List D} {vs : List V} (r : Reps K W H ds vs) : EnvR K W H (startD N ds) (L2.start N vs) := by
  have hl := r.length
  refine ⟨by unfold startD L2.start; simp [hl], fun i d h => ?_⟩
  unfold startD at h
  unfold L2.start
  by_cases hi : i < ds.length
  · rw [List.getElem?_append_left (by simpa using hi), List.getElem?_map] at h
    cases e : ds[i]? with
    | none => rw [e] at h; cases h
    | some d' =>
      rw [e] at h; cases h
      obtain ⟨v, hv, pv⟩ := r.get e
      exact ⟨v, by rw [List.getElem?_append_left (by simpa using hl ▸ hi), List.getElem?_map, hv]; rfl, pv⟩
  · rw [List.getElem?_append_right (by simpa using hi), List.getElem?_replicate] at h
    split at h <;> cases h

/-- what the module holds, for bodies -/
structure MCx (P : Program) (w : World) (K : Frg) (mg : Str → Option Value) (T : Tab) : Prop where
  hw : w = K.w
  bi : ∀ x, x ∈ biAll → mg x = none
  cst : ∀ (i : Nat) (p : Str × D), T.cst[i]? = some p → ∃ u v, mg p.1 = some u ∧ RelV v u ∧ ∀ W H, Rep K W H p.2 v
/-- the defs of the table keep their promises -/
def Fns (P : Program) (w : World) (K : Frg) (mg : Str → Option Value) (base : Heap) (T : Tab) (n : Nat) (G : GT) : Prop := ∀ (f : Nat) (x : Str), T.fn[f]? = some x → ∃ a, mg x = some (.ref a) ∧ FnD P w K mg base n a (G f)

theorem fnd_of {P : Program} {w : World} {K : Frg} {mg : Str → Option Value} {base : Heap} {x qual : Str} {params : Arguments} {body : List Stmt} {scope : Scope} {f : Addr} {fd : FuncData} (F : FunD K.K x qual params body scope [] [] f fd)
    {c : SC} {ps : List Str} (S : FnScope c.N ps scope) (hsc : c.sc = scope) (bind : ∀ (s : Shared) (us : List Value), us.length = ps.length → BindsTo s fd ⟨us, []⟩ (ps.zip us))
    {b : List St} (ck : ckSs b c body = true) {k : Nat} {G : GT} (M : MCx P w K mg c.T) (fns : Fns P w K mg base c.T k G) {g : List D → Sto → Q1 → XD → Prop} (cls : ClsD P w K mg base c.T k G)
    (len : ∀ ds S q, g ds S q noX → ds.length = ps.length) (hb : ∀ ds S q, g ds S q noX → wpSs c.T G noX b (bodyEn q) (startD c.N ds) S) : FnD P w K mg base (k + 1) f g := by
  refine ⟨F.kp, fun A outer s H us vs W S0 ds q Q hr hg e0 rv rl rp hgd ok => ?_⟩
  have hds := len _ _ _ hgd
  have hl : vs.length = ps.length := rp.length ▸ hds
  have hu : us.length = ps.length := rv.length ▸ hl
  have hbind := bind s us hu
  obtain ⟨oc, od, dV, kV, doc, pm, an, cdv, ct, osl, rfl, lk, hcd, _, _⟩ := F.ex
  have KX : K.K.In s.heap := e0.mod.kin.keeps fun b o e => (e0.bs b o e).1
  have lim : s.heap.NoLimit := e0.mod.nolimit.keeps fun b o e => (e0.bs b o e).1
  have hkind : ∀ y ∈ ps.zip us, scope.names.lookup y.1 = some .local ∨ (scope.names.lookup y.1 = some .cell ∧ ((cellsFrom (s.heap.objs.size + 1) scope.names []).lookup y.1).isSome = true) := fun ⟨n, v⟩ hy => by
    rcases S.par n (List.of_mem_zip hy).1 with q | q
    · exact .inl q
    · exact .inr ⟨q, PySem.W.cellsFrom_some _ _ _ (.inl q)⟩
  refine codeAny_call_function hr.depth (KX _ _ lk) rfl S.co S.gen rfl (PySem.W.codeRec_of KX hcd) (hbind _ _ _ _ ?_)
  refine wpAny_newFunctionEnv_cells S.kind hkind fun env he s1 x => ?_
  subst he
  refine ⟨lim.keeps x.toInCall.keep, codeAny_func ?_⟩
  have hroom := hr.deeper (envOfC qual scope s.heap.objs.size f cdv)
  have I : Inv (cxOf CX0 P w K.K mg base c.N qual scope f cdv A outer s H fun _ _ _ => False) [] (L2.start c.N vs) H s1 := inv_start S hr.hd e0 hl rv x
  have gd : Good (cxOf CX0 P w K.K mg base c.N qual scope f cdv A outer s H fun _ _ _ => False).nox K c k G :=
    ⟨rfl, M.hw, rfl, hsc.symm, fun _ _ => rfl, S.nd, rfl, hroom, hg, M.bi, M.cst, fns, PassesOwn.never, cls⟩
  have body := (sSs b _ _ _ _ _ _ gd ck).nox
  have hq : LS K (wpSs c.T G noX b) { nx := fun _ H' => Q .non H', rt := Q } (L2.start c.N vs) H := by
    refine ⟨W, S0, startD c.N ds, bodyEn q, rl, env_start rp, hb _ _ _ hgd, ⟨fun W' S' H' env' σ' e r er h => ?_, fun W' S' H' env' σ' e r er h => h, fun W' S' H' env' σ' e r er h => h, fun W' S' H' d v e r p h => ?_⟩⟩
    · obtain ⟨S'', hs, h⟩ := h
      obtain ⟨r2, e2⟩ := rel_sub r hs
      exact ok W' H' .non .non S'' (e.trans e2) r2 .non h
    · obtain ⟨S'', hs, h⟩ := h
      obtain ⟨r2, e2⟩ := rel_sub r hs
      exact ok W' H' v d S'' (e.trans e2) r2 p h
  refine wpAny_mono (body.run [] s1 (L2.start c.N vs) H _ I hq) (fun fl s' hs => ?_) fun e s' hs => hs
  have fin : ∀ {σ' : L2.St} {H' : Hp} {v : V} {u : Value}, Inv (cxOf CX0 P w K.K mg base c.N qual scope f cdv A outer s H fun _ _ _ => False) [] σ' H' s' → RelV v u → Q v H' → CE outer P w H s Q u s' :=
    fun {σ' H' v u} J rv q => ⟨v, H', J.os, J.bare, J.base, J.hok, rv, q⟩
  cases fl with
  | ret u =>
    obtain ⟨v, σ', H', J, rv, q⟩ := hs
    exact fin J rv q
  | next =>
    obtain ⟨σ', H', J, q⟩ := hs
    exact fin (v := V.non) (u := Value.none) J rfl q
  | brk =>
    obtain ⟨_, _, _, q⟩ := hs
    exact False.elim q
  | cont =>
    obtain ⟨_, _, _, q⟩ := hs
    exact False.elim q

/-- the law's promise, at the heap behind the top -/
theorem law_callD {P : Program} {w : World} {K : Frg} {mg mb : Str → Option Value} {k : Nat} {fa a : Addr} {s₁ : Shared} {vs : List Value} {ns : List Int} {g : List D → Sto → Q1 → XD → Prop}
    (KX : K.K.In s₁.heap) (hns : s₁.heap.Ns mainGlobals mg) (hb : s₁.heap.Ns builtinsNs mb) (hbb : ∀ x : Str, x ≠ "__name__" → mb x = bootBuiltins x) (hlim : s₁.heap.NoLimit) (hg : s₁.gens = #[])
    (ha : s₁.heap.get? a = some { cls := .type "list", data := .seq vs.toArray }) (hi : IntsAre vs ns) (hl : ns.length ≤ sizeLine) (hr : Room k callerA)
    (F : ∀ base : Heap, K.K.In base → base.Ns mainGlobals mg → FnD P w K mg base k fa g) (hgd : g [.scr ns] (fun _ => none) (fun d _ => d = .bl true) noX) :
    codeAny (model P w) callerA (.call (.ref fa) ⟨[.ref a], []⟩) (fun r s' => r = .ok (.ret (.bool true)) ∧ OldK s₁.heap s'.heap ∧ s'.os = s₁.os ∧ AllBare s'.gens) s₁ := by
  have rv := vals_ints hi
  have lenV := hi.length
  have core : ∀ H : Hp, Only H → SqL K.K H a (ns.map V.int) → HOk P w H s₁.heap → (∀ b, H b ≠ none → b = a) → (H a ≠ none → K.K.lookup a = none) →
      codeAny (model P w) callerA (.call (.ref fa) ⟨[.ref a], []⟩) (fun r s' => r = .ok (.ret (.bool true)) ∧ OldK s₁.heap s'.heap ∧ s'.os = s₁.os ∧ AllBare s'.gens) s₁ := by
    intro H hO hS hok hA hK
    have base_of : ∀ {b : Addr} {o : Obj}, s₁.heap.get? b = some o → H b = none → (hidT s₁.heap H).get? b = some o := fun e n => hidT_get e n
    have noA : ∀ {b : Addr} {o : Obj} {es : Array DictEntry} {ep : Nat}, s₁.heap.get? b = some o → o.data = .dict es ep → H b = none := fun {b o es ep} e d => by
      cases q : H b with
      | none => rfl
      | some u =>
        have e' : b = a := hA b (by rw [q]; simp)
        subst e'
        rw [ha] at e; cases e
        have d' : Data.seq vs.toArray _ = Data.dict es ep := d
        cases d'
    have nsK : ∀ {b : Addr} {m : Str → Option Value}, s₁.heap.Ns b m → (hidT s₁.heap H).Ns b m := fun {b m} ⟨o, es, ep, e, d, r⟩ => ⟨o, es, ep, base_of e (noA e d), d, r⟩
    have hKb : K.K.In (hidT s₁.heap H) := fun b o e => base_of (KX b o e) (by
      cases q : H b with
      | none => rfl
      | some u =>
        have e' : b = a := hA b (by rw [q]; simp)
        subst e'
        rw [hK (by rw [q]; simp)] at e; cases e)
    have hM : Mod K.K mg (hidT s₁.heap H) := ⟨hKb, nsK hns, ⟨mb, nsK hb, hbb⟩, let ⟨mc, h1, h2⟩ := hlim; ⟨mc, nsK h1, h2⟩⟩
    have e0 : Env0 P w K.K mg (hidT s₁.heap H) callerA [] s₁ H := ⟨rfl, hM, fun b o e => of_hidT e, Nat.le_of_eq (hidT_size _ _), trivial, fun b hb => absurd (show b ∈ ([] : List Addr) from hb) (by simp), hok, .of_eq hg⟩
    have noI : ∀ (W : Wd) (b : Addr), ¬ Ins (fun _ => none) W b := fun W b ⟨m, o, h, _⟩ => by cases h
    have hR : ∃ W : Wd, Rel K W (fun _ => none) H ∧ Rep K W H (.scr ns) (.ref a) := by
      rcases hS with h | h
      · refine ⟨⟨fun _ => none, fun b => b = a⟩, ⟨⟨0, fun _ _ => rfl⟩, fun n o e => (by cases e), fun n m b o u e => (by cases e), fun b e => ⟨?_, noI _ b⟩⟩, .scr (.inl ⟨rfl, h⟩)⟩
        subst e
        rcases h with h | ⟨o, h⟩ <;> (rw [h]; simp)
      · exact ⟨⟨fun _ => none, fun _ => False⟩, ⟨⟨0, fun _ _ => rfl⟩, fun n o e => (by cases e), fun n m b o u e => (by cases e), fun b e => e.elim⟩, .scr (.inr fun H' => .inr h)⟩
    obtain ⟨W, rl, rp⟩ := hR
    refine codeAny_mono ((F _ hKb (nsK hns)).2 callerA [] s₁ H [.ref a] [.ref a] W (fun _ => none) [.scr ns] _ (fun v _ => v = .bl true) hr rfl e0 (.cons rfl .nil) rl (.cons rp .nil) hgd fun W' H' v d S' _ _ p e => ?_) fun r s' h => ?_
    · subst e
      cases p
      rfl
    cases r with
    | error e => exact False.elim h
    | ok fl =>
      cases fl with
      | next => exact False.elim h
      | brk => exact False.elim h
      | cont => exact False.elim h
      | ret u =>
        obtain ⟨v, H', os, bare, un, hok', r', q⟩ := h
        have q' : v = .bl true := q
        subst q'
        obtain rfl : u = Value.bool true := r'
        refine ⟨rfl, OldK.of_keep fun b o e => ?_, os, bare⟩
        cases q : H b with
        | none => exact un.keep b o e q (by intro z; exact absurd (show b ∈ ([] : List Addr) from z) (by simp)) (by simp)
        | some u =>
          rcases hO b with z | ⟨ob, xs, z⟩
          · rw [q] at z; cases z
          · have z2 := un.frzs b ob _ z
            obtain ⟨e1, _⟩ := hok b _ z
            obtain ⟨e2, _⟩ := hok' b _ z2
            rw [e] at e1; cases e1
            exact e2
  cases hk : K.K.lookup a with
  | some o =>
    have e := KX a o hk
    rw [ha] at e
    cases e
    refine core (fun _ => none) (fun _ => .inl rfl) (.inr ⟨_, vs.toArray, _, hk, rfl, rfl, rfl, by rw [List.size_toArray, lenV]; exact hl, by simpa using rv⟩) (fun b u z => by have z' : (none : Option HO) = some u := z; cases z') (fun b z => absurd rfl z) fun z => absurd rfl z
  | none =>
    refine core (fun b => if b = a then some (.frz { cls := .type "list", data := .seq vs.toArray } (.lst (ns.map V.int))) else none) (fun b => ?_) (.inl (.inr ⟨{ cls := .type "list", data := .seq vs.toArray }, if_pos rfl⟩)) (fun b u z => ?_) (fun b z => ?_) fun _ => hk
    · by_cases hb : b = a
      · exact .inr ⟨_, _, if_pos hb⟩
      · exact .inl (if_neg hb)
    · by_cases hb : b = a
      · have z' := (if_pos hb).symm.trans z
        cases z'
        subst hb
        exact ⟨ha, by rw [List.length_map]; exact hl, vs, _, rv, ha⟩
      · have z' := (if_neg hb).symm.trans z
        cases z'
    · by_cases hb : b = a
      · exact hb
      · exact absurd (if_neg hb) z
theorem walk_ofD {l : PySem.W.OpenLaw} {n k : Nat} {q : Program} {loose : List Str} {XP : (Str → Option Value) → Heap → Prop} {YP : World → Heap → Prop} {d : DefRec}
    (hn : l.most = some n) (hn2 : n ≤ sizeLine) (hdf : d.params.defaults = []) (hr : Room k callerA)
    (F : ∀ (w : World) (mg : Str → Option Value) (fa : Addr) (h : Heap), YP w h → h.Ns mainGlobals mg → mg d.name = some (.ref fa) →
      ∃ (K : Frg) (g : List D → Sto → Q1 → XD → Prop), K.K.In h ∧ (∀ (ns : List Int), ns.length ≤ n → g [.scr ns] (fun _ => none) (fun d _ => d = .bl true) noX) ∧
        ∀ base : Heap, K.K.In base → base.Ns mainGlobals mg → FnD l.prog w K mg base k fa g) :
    PySem.W.WalkO q loose XP YP l.row.toRowW d [] (fun f vs => PySem.call f vs) := by
  refine Att.attach_call hn hdf fun w s₀ s₁ mg mb fa o pm cd doc a vs ns G Y ho hd hcd hmg hobj hints hlen hg => ?_
  obtain ⟨K, g, KX, hgd, hF⟩ := F w mg fa _ Y G.T.g hmg
  exact law_callD KX G.T.g G.T.b G.T.builtins G.T.nolimit hg hobj hints (Nat.le_trans hlen hn2) hr hF (hgd ns hlen)
end Mi
set_option maxHeartbeats 4000000
/-! Mi19: steps of the small language. -/
namespace Mi
open PySem

def BinW (o : Op) (S : Sto) (x y : D) (q : Q1) : Prop := ∃ z, binD o S x y = some z ∧ q z S
def CmpW (o : Cp) (S : Sto) (x y : D) (q : Bool → Prop) : Prop := ∃ k, cmpD o S x y = some k ∧ q k
def TruW (S : Sto) (x : D) (q : Bool → Prop) : Prop := ∃ k, truD S x = some k ∧ q k
def IxW (S : Sto) (x y : D) (q : Q1) : Prop := ∃ z, ixD S x y = some z ∧ q z S
def BifW (b : Bi) (S : Sto) (ds : List D) (q : Q1) : Prop := ∃ z, biD b S ds = some z ∧ q z S
def IteW (b : Bool) (p q : Prop) : Prop := if b = true then p else q
def IsiW (S : Sto) (x : D) (t : Nat) (q : Q1) : Prop := ∃ k, isiD S x t = some k ∧ q (.bl k) S
def NegW (S : Sto) (x : D) (q : Q1) : Prop := ∃ i, x = .int i ∧ q (.int (-i)) S
def LoW (l : List D) (k : List Int → Prop) : Prop := ∃ l', intsD l = some l' ∧ k l'
def SlW (S : Sto) (x : D) (lo hi : Option Int) (q : Q1) : Prop := ∃ z, slD S x lo hi = some z ∧ q z S
def RevW (S : Sto) (x : D) (q : Q1) : Prop := ∃ z, revD S x = some z ∧ q z S
def KindW (S : Sto) (x : D) (m : Mt) (p : Prop) : Prop := kindD S x = some (mtTy m) ∧ p
def MtW (m : Mt) (S : Sto) (x : D) (ds : List D) (q : Q1) : Prop := ∃ z, mtD m S x ds = some z ∧ q z.1 z.2
def McW (S : Sto) (x : D) (q : Q1) : Prop := ∃ n kvs, x = .loc n ∧ S n = some (.dic kvs) ∧ ∀ m, S m = none → q (.loc m) (put S m (.dic kvs))
def FldW (T : Tab) (S : Sto) (x : D) (f : Str) (q : Q1) : Prop := ∃ n c fs d, x = .loc n ∧ S n = some (.ins c fs) ∧ T.fl.contains (c, f) = true ∧ fs.lookup f = some d ∧ q d S
def SetFW (T : Tab) (S : Sto) (x : D) (f : Str) (v : D) (q : Sto → Prop) : Prop := ∃ n c fs, x = .loc n ∧ S n = some (.ins c fs) ∧ T.fl.contains (c, f) = true ∧ fs.length < 100 ∧ q (put S n (.ins c (putFD f v fs)))
def MthW (T : Tab) (S : Sto) (m : Nat) (x : D) (p : Prop) : Prop := (∃ n c fs nm, x = .loc n ∧ S n = some (.ins c fs) ∧ T.mt.lookup m = some (c, nm) ∧ fs.lookup nm = none) ∧ p
def SetW (S : Sto) (o k v : D) (q : Sto → Prop) : Prop := ∃ S4, setIx S o k v = some S4 ∧ q S4

section
variable {T : Tab} {G : GT} {xd : XD} {env : Env} {S : Sto} {q : Q1} {e a b c o : E} {es : Es} {d : D} {i j : Nat}
theorem w_var (h : env[i]? = some (some d)) (k : q d S) : wpE T G xd (.var i) env S q := by rw [wpE]; exact ⟨d, h, k⟩
theorem w_int {i : Int} (k : q (.int i) S) : wpE T G xd (.int i) env S q := by rw [wpE]; exact k
theorem w_str {i : Str} (k : q (.str i) S) : wpE T G xd (.str i) env S q := by rw [wpE]; exact k
theorem w_bl {i : Bool} (k : q (.bl i) S) : wpE T G xd (.bl i) env S q := by rw [wpE]; exact k
theorem w_non (k : q .non S) : wpE T G xd .non env S q := by rw [wpE]; exact k
theorem w_cst {p : Str × D} (h : T.cst[i]? = some p) (k : q p.2 S) : wpE T G xd (.cst i) env S q := by rw [wpE]; exact ⟨p, h, k⟩
theorem w_tup (k : wpEs T G xd es env S fun ds S1 => ds.length ≤ 100000 ∧ q (.tup ds) S1) : wpE T G xd (.tup es) env S q := by rw [wpE]; exact k
theorem w_lst (k : wpEs T G xd es env S fun ds S1 => ds.length ≤ 100000 ∧ q (.lst ds) S1) : wpE T G xd (.lst es) env S q := by rw [wpE]; exact k
theorem w_mls (k : wpEs T G xd es env S fun ds S1 => ds.length ≤ 100000 ∧ ∀ n, S1 n = none → q (.loc n) (put S1 n (.lst ds))) : wpE T G xd (.mls es) env S q := by rw [wpE]; exact k
theorem w_dic {ks : List L2.Key} (k : wpEs T G xd es env S fun ds S1 => ∀ n, S1 n = none → q (.loc n) (put S1 n (.dic (ks.zip ds)))) : wpE T G xd (.dic ks es) env S q := by rw [wpE]; exact k
theorem w_bin {o : Op} (k : wpE T G xd a env S fun x S1 => wpE T G xd b env S1 fun y S2 => BinW o S2 x y q) : wpE T G xd (.bin o a b) env S q := by rw [wpE]; exact k
theorem w_cmp {o : Cp} (k : wpE T G xd a env S fun x S1 => wpE T G xd b env S1 fun y S2 => CmpW o S2 x y fun k => q (.bl k) S2) : wpE T G xd (.cmp o a b) env S q := by rw [wpE]; exact k
theorem w_chn {o p : Cp} (k : wpE T G xd a env S fun x S1 => wpE T G xd b env S1 fun y S2 => CmpW o S2 x y fun k => IteW k (wpE T G xd c env S2 fun z S3 => CmpW p S3 y z fun k' => q (.bl k') S3) (q (.bl false) S2)) : wpE T G xd (.chn o p a b c) env S q := by rw [wpE]; exact k
theorem w_and (k : wpE T G xd a env S fun x S1 => TruW S1 x fun k => IteW k (wpE T G xd b env S1 q) (q x S1)) : wpE T G xd (.and a b) env S q := by rw [wpE]; exact k
theorem w_or (k : wpE T G xd a env S fun x S1 => TruW S1 x fun k => IteW k (q x S1) (wpE T G xd b env S1 q)) : wpE T G xd (.or a b) env S q := by rw [wpE]; exact k
theorem w_not (k : wpE T G xd a env S fun x S1 => TruW S1 x fun k => q (.bl (!k)) S1) : wpE T G xd (.not a) env S q := by rw [wpE]; exact k
theorem w_neg (k : wpE T G xd a env S fun x S1 => NegW S1 x q) : wpE T G xd (.neg a) env S q := by rw [wpE]; exact k
theorem w_ife (k : wpE T G xd c env S fun x S1 => TruW S1 x fun k => IteW k (wpE T G xd a env S1 q) (wpE T G xd b env S1 q)) : wpE T G xd (.ife c a b) env S q := by rw [wpE]; exact k
theorem w_ix (k : wpE T G xd a env S fun x S1 => wpE T G xd b env S1 fun y S2 => IxW S2 x y q) : wpE T G xd (.ix a b) env S q := by rw [wpE]; exact k
theorem w_sl {lo hi : Es} (k : wpE T G xd a env S fun x S1 => wpEs T G xd lo env S1 fun l S2 => LoW l fun l' => wpEs T G xd hi env S2 fun h S3 => LoW h fun h' => SlW S3 x l'[0]? h'[0]? q) : wpE T G xd (.sl a lo hi) env S q := by rw [wpE]; exact k
theorem w_rev (k : wpE T G xd a env S fun x S1 => RevW S1 x q) : wpE T G xd (.rev a) env S q := by rw [wpE]; exact k
theorem w_call {f : Nat} (k : wpEs T G xd es env S fun ds S1 => G f ds S1 q xd) : wpE T G xd (.call f es) env S q := by rw [wpE]; exact k
theorem w_bif {b : Bi} (k : wpEs T G xd es env S fun ds S1 => BifW b S1 ds q) : wpE T G xd (.bif b es) env S q := by rw [wpE]; exact k
theorem w_isi {t : Nat} (k : wpE T G xd a env S fun x S1 => IsiW S1 x t q) : wpE T G xd (.isi a t) env S q := by rw [wpE]; exact k
theorem w_mli (k : wpE T G xd a env S fun x S1 => ∃ xs, seqD S1 x = some xs ∧ ∀ n, S1 n = none → q (.loc n) (put S1 n (.lst xs))) : wpE T G xd (.mli a) env S q := by rw [wpE]; exact k
theorem w_mad (k : wpE T G xd a env S fun x S1 => wpE T G xd b env S1 fun y S2 => ∃ xs ys, lstD S2 x = some xs ∧ lstD S2 y = some ys ∧ xs.length + ys.length ≤ sizeLine ∧ ∀ n, S2 n = none → q (.loc n) (put S2 n (.lst (xs ++ ys)))) : wpE T G xd (.mad a b) env S q := by rw [wpE]; exact k
theorem w_meth {m : Mt} (k : wpE T G xd o env S fun x S1 => KindW S1 x m (wpEs T G xd es env S1 fun ds S2 => MtW m S2 x ds q)) : wpE T G xd (.meth m o es) env S q := by rw [wpE]; exact k
theorem w_fld {f : Str} (k : wpE T G xd o env S fun x S1 => FldW T S1 x f q) : wpE T G xd (.fld o f) env S q := by rw [wpE]; exact k
theorem w_mth {m : Nat} (k : wpE T G xd o env S fun x S1 => MthW T S1 m x (wpEs T G xd es env S1 fun ds S2 => G m (x :: ds) S2 q xd)) : wpE T G xd (.mth m o es) env S q := by rw [wpE]; exact k
theorem w_mk {c : Nat} {p : Str × Nat} (h : T.cl[c]? = some p) (k : wpEs T G xd es env S fun ds S1 => ∀ n, S1 n = none → G p.2 (.loc n :: ds) (put S1 n (.ins c [])) (fun v S2 => v = .non ∧ q (.loc n) S2) xd) : wpE T G xd (.mk c es) env S q := by
  rw [wpE]
  have mono : ∀ (es : Es) (env : Env) (S : Sto) (q q' : List D → Sto → Prop), q = q' → wpEs T G xd es env S q → wpEs T G xd es env S q' := fun _ _ _ _ _ e h => e ▸ h
  refine mono _ _ _ _ _ ?_ k
  funext ds S1
  rw [h]
  exact propext ⟨fun hk => ⟨p, rfl, hk⟩, fun ⟨p', e, hk⟩ => by cases e; exact hk⟩
theorem w_fz (k : wpE T G xd e env S fun x S1 => ∃ n xs, x = .loc n ∧ S1 n = some (.lst xs) ∧ q (.lst xs) (del S1 n)) : wpE T G xd (.fz e) env S q := by rw [wpE]; exact k
theorem w_chn3 {o p r : Cp} {a b c d : E} (k : wpE T G xd a env S fun x S1 => wpE T G xd b env S1 fun y S2 => CmpW o S2 x y fun k => IteW k (wpE T G xd c env S2 fun z S3 => CmpW p S3 y z fun k' => IteW k' (wpE T G xd d env S3 fun w S4 => CmpW r S4 z w fun k'' => q (.bl k'') S4) (q (.bl false) S3)) (q (.bl false) S2)) : wpE T G xd (.chn3 o p r a b c d) env S q := by rw [wpE]; exact k
theorem w_mdc (k : wpE T G xd a env S fun x S1 => McW S1 x q) : wpE T G xd (.mdc a) env S q := by rw [wpE]; exact k
theorem w_den (k : wpE T G xd a env S fun x S1 => ∃ xs, seqD S1 x = some xs ∧ ∀ m, S1 m = none → q (.loc m) (put S1 m (.dic (numD 0 xs)))) : wpE T G xd (.den a) env S q := by rw [wpE]; exact k
theorem w_nil {q : List D → Sto → Prop} (k : q [] S) : wpEs T G xd .nil env S q := by rw [wpEs]; exact k
theorem w_cons {q : List D → Sto → Prop} (k : wpE T G xd e env S fun x S1 => wpEs T G xd es env S1 fun xs S2 => q (x :: xs) S2) : wpEs T G xd (.cons e es) env S q := by rw [wpEs]; exact k
theorem w_rng {q : List D → (Sto → Prop) → Sto → Prop} (k : wpEs T G xd es env S fun ds S1 => rngW ds fun xs => q xs (fun _ => True) S1) : wpI T G xd (.rng es) env S q := by rw [wpI]; exact k
theorem w_seq {q : List D → (Sto → Prop) → Sto → Prop} (k : wpE T G xd e env S fun x S1 => ∃ xs, seqD S1 x = some xs ∧ q xs (chkD x xs) S1) : wpI T G xd (.seq e) env S q := by rw [wpI]; exact k
theorem w_enm {q : List D → (Sto → Prop) → Sto → Prop} (k : wpE T G xd e env S fun x S1 => ∃ xs, seqD S1 x = some xs ∧ q (enumD 0 xs) (chkD x xs) S1) : wpI T G xd (.enm e) env S q := by rw [wpI]; exact k
theorem w_rvs {q : List D → (Sto → Prop) → Sto → Prop} (k : wpE T G xd e env S fun x S1 => ∃ xs, seqD S1 x = some xs ∧ q xs.reverse (chkD x xs) S1) : wpI T G xd (.rvs e) env S q := by rw [wpI]; exact k
/-! statements -/
variable {s : St} {ss : List St} {nx bk ct : Env → Sto → Prop} {rt : Q1}
theorem w_end (k : nx env S) : wpSs T G xd [] ⟨nx, rt, bk, ct⟩ env S := by rw [wpSs]; exact k
theorem w_then (k : wpS T G xd s ⟨fun e S1 => wpSs T G xd ss ⟨nx, rt, bk, ct⟩ e S1, rt, bk, ct⟩ env S) : wpSs T G xd (s :: ss) ⟨nx, rt, bk, ct⟩ env S := by rw [wpSs]; exact k
theorem w_set (k : wpE T G xd e env S fun x S1 => nx (env.set i (some x)) S1) : wpS T G xd (.set i e) ⟨nx, rt, bk, ct⟩ env S := by rw [wpS]; exact k
theorem w_setT {is : List Nat} (k : wpE T G xd e env S fun x S1 => ∃ env', bindT (.tp is) x env = some env' ∧ nx env' S1) : wpS T G xd (.setT is e) ⟨nx, rt, bk, ct⟩ env S := by rw [wpS]; exact k
theorem w_setI (k : wpE T G xd e env S fun v S1 => wpE T G xd a env S1 fun x S2 => wpE T G xd b env S2 fun y S3 => SetW S3 x y v fun S4 => nx env S4) : wpS T G xd (.setI a b e) ⟨nx, rt, bk, ct⟩ env S := by rw [wpS]; exact k
theorem w_setF {f : Str} (k : wpE T G xd e env S fun v S1 => wpE T G xd a env S1 fun x S2 => SetFW T S2 x f v fun S3 => nx env S3) : wpS T G xd (.setF a f e) ⟨nx, rt, bk, ct⟩ env S := by rw [wpS]; exact k
theorem w_ifs {a b : List St} (k : wpE T G xd c env S fun x S1 => TruW S1 x fun k => IteW k (wpSs T G xd a ⟨nx, rt, bk, ct⟩ env S1) (wpSs T G xd b ⟨nx, rt, bk, ct⟩ env S1)) : wpS T G xd (.ifs c a b) ⟨nx, rt, bk, ct⟩ env S := by rw [wpS, wpT]; exact k
theorem w_for {t : Tg} {it : It} {b : List St} (k : wpI T G xd it env S fun xs chk S1 => forL chk (bindT t) (wpSs T G xd b) ⟨nx, rt, bk, ct⟩ xs env S1) : wpS T G xd (.for_ t it b) ⟨nx, rt, bk, ct⟩ env S := by rw [wpS]; exact k
theorem w_wh {b : List St} (k : ∃ n, whL (wpT T G xd c) (wpSs T G xd b) ⟨nx, rt, bk, ct⟩ n env S) : wpS T G xd (.wh c b) ⟨nx, rt, bk, ct⟩ env S := by rw [wpS]; exact k
theorem w_ret (k : wpE T G xd e env S rt) : wpS T G xd (.ret e) ⟨nx, rt, bk, ct⟩ env S := by rw [wpS]; exact k
theorem w_retN (k : rt .non S) : wpS T G xd .retN ⟨nx, rt, bk, ct⟩ env S := by rw [wpS]; exact k
theorem w_ex (k : wpE T G xd e env S fun _ S1 => nx env S1) : wpS T G xd (.ex e) ⟨nx, rt, bk, ct⟩ env S := by rw [wpS]; exact k
theorem w_brk (k : bk env S) : wpS T G xd .brk ⟨nx, rt, bk, ct⟩ env S := by rw [wpS]; exact k
theorem w_cont (k : ct env S) : wpS T G xd .cont ⟨nx, rt, bk, ct⟩ env S := by rw [wpS]; exact k
theorem w_pass (k : nx env S) : wpS T G xd .pass ⟨nx, rt, bk, ct⟩ env S := by rw [wpS]; exact k
theorem w_body {b : List St} {q : Q1} (k : wpSs T G xd b ⟨fun _ S' => ∃ S'', Sub S'' S' ∧ q .non S'', fun d S' => ∃ S'', Sub S'' S' ∧ q d S'', fun _ _ => False, fun _ _ => False⟩ env S) : wpSs T G xd b (bodyEn q) env S := k
end
section
variable {S : Sto} {q : Q1} {qb : Bool → Prop} {A B : Prop} {i j : Int} {x y z : D}
theorem ite_dec {p : Prop} [Decidable p] (h : p → A) (k : ¬ p → B) : IteW (decide p) A B := by
  unfold IteW
  by_cases e : p
  · rw [if_pos (decide_eq_true e)]; exact h e
  · rw [if_neg (by simpa using e)]; exact k e
theorem ite_ndec {p : Prop} [Decidable p] (h : ¬ p → A) (k : p → B) : IteW (!decide p) A B := by
  unfold IteW
  by_cases e : p
  · rw [if_neg (by simpa using e)]; exact k e
  · rw [if_pos (by simpa using e)]; exact h e
theorem ite_no {p : Prop} [Decidable p] (h : ¬ p) (k : B) : IteW (decide p) A B := ite_dec (fun e => absurd e h) fun _ => k
theorem ite_yes {p : Prop} [Decidable p] (h : p) (k : A) : IteW (decide p) A B := ite_dec (fun _ => k) fun e => absurd h e
theorem ite_nno {p : Prop} [Decidable p] (h : p) (k : B) : IteW (!decide p) A B := ite_ndec (fun e => absurd h e) fun _ => k
theorem ite_nyes {p : Prop} [Decidable p] (h : ¬ p) (k : A) : IteW (!decide p) A B := ite_ndec (fun _ => k) fun e => absurd e h
theorem ite_t (h : A) : IteW true A B := by unfold IteW; rw [if_pos rfl]; exact h
theorem ite_f (h : B) : IteW false A B := by unfold IteW; rw [if_neg Bool.false_ne_true]; exact h
theorem ite_b {b : Bool} (h : b = true → A) (k : b = false → B) : IteW b A B := by
  cases b with
  | true => exact ite_t (h rfl)
  | false => exact ite_f (k rfl)
theorem ite_nb {b : Bool} (h : b = false → A) (k : b = true → B) : IteW (!b) A B := by
  cases b with
  | true => exact ite_f (k rfl)
  | false => exact ite_t (h rfl)
theorem ite_bt {b : Bool} (h : b = true) (k : A) : IteW b A B := by subst h; exact ite_t k
theorem ite_bf {b : Bool} (h : b = false) (k : B) : IteW b A B := by subst h; exact ite_f k
theorem ite_nbt {b : Bool} (h : b = true) (k : B) : IteW (!b) A B := by subst h; exact ite_f k
theorem ite_nbf {b : Bool} (h : b = false) (k : A) : IteW (!b) A B := by subst h; exact ite_t k
theorem ite_some {α : Type} {o : Option α} {z : α} (h : o = some z) (k : A) : IteW o.isSome A B := by subst h; exact ite_t k
theorem ite_none {α : Type} {o : Option α} (h : o = none) (k : B) : IteW o.isSome A B := by subst h; exact ite_f k
theorem ite_nsome {α : Type} {o : Option α} {z : α} (h : o = some z) (k : B) : IteW (!o.isSome) A B := by subst h; exact ite_f k
theorem ite_nnone {α : Type} {o : Option α} (h : o = none) (k : A) : IteW (!o.isSome) A B := by subst h; exact ite_t k
theorem tru_bl {b : Bool} (k : qb b) : TruW S (.bl b) qb := ⟨b, rfl, k⟩
theorem tru_int (k : qb (decide (i ≠ 0))) : TruW S (.int i) qb := ⟨_, rfl, by
  have : (i != 0) = decide (i ≠ 0) := by by_cases h : i = 0 <;> simp [h]
  rw [this]; exact k⟩
theorem tru_ok {b : Bool} (h : truD S x = some b) (k : qb b) : TruW S x qb := ⟨b, h, k⟩
theorem bin_add (k : q (.int (i + j)) S) : BinW .add S (.int i) (.int j) q := ⟨_, rfl, k⟩
theorem bin_sub (k : q (.int (i - j)) S) : BinW .sub S (.int i) (.int j) q := ⟨_, rfl, k⟩
theorem bin_mul (h : (-(2 ^ 64) < i ∧ i < 2 ^ 64) ∨ (-(2 ^ 64) < j ∧ j < 2 ^ 64)) (k : q (.int (i * j)) S) : BinW .mul S (.int i) (.int j) q := ⟨_, by
  show (if mulOk i j = true then some (D.int (i * j)) else none) = _
  rw [if_pos (by unfold mulOk; simpa using h)], k⟩
theorem bin_fdiv (h : 0 < j ∧ j < 2 ^ 64) (k : q (.int (i / j)) S) : BinW .fdiv S (.int i) (.int j) q := ⟨_, if_pos h, k⟩
theorem bin_mod (h : 0 < j) (k : q (.int (i % j)) S) : BinW .mod S (.int i) (.int j) q := ⟨_, if_pos h, k⟩
theorem bin_pow (h : 0 ≤ j ∧ j ≤ 100 ∧ 0 ≤ i ∧ i ≤ 10) (k : q (.int (i ^ j.toNat)) S) : BinW .pow S (.int i) (.int j) q := ⟨_, if_pos h, k⟩
theorem bin_addT {a b : List D} (h : a.length + b.length ≤ sizeLine) (k : q (.tup (a ++ b)) S) : BinW .add S (.tup a) (.tup b) q := ⟨_, if_pos h, k⟩
theorem bin_addL {a b : List D} (h : a.length + b.length ≤ sizeLine) (k : q (.lst (a ++ b)) S) : BinW .add S (.lst a) (.lst b) q := ⟨_, by
  show (if a.length + b.length ≤ sizeLine then some (D.lst (a ++ b)) else none) = _
  rw [if_pos h], k⟩
theorem bin_addS {a b : Str} (h : a.length + b.length ≤ sizeLine) (k : q (.str (a ++ b)) S) : BinW .add S (.str a) (.str b) q := ⟨_, if_pos h, k⟩
theorem cmp_lt (k : qb (decide (i < j))) : CmpW .lt S (.int i) (.int j) qb := ⟨_, rfl, k⟩
theorem cmp_le (k : qb (decide (i ≤ j))) : CmpW .le S (.int i) (.int j) qb := ⟨_, rfl, k⟩
theorem cmp_gt (k : qb (decide (j < i))) : CmpW .gt S (.int i) (.int j) qb := ⟨_, rfl, k⟩
theorem cmp_ge (k : qb (decide (j ≤ i))) : CmpW .ge S (.int i) (.int j) qb := ⟨_, rfl, k⟩
theorem cmp_eqI (k : qb (decide (i = j))) : CmpW .eq S (.int i) (.int j) qb := ⟨_, rfl, k⟩
theorem cmp_neI (k : qb (!decide (i = j))) : CmpW .ne S (.int i) (.int j) qb := ⟨_, rfl, k⟩
theorem cmp_eqS {a b : Str} (k : qb (decide (a = b))) : CmpW .eq S (.str a) (.str b) qb := ⟨_, rfl, k⟩
theorem cmp_neS {a b : Str} (k : qb (!decide (a = b))) : CmpW .ne S (.str a) (.str b) qb := ⟨_, rfl, k⟩
theorem cmp_of {o : Cp} {b : Bool} (h : cmpD o S x y = some b) (k : qb b) : CmpW o S x y qb := ⟨b, h, k⟩
theorem fld_at {T : Tab} {n c : Nat} {fs : List (Str × D)} {f : Str} {d : D} (h : S n = some (.ins c fs)) (h2 : T.fl.contains (c, f) = true) (h3 : fs.lookup f = some d) (k : q d S) : FldW T S (.loc n) f q := ⟨n, c, fs, d, rfl, h, h2, h3, k⟩
theorem setf_at {T : Tab} {n c : Nat} {fs gs : List (Str × D)} {f : Str} {v : D} {q : Sto → Prop} (h : S n = some (.ins c fs)) (h2 : T.fl.contains (c, f) = true) (h3 : fs.length < 100) (h4 : putFD f v fs = gs) (k : q (put S n (.ins c gs))) : SetFW T S (.loc n) f v q := ⟨n, c, fs, rfl, h, h2, h3, by rw [h4]; exact k⟩
theorem mth_at {T : Tab} {n c m : Nat} {fs : List (Str × D)} {nm : Str} {p : Prop} (h : S n = some (.ins c fs)) (h2 : T.mt.lookup m = some (c, nm)) (h3 : fs.lookup nm = none) (k : p) : MthW T S m (.loc n) p := ⟨⟨n, c, fs, nm, rfl, h, h2, h3⟩, k⟩
theorem ixw_of (h : ixD S x y = some z) (k : q z S) : IxW S x y q := ⟨z, h, k⟩
theorem ix_dic {n : Nat} {kvs : List (L2.Key × D)} {x : Str} (h : S n = some (.dic kvs)) (h2 : lkD kvs (.inr x) = some z) (k : q z S) : IxW S (.loc n) (.str x) q := ⟨z, by
  simp only [ixD, h]; exact h2, k⟩
theorem ix_dicI {n : Nat} {kvs : List (L2.Key × D)} (h : S n = some (.dic kvs)) (h2 : lkD kvs (.inl i) = some z) (k : q z S) : IxW S (.loc n) (.int i) q := ⟨z, by
  simp only [ixD, h]; exact h2, k⟩
theorem ix_mls {n : Nat} {xs : List D} (h : S n = some (.lst xs)) (h2 : L2.atI xs i = some z) (k : q z S) : IxW S (.loc n) (.int i) q := ⟨z, by
  simp only [ixD, h]; exact h2, k⟩
theorem ix_lst {xs : List D} (h2 : L2.atI xs i = some z) (k : q z S) : IxW S (.lst xs) (.int i) q := ⟨z, h2, k⟩
theorem ix_tup {xs : List D} (h2 : L2.atI xs i = some z) (k : q z S) : IxW S (.tup xs) (.int i) q := ⟨z, h2, k⟩
theorem set_dic {n : Nat} {kvs : List (L2.Key × D)} {x : Str} {v : D} {q : Sto → Prop} (h : S n = some (.dic kvs)) (hl : kvs.length < 1000000) (k : q (put S n (.dic (putD kvs (.inr x) v)))) : SetW S (.loc n) (.str x) v q := ⟨_, by
  simp only [setIx, h, keyD, if_pos hl], k⟩
theorem set_dicI {n : Nat} {kvs : List (L2.Key × D)} {v : D} {q : Sto → Prop} (h : S n = some (.dic kvs)) (hl : kvs.length < 1000000) (k : q (put S n (.dic (putD kvs (.inl i) v)))) : SetW S (.loc n) (.int i) v q := ⟨_, by
  simp only [setIx, h, keyD, if_pos hl], k⟩
theorem set_mls {n j : Nat} {xs : List D} {v : D} {q : Sto → Prop} (h : S n = some (.lst xs)) (hj : L2.ixN xs.length i = some j) (k : q (put S n (.lst (xs.set j v)))) : SetW S (.loc n) (.int i) v q := ⟨_, by
  simp only [setIx, h, hj, Option.map_some], k⟩
theorem bif_of {b : Bi} {ds : List D} (h : biD b S ds = some z) (k : q z S) : BifW b S ds q := ⟨z, h, k⟩
theorem len_tup {xs : List D} (k : q (.int (xs.length : Int)) S) : BifW .len S [.tup xs] q := ⟨_, rfl, k⟩
theorem len_lst {xs : List D} (k : q (.int (xs.length : Int)) S) : BifW .len S [.lst xs] q := ⟨_, rfl, k⟩
theorem len_mls {n : Nat} {xs : List D} (h : S n = some (.lst xs)) (k : q (.int (xs.length : Int)) S) : BifW .len S [.loc n] q := ⟨_, by
  show (lenD S (.loc n)).map _ = _
  simp only [lenD, seqD, h, Option.map_some], k⟩
theorem int_bl {b : Bool} (k : q (.int (if b then 1 else 0)) S) : BifW .int S [.bl b] q := ⟨_, rfl, k⟩
theorem max_2 (k : q (.int (max i j)) S) : BifW .max2 S [.int i, .int j] q := ⟨_, rfl, k⟩
theorem min_2 (k : q (.int (min i j)) S) : BifW .min2 S [.int i, .int j] q := ⟨_, rfl, k⟩
theorem tuple_lst {xs : List D} (k : q (.tup xs) S) : BifW .tuple S [.lst xs] q := ⟨_, rfl, k⟩
theorem list_tup {xs : List D} (k : q (.lst xs) S) : BifW .list S [.tup xs] q := ⟨_, rfl, k⟩
theorem neg_int (k : q (.int (-i)) S) : NegW S (.int i) q := ⟨i, rfl, k⟩
theorem lo_nil' {k : List Int → Prop} (h : k []) : LoW [] k := ⟨[], rfl, h⟩
theorem lo_one' {k : List Int → Prop} (h : k [i]) : LoW [.int i] k := ⟨[i], rfl, h⟩
theorem sl_tup {xs : List D} {lo hi : Option Int} (k : q (.tup (cutD xs lo hi)) S) : SlW S (.tup xs) lo hi q := ⟨_, rfl, k⟩
theorem sl_lst {xs : List D} {lo hi : Option Int} (k : q (.lst (cutD xs lo hi)) S) : SlW S (.lst xs) lo hi q := ⟨_, rfl, k⟩
theorem sl_scr {xs : List Int} {lo hi : Option Int} (k : q (.lst ((cutD xs lo hi).map .int)) S) : SlW S (.scr xs) lo hi q := ⟨_, rfl, k⟩
theorem rev_tup {xs : List D} (k : q (.tup xs.reverse) S) : RevW S (.tup xs) q := ⟨_, rfl, k⟩
theorem rev_lst {xs : List D} (k : q (.lst xs.reverse) S) : RevW S (.lst xs) q := ⟨_, rfl, k⟩
theorem isi_non0 (k : q (.bl false) S) : IsiW S (.non) 0 q := ⟨_, by kernel_rfl, k⟩
theorem isi_non1 (k : q (.bl false) S) : IsiW S (.non) 1 q := ⟨_, by kernel_rfl, k⟩
theorem isi_non2 (k : q (.bl false) S) : IsiW S (.non) 2 q := ⟨_, by kernel_rfl, k⟩
theorem isi_non3 (k : q (.bl false) S) : IsiW S (.non) 3 q := ⟨_, by kernel_rfl, k⟩
theorem isi_non4 (k : q (.bl false) S) : IsiW S (.non) 4 q := ⟨_, by kernel_rfl, k⟩
theorem isi_bl0 {b : Bool} (k : q (.bl true) S) : IsiW S (.bl b) 0 q := ⟨_, by kernel_rfl, k⟩
theorem isi_bl1 {b : Bool} (k : q (.bl true) S) : IsiW S (.bl b) 1 q := ⟨_, by kernel_rfl, k⟩
theorem isi_bl2 {b : Bool} (k : q (.bl false) S) : IsiW S (.bl b) 2 q := ⟨_, by kernel_rfl, k⟩
theorem isi_bl3 {b : Bool} (k : q (.bl false) S) : IsiW S (.bl b) 3 q := ⟨_, by kernel_rfl, k⟩
theorem isi_bl4 {b : Bool} (k : q (.bl false) S) : IsiW S (.bl b) 4 q := ⟨_, by kernel_rfl, k⟩
theorem isi_int0 (k : q (.bl true) S) : IsiW S (.int i) 0 q := ⟨_, by kernel_rfl, k⟩
theorem isi_int1 (k : q (.bl false) S) : IsiW S (.int i) 1 q := ⟨_, by kernel_rfl, k⟩
theorem isi_int2 (k : q (.bl false) S) : IsiW S (.int i) 2 q := ⟨_, by kernel_rfl, k⟩
theorem isi_int3 (k : q (.bl false) S) : IsiW S (.int i) 3 q := ⟨_, by kernel_rfl, k⟩
theorem isi_int4 (k : q (.bl false) S) : IsiW S (.int i) 4 q := ⟨_, by kernel_rfl, k⟩
theorem isi_str0 {x : Str} (k : q (.bl false) S) : IsiW S (.str x) 0 q := ⟨_, by kernel_rfl, k⟩
theorem isi_str1 {x : Str} (k : q (.bl false) S) : IsiW S (.str x) 1 q := ⟨_, by kernel_rfl, k⟩
theorem isi_str2 {x : Str} (k : q (.bl true) S) : IsiW S (.str x) 2 q := ⟨_, by kernel_rfl, k⟩
theorem isi_str3 {x : Str} (k : q (.bl false) S) : IsiW S (.str x) 3 q := ⟨_, by kernel_rfl, k⟩
theorem isi_str4 {x : Str} (k : q (.bl false) S) : IsiW S (.str x) 4 q := ⟨_, by kernel_rfl, k⟩
theorem isi_tup0 {xs : List D} (k : q (.bl false) S) : IsiW S (.tup xs) 0 q := ⟨_, by kernel_rfl, k⟩
theorem isi_tup1 {xs : List D} (k : q (.bl false) S) : IsiW S (.tup xs) 1 q := ⟨_, by kernel_rfl, k⟩
theorem isi_tup2 {xs : List D} (k : q (.bl false) S) : IsiW S (.tup xs) 2 q := ⟨_, by kernel_rfl, k⟩
theorem isi_tup3 {xs : List D} (k : q (.bl true) S) : IsiW S (.tup xs) 3 q := ⟨_, by kernel_rfl, k⟩
theorem isi_tup4 {xs : List D} (k : q (.bl false) S) : IsiW S (.tup xs) 4 q := ⟨_, by kernel_rfl, k⟩
theorem isi_lst0 {xs : List D} (k : q (.bl false) S) : IsiW S (.lst xs) 0 q := ⟨_, by kernel_rfl, k⟩
theorem isi_lst1 {xs : List D} (k : q (.bl false) S) : IsiW S (.lst xs) 1 q := ⟨_, by kernel_rfl, k⟩
theorem isi_lst2 {xs : List D} (k : q (.bl false) S) : IsiW S (.lst xs) 2 q := ⟨_, by kernel_rfl, k⟩
theorem isi_lst3 {xs : List D} (k : q (.bl false) S) : IsiW S (.lst xs) 3 q := ⟨_, by kernel_rfl, k⟩
theorem isi_lst4 {xs : List D} (k : q (.bl true) S) : IsiW S (.lst xs) 4 q := ⟨_, by kernel_rfl, k⟩
theorem ite_nt (h : B) : IteW (!true) A B := ite_f h
theorem ite_nf (h : A) : IteW (!false) A B := ite_t h
theorem sub_put {n : Nat} {o : Ob} (h : S n = none) : Sub S (put S n o) := fun m u e => by
  by_cases q : m = n
  · subst q; rw [h] at e; cases e
  · rw [put_ne q]; exact e
theorem mc_dic {n : Nat} {kvs : List (L2.Key × D)} (h : S n = some (.dic kvs)) (k : ∀ m, S m = none → q (.loc m) (put S m (.dic kvs))) : McW S (.loc n) q := ⟨n, kvs, rfl, h, k⟩
theorem bin_mulL {xs : List D} (h : -(2 ^ 63) ≤ i ∧ i < 2 ^ 63 ∧ xs.length * i.toNat ≤ sizeLine) (k : q (.lst (List.replicate i.toNat xs).flatten) S) : BinW .mul S (.lst xs) (.int i) q := ⟨_, if_pos h, k⟩
theorem bin_mulT {xs : List D} (h : xs.isEmpty = false ∧ 0 ≤ i ∧ i ≤ 1000 ∧ xs.length ≤ 1000) (k : q (.tup (List.replicate i.toNat xs).flatten) S) : BinW .mul S (.tup xs) (.int i) q := ⟨_, if_pos h, k⟩
theorem cmp_eqD (h : dicEq S x y = true) (k : qb true) : CmpW .eq S x y qb := ⟨true, if_pos h, k⟩
theorem cmp_neD (h : dicEq S x y = true) (k : qb false) : CmpW .ne S x y qb := ⟨false, if_pos h, k⟩
theorem sub_end {S' : Sto} {d : D} (k : q d S') : ∃ S'', Sub S'' S' ∧ q d S'' := ⟨S', Sub.refl _, k⟩
/-! loops -/
/-- by an invariant over what is left -/
theorem for_by {chk : Sto → Prop} {bd : D → Env → Option Env} {body : En → Env → Sto → Prop} {nx bk ct : Env → Sto → Prop} {rt : Q1} (I : List D → Env → Sto → Prop) (hc : ∀ xs e S, I xs e S → chk S)
    (step : ∀ x xs e S, I (x :: xs) e S → ∀ nx' : Env → Sto → Prop, (∀ e' S', I xs e' S' → nx' e' S') → ∃ e1, bd x e = some e1 ∧ body ⟨nx', rt, nx, nx'⟩ e1 S)
    (fin : ∀ e S, I [] e S → nx e S) : ∀ xs e S, I xs e S → forL chk bd body ⟨nx, rt, bk, ct⟩ xs e S
  | [], e, S, h => ⟨hc _ _ _ h, fin e S h⟩
  | x :: xs, e, S, h => by
    obtain ⟨e1, h1, h2⟩ := step x xs e S h (forL chk bd body ⟨nx, rt, bk, ct⟩ xs) (for_by I hc step fin xs)
    exact ⟨hc _ _ _ h, e1, h1, h2⟩
theorem for_nil {chk : Sto → Prop} {bd : D → Env → Option Env} {body : En → Env → Sto → Prop} {nx bk ct : Env → Sto → Prop} {rt : Q1} {e : Env} (h : chk S) (k : nx e S) : forL chk bd body ⟨nx, rt, bk, ct⟩ [] e S := ⟨h, k⟩
theorem for_cons {chk : Sto → Prop} {bd : D → Env → Option Env} {body : En → Env → Sto → Prop} {nx bk ct : Env → Sto → Prop} {rt : Q1} {e e1 : Env} {xs : List D} (h : chk S) (hb : bd x e = some e1) (k : body ⟨forL chk bd body ⟨nx, rt, bk, ct⟩ xs, rt, nx, forL chk bd body ⟨nx, rt, bk, ct⟩ xs⟩ e1 S) : forL chk bd body ⟨nx, rt, bk, ct⟩ (x :: xs) e S := ⟨h, e1, hb, k⟩
/-- a comprehension by an invariant -/
theorem lc_by {chk : Sto → Prop} {bd : D → Option Env} {cond : Env → Sto → (Bool → Sto → Prop) → Prop} {elt : Env → Sto → Q1 → Prop} {q : List D → Sto → Prop} (I : List D → List D → Sto → Prop) (hc : ∀ xs acc S, I xs acc S → chk S) (hl : ∀ x xs acc S, I (x :: xs) acc S → acc.length < 1000000)
    (step : ∀ x xs acc S, I (x :: xs) acc S → ∀ (kt : Q1) (kf : Sto → Prop), (∀ y S', I xs (acc ++ [y]) S' → kt y S') → (∀ S', I xs acc S' → kf S') → ∃ e1, bd x = some e1 ∧ cond e1 S fun b S1 => if b = true then elt e1 S1 kt else kf S1)
    (fin : ∀ acc S, I [] acc S → q acc S) : ∀ xs acc S, I xs acc S → lcL chk bd cond elt xs acc S q
  | [], acc, S, h => ⟨hc _ _ _ h, fin acc S h⟩
  | x :: xs, acc, S, h => by
    obtain ⟨e1, h1, h2⟩ := step x xs acc S h (fun y S2 => acc.length < 1000000 ∧ lcL chk bd cond elt xs (acc ++ [y]) S2 q) (fun S1 => lcL chk bd cond elt xs acc S1 q) (fun y S' z => ⟨hl _ _ _ _ h, lc_by I hc hl step fin xs _ _ z⟩) fun S' z => lc_by I hc hl step fin xs _ _ z
    exact ⟨hc _ _ _ h, e1, h1, h2⟩
theorem w_lc {T : Tab} {G : GT} {xd : XD} {env : Env} {S : Sto} {q : Q1} {e : E} {t : Tg} {it : It} {c : Es} {own : List Nat} (k : wpI T G xd it env S fun xs chk S1 => lcL chk (fun x => bindT t x (wipeD env own)) (fun e1 S q => wpEs T G xd c e1 S fun ds S2 => match ds with
      | [] => q true S2
      | x :: _ => ∃ k, truD S2 x = some k ∧ q k S2) (fun e1 S q => wpE T G xd e e1 S q) xs [] S1 fun ys S2 => q (.lst ys) S2) : wpE T G xd (.lc e t it c own) env S q := by rw [wpE]; exact k
theorem w_mlc {T : Tab} {G : GT} {xd : XD} {env : Env} {S : Sto} {q : Q1} {e : E} {t : Tg} {it : It} {c : Es} {own : List Nat} (k : wpI T G xd it env S fun xs chk S1 => lcL chk (fun x => bindT t x (wipeD env own)) (fun e1 S q => wpEs T G xd c e1 S fun ds S2 => match ds with
      | [] => q true S2
      | x :: _ => ∃ k, truD S2 x = some k ∧ q k S2) (fun e1 S q => wpE T G xd e e1 S q) xs [] S1 fun ys S2 => ∀ n, S2 n = none → q (.loc n) (put S2 n (.lst ys))) : wpE T G xd (.mlc e t it c own) env S q := by rw [wpE]; exact k
end
end Mi
set_option maxHeartbeats 400000
/-! Mi20: a feed: what draws leave. -/
namespace Mi
open PySem

theorem put_at {S : Sto} {n m : Nat} {o : Ob} : put S n o m = if m = n then some o else S m := rfl
def Same (S S' : Sto) (f : Nat) : Prop := ∀ n, n ≠ f → S' n = S n
theorem Same.refl (S : Sto) (f : Nat) : Same S S f := fun _ _ => rfl
theorem Same.trans {S S1 S2 : Sto} {f : Nat} (a : Same S S1 f) (b : Same S1 S2 f) : Same S S2 f := fun n h => (b n h).trans (a n h)
theorem Same.put {S S1 : Sto} {f : Nat} (a : Same S S1 f) (o : Ob) : Same S (put S1 f o) f := fun n h => (put_ne h).trans (a n h)

def kv (cs : List Int) (a l t : Int) : List (L2.Key × D) := [(.inr "cells", .lst (cs.map .int)), (.inr "at", .int a), (.inr "left", .int l), (.inr "turn", .int t)]
theorem kv_c {cs a l t} : lkD (kv cs a l t) (.inr "cells") = some (.lst (cs.map .int)) := by kernel_rfl
theorem kv_a {cs a l t} : lkD (kv cs a l t) (.inr "at") = some (.int a) := by kernel_rfl
theorem kv_l {cs a l t} : lkD (kv cs a l t) (.inr "left") = some (.int l) := by kernel_rfl
theorem kv_t {cs a l t} : lkD (kv cs a l t) (.inr "turn") = some (.int t) := by kernel_rfl
theorem kp_a {cs a l t x} : putD (kv cs a l t) (.inr "at") (.int x) = kv cs x l t := by kernel_rfl
theorem kp_l {cs a l t x} : putD (kv cs a l t) (.inr "left") (.int x) = kv cs a x t := by kernel_rfl
theorem kp_t {cs a l t x} : putD (kv cs a l t) (.inr "turn") (.int x) = kv cs a l x := by kernel_rfl
theorem kv_n {cs a l t} : (kv cs a l t).length < 1000000 := by show 4 < 1000000; decide
section
variable {S : Sto} {f : Nat} {cs : List Int} {a l t x : Int} {q : Sto → Prop}
theorem fs_a (h : S f = some (.dic (kv cs a l t))) (k : q (put S f (.dic (kv cs x l t)))) : SetW S (.loc f) (.str "at") (.int x) q := set_dic h kv_n (by rw [kp_a]; exact k)
theorem fs_l (h : S f = some (.dic (kv cs a l t))) (k : q (put S f (.dic (kv cs a x t)))) : SetW S (.loc f) (.str "left") (.int x) q := set_dic h kv_n (by rw [kp_l]; exact k)
theorem fs_t (h : S f = some (.dic (kv cs a l t))) (k : q (put S f (.dic (kv cs a l x)))) : SetW S (.loc f) (.str "turn") (.int x) q := set_dic h kv_n (by rw [kp_t]; exact k)
end
/-- f holds a feed, its turn at most t -/
def Fd (S : Sto) (f : Nat) (t : Int) : Prop := ∃ cs a l u, S f = some (.dic (kv cs a l u)) ∧ 0 ≤ u ∧ u ≤ t ∧ 0 ≤ a ∧ a ≤ u ∧ cs.length ≤ 63
theorem Fd.mono {S : Sto} {f : Nat} {t t' : Int} (h : Fd S f t) (e : t ≤ t') : Fd S f t' := let ⟨cs, a, l, u, h1, h2, h3, h4⟩ := h; ⟨cs, a, l, u, h1, h2, Int.le_trans h3 e, h4⟩
theorem Fd.same {S S' : Sto} {f : Nat} {t : Int} (h : Fd S f t) (e : S' f = S f) : Fd S' f t := let ⟨cs, a, l, u, h1, h2⟩ := h; ⟨cs, a, l, u, e.trans h1, h2⟩
/-- a draw's promise -/
def spDraw : List D → Sto → Q1 → XD → Prop := fun ds S q _ => ∃ f m t, ds = [.loc f, .int m] ∧ 0 < m ∧ m < 2 ^ 60 ∧ t < 2 ^ 60 ∧ Fd S f t ∧ ∀ r S', 0 ≤ r → r < m → Same S S' f → Fd S' f (t + 1) → q (.int r) S'
def drawB : List St := [.set 2 (.bin .add (.ix (.var 0) (.str "turn")) (.int 1)), .setI (.var 0) (.str "turn") (.var 2), .ifs (.cmp .gt (.ix (.var 0) (.str "left")) (.int 0)) [.set 6 (.bin .mod (.ix (.var 0) (.str "left")) (.var 1)), .setI (.var 0) (.str "left") (.bin .fdiv (.ix (.var 0) (.str "left")) (.var 1)), .ret (.var 6)] [], .set 3 (.ix (.var 0) (.str "cells")), .set 4 (.ife (.cmp .gt (.bif .len (.cons (.var 3) .nil)) (.int 0)) (.ix (.var 3) (.bin .mod (.ix (.var 0) (.str "at")) (.bif .len (.cons (.var 3) .nil)))) (.int 0)), .setI (.var 0) (.str "at") (.bin .add (.ix (.var 0) (.str "at")) (.int 1)), .ifs (.and (.cmp .ge (.var 4) (.bin .pow (.int 10) (.int 18))) (.cmp .le (.ix (.var 0) (.str "at")) (.bif .len (.cons (.var 3) .nil)))) [.setI (.var 0) (.str "left") (.bin .fdiv (.var 4) (.var 1)), .ret (.bin .mod (.var 4) (.var 1))] [], .set 5 (.bin .mod (.bin .mul (.bin .add (.bin .add (.bin .add (.bin .mod (.var 4) (.int 1000003)) (.bin .mul (.bin .mul (.int 31) (.var 2)) (.var 2))) (.bin .mul (.int 7) (.var 2))) (.int 11)) (.int 48271)) (.int 2147483647)), .set 5 (.bin .mod (.bin .add (.bin .mul (.bin .fdiv (.var 5) (.int 64)) (.int 69621)) (.bin .mul (.int 7919) (.var 2))) (.int 2147483587)), .ret (.bin .mod (.bin .fdiv (.var 5) (.int 64)) (.var 1))]
theorem atI_mod (cs : List Int) (a : Int) (h : 0 < cs.length) : ∃ c, L2.atI (cs.map D.int) (a % (cs.length : Int)) = some (.int c) := by
  have h1 : 0 ≤ a % (cs.length : Int) := Int.emod_nonneg _ (by omega)
  have h2 : a % (cs.length : Int) < cs.length := Int.emod_lt_of_pos _ (by omega)
  obtain ⟨k, hk⟩ := Int.eq_ofNat_of_zero_le h1
  rw [hk] at h2 ⊢
  have h3 : k < cs.length := by omega
  refine ⟨cs[k], L2.atI_nat ?_⟩
  rw [List.getElem?_map, List.getElem?_eq_getElem h3]
  rfl
theorem draw_ok {T : Tab} {G : GT} {ds : List D} {S : Sto} {q : Q1} (h : spDraw ds S q noX) : wpSs T G noX drawB (bodyEn q) (startD ["_law_feed_here", "_law_many_here", "_law_turn", "_law_cells", "_law_cell", "_law_mixed", "_law_digit"] ds) S := by
  obtain ⟨f, m, t, rfl, m0, m1, t1, ⟨cs, a, l, u, hS, u0, ut, a0, au, hc⟩, ok⟩ := h
  show wpSs T G noX drawB (bodyEn q) [some (.loc f), some (.int m), none, none, none, none, none] S
  refine w_body ?_
  unfold drawB
  have m64 : m < 2 ^ 64 := by omega
  repeat' (first | with_reducible refine ix_dic hS kv_t ?_ | with_reducible refine fs_t hS ?_ | with_reducible refine ix_dic put_same kv_l ?_ | ((with_reducible apply w_var); exact rfl) | with_reducible refine w_int ?_ | with_reducible refine w_str ?_ | with_reducible refine w_bl ?_ | with_reducible refine w_non ?_ | ((with_reducible apply w_cst); exact rfl) | with_reducible refine w_tup ?_ | with_reducible refine w_lst ?_ | with_reducible refine w_mls ?_ | with_reducible refine w_dic ?_ | with_reducible refine w_bin ?_ | with_reducible refine w_cmp ?_ | with_reducible refine w_chn ?_ | with_reducible refine w_and ?_ | with_reducible refine w_or ?_ | with_reducible refine w_not ?_ | with_reducible refine w_neg ?_ | with_reducible refine w_ife ?_ | with_reducible refine w_ix ?_ | with_reducible refine w_sl ?_ | with_reducible refine w_rev ?_ | with_reducible refine w_call ?_ | with_reducible refine w_bif ?_ | with_reducible refine w_isi ?_ | with_reducible refine w_mli ?_ | with_reducible refine w_meth ?_ | with_reducible refine w_fz ?_ | with_reducible refine w_chn3 ?_ | with_reducible refine w_mdc ?_ | with_reducible refine w_den ?_ | with_reducible refine w_nil ?_ | with_reducible refine w_cons ?_ | with_reducible refine w_rng ?_ | with_reducible refine w_seq ?_ | with_reducible refine w_rvs ?_ | with_reducible refine w_enm ?_ | with_reducible refine w_end ?_ | with_reducible refine w_then ?_ | with_reducible refine w_set ?_ | with_reducible refine w_setT ?_ | with_reducible refine w_setI ?_ | with_reducible refine w_ifs ?_ | with_reducible refine w_for ?_ | with_reducible refine w_ret ?_ | with_reducible refine w_retN ?_ | with_reducible refine w_ex ?_ | with_reducible refine w_brk ?_ | with_reducible refine w_cont ?_ | with_reducible refine w_pass ?_ | with_reducible refine w_lc ?_ | with_reducible refine w_mlc ?_ | with_reducible refine bin_add ?_ | with_reducible refine bin_sub ?_ | with_reducible refine cmp_lt ?_ | with_reducible refine cmp_le ?_ | with_reducible refine cmp_gt ?_ | with_reducible refine cmp_ge ?_ | with_reducible refine cmp_eqI ?_ | with_reducible refine cmp_neI ?_ | with_reducible refine cmp_eqS ?_ | with_reducible refine cmp_neS ?_ | with_reducible refine tru_bl ?_ | with_reducible refine tru_int ?_ | with_reducible refine len_tup ?_ | with_reducible refine len_lst ?_ | with_reducible refine int_bl ?_ | with_reducible refine max_2 ?_ | with_reducible refine min_2 ?_ | with_reducible refine tuple_lst ?_ | with_reducible refine list_tup ?_ | with_reducible refine ite_t ?_ | with_reducible refine ite_f ?_ | with_reducible refine ite_nt ?_ | with_reducible refine ite_nf ?_ | with_reducible refine neg_int ?_ | with_reducible refine lo_nil' ?_ | with_reducible refine lo_one' ?_ | with_reducible refine sl_tup ?_ | with_reducible refine sl_lst ?_ | with_reducible refine sl_scr ?_ | with_reducible refine rev_tup ?_ | with_reducible refine rev_lst ?_ | with_reducible refine isi_non0 ?_ | with_reducible refine isi_non1 ?_ | with_reducible refine isi_non2 ?_ | with_reducible refine isi_non3 ?_ | with_reducible refine isi_non4 ?_ | with_reducible refine isi_bl0 ?_ | with_reducible refine isi_bl1 ?_ | with_reducible refine isi_bl2 ?_ | with_reducible refine isi_bl3 ?_ | with_reducible refine isi_bl4 ?_ | with_reducible refine isi_int0 ?_ | with_reducible refine isi_int1 ?_ | with_reducible refine isi_int2 ?_ | with_reducible refine isi_int3 ?_ | with_reducible refine isi_int4 ?_ | with_reducible refine isi_str0 ?_ | with_reducible refine isi_str1 ?_ | with_reducible refine isi_str2 ?_ | with_reducible refine isi_str3 ?_ | with_reducible refine isi_str4 ?_ | with_reducible refine isi_tup0 ?_ | with_reducible refine isi_tup1 ?_ | with_reducible refine isi_tup2 ?_ | with_reducible refine isi_tup3 ?_ | with_reducible refine isi_tup4 ?_ | with_reducible refine isi_lst0 ?_ | with_reducible refine isi_lst1 ?_ | with_reducible refine isi_lst2 ?_ | with_reducible refine isi_lst3 ?_ | with_reducible refine isi_lst4 ?_ | ((with_reducible refine ite_no ?_ ?_); focus (first | assumption | decide))| ((with_reducible refine ite_yes ?_ ?_); focus (first | assumption | decide))| ((with_reducible refine ite_nno ?_ ?_); focus (first | assumption | decide))| ((with_reducible refine ite_nyes ?_ ?_); focus (first | assumption | decide))| ((with_reducible refine ite_no ?_ ?_); focus (first | assumption | (simp; done) | omega | (simp only [List.length_cons, List.length_nil]; omega) | decide))| ((with_reducible refine ite_yes ?_ ?_); focus (first | assumption | (simp; done) | omega | (simp only [List.length_cons, List.length_nil]; omega) | decide))| ((with_reducible refine ite_nno ?_ ?_); focus (first | assumption | (simp; done) | omega | (simp only [List.length_cons, List.length_nil]; omega) | decide))| ((with_reducible refine ite_nyes ?_ ?_); focus (first | assumption | (simp; done) | omega | (simp only [List.length_cons, List.length_nil]; omega) | decide))| ((with_reducible refine And.intro ?_ ?_); focus (first | (simp; done) | omega)))
  refine ite_dec (fun hl => ?_) fun hl => ?_
  · repeat' (first | with_reducible refine ix_dic put_same kv_l ?_ | with_reducible refine bin_mod m0 ?_ | with_reducible refine bin_fdiv ⟨m0, m64⟩ ?_ | with_reducible refine fs_l put_same ?_ | ((with_reducible apply w_var); exact rfl) | with_reducible refine w_int ?_ | with_reducible refine w_str ?_ | with_reducible refine w_bl ?_ | with_reducible refine w_non ?_ | ((with_reducible apply w_cst); exact rfl) | with_reducible refine w_tup ?_ | with_reducible refine w_lst ?_ | with_reducible refine w_mls ?_ | with_reducible refine w_dic ?_ | with_reducible refine w_bin ?_ | with_reducible refine w_cmp ?_ | with_reducible refine w_chn ?_ | with_reducible refine w_and ?_ | with_reducible refine w_or ?_ | with_reducible refine w_not ?_ | with_reducible refine w_neg ?_ | with_reducible refine w_ife ?_ | with_reducible refine w_ix ?_ | with_reducible refine w_sl ?_ | with_reducible refine w_rev ?_ | with_reducible refine w_call ?_ | with_reducible refine w_bif ?_ | with_reducible refine w_isi ?_ | with_reducible refine w_mli ?_ | with_reducible refine w_meth ?_ | with_reducible refine w_fz ?_ | with_reducible refine w_chn3 ?_ | with_reducible refine w_mdc ?_ | with_reducible refine w_den ?_ | with_reducible refine w_nil ?_ | with_reducible refine w_cons ?_ | with_reducible refine w_rng ?_ | with_reducible refine w_seq ?_ | with_reducible refine w_rvs ?_ | with_reducible refine w_enm ?_ | with_reducible refine w_end ?_ | with_reducible refine w_then ?_ | with_reducible refine w_set ?_ | with_reducible refine w_setT ?_ | with_reducible refine w_setI ?_ | with_reducible refine w_ifs ?_ | with_reducible refine w_for ?_ | with_reducible refine w_ret ?_ | with_reducible refine w_retN ?_ | with_reducible refine w_ex ?_ | with_reducible refine w_brk ?_ | with_reducible refine w_cont ?_ | with_reducible refine w_pass ?_ | with_reducible refine w_lc ?_ | with_reducible refine w_mlc ?_ | with_reducible refine bin_add ?_ | with_reducible refine bin_sub ?_ | with_reducible refine cmp_lt ?_ | with_reducible refine cmp_le ?_ | with_reducible refine cmp_gt ?_ | with_reducible refine cmp_ge ?_ | with_reducible refine cmp_eqI ?_ | with_reducible refine cmp_neI ?_ | with_reducible refine cmp_eqS ?_ | with_reducible refine cmp_neS ?_ | with_reducible refine tru_bl ?_ | with_reducible refine tru_int ?_ | with_reducible refine len_tup ?_ | with_reducible refine len_lst ?_ | with_reducible refine int_bl ?_ | with_reducible refine max_2 ?_ | with_reducible refine min_2 ?_ | with_reducible refine tuple_lst ?_ | with_reducible refine list_tup ?_ | with_reducible refine ite_t ?_ | with_reducible refine ite_f ?_ | with_reducible refine ite_nt ?_ | with_reducible refine ite_nf ?_ | with_reducible refine neg_int ?_ | with_reducible refine lo_nil' ?_ | with_reducible refine lo_one' ?_ | with_reducible refine sl_tup ?_ | with_reducible refine sl_lst ?_ | with_reducible refine sl_scr ?_ | with_reducible refine rev_tup ?_ | with_reducible refine rev_lst ?_ | with_reducible refine isi_non0 ?_ | with_reducible refine isi_non1 ?_ | with_reducible refine isi_non2 ?_ | with_reducible refine isi_non3 ?_ | with_reducible refine isi_non4 ?_ | with_reducible refine isi_bl0 ?_ | with_reducible refine isi_bl1 ?_ | with_reducible refine isi_bl2 ?_ | with_reducible refine isi_bl3 ?_ | with_reducible refine isi_bl4 ?_ | with_reducible refine isi_int0 ?_ | with_reducible refine isi_int1 ?_ | with_reducible refine isi_int2 ?_ | with_reducible refine isi_int3 ?_ | with_reducible refine isi_int4 ?_ | with_reducible refine isi_str0 ?_ | with_reducible refine isi_str1 ?_ | with_reducible refine isi_str2 ?_ | with_reducible refine isi_str3 ?_ | with_reducible refine isi_str4 ?_ | with_reducible refine isi_tup0 ?_ | with_reducible refine isi_tup1 ?_ | with_reducible refine isi_tup2 ?_ | with_reducible refine isi_tup3 ?_ | with_reducible refine isi_tup4 ?_ | with_reducible refine isi_lst0 ?_ | with_reducible refine isi_lst1 ?_ | with_reducible refine isi_lst2 ?_ | with_reducible refine isi_lst3 ?_ | with_reducible refine isi_lst4 ?_ | ((with_reducible refine ite_no ?_ ?_); focus (first | assumption | decide))| ((with_reducible refine ite_yes ?_ ?_); focus (first | assumption | decide))| ((with_reducible refine ite_nno ?_ ?_); focus (first | assumption | decide))| ((with_reducible refine ite_nyes ?_ ?_); focus (first | assumption | decide))| ((with_reducible refine ite_no ?_ ?_); focus (first | assumption | (simp; done) | omega | (simp only [List.length_cons, List.length_nil]; omega) | decide))| ((with_reducible refine ite_yes ?_ ?_); focus (first | assumption | (simp; done) | omega | (simp only [List.length_cons, List.length_nil]; omega) | decide))| ((with_reducible refine ite_nno ?_ ?_); focus (first | assumption | (simp; done) | omega | (simp only [List.length_cons, List.length_nil]; omega) | decide))| ((with_reducible refine ite_nyes ?_ ?_); focus (first | assumption | (simp; done) | omega | (simp only [List.length_cons, List.length_nil]; omega) | decide))| ((with_reducible refine And.intro ?_ ?_); focus (first | (simp; done) | omega)))
    refine sub_end (ok _ _ (Int.emod_nonneg _ (by omega)) (Int.emod_lt_of_pos _ m0) (((Same.refl S f).put _).put _) ⟨cs, a, _, u + 1, put_same, by omega, by omega, a0, by omega, hc⟩)
  · repeat' (first | with_reducible refine ix_dic put_same kv_c ?_ | ((with_reducible apply w_var); exact rfl) | with_reducible refine w_int ?_ | with_reducible refine w_str ?_ | with_reducible refine w_bl ?_ | with_reducible refine w_non ?_ | ((with_reducible apply w_cst); exact rfl) | with_reducible refine w_tup ?_ | with_reducible refine w_lst ?_ | with_reducible refine w_mls ?_ | with_reducible refine w_dic ?_ | with_reducible refine w_bin ?_ | with_reducible refine w_cmp ?_ | with_reducible refine w_chn ?_ | with_reducible refine w_and ?_ | with_reducible refine w_or ?_ | with_reducible refine w_not ?_ | with_reducible refine w_neg ?_ | with_reducible refine w_ife ?_ | with_reducible refine w_ix ?_ | with_reducible refine w_sl ?_ | with_reducible refine w_rev ?_ | with_reducible refine w_call ?_ | with_reducible refine w_bif ?_ | with_reducible refine w_isi ?_ | with_reducible refine w_mli ?_ | with_reducible refine w_meth ?_ | with_reducible refine w_fz ?_ | with_reducible refine w_chn3 ?_ | with_reducible refine w_mdc ?_ | with_reducible refine w_den ?_ | with_reducible refine w_nil ?_ | with_reducible refine w_cons ?_ | with_reducible refine w_rng ?_ | with_reducible refine w_seq ?_ | with_reducible refine w_rvs ?_ | with_reducible refine w_enm ?_ | with_reducible refine w_end ?_ | with_reducible refine w_then ?_ | with_reducible refine w_set ?_ | with_reducible refine w_setT ?_ | with_reducible refine w_setI ?_ | with_reducible refine w_ifs ?_ | with_reducible refine w_for ?_ | with_reducible refine w_ret ?_ | with_reducible refine w_retN ?_ | with_reducible refine w_ex ?_ | with_reducible refine w_brk ?_ | with_reducible refine w_cont ?_ | with_reducible refine w_pass ?_ | with_reducible refine w_lc ?_ | with_reducible refine w_mlc ?_ | with_reducible refine bin_add ?_ | with_reducible refine bin_sub ?_ | with_reducible refine cmp_lt ?_ | with_reducible refine cmp_le ?_ | with_reducible refine cmp_gt ?_ | with_reducible refine cmp_ge ?_ | with_reducible refine cmp_eqI ?_ | with_reducible refine cmp_neI ?_ | with_reducible refine cmp_eqS ?_ | with_reducible refine cmp_neS ?_ | with_reducible refine tru_bl ?_ | with_reducible refine tru_int ?_ | with_reducible refine len_tup ?_ | with_reducible refine len_lst ?_ | with_reducible refine int_bl ?_ | with_reducible refine max_2 ?_ | with_reducible refine min_2 ?_ | with_reducible refine tuple_lst ?_ | with_reducible refine list_tup ?_ | with_reducible refine ite_t ?_ | with_reducible refine ite_f ?_ | with_reducible refine ite_nt ?_ | with_reducible refine ite_nf ?_ | with_reducible refine neg_int ?_ | with_reducible refine lo_nil' ?_ | with_reducible refine lo_one' ?_ | with_reducible refine sl_tup ?_ | with_reducible refine sl_lst ?_ | with_reducible refine sl_scr ?_ | with_reducible refine rev_tup ?_ | with_reducible refine rev_lst ?_ | with_reducible refine isi_non0 ?_ | with_reducible refine isi_non1 ?_ | with_reducible refine isi_non2 ?_ | with_reducible refine isi_non3 ?_ | with_reducible refine isi_non4 ?_ | with_reducible refine isi_bl0 ?_ | with_reducible refine isi_bl1 ?_ | with_reducible refine isi_bl2 ?_ | with_reducible refine isi_bl3 ?_ | with_reducible refine isi_bl4 ?_ | with_reducible refine isi_int0 ?_ | with_reducible refine isi_int1 ?_ | with_reducible refine isi_int2 ?_ | with_reducible refine isi_int3 ?_ | with_reducible refine isi_int4 ?_ | with_reducible refine isi_str0 ?_ | with_reducible refine isi_str1 ?_ | with_reducible refine isi_str2 ?_ | with_reducible refine isi_str3 ?_ | with_reducible refine isi_str4 ?_ | with_reducible refine isi_tup0 ?_ | with_reducible refine isi_tup1 ?_ | with_reducible refine isi_tup2 ?_ | with_reducible refine isi_tup3 ?_ | with_reducible refine isi_tup4 ?_ | with_reducible refine isi_lst0 ?_ | with_reducible refine isi_lst1 ?_ | with_reducible refine isi_lst2 ?_ | with_reducible refine isi_lst3 ?_ | with_reducible refine isi_lst4 ?_ | ((with_reducible refine ite_no ?_ ?_); focus (first | assumption | decide))| ((with_reducible refine ite_yes ?_ ?_); focus (first | assumption | decide))| ((with_reducible refine ite_nno ?_ ?_); focus (first | assumption | decide))| ((with_reducible refine ite_nyes ?_ ?_); focus (first | assumption | decide))| ((with_reducible refine ite_no ?_ ?_); focus (first | assumption | (simp; done) | omega | (simp only [List.length_cons, List.length_nil]; omega) | decide))| ((with_reducible refine ite_yes ?_ ?_); focus (first | assumption | (simp; done) | omega | (simp only [List.length_cons, List.length_nil]; omega) | decide))| ((with_reducible refine ite_nno ?_ ?_); focus (first | assumption | (simp; done) | omega | (simp only [List.length_cons, List.length_nil]; omega) | decide))| ((with_reducible refine ite_nyes ?_ ?_); focus (first | assumption | (simp; done) | omega | (simp only [List.length_cons, List.length_nil]; omega) | decide))| ((with_reducible refine And.intro ?_ ?_); focus (first | (simp; done) | omega)))
    have key : ∀ c : Int, wpSs T G noX [.setI (.var 0) (.str "at") (.bin .add (.ix (.var 0) (.str "at")) (.int 1)), .ifs (.and (.cmp .ge (.var 4) (.bin .pow (.int 10) (.int 18))) (.cmp .le (.ix (.var 0) (.str "at")) (.bif .len (.cons (.var 3) .nil)))) [.setI (.var 0) (.str "left") (.bin .fdiv (.var 4) (.var 1)), .ret (.bin .mod (.var 4) (.var 1))] [], .set 5 (.bin .mod (.bin .mul (.bin .add (.bin .add (.bin .add (.bin .mod (.var 4) (.int 1000003)) (.bin .mul (.bin .mul (.int 31) (.var 2)) (.var 2))) (.bin .mul (.int 7) (.var 2))) (.int 11)) (.int 48271)) (.int 2147483647)), .set 5 (.bin .mod (.bin .add (.bin .mul (.bin .fdiv (.var 5) (.int 64)) (.int 69621)) (.bin .mul (.int 7919) (.var 2))) (.int 2147483587)), .ret (.bin .mod (.bin .fdiv (.var 5) (.int 64)) (.var 1))]
      ⟨fun _ S' => ∃ S'', Sub S'' S' ∧ q .non S'', fun d S' => ∃ S'', Sub S'' S' ∧ q d S'', fun _ _ => False, fun _ _ => False⟩ [some (.loc f), some (.int m), some (.int (u + 1)), some (.lst (cs.map .int)), some (.int c), none, none] (put S f (.dic (kv cs a l (u + 1)))) := by
      intro c
      have fin : wpSs T G noX [.set 5 (.bin .mod (.bin .mul (.bin .add (.bin .add (.bin .add (.bin .mod (.var 4) (.int 1000003)) (.bin .mul (.bin .mul (.int 31) (.var 2)) (.var 2))) (.bin .mul (.int 7) (.var 2))) (.int 11)) (.int 48271)) (.int 2147483647)), .set 5 (.bin .mod (.bin .add (.bin .mul (.bin .fdiv (.var 5) (.int 64)) (.int 69621)) (.bin .mul (.int 7919) (.var 2))) (.int 2147483587)), .ret (.bin .mod (.bin .fdiv (.var 5) (.int 64)) (.var 1))]
        ⟨fun _ S' => ∃ S'', Sub S'' S' ∧ q .non S'', fun d S' => ∃ S'', Sub S'' S' ∧ q d S'', fun _ _ => False, fun _ _ => False⟩ [some (.loc f), some (.int m), some (.int (u + 1)), some (.lst (cs.map .int)), some (.int c), none, none] (put (put S f (.dic (kv cs a l (u + 1)))) f (.dic (kv cs (a + 1) l (u + 1)))) := by
        repeat' (first | with_reducible refine bin_mod (by decide) ?_ | with_reducible refine bin_mul (.inr (by omega)) ?_ | with_reducible refine bin_mul (.inl (by omega)) ?_ | with_reducible refine bin_fdiv (by omega) ?_ | with_reducible refine bin_mod m0 ?_ | ((with_reducible apply w_var); exact rfl) | with_reducible refine w_int ?_ | with_reducible refine w_str ?_ | with_reducible refine w_bl ?_ | with_reducible refine w_non ?_ | ((with_reducible apply w_cst); exact rfl) | with_reducible refine w_tup ?_ | with_reducible refine w_lst ?_ | with_reducible refine w_mls ?_ | with_reducible refine w_dic ?_ | with_reducible refine w_bin ?_ | with_reducible refine w_cmp ?_ | with_reducible refine w_chn ?_ | with_reducible refine w_and ?_ | with_reducible refine w_or ?_ | with_reducible refine w_not ?_ | with_reducible refine w_neg ?_ | with_reducible refine w_ife ?_ | with_reducible refine w_ix ?_ | with_reducible refine w_sl ?_ | with_reducible refine w_rev ?_ | with_reducible refine w_call ?_ | with_reducible refine w_bif ?_ | with_reducible refine w_isi ?_ | with_reducible refine w_mli ?_ | with_reducible refine w_meth ?_ | with_reducible refine w_fz ?_ | with_reducible refine w_chn3 ?_ | with_reducible refine w_mdc ?_ | with_reducible refine w_den ?_ | with_reducible refine w_nil ?_ | with_reducible refine w_cons ?_ | with_reducible refine w_rng ?_ | with_reducible refine w_seq ?_ | with_reducible refine w_rvs ?_ | with_reducible refine w_enm ?_ | with_reducible refine w_end ?_ | with_reducible refine w_then ?_ | with_reducible refine w_set ?_ | with_reducible refine w_setT ?_ | with_reducible refine w_setI ?_ | with_reducible refine w_ifs ?_ | with_reducible refine w_for ?_ | with_reducible refine w_ret ?_ | with_reducible refine w_retN ?_ | with_reducible refine w_ex ?_ | with_reducible refine w_brk ?_ | with_reducible refine w_cont ?_ | with_reducible refine w_pass ?_ | with_reducible refine w_lc ?_ | with_reducible refine w_mlc ?_ | with_reducible refine bin_add ?_ | with_reducible refine bin_sub ?_ | with_reducible refine cmp_lt ?_ | with_reducible refine cmp_le ?_ | with_reducible refine cmp_gt ?_ | with_reducible refine cmp_ge ?_ | with_reducible refine cmp_eqI ?_ | with_reducible refine cmp_neI ?_ | with_reducible refine cmp_eqS ?_ | with_reducible refine cmp_neS ?_ | with_reducible refine tru_bl ?_ | with_reducible refine tru_int ?_ | with_reducible refine len_tup ?_ | with_reducible refine len_lst ?_ | with_reducible refine int_bl ?_ | with_reducible refine max_2 ?_ | with_reducible refine min_2 ?_ | with_reducible refine tuple_lst ?_ | with_reducible refine list_tup ?_ | with_reducible refine ite_t ?_ | with_reducible refine ite_f ?_ | with_reducible refine ite_nt ?_ | with_reducible refine ite_nf ?_ | with_reducible refine neg_int ?_ | with_reducible refine lo_nil' ?_ | with_reducible refine lo_one' ?_ | with_reducible refine sl_tup ?_ | with_reducible refine sl_lst ?_ | with_reducible refine sl_scr ?_ | with_reducible refine rev_tup ?_ | with_reducible refine rev_lst ?_ | with_reducible refine isi_non0 ?_ | with_reducible refine isi_non1 ?_ | with_reducible refine isi_non2 ?_ | with_reducible refine isi_non3 ?_ | with_reducible refine isi_non4 ?_ | with_reducible refine isi_bl0 ?_ | with_reducible refine isi_bl1 ?_ | with_reducible refine isi_bl2 ?_ | with_reducible refine isi_bl3 ?_ | with_reducible refine isi_bl4 ?_ | with_reducible refine isi_int0 ?_ | with_reducible refine isi_int1 ?_ | with_reducible refine isi_int2 ?_ | with_reducible refine isi_int3 ?_ | with_reducible refine isi_int4 ?_ | with_reducible refine isi_str0 ?_ | with_reducible refine isi_str1 ?_ | with_reducible refine isi_str2 ?_ | with_reducible refine isi_str3 ?_ | with_reducible refine isi_str4 ?_ | with_reducible refine isi_tup0 ?_ | with_reducible refine isi_tup1 ?_ | with_reducible refine isi_tup2 ?_ | with_reducible refine isi_tup3 ?_ | with_reducible refine isi_tup4 ?_ | with_reducible refine isi_lst0 ?_ | with_reducible refine isi_lst1 ?_ | with_reducible refine isi_lst2 ?_ | with_reducible refine isi_lst3 ?_ | with_reducible refine isi_lst4 ?_ | ((with_reducible refine ite_no ?_ ?_); focus (first | assumption | decide))| ((with_reducible refine ite_yes ?_ ?_); focus (first | assumption | decide))| ((with_reducible refine ite_nno ?_ ?_); focus (first | assumption | decide))| ((with_reducible refine ite_nyes ?_ ?_); focus (first | assumption | decide))| ((with_reducible refine ite_no ?_ ?_); focus (first | assumption | (simp; done) | omega | (simp only [List.length_cons, List.length_nil]; omega) | decide))| ((with_reducible refine ite_yes ?_ ?_); focus (first | assumption | (simp; done) | omega | (simp only [List.length_cons, List.length_nil]; omega) | decide))| ((with_reducible refine ite_nno ?_ ?_); focus (first | assumption | (simp; done) | omega | (simp only [List.length_cons, List.length_nil]; omega) | decide))| ((with_reducible refine ite_nyes ?_ ?_); focus (first | assumption | (simp; done) | omega | (simp only [List.length_cons, List.length_nil]; omega) | decide))| ((with_reducible refine And.intro ?_ ?_); focus (first | (simp; done) | omega)))
        exact sub_end (ok _ _ (Int.emod_nonneg _ (by omega)) (Int.emod_lt_of_pos _ m0) (((Same.refl S f).put _).put _) ⟨cs, a + 1, l, u + 1, put_same, by omega, by omega, by omega, by omega, hc⟩)
      repeat' (first | with_reducible refine ix_dic put_same kv_a ?_ | with_reducible refine fs_a put_same ?_ | with_reducible refine bin_pow (by decide) ?_ | ((with_reducible apply w_var); exact rfl) | with_reducible refine w_int ?_ | with_reducible refine w_str ?_ | with_reducible refine w_bl ?_ | with_reducible refine w_non ?_ | ((with_reducible apply w_cst); exact rfl) | with_reducible refine w_tup ?_ | with_reducible refine w_lst ?_ | with_reducible refine w_mls ?_ | with_reducible refine w_dic ?_ | with_reducible refine w_bin ?_ | with_reducible refine w_cmp ?_ | with_reducible refine w_chn ?_ | with_reducible refine w_and ?_ | with_reducible refine w_or ?_ | with_reducible refine w_not ?_ | with_reducible refine w_neg ?_ | with_reducible refine w_ife ?_ | with_reducible refine w_ix ?_ | with_reducible refine w_sl ?_ | with_reducible refine w_rev ?_ | with_reducible refine w_call ?_ | with_reducible refine w_bif ?_ | with_reducible refine w_isi ?_ | with_reducible refine w_mli ?_ | with_reducible refine w_meth ?_ | with_reducible refine w_fz ?_ | with_reducible refine w_chn3 ?_ | with_reducible refine w_mdc ?_ | with_reducible refine w_den ?_ | with_reducible refine w_nil ?_ | with_reducible refine w_cons ?_ | with_reducible refine w_rng ?_ | with_reducible refine w_seq ?_ | with_reducible refine w_rvs ?_ | with_reducible refine w_enm ?_ | with_reducible refine w_end ?_ | with_reducible refine w_then ?_ | with_reducible refine w_set ?_ | with_reducible refine w_setT ?_ | with_reducible refine w_setI ?_ | with_reducible refine w_ifs ?_ | with_reducible refine w_for ?_ | with_reducible refine w_ret ?_ | with_reducible refine w_retN ?_ | with_reducible refine w_ex ?_ | with_reducible refine w_brk ?_ | with_reducible refine w_cont ?_ | with_reducible refine w_pass ?_ | with_reducible refine w_lc ?_ | with_reducible refine w_mlc ?_ | with_reducible refine bin_add ?_ | with_reducible refine bin_sub ?_ | with_reducible refine cmp_lt ?_ | with_reducible refine cmp_le ?_ | with_reducible refine cmp_gt ?_ | with_reducible refine cmp_ge ?_ | with_reducible refine cmp_eqI ?_ | with_reducible refine cmp_neI ?_ | with_reducible refine cmp_eqS ?_ | with_reducible refine cmp_neS ?_ | with_reducible refine tru_bl ?_ | with_reducible refine tru_int ?_ | with_reducible refine len_tup ?_ | with_reducible refine len_lst ?_ | with_reducible refine int_bl ?_ | with_reducible refine max_2 ?_ | with_reducible refine min_2 ?_ | with_reducible refine tuple_lst ?_ | with_reducible refine list_tup ?_ | with_reducible refine ite_t ?_ | with_reducible refine ite_f ?_ | with_reducible refine ite_nt ?_ | with_reducible refine ite_nf ?_ | with_reducible refine neg_int ?_ | with_reducible refine lo_nil' ?_ | with_reducible refine lo_one' ?_ | with_reducible refine sl_tup ?_ | with_reducible refine sl_lst ?_ | with_reducible refine sl_scr ?_ | with_reducible refine rev_tup ?_ | with_reducible refine rev_lst ?_ | with_reducible refine isi_non0 ?_ | with_reducible refine isi_non1 ?_ | with_reducible refine isi_non2 ?_ | with_reducible refine isi_non3 ?_ | with_reducible refine isi_non4 ?_ | with_reducible refine isi_bl0 ?_ | with_reducible refine isi_bl1 ?_ | with_reducible refine isi_bl2 ?_ | with_reducible refine isi_bl3 ?_ | with_reducible refine isi_bl4 ?_ | with_reducible refine isi_int0 ?_ | with_reducible refine isi_int1 ?_ | with_reducible refine isi_int2 ?_ | with_reducible refine isi_int3 ?_ | with_reducible refine isi_int4 ?_ | with_reducible refine isi_str0 ?_ | with_reducible refine isi_str1 ?_ | with_reducible refine isi_str2 ?_ | with_reducible refine isi_str3 ?_ | with_reducible refine isi_str4 ?_ | with_reducible refine isi_tup0 ?_ | with_reducible refine isi_tup1 ?_ | with_reducible refine isi_tup2 ?_ | with_reducible refine isi_tup3 ?_ | with_reducible refine isi_tup4 ?_ | with_reducible refine isi_lst0 ?_ | with_reducible refine isi_lst1 ?_ | with_reducible refine isi_lst2 ?_ | with_reducible refine isi_lst3 ?_ | with_reducible refine isi_lst4 ?_ | ((with_reducible refine ite_no ?_ ?_); focus (first | assumption | decide))| ((with_reducible refine ite_yes ?_ ?_); focus (first | assumption | decide))| ((with_reducible refine ite_nno ?_ ?_); focus (first | assumption | decide))| ((with_reducible refine ite_nyes ?_ ?_); focus (first | assumption | decide))| ((with_reducible refine ite_no ?_ ?_); focus (first | assumption | (simp; done) | omega | (simp only [List.length_cons, List.length_nil]; omega) | decide))| ((with_reducible refine ite_yes ?_ ?_); focus (first | assumption | (simp; done) | omega | (simp only [List.length_cons, List.length_nil]; omega) | decide))| ((with_reducible refine ite_nno ?_ ?_); focus (first | assumption | (simp; done) | omega | (simp only [List.length_cons, List.length_nil]; omega) | decide))| ((with_reducible refine ite_nyes ?_ ?_); focus (first | assumption | (simp; done) | omega | (simp only [List.length_cons, List.length_nil]; omega) | decide))| ((with_reducible refine And.intro ?_ ?_); focus (first | (simp; done) | omega)))
      refine ite_dec (fun h1 => ?_) fun h1 => ?_
      · repeat' (first | with_reducible refine ix_dic put_same kv_a ?_ | ((with_reducible apply w_var); exact rfl) | with_reducible refine w_int ?_ | with_reducible refine w_str ?_ | with_reducible refine w_bl ?_ | with_reducible refine w_non ?_ | ((with_reducible apply w_cst); exact rfl) | with_reducible refine w_tup ?_ | with_reducible refine w_lst ?_ | with_reducible refine w_mls ?_ | with_reducible refine w_dic ?_ | with_reducible refine w_bin ?_ | with_reducible refine w_cmp ?_ | with_reducible refine w_chn ?_ | with_reducible refine w_and ?_ | with_reducible refine w_or ?_ | with_reducible refine w_not ?_ | with_reducible refine w_neg ?_ | with_reducible refine w_ife ?_ | with_reducible refine w_ix ?_ | with_reducible refine w_sl ?_ | with_reducible refine w_rev ?_ | with_reducible refine w_call ?_ | with_reducible refine w_bif ?_ | with_reducible refine w_isi ?_ | with_reducible refine w_mli ?_ | with_reducible refine w_meth ?_ | with_reducible refine w_fz ?_ | with_reducible refine w_chn3 ?_ | with_reducible refine w_mdc ?_ | with_reducible refine w_den ?_ | with_reducible refine w_nil ?_ | with_reducible refine w_cons ?_ | with_reducible refine w_rng ?_ | with_reducible refine w_seq ?_ | with_reducible refine w_rvs ?_ | with_reducible refine w_enm ?_ | with_reducible refine w_end ?_ | with_reducible refine w_then ?_ | with_reducible refine w_set ?_ | with_reducible refine w_setT ?_ | with_reducible refine w_setI ?_ | with_reducible refine w_ifs ?_ | with_reducible refine w_for ?_ | with_reducible refine w_ret ?_ | with_reducible refine w_retN ?_ | with_reducible refine w_ex ?_ | with_reducible refine w_brk ?_ | with_reducible refine w_cont ?_ | with_reducible refine w_pass ?_ | with_reducible refine w_lc ?_ | with_reducible refine w_mlc ?_ | with_reducible refine bin_add ?_ | with_reducible refine bin_sub ?_ | with_reducible refine cmp_lt ?_ | with_reducible refine cmp_le ?_ | with_reducible refine cmp_gt ?_ | with_reducible refine cmp_ge ?_ | with_reducible refine cmp_eqI ?_ | with_reducible refine cmp_neI ?_ | with_reducible refine cmp_eqS ?_ | with_reducible refine cmp_neS ?_ | with_reducible refine tru_bl ?_ | with_reducible refine tru_int ?_ | with_reducible refine len_tup ?_ | with_reducible refine len_lst ?_ | with_reducible refine int_bl ?_ | with_reducible refine max_2 ?_ | with_reducible refine min_2 ?_ | with_reducible refine tuple_lst ?_ | with_reducible refine list_tup ?_ | with_reducible refine ite_t ?_ | with_reducible refine ite_f ?_ | with_reducible refine ite_nt ?_ | with_reducible refine ite_nf ?_ | with_reducible refine neg_int ?_ | with_reducible refine lo_nil' ?_ | with_reducible refine lo_one' ?_ | with_reducible refine sl_tup ?_ | with_reducible refine sl_lst ?_ | with_reducible refine sl_scr ?_ | with_reducible refine rev_tup ?_ | with_reducible refine rev_lst ?_ | with_reducible refine isi_non0 ?_ | with_reducible refine isi_non1 ?_ | with_reducible refine isi_non2 ?_ | with_reducible refine isi_non3 ?_ | with_reducible refine isi_non4 ?_ | with_reducible refine isi_bl0 ?_ | with_reducible refine isi_bl1 ?_ | with_reducible refine isi_bl2 ?_ | with_reducible refine isi_bl3 ?_ | with_reducible refine isi_bl4 ?_ | with_reducible refine isi_int0 ?_ | with_reducible refine isi_int1 ?_ | with_reducible refine isi_int2 ?_ | with_reducible refine isi_int3 ?_ | with_reducible refine isi_int4 ?_ | with_reducible refine isi_str0 ?_ | with_reducible refine isi_str1 ?_ | with_reducible refine isi_str2 ?_ | with_reducible refine isi_str3 ?_ | with_reducible refine isi_str4 ?_ | with_reducible refine isi_tup0 ?_ | with_reducible refine isi_tup1 ?_ | with_reducible refine isi_tup2 ?_ | with_reducible refine isi_tup3 ?_ | with_reducible refine isi_tup4 ?_ | with_reducible refine isi_lst0 ?_ | with_reducible refine isi_lst1 ?_ | with_reducible refine isi_lst2 ?_ | with_reducible refine isi_lst3 ?_ | with_reducible refine isi_lst4 ?_ | ((with_reducible refine ite_no ?_ ?_); focus (first | assumption | decide))| ((with_reducible refine ite_yes ?_ ?_); focus (first | assumption | decide))| ((with_reducible refine ite_nno ?_ ?_); focus (first | assumption | decide))| ((with_reducible refine ite_nyes ?_ ?_); focus (first | assumption | decide))| ((with_reducible refine ite_no ?_ ?_); focus (first | assumption | (simp; done) | omega | (simp only [List.length_cons, List.length_nil]; omega) | decide))| ((with_reducible refine ite_yes ?_ ?_); focus (first | assumption | (simp; done) | omega | (simp only [List.length_cons, List.length_nil]; omega) | decide))| ((with_reducible refine ite_nno ?_ ?_); focus (first | assumption | (simp; done) | omega | (simp only [List.length_cons, List.length_nil]; omega) | decide))| ((with_reducible refine ite_nyes ?_ ?_); focus (first | assumption | (simp; done) | omega | (simp only [List.length_cons, List.length_nil]; omega) | decide))| ((with_reducible refine And.intro ?_ ?_); focus (first | (simp; done) | omega)))
        rw [List.length_map]
        refine ite_dec (fun h2 => ?_) fun h2 => ?_
        · repeat' (first | with_reducible refine fs_l put_same ?_ | with_reducible refine bin_mod m0 ?_ | with_reducible refine bin_fdiv ⟨m0, m64⟩ ?_ | ((with_reducible apply w_var); exact rfl) | with_reducible refine w_int ?_ | with_reducible refine w_str ?_ | with_reducible refine w_bl ?_ | with_reducible refine w_non ?_ | ((with_reducible apply w_cst); exact rfl) | with_reducible refine w_tup ?_ | with_reducible refine w_lst ?_ | with_reducible refine w_mls ?_ | with_reducible refine w_dic ?_ | with_reducible refine w_bin ?_ | with_reducible refine w_cmp ?_ | with_reducible refine w_chn ?_ | with_reducible refine w_and ?_ | with_reducible refine w_or ?_ | with_reducible refine w_not ?_ | with_reducible refine w_neg ?_ | with_reducible refine w_ife ?_ | with_reducible refine w_ix ?_ | with_reducible refine w_sl ?_ | with_reducible refine w_rev ?_ | with_reducible refine w_call ?_ | with_reducible refine w_bif ?_ | with_reducible refine w_isi ?_ | with_reducible refine w_mli ?_ | with_reducible refine w_meth ?_ | with_reducible refine w_fz ?_ | with_reducible refine w_chn3 ?_ | with_reducible refine w_mdc ?_ | with_reducible refine w_den ?_ | with_reducible refine w_nil ?_ | with_reducible refine w_cons ?_ | with_reducible refine w_rng ?_ | with_reducible refine w_seq ?_ | with_reducible refine w_rvs ?_ | with_reducible refine w_enm ?_ | with_reducible refine w_end ?_ | with_reducible refine w_then ?_ | with_reducible refine w_set ?_ | with_reducible refine w_setT ?_ | with_reducible refine w_setI ?_ | with_reducible refine w_ifs ?_ | with_reducible refine w_for ?_ | with_reducible refine w_ret ?_ | with_reducible refine w_retN ?_ | with_reducible refine w_ex ?_ | with_reducible refine w_brk ?_ | with_reducible refine w_cont ?_ | with_reducible refine w_pass ?_ | with_reducible refine w_lc ?_ | with_reducible refine w_mlc ?_ | with_reducible refine bin_add ?_ | with_reducible refine bin_sub ?_ | with_reducible refine cmp_lt ?_ | with_reducible refine cmp_le ?_ | with_reducible refine cmp_gt ?_ | with_reducible refine cmp_ge ?_ | with_reducible refine cmp_eqI ?_ | with_reducible refine cmp_neI ?_ | with_reducible refine cmp_eqS ?_ | with_reducible refine cmp_neS ?_ | with_reducible refine tru_bl ?_ | with_reducible refine tru_int ?_ | with_reducible refine len_tup ?_ | with_reducible refine len_lst ?_ | with_reducible refine int_bl ?_ | with_reducible refine max_2 ?_ | with_reducible refine min_2 ?_ | with_reducible refine tuple_lst ?_ | with_reducible refine list_tup ?_ | with_reducible refine ite_t ?_ | with_reducible refine ite_f ?_ | with_reducible refine ite_nt ?_ | with_reducible refine ite_nf ?_ | with_reducible refine neg_int ?_ | with_reducible refine lo_nil' ?_ | with_reducible refine lo_one' ?_ | with_reducible refine sl_tup ?_ | with_reducible refine sl_lst ?_ | with_reducible refine sl_scr ?_ | with_reducible refine rev_tup ?_ | with_reducible refine rev_lst ?_ | with_reducible refine isi_non0 ?_ | with_reducible refine isi_non1 ?_ | with_reducible refine isi_non2 ?_ | with_reducible refine isi_non3 ?_ | with_reducible refine isi_non4 ?_ | with_reducible refine isi_bl0 ?_ | with_reducible refine isi_bl1 ?_ | with_reducible refine isi_bl2 ?_ | with_reducible refine isi_bl3 ?_ | with_reducible refine isi_bl4 ?_ | with_reducible refine isi_int0 ?_ | with_reducible refine isi_int1 ?_ | with_reducible refine isi_int2 ?_ | with_reducible refine isi_int3 ?_ | with_reducible refine isi_int4 ?_ | with_reducible refine isi_str0 ?_ | with_reducible refine isi_str1 ?_ | with_reducible refine isi_str2 ?_ | with_reducible refine isi_str3 ?_ | with_reducible refine isi_str4 ?_ | with_reducible refine isi_tup0 ?_ | with_reducible refine isi_tup1 ?_ | with_reducible refine isi_tup2 ?_ | with_reducible refine isi_tup3 ?_ | with_reducible refine isi_tup4 ?_ | with_reducible refine isi_lst0 ?_ | with_reducible refine isi_lst1 ?_ | with_reducible refine isi_lst2 ?_ | with_reducible refine isi_lst3 ?_ | with_reducible refine isi_lst4 ?_ | ((with_reducible refine ite_no ?_ ?_); focus (first | assumption | decide))| ((with_reducible refine ite_yes ?_ ?_); focus (first | assumption | decide))| ((with_reducible refine ite_nno ?_ ?_); focus (first | assumption | decide))| ((with_reducible refine ite_nyes ?_ ?_); focus (first | assumption | decide))| ((with_reducible refine ite_no ?_ ?_); focus (first | assumption | (simp; done) | omega | (simp only [List.length_cons, List.length_nil]; omega) | decide))| ((with_reducible refine ite_yes ?_ ?_); focus (first | assumption | (simp; done) | omega | (simp only [List.length_cons, List.length_nil]; omega) | decide))| ((with_reducible refine ite_nno ?_ ?_); focus (first | assumption | (simp; done) | omega | (simp only [List.length_cons, List.length_nil]; omega) | decide))| ((with_reducible refine ite_nyes ?_ ?_); focus (first | assumption | (simp; done) | omega | (simp only [List.length_cons, List.length_nil]; omega) | decide))| ((with_reducible refine And.intro ?_ ?_); focus (first | (simp; done) | omega)))
          exact sub_end (ok _ _ (Int.emod_nonneg _ (by omega)) (Int.emod_lt_of_pos _ m0) ((((Same.refl S f).put _).put _).put _) ⟨cs, a + 1, _, u + 1, put_same, by omega, by omega, by omega, by omega, hc⟩)
        · refine w_end ?_
          exact fin
      · repeat' (first | with_reducible refine bin_mod (by decide) ?_ | with_reducible refine bin_mul (.inr (by omega)) ?_ | with_reducible refine bin_mul (.inl (by omega)) ?_ | with_reducible refine bin_fdiv (by omega) ?_ | with_reducible refine bin_mod m0 ?_ | ((with_reducible apply w_var); exact rfl) | with_reducible refine w_int ?_ | with_reducible refine w_str ?_ | with_reducible refine w_bl ?_ | with_reducible refine w_non ?_ | ((with_reducible apply w_cst); exact rfl) | with_reducible refine w_tup ?_ | with_reducible refine w_lst ?_ | with_reducible refine w_mls ?_ | with_reducible refine w_dic ?_ | with_reducible refine w_bin ?_ | with_reducible refine w_cmp ?_ | with_reducible refine w_chn ?_ | with_reducible refine w_and ?_ | with_reducible refine w_or ?_ | with_reducible refine w_not ?_ | with_reducible refine w_neg ?_ | with_reducible refine w_ife ?_ | with_reducible refine w_ix ?_ | with_reducible refine w_sl ?_ | with_reducible refine w_rev ?_ | with_reducible refine w_call ?_ | with_reducible refine w_bif ?_ | with_reducible refine w_isi ?_ | with_reducible refine w_mli ?_ | with_reducible refine w_meth ?_ | with_reducible refine w_fz ?_ | with_reducible refine w_chn3 ?_ | with_reducible refine w_mdc ?_ | with_reducible refine w_den ?_ | with_reducible refine w_nil ?_ | with_reducible refine w_cons ?_ | with_reducible refine w_rng ?_ | with_reducible refine w_seq ?_ | with_reducible refine w_rvs ?_ | with_reducible refine w_enm ?_ | with_reducible refine w_end ?_ | with_reducible refine w_then ?_ | with_reducible refine w_set ?_ | with_reducible refine w_setT ?_ | with_reducible refine w_setI ?_ | with_reducible refine w_ifs ?_ | with_reducible refine w_for ?_ | with_reducible refine w_ret ?_ | with_reducible refine w_retN ?_ | with_reducible refine w_ex ?_ | with_reducible refine w_brk ?_ | with_reducible refine w_cont ?_ | with_reducible refine w_pass ?_ | with_reducible refine w_lc ?_ | with_reducible refine w_mlc ?_ | with_reducible refine bin_add ?_ | with_reducible refine bin_sub ?_ | with_reducible refine cmp_lt ?_ | with_reducible refine cmp_le ?_ | with_reducible refine cmp_gt ?_ | with_reducible refine cmp_ge ?_ | with_reducible refine cmp_eqI ?_ | with_reducible refine cmp_neI ?_ | with_reducible refine cmp_eqS ?_ | with_reducible refine cmp_neS ?_ | with_reducible refine tru_bl ?_ | with_reducible refine tru_int ?_ | with_reducible refine len_tup ?_ | with_reducible refine len_lst ?_ | with_reducible refine int_bl ?_ | with_reducible refine max_2 ?_ | with_reducible refine min_2 ?_ | with_reducible refine tuple_lst ?_ | with_reducible refine list_tup ?_ | with_reducible refine ite_t ?_ | with_reducible refine ite_f ?_ | with_reducible refine ite_nt ?_ | with_reducible refine ite_nf ?_ | with_reducible refine neg_int ?_ | with_reducible refine lo_nil' ?_ | with_reducible refine lo_one' ?_ | with_reducible refine sl_tup ?_ | with_reducible refine sl_lst ?_ | with_reducible refine sl_scr ?_ | with_reducible refine rev_tup ?_ | with_reducible refine rev_lst ?_ | with_reducible refine isi_non0 ?_ | with_reducible refine isi_non1 ?_ | with_reducible refine isi_non2 ?_ | with_reducible refine isi_non3 ?_ | with_reducible refine isi_non4 ?_ | with_reducible refine isi_bl0 ?_ | with_reducible refine isi_bl1 ?_ | with_reducible refine isi_bl2 ?_ | with_reducible refine isi_bl3 ?_ | with_reducible refine isi_bl4 ?_ | with_reducible refine isi_int0 ?_ | with_reducible refine isi_int1 ?_ | with_reducible refine isi_int2 ?_ | with_reducible refine isi_int3 ?_ | with_reducible refine isi_int4 ?_ | with_reducible refine isi_str0 ?_ | with_reducible refine isi_str1 ?_ | with_reducible refine isi_str2 ?_ | with_reducible refine isi_str3 ?_ | with_reducible refine isi_str4 ?_ | with_reducible refine isi_tup0 ?_ | with_reducible refine isi_tup1 ?_ | with_reducible refine isi_tup2 ?_ | with_reducible refine isi_tup3 ?_ | with_reducible refine isi_tup4 ?_ | with_reducible refine isi_lst0 ?_ | with_reducible refine isi_lst1 ?_ | with_reducible refine isi_lst2 ?_ | with_reducible refine isi_lst3 ?_ | with_reducible refine isi_lst4 ?_ | ((with_reducible refine ite_no ?_ ?_); focus (first | assumption | decide))| ((with_reducible refine ite_yes ?_ ?_); focus (first | assumption | decide))| ((with_reducible refine ite_nno ?_ ?_); focus (first | assumption | decide))| ((with_reducible refine ite_nyes ?_ ?_); focus (first | assumption | decide))| ((with_reducible refine ite_no ?_ ?_); focus (first | assumption | (simp; done) | omega | (simp only [List.length_cons, List.length_nil]; omega) | decide))| ((with_reducible refine ite_yes ?_ ?_); focus (first | assumption | (simp; done) | omega | (simp only [List.length_cons, List.length_nil]; omega) | decide))| ((with_reducible refine ite_nno ?_ ?_); focus (first | assumption | (simp; done) | omega | (simp only [List.length_cons, List.length_nil]; omega) | decide))| ((with_reducible refine ite_nyes ?_ ?_); focus (first | assumption | (simp; done) | omega | (simp only [List.length_cons, List.length_nil]; omega) | decide))| ((with_reducible refine And.intro ?_ ?_); focus (first | (simp; done) | omega)))
        exact sub_end (ok _ _ (Int.emod_nonneg _ (by omega)) (Int.emod_lt_of_pos _ m0) (((Same.refl S f).put _).put _) ⟨cs, a + 1, l, u + 1, put_same, by omega, by omega, by omega, by omega, hc⟩)
    rw [List.length_map]
    refine ite_dec (fun h0 => ?_) fun h0 => ?_
    · repeat' (first | with_reducible refine ix_dic put_same kv_a ?_ | ((with_reducible apply w_var); exact rfl) | with_reducible refine w_int ?_ | with_reducible refine w_str ?_ | with_reducible refine w_bl ?_ | with_reducible refine w_non ?_ | ((with_reducible apply w_cst); exact rfl) | with_reducible refine w_tup ?_ | with_reducible refine w_lst ?_ | with_reducible refine w_mls ?_ | with_reducible refine w_dic ?_ | with_reducible refine w_bin ?_ | with_reducible refine w_cmp ?_ | with_reducible refine w_chn ?_ | with_reducible refine w_and ?_ | with_reducible refine w_or ?_ | with_reducible refine w_not ?_ | with_reducible refine w_neg ?_ | with_reducible refine w_ife ?_ | with_reducible refine w_ix ?_ | with_reducible refine w_sl ?_ | with_reducible refine w_rev ?_ | with_reducible refine w_call ?_ | with_reducible refine w_bif ?_ | with_reducible refine w_isi ?_ | with_reducible refine w_mli ?_ | with_reducible refine w_meth ?_ | with_reducible refine w_fz ?_ | with_reducible refine w_chn3 ?_ | with_reducible refine w_mdc ?_ | with_reducible refine w_den ?_ | with_reducible refine w_nil ?_ | with_reducible refine w_cons ?_ | with_reducible refine w_rng ?_ | with_reducible refine w_seq ?_ | with_reducible refine w_rvs ?_ | with_reducible refine w_enm ?_ | with_reducible refine w_end ?_ | with_reducible refine w_then ?_ | with_reducible refine w_set ?_ | with_reducible refine w_setT ?_ | with_reducible refine w_setI ?_ | with_reducible refine w_ifs ?_ | with_reducible refine w_for ?_ | with_reducible refine w_ret ?_ | with_reducible refine w_retN ?_ | with_reducible refine w_ex ?_ | with_reducible refine w_brk ?_ | with_reducible refine w_cont ?_ | with_reducible refine w_pass ?_ | with_reducible refine w_lc ?_ | with_reducible refine w_mlc ?_ | with_reducible refine bin_add ?_ | with_reducible refine bin_sub ?_ | with_reducible refine cmp_lt ?_ | with_reducible refine cmp_le ?_ | with_reducible refine cmp_gt ?_ | with_reducible refine cmp_ge ?_ | with_reducible refine cmp_eqI ?_ | with_reducible refine cmp_neI ?_ | with_reducible refine cmp_eqS ?_ | with_reducible refine cmp_neS ?_ | with_reducible refine tru_bl ?_ | with_reducible refine tru_int ?_ | with_reducible refine len_tup ?_ | with_reducible refine len_lst ?_ | with_reducible refine int_bl ?_ | with_reducible refine max_2 ?_ | with_reducible refine min_2 ?_ | with_reducible refine tuple_lst ?_ | with_reducible refine list_tup ?_ | with_reducible refine ite_t ?_ | with_reducible refine ite_f ?_ | with_reducible refine ite_nt ?_ | with_reducible refine ite_nf ?_ | with_reducible refine neg_int ?_ | with_reducible refine lo_nil' ?_ | with_reducible refine lo_one' ?_ | with_reducible refine sl_tup ?_ | with_reducible refine sl_lst ?_ | with_reducible refine sl_scr ?_ | with_reducible refine rev_tup ?_ | with_reducible refine rev_lst ?_ | with_reducible refine isi_non0 ?_ | with_reducible refine isi_non1 ?_ | with_reducible refine isi_non2 ?_ | with_reducible refine isi_non3 ?_ | with_reducible refine isi_non4 ?_ | with_reducible refine isi_bl0 ?_ | with_reducible refine isi_bl1 ?_ | with_reducible refine isi_bl2 ?_ | with_reducible refine isi_bl3 ?_ | with_reducible refine isi_bl4 ?_ | with_reducible refine isi_int0 ?_ | with_reducible refine isi_int1 ?_ | with_reducible refine isi_int2 ?_ | with_reducible refine isi_int3 ?_ | with_reducible refine isi_int4 ?_ | with_reducible refine isi_str0 ?_ | with_reducible refine isi_str1 ?_ | with_reducible refine isi_str2 ?_ | with_reducible refine isi_str3 ?_ | with_reducible refine isi_str4 ?_ | with_reducible refine isi_tup0 ?_ | with_reducible refine isi_tup1 ?_ | with_reducible refine isi_tup2 ?_ | with_reducible refine isi_tup3 ?_ | with_reducible refine isi_tup4 ?_ | with_reducible refine isi_lst0 ?_ | with_reducible refine isi_lst1 ?_ | with_reducible refine isi_lst2 ?_ | with_reducible refine isi_lst3 ?_ | with_reducible refine isi_lst4 ?_ | ((with_reducible refine ite_no ?_ ?_); focus (first | assumption | decide))| ((with_reducible refine ite_yes ?_ ?_); focus (first | assumption | decide))| ((with_reducible refine ite_nno ?_ ?_); focus (first | assumption | decide))| ((with_reducible refine ite_nyes ?_ ?_); focus (first | assumption | decide))| ((with_reducible refine ite_no ?_ ?_); focus (first | assumption | (simp; done) | omega | (simp only [List.length_cons, List.length_nil]; omega) | decide))| ((with_reducible refine ite_yes ?_ ?_); focus (first | assumption | (simp; done) | omega | (simp only [List.length_cons, List.length_nil]; omega) | decide))| ((with_reducible refine ite_nno ?_ ?_); focus (first | assumption | (simp; done) | omega | (simp only [List.length_cons, List.length_nil]; omega) | decide))| ((with_reducible refine ite_nyes ?_ ?_); focus (first | assumption | (simp; done) | omega | (simp only [List.length_cons, List.length_nil]; omega) | decide))| ((with_reducible refine And.intro ?_ ?_); focus (first | (simp; done) | omega)))
      rw [List.length_map]
      obtain ⟨c, hc'⟩ := atI_mod cs a (by omega)
      refine bin_mod (by omega) (ix_lst hc' ?_)
      exact key c
    · refine w_int ?_
      exact key 0
end Mi
set_option maxHeartbeats 4000000
/-! Mi21: heads; all defs at once. -/
namespace Mi
open PySem PySem.Spec PyProof.Rows L2

/-! ### constants -/
def kdB (K : PySem.W.Frag) (x : Str) (ks : List Str) (vs : List D) : Bool := decide (ks.length = vs.length) && (ks.zip vs).all fun q => match PySem.W.nsIn K (He.ga K x) q.1 with
  | some (some u) => relD K q.2 u
  | _ => false
def cstB (K : PySem.W.Frag) (p : Str × D) : Bool := match PySem.W.nsIn K mainGlobals p.1 with
  | some (some u) => match p.2 with
    | .kd ks vs => (match u with
      | .ref _ => kdB K p.1 ks vs
      | _ => false)
    | d => relD K d u
  | _ => false
/-- the written dicts of the table, with their keys -/
def kds : List (Str × D) → List (Str × List Str)
  | [] => []
  | (x, .kd ks _) :: r => (x, ks) :: kds r
  | _ :: r => kds r
theorem kds_mem {x : Str} {ks : List Str} {vs : List D} : ∀ {l : List (Str × D)}, (x, D.kd ks vs) ∈ l → (x, ks) ∈ kds l
  | (y, d) :: r, h => by
    rcases List.mem_cons.mp h with e | h
    · cases e; exact List.mem_cons_self
    · have := kds_mem h
      cases d with
      | kd _ _ => exact List.mem_cons_of_mem _ this
      | _ => exact this
abbrev AlM : Type := (He.AlD × Bool) × List (Option (List (Option (Str × Int))))
def tabO (ts : List (Str × List Str)) (K : PySem.W.Frag) : List (Option (List (Option (Str × Int)))) := ts.map fun t => He.dicW K (He.ga K t.1)
def tabV (ts : List (Str × List Str)) (w : World) : List (Option (List (Option (Str × Int)))) := ts.map fun t => some (He.keysIn w.params t.2)

/-! ### the hook -/
def hookM (n : Nat) (fa : List He.Fa) (fn : List He.DefD) (ex : PySem.W.Frag → Bool) (ts : List (Str × List Str)) : PySem.W.Hook where
  α := AlM
  obs := fun s => ((He.obsDG n fa fn s.heap.get?, ex (He.frG s.heap.get? (He.asD s.heap.get? n))), tabO ts (He.frG s.heap.get? (He.asD s.heap.get? n)))
  val := fun w => ((He.valD fn, true), tabV ts w)
  says := fun w h => ∃ K : PySem.W.Frag, K.In h ∧ He.SaysD fa fn K ∧ ex K = true ∧ tabO ts K = tabV ts w
  of := fun _ _ e => ⟨_, He.frG_in, congrArg (fun z : AlM => z.1.1) e, congrArg (fun z : AlM => z.1.2) e, congrArg (fun z : AlM => z.2) e⟩
  keeps := fun _ _ _ ⟨K, hK, c⟩ k => ⟨K, PySem.W.Frag.In.keeps hK k, c⟩
def obM (n : Nat) (fa : List He.Fa) (fn : List He.DefD) (ex : PySem.W.Frag → Bool) (ts : List (Str × List Str)) (s : PySem.W.SharedT) : AlM := ((He.obsDG n fa fn (HandSHeadRun.getT s), ex (He.frG (HandSHeadRun.getT s) (He.asD (HandSHeadRun.getT s) n))), tabO ts (He.frG (HandSHeadRun.getT s) (He.asD (HandSHeadRun.getT s) n)))
theorem obM_eq {n : Nat} {fa : List He.Fa} {fn : List He.DefD} {ex : PySem.W.Frag → Bool} {ts : List (Str × List Str)} (s : PySem.W.SharedT) : obM n fa fn ex ts s = (hookM n fa fn ex ts).obs s.abs := by
  have e : HandSHeadRun.getT s = s.abs.heap.get? := funext (HandSHeadRun.getT_eq s)
  show (_, _) = (_, _)
  rw [e]
theorem tab_at {ts : List (Str × List Str)} {K : PySem.W.Frag} {w : World} (h : tabO ts K = tabV ts w) {x : Str} {ks : List Str} (hm : (x, ks) ∈ ts) : He.dicW K (He.ga K x) = some (He.keysIn w.params ks) := by
  induction ts with
  | nil => cases hm
  | cons t ts ih =>
    unfold tabO tabV at h
    rw [List.map_cons, List.map_cons] at h
    injection h with h1 h2
    rcases List.mem_cons.mp hm with e | hm
    · subst e; exact h1
    · exact ih h2 hm
theorem dic_no {K : PySem.W.Frag} {P : Params} {a : Addr} {ks : List Str} {x : Str} (h : He.dicW K a = some (He.keysIn P ks)) (hx : x ∉ ks) : PySem.W.nsIn K a x = some none := by
  have keys : ∀ (l : List DictEntry) (ks : List Str), l.map He.keyOf = He.keysIn P ks → (∀ e ∈ l, ∃ y t, e.key = .str y t ∧ y ∈ ks) := by
    intro l
    induction l with
    | nil => intro ks _ e he; cases he
    | cons d l ih =>
      intro ks hk e he
      cases ks with
      | nil => cases hk
      | cons k ks =>
        have hk : He.keyOf d :: l.map He.keyOf = some (k, PyData.keyHash P k) :: He.keysIn P ks := hk
        injection hk with k1 k2
        rcases List.mem_cons.mp he with rfl | he
        · unfold He.keyOf at k1
          split at k1
          · rename_i y t q
            have := (Prod.mk.inj (Option.some.inj k1)).1
            subst this
            exact ⟨y, t, q, List.mem_cons_self⟩
          · cases k1
        · obtain ⟨y, t, q, hm⟩ := ih ks k2 e he
          exact ⟨y, t, q, List.mem_cons_of_mem _ hm⟩
  unfold He.dicW at h
  unfold PySem.W.nsIn
  split at h
  · rename_i c es n sl lk
    rw [lk]
    split at h
    · have hk := keys _ _ (Option.some.inj h)
      have f1 : es.toList.find? (fun e => e.key.isStr x) = none := by
        refine List.find?_eq_none.mpr fun e he hs => ?_
        obtain ⟨y, t, q, hm⟩ := hk e he
        rw [q] at hs
        have : y = x := by simpa [Value.isStr] using hs
        exact hx (this ▸ hm)
      have f2 : es.toList.any (fun e => e.refKey) = false := by
        refine List.any_eq_false.mpr fun e he => ?_
        obtain ⟨y, t, q, hm⟩ := hk e he
        simp [DictEntry.refKey, q]
      simp only [f1, f2]
      rfl
    · cases h
  · cases h

/-! ### all defs at once -/
/-- a def of the text and its small text -/
structure Bod (T : Tab) (Γ : Nat → GT) (f : Nat) (d : He.DefD) (ps : List Str) : Prop where
  plain : d.dfl = [] ∧ d.kwd = []
  bind : ∀ (kV doc pm : Value) (an : Option Addr) (cdv ct : Value) (us : List Value), us.length = ps.length → bindArgs (PySem.W.fnOf d.name d.qual d.params d.body d.scope .none kV doc pm an cdv ct) ⟨us, []⟩ = pure (ps.zip us)
  ex : ∃ (c : SC) (b : List St), FnScope c.N ps d.scope ∧ c.sc = d.scope ∧ c.T = T ∧ ckSs b c d.body = true ∧ ∀ k ds S q, Γ (k + 1) f ds S q noX → wpSs T (Γ k) noX b (bodyEn q) (startD c.N ds) S
  len : ∀ k ds S q, Γ k f ds S q noX → ds.length = ps.length
  zero : ∀ ds S q, ¬ Γ 0 f ds S q noX
/-- a class's name -/
def clN (T : Tab) (i : Nat) : Str := ((T.cl[i]?).map (·.1)).getD ""
/-- the facts of the heap that are asked for -/
def fasT (T : Tab) : List He.Fa := biAll.map He.Fa.free ++ T.fn.map He.Fa.glo ++ T.cl.flatMap (fun p => [He.Fa.glo p.1, He.Fa.cls p.1, He.Fa.mkr p.1]) ++ T.mt.map (fun q => He.Fa.meth (clN T q.2.1) q.2.2) ++ T.fl.map (fun q => He.Fa.noat (clN T q.1) q.2)
theorem fasT_free (T : Tab) : ∀ x ∈ biAll, He.Fa.free x ∈ fasT T := fun x hx => List.mem_append_left _ (List.mem_append_left _ (List.mem_append_left _ (List.mem_append_left _ (List.mem_map_of_mem hx))))
theorem fasT_glo {T : Tab} {f : Nat} {x : Str} (h : T.fn[f]? = some x) : He.Fa.glo x ∈ fasT T := List.mem_append_left _ (List.mem_append_left _ (List.mem_append_left _ (List.mem_append_right _ (List.mem_map_of_mem (List.mem_of_getElem? h)))))
theorem fasT_cl {T : Tab} {i : Nat} {p : Str × Nat} (h : T.cl[i]? = some p) : He.Fa.glo p.1 ∈ fasT T ∧ He.Fa.cls p.1 ∈ fasT T ∧ He.Fa.mkr p.1 ∈ fasT T := by
  have hm := List.mem_of_getElem? h
  have key : ∀ fa, fa ∈ [He.Fa.glo p.1, He.Fa.cls p.1, He.Fa.mkr p.1] → fa ∈ fasT T := fun fa hf => List.mem_append_left _ (List.mem_append_left _ (List.mem_append_right _ (List.mem_flatMap.mpr ⟨p, hm, hf⟩)))
  exact ⟨key _ (by simp), key _ (by simp), key _ (by simp)⟩
theorem lookup_memN {α : Type} {m : Nat} {y : α} : ∀ {l : List (Nat × α)}, l.lookup m = some y → (m, y) ∈ l
  | (k, z) :: l, h => by
    rw [List.lookup_cons] at h
    split at h
    · rename_i hq
      have := eq_of_beq hq
      cases h
      subst this
      exact List.mem_cons_self
    · exact List.mem_cons_of_mem _ (lookup_memN h)
/-- the places of the classes -/
def clsK (T : Tab) (K : PySem.W.Frag) : Nat → Option Addr := fun i => (T.cl[i]?).map fun p => He.ga K p.1
theorem fns_cls {P : Program} {w : World} {K : PySem.W.Frag} {mg : Str → Option Value} {base h : Heap} {T : Tab} {Γ : Nat → GT} {fn : List He.DefD} (X : K.In h) (G : h.Ns mainGlobals mg) (c : He.SaysD (fasT T) fn K) (M : MCx P w ⟨K, clsK T K, w⟩ mg T)
    (tab : ∀ (f : Nat) (x : Str), T.fn[f]? = some x → ∃ d ps, d ∈ fn ∧ d.at_ = (x, none) ∧ Bod T Γ f d ps)
    (tabm : ∀ (m i : Nat) (nm : Str), T.mt.lookup m = some (i, nm) → ∃ d ps, d ∈ fn ∧ d.at_ = (clN T i, some nm) ∧ Bod T Γ m d ps)
    (tabc : ∀ (i : Nat) (p : Str × Nat), T.cl[i]? = some p → ∃ j d ps, d ∈ fn ∧ d.at_ = (p.1, some ("__init__" : Str)) ∧ Bod T Γ j d ps ∧ (∀ k ds S q, Γ (k + 1) p.2 ds S q noX → Γ k j ds S q noX) ∧ ∀ ds S q, ¬ Γ 0 p.2 ds S q noX) :
    ∀ k, Fns P w ⟨K, clsK T K, w⟩ mg base T k (Γ k) ∧ ClsD P w ⟨K, clsK T K, w⟩ mg base T k (Γ k) := by
  have clsOf : ∀ (i : Nat) (C : Addr), clsK T K i = some C → ∃ p, T.cl[i]? = some p ∧ C = He.ga K p.1 ∧ clN T i = p.1 := fun i C h => by
    unfold clsK at h
    unfold clN
    cases e : T.cl[i]? with
    | none => rw [e] at h; cases h
    | some p => rw [e] at h; cases h; exact ⟨p, rfl, rfl, rfl⟩
  have zero : ∀ (f : Nat) (d : He.DefD) (ps : List Str), d ∈ fn → Bod T Γ f d ps → FnD P w ⟨K, clsK T K, w⟩ mg base 0 (He.fAd K d.at_) (Γ 0 f) := fun f d ps hd B => by
    obtain ⟨fd, F⟩ := c.defs hd
    exact ⟨F.kp, fun A outer s H us vs W S ds q Q _ _ _ _ _ _ z => (B.zero _ _ _ z).elim⟩
  have one : ∀ k, Fns P w ⟨K, clsK T K, w⟩ mg base T k (Γ k) ∧ ClsD P w ⟨K, clsK T K, w⟩ mg base T k (Γ k) → ∀ (f : Nat) (d : He.DefD) (ps : List Str), d ∈ fn → Bod T Γ f d ps → FnD P w ⟨K, clsK T K, w⟩ mg base (k + 1) (He.fAd K d.at_) (Γ (k + 1) f) := by
    intro k ih f d ps hd B
    obtain ⟨fd, F⟩ := c.defs hd
    obtain ⟨p3, p4⟩ := B.plain
    have e1 : d.dvs K = [] := by unfold He.DefD.dvs; rw [p3]; rfl
    have e2 : d.kws K = [] := by unfold He.DefD.kws; rw [p4]; rfl
    rw [e1, e2] at F
    obtain ⟨cc, b, S, hsc, hT, ck, step⟩ := B.ex
    subst hT
    obtain ⟨i1, i2⟩ := ih
    exact fnd_of (K := ⟨K, clsK cc.T K, w⟩) F S hsc (fun s us hl => F.bindsA B.bind s us hl) ck M i1 i2 (B.len _) (step k)
  have all : ∀ k, (∀ (f : Nat) (d : He.DefD) (ps : List Str), d ∈ fn → Bod T Γ f d ps → FnD P w ⟨K, clsK T K, w⟩ mg base k (He.fAd K d.at_) (Γ k f)) →
      (∀ j, k = j + 1 → ∀ (f : Nat) (d : He.DefD) (ps : List Str), d ∈ fn → Bod T Γ f d ps → FnD P w ⟨K, clsK T K, w⟩ mg base j (He.fAd K d.at_) (Γ j f)) →
      Fns P w ⟨K, clsK T K, w⟩ mg base T k (Γ k) ∧ ClsD P w ⟨K, clsK T K, w⟩ mg base T k (Γ k) := by
    intro k ak aj
    refine ⟨fun f x hx => ?_, ⟨fun i p hp => ?_, fun i f C hf hC => ?_, fun m i nm C hm hC => ?_⟩⟩
    · obtain ⟨d, ps, hd, ea, B⟩ := tab f x hx
      have F := ak f d ps hd B
      rw [ea] at F
      exact ⟨He.ga K x, He.glo_ok X G (c.facts (fasT_glo hx)), F⟩
    · obtain ⟨f1, f2, f3⟩ := fasT_cl hp
      obtain ⟨j, d, ps, hd, ea, B, st, zr⟩ := tabc i p hp
      refine ⟨He.ga K p.1, He.ma K (He.ga K p.1) "__init__", by show clsK T K i = _; unfold clsK; rw [hp]; rfl, He.glo_ok X G (c.facts f1), He.mkr_ok (c.facts f3), ?_⟩
      cases k with
      | zero => exact .inr zr
      | succ k =>
        have F := aj k rfl j d ps hd B
        rw [ea] at F
        exact .inl ⟨k, rfl, F.1, fun A outer s H us vs W S ds q Q r1 r2 r3 r4 r5 r6 hg ok => F.2 A outer s H us vs W S ds q Q r1 r2 r3 r4 r5 r6 (st k ds S q hg) ok⟩
    · obtain ⟨p, hp, rfl, en⟩ := clsOf i C hC
      obtain ⟨f1, f2, f3⟩ := fasT_cl hp
      refine ⟨He.cls_ok (c.facts f2), He.noat_ok (c.facts ?_)⟩
      have : (i, f) ∈ T.fl := by simpa using hf
      rw [← en]
      exact List.mem_append_right _ (List.mem_map.mpr ⟨_, this, rfl⟩)
    · obtain ⟨p, hp, rfl, en⟩ := clsOf i C hC
      obtain ⟨f1, f2, f3⟩ := fasT_cl hp
      obtain ⟨d, ps, hd, ea, B⟩ := tabm m i nm hm
      have F := ak m d ps hd B
      rw [ea, en] at F
      refine ⟨He.ma K (He.ga K p.1) nm, He.cls_ok (c.facts f2), He.meth_ok (c.facts ?_), F⟩
      rw [← en]
      exact List.mem_append_left _ (List.mem_append_right _ (List.mem_map.mpr ⟨_, lookup_memN hm, rfl⟩))
  have main : ∀ k, (∀ (f : Nat) (d : He.DefD) (ps : List Str), d ∈ fn → Bod T Γ f d ps → FnD P w ⟨K, clsK T K, w⟩ mg base k (He.fAd K d.at_) (Γ k f)) ∧ Fns P w ⟨K, clsK T K, w⟩ mg base T k (Γ k) ∧ ClsD P w ⟨K, clsK T K, w⟩ mg base T k (Γ k) := by
    intro k
    induction k with
    | zero => exact ⟨zero, all 0 zero fun j e => by cases e⟩
    | succ k ih => exact ⟨one k ih.2, all (k + 1) (one k ih.2) fun j e => by cases e; exact ih.1⟩
  exact fun k => (main k).2
theorem mcx_of {P : Program} {w : World} {K : Frg} {mg : Str → Option Value} {h : Heap} {T : Tab} {fa : List He.Fa} {fn : List He.DefD} (hw : w = K.w) (X : K.K.In h) (G : h.Ns mainGlobals mg) (c : He.SaysD fa fn K.K) (hb : ∀ x ∈ biAll, He.Fa.free x ∈ fa)
    (hc : (T.cst.all fun p => cstB K.K p) = true) (ht : tabO (kds T.cst) K.K = tabV (kds T.cst) w) : MCx P w K mg T := by
  refine ⟨hw, fun x hx => He.free_ok X G (c.facts (hb x hx)), fun i p hp => ?_⟩
  have hm := List.mem_of_getElem? hp
  have := List.all_eq_true.mp hc p hm
  unfold cstB at this
  split at this
  · rename_i u e
    split at this
    · rename_i ks vs ed
      split at this
      · rename_i a
        obtain ⟨x, d⟩ := p
        dsimp only at e ed this
        subst ed
        have ea : He.ga K.K x = a := by unfold He.ga; rw [e]
        unfold kdB at this
        rw [Bool.and_eq_true, decide_eq_true_eq, ea] at this
        obtain ⟨hl, hall⟩ := this
        have hd := tab_at ht (kds_mem hm)
        rw [ea] at hd
        refine ⟨.ref a, .ref a, PySem.W.mg_of X G e, rfl, fun W H => .kd ⟨?_, fun y d hy => ?_, fun y hy => ?_⟩⟩
        · rw [← hw]; exact He.dicW_ok hd
        · have hz : (y, d) ∈ ks.zip vs := by
            clear hall
            have aux : ∀ (l : List (Str × D)), l.lookup y = some d → (y, d) ∈ l := by
              intro l
              induction l with
              | nil => intro h; cases h
              | cons q l ih =>
                intro h
                obtain ⟨q1, q2⟩ := q
                rw [List.lookup_cons] at h
                split at h
                · rename_i hq
                  have := eq_of_beq hq
                  cases h
                  subst this
                  exact List.mem_cons_self
                · exact List.mem_cons_of_mem _ (ih h)
            exact aux _ hy
          have := List.all_eq_true.mp hall _ hz
          dsimp only at this
          split at this
          · rename_i u' e'
            exact ⟨u', e', this⟩
          · cases this
        · refine dic_no hd fun hk => ?_
          have aux : ∀ (ks : List Str) (vs : List D), ks.length = vs.length → y ∈ ks → (ks.zip vs).lookup y ≠ none := by
            intro ks
            induction ks with
            | nil => intro vs _ h; cases h
            | cons k ks ih =>
              intro vs hl h
              cases vs with
              | nil => cases hl
              | cons v vs =>
                rw [List.zip_cons_cons, List.lookup_cons]
                split
                · simp
                · rename_i hq
                  rcases List.mem_cons.mp h with e | h
                  · subst e; simp at hq
                  · exact ih vs (by simpa using hl) h
          exact aux ks vs hl hk hy
      · cases this
    · obtain ⟨v, a, b⟩ := relD_ok _ u this
      exact ⟨u, v, PySem.W.mg_of X G e, a, b⟩
  · cases this
end Mi
set_option maxHeartbeats 4000000
/-! Mi22: how long a repr is at most. -/
namespace Mi
open PySem

mutual
def wD : D → Nat
  | .non => 6
  | .bl _ => 6
  | .int i => if i.natAbs < 10 ^ 60 then 62 else 10 ^ 9
  | .str x => if PyData.strOk x = true then 10 * x.length + 2 else 10 ^ 9
  | .tup ds => wDs ds + 4
  | .lst ds => wDs ds + 4
  | .scr _ => 10 ^ 9
  | .loc _ => 10 ^ 9
  | .kd _ _ => 10 ^ 9
def wDs : List D → Nat
  | [] => 0
  | d :: ds => wD d + 2 + wDs ds
end
mutual
def dD : D → Nat
  | .tup ds => dDs ds + 1
  | .lst ds => dDs ds + 1
  | _ => 0
def dDs : List D → Nat
  | [] => 0
  | d :: ds => max (dD d) (dDs ds)
end
theorem piled_cons' (t : Str) (ts : List Str) : piled (t :: ts) = t.length + 2 + piled ts := by simp [piled]
theorem textFrom_le : ∀ (ts : List Str) (k : Nat) (acc : Str), (textFrom k acc ts).length ≤ acc.length + piled ts
  | [], k, acc => by show acc.length ≤ _; omega
  | t :: r, k, acc => by
    have h := textFrom_le r (k + 1) (acc ++ (if k > 0 then ", " else "" : String) ++ t)
    have e : (acc ++ (if k > 0 then ", " else "" : String) ++ t).length = acc.length + (if k > 0 then 2 else 0) + t.length := by
      rw [strLen_append, strLen_append]
      split <;> rfl
    rw [e] at h
    rw [piled_cons']
    have e0 : (if k > 0 then 2 else 0 : Nat) ≤ 2 := by split <;> omega
    show (textFrom (k + 1) (acc ++ (if k > 0 then ", " else "" : String) ++ t) r).length ≤ _
    omega
theorem listText_le (ts : List Str) : (listText ts).length ≤ piled ts + 2 := by
  unfold listText
  rw [strLen_append]
  have h := textFrom_le ts 0 "["
  have e1 : (("[" : String) : Str).length = 1 := rfl
  have e2 : (("]" : String) : Str).length = 1 := rfl
  rw [e1] at h
  rw [e2]; omega
theorem tupleText_le (ts : List Str) : (tupleText ts).length ≤ piled ts + 3 := by
  unfold tupleText
  rw [strLen_append, strLen_append]
  have e1 : (("(" : String) : Str).length = 1 := rfl
  have e3 : (((if ts.length == 1 then ",)" else ")" : String) : Str)).length ≤ 2 := by split <;> decide
  rw [e1]
  by_cases h : ts = []
  · subst h
    have : (Str.join ", " ([] : List Str)).length = 0 := rfl
    omega
  · have := join_length_add ts h
    omega
mutual
theorem rep_le : ∀ d : D, wD d < 10 ^ 9 → ∃ p, pd d = some p ∧ (p.showable = true ∧ p.canLay0 = true) ∧ p.shown.length ≤ wD d ∧ p.depth ≤ dD d
  | .non, _ => ⟨_, rfl, ⟨rfl, rfl⟩, by decide, Nat.le_refl _⟩
  | .bl b, _ => ⟨_, rfl, ⟨rfl, rfl⟩, by cases b <;> decide, Nat.le_refl _⟩
  | .int i, h => by
    by_cases e : i.natAbs < 10 ^ 60
    · refine ⟨_, rfl, ⟨?_, rfl⟩, ?_, Nat.le_refl _⟩
      · show decide (i.natAbs.log2 < 1920) = true
        refine decide_eq_true ?_
        by_cases h0 : i.natAbs = 0
        · rw [h0]; decide
        · rw [Nat.log2_lt h0]; exact Nat.lt_trans e (by decide +kernel)
      · rw [wD, if_pos e]
        have := int_text_length_le10 (a := i) (k := 60) (by decide) e
        have e2 : (PyData.shown (.int i)).length = (toString i).length := by
          simp only [PyData.shown]
          exact ofString_length _
        rw [e2]; omega
    · rw [wD, if_neg e] at h; exact absurd h (by decide)
  | .str x, h => by
    by_cases e : PyData.strOk x = true
    · refine ⟨_, rfl, ⟨rfl, e⟩, ?_, Nat.le_refl _⟩
      rw [wD, if_pos e]
      simp only [PyData.shown]
      refine StrLaws.reprText_len x fun c hc => ?_
      unfold PyData.strOk at e
      rw [← Array.all_toList] at e
      have := List.all_eq_true.mp e c hc
      have h2 : c < 0x110000 := by simpa using this
      exact Nat.lt_trans h2 (by decide)
    · rw [wD, if_neg e] at h; exact absurd h (by decide)
  | .tup ds, h => by
    rw [wD] at h
    obtain ⟨ps, h1, h2, h3, h4⟩ := reps_le ds (by omega)
    refine ⟨.tuple ps, by simp only [pd, h1], ⟨by simp only [PyData.showable]; exact h2.1, by simp only [PyData.canLay0]; exact h2.2⟩, ?_, by simp only [PyData.depth, dD]; omega⟩
    rw [wD]
    simp only [PyData.shown]
    have := tupleText_le (PyData.shownAll ps)
    omega
  | .lst ds, h => by
    rw [wD] at h
    obtain ⟨ps, h1, h2, h3, h4⟩ := reps_le ds (by omega)
    refine ⟨.list ps, by simp only [pd, h1], ⟨by simp only [PyData.showable]; exact h2.1, by simp only [PyData.canLay0]; exact h2.2⟩, ?_, by simp only [PyData.depth, dD]; omega⟩
    rw [wD]
    simp only [PyData.shown]
    have := listText_le (PyData.shownAll ps)
    omega
  | .scr _, h => absurd h (by rw [wD]; decide)
  | .loc _, h => absurd h (by rw [wD]; decide)
  | .kd _ _, h => absurd h (by rw [wD]; decide)
theorem reps_le : ∀ ds : List D, wDs ds < 10 ^ 9 → ∃ ps, pds ds = some ps ∧ (PyData.showableAll ps = true ∧ PyData.canLayAll0 ps = true) ∧ piled (PyData.shownAll ps) ≤ wDs ds ∧ PyData.depthAll ps ≤ dDs ds
  | [], _ => ⟨[], rfl, ⟨rfl, rfl⟩, Nat.le_refl _, Nat.le_refl _⟩
  | d :: ds, h => by
    rw [wDs] at h
    obtain ⟨p, a1, a2, a3, a4⟩ := rep_le d (by omega)
    obtain ⟨ps, b1, b2, b3, b4⟩ := reps_le ds (by omega)
    refine ⟨p :: ps, by simp only [pds, a1, b1], ⟨by simp only [PyData.showableAll, a2.1, b2.1, Bool.and_self], by simp only [PyData.canLayAll0, a2.2, b2.2, Bool.and_self]⟩, ?_, by simp only [PyData.depthAll, dDs]; omega⟩
    simp only [PyData.shownAll, piled_cons', wDs]
    omega
end
theorem repr_some {d : D} (h : wD d ≤ 10 ^ 7) (h2 : dD d ≤ 150) : ∃ s, reprD d = some s := by
  obtain ⟨p, a1, a2, a3, a4⟩ := rep_le d (Nat.lt_of_le_of_lt h (by decide))
  refine ⟨p.shown, ?_⟩
  unfold reprD
  rw [a1]
  have e1 : decide (p.shown.length ≤ sizeLine) = true := decide_eq_true (Nat.le_trans a3 (Nat.le_trans h (by decide)))
  have e2 : decide (p.depth ≤ 150) = true := decide_eq_true (by omega)
  simp only [a2.1, e1, e2, Bool.and_self, if_true]
theorem eq_tup0 {xs : List D} (h : wD (.tup xs) < 10 ^ 9) (h2 : dD (.tup xs) ≤ 150) : eqD (.tup xs) (.tup []) = some xs.isEmpty := by
  rw [wD] at h
  obtain ⟨ps, h1, h3, _, h4⟩ := reps_le xs (by omega)
  have e : ps.isEmpty = xs.isEmpty := by
    cases xs with
    | nil => simp only [pds] at h1; cases h1; rfl
    | cons x xs =>
      simp only [pds] at h1
      split at h1
      · cases h1; rfl
      · cases h1
  have e2 : decide ((PyData.tuple ps).depth ≤ 150) = true := decide_eq_true (by rw [dD] at h2; simp only [PyData.depth]; omega)
  have e3 : (PyData.tuple ps).canLay0 = true := by simp only [PyData.canLay0]; exact h3.2
  have e4 : PyData.eqv (.tuple ps) (.tuple []) = ps.isEmpty := by cases ps <;> rfl
  show (match pd (.tup xs), pd (.tup []) with
    | some a, some b => if a.canLay0 && b.canLay0 && decide (a.depth ≤ 150) then some (PyData.eqv a b) else none
    | _, _ => none) = _
  simp only [pd, h1, pds, e3, e2]
  rw [e4, e]
  rfl
theorem strOk_append {x y : Str} (h : PyData.strOk x = true) (h2 : PyData.strOk y = true) : PyData.strOk (x ++ y) = true := by
  unfold PyData.strOk at h h2 ⊢
  show (x.cps ++ y.cps).all _ = true
  rw [Array.all_append, h, h2]
  rfl
theorem strOk_of (s : String) : PyData.strOk (Str.ofString s) = true := by
  unfold PyData.strOk
  rw [Str.ofString_eq_toList, ← Array.all_toList]
  rw [List.all_eq_true]
  intro c hc
  obtain ⟨ch, _, rfl⟩ := List.mem_map.mp (by simpa using hc)
  have := ch.valid
  refine decide_eq_true ?_
  rcases this with h | ⟨_, h⟩
  · exact Nat.lt_trans h (by decide)
  · exact h
theorem wD_str {x : Str} (h : PyData.strOk x = true) : wD (.str x) = 10 * x.length + 2 := by rw [wD, if_pos h]
theorem wD_le_str {x : Str} (h : wD (.str x) < 10 ^ 9) : PyData.strOk x = true ∧ wD (.str x) = 10 * x.length + 2 := by
  by_cases e : PyData.strOk x = true
  · exact ⟨e, wD_str e⟩
  · rw [wD, if_neg e] at h; exact absurd h (by decide)
theorem wD_int {i : Int} (h : i.natAbs < 10 ^ 60) : wD (.int i) = 62 := by rw [wD, if_pos h]
theorem wDs_append (xs ys : List D) : wDs (xs ++ ys) = wDs xs + wDs ys := by
  induction xs with
  | nil => simp [wDs]
  | cons x xs ih => simp only [List.cons_append, wDs, ih]; omega
theorem wDs_reverse (xs : List D) : wDs xs.reverse = wDs xs := by
  induction xs with
  | nil => rfl
  | cons x xs ih => rw [List.reverse_cons, wDs_append, ih]; simp only [wDs]; omega
theorem wDs_take (n : Nat) (xs : List D) : wDs (xs.take n) ≤ wDs xs := by
  have := wDs_append (xs.take n) (xs.drop n)
  rw [List.take_append_drop] at this; omega
theorem wDs_drop (n : Nat) (xs : List D) : wDs (xs.drop n) ≤ wDs xs := by
  have := wDs_append (xs.take n) (xs.drop n)
  rw [List.take_append_drop] at this; omega
theorem dDs_append (xs ys : List D) : dDs (xs ++ ys) = max (dDs xs) (dDs ys) := by
  induction xs with
  | nil => simp [dDs]
  | cons x xs ih => simp only [List.cons_append, dDs, ih]; omega
theorem dDs_reverse (xs : List D) : dDs xs.reverse = dDs xs := by
  induction xs with
  | nil => rfl
  | cons x xs ih => rw [List.reverse_cons, dDs_append, ih]; simp only [dDs]; omega
theorem dDs_take (n : Nat) (xs : List D) : dDs (xs.take n) ≤ dDs xs := by
  have := dDs_append (xs.take n) (xs.drop n)
  rw [List.take_append_drop] at this; omega
theorem dDs_drop (n : Nat) (xs : List D) : dDs (xs.drop n) ≤ dDs xs := by
  have := dDs_append (xs.take n) (xs.drop n)
  rw [List.take_append_drop] at this; omega
theorem cutD_none_none {α : Type} (xs : List α) : cutD xs none none = xs := by
  unfold cutD
  show (xs.drop 0).take (xs.length - 0) = xs
  simp
theorem cutD_from {α : Type} (xs : List α) (n : Nat) : cutD xs (some (n : Int)) none = xs.drop (min n xs.length) := by
  unfold cutD
  rw [HT.sIx_nat, HT.sIx_none]
  rw [List.take_of_length_le]
  rw [List.length_drop]; omega
theorem cutD_to {α : Type} (xs : List α) (n : Nat) : cutD xs none (some (n : Int)) = xs.take (min n xs.length) := by
  unfold cutD
  rw [HT.sIx_nat, HT.sIx_none, List.drop_zero, Nat.sub_zero]
theorem wDs_cut (xs : List D) (lo hi : Option Int) : wDs (cutD xs lo hi) ≤ wDs xs := Nat.le_trans (wDs_take _ _) (wDs_drop _ _)
theorem dDs_cut (xs : List D) (lo hi : Option Int) : dDs (cutD xs lo hi) ≤ dDs xs := Nat.le_trans (dDs_take _ _) (dDs_drop _ _)
end Mi
set_option maxHeartbeats 1000000
/-! Mi23: more steps: membership, methods. -/
namespace Mi
open PySem

def strsD : List D → Option (List Str)
  | [] => some []
  | .str x :: r => (strsD r).map (x :: ·)
  | _ => none
theorem strsD_ok : ∀ {ys : List D} {zs : List Str}, strsD ys = some zs → ys = zs.map .str
  | [], zs, h => by cases h; rfl
  | .str x :: r, zs, h => by
    simp only [strsD] at h
    cases e : strsD r with
    | none => rw [e] at h; cases h
    | some r' => rw [e] at h; cases h; rw [strsD_ok e]; rfl
  | .non :: _, _, h => by cases h
  | .bl _ :: _, _, h => by cases h
  | .int _ :: _, _, h => by cases h
  | .tup _ :: _, _, h => by cases h
  | .lst _ :: _, _, h => by cases h
  | .scr _ :: _, _, h => by cases h
  | .loc _ :: _, _, h => by cases h
  | .kd _ _ :: _, _, h => by cases h
theorem inD_strs (w : Str) : ∀ zs : List Str, inD (.str w) (zs.map .str) = some (decide (w ∈ zs))
  | [] => by simp [inD]
  | z :: zs => by
    simp only [List.map_cons, inD, eqD]
    by_cases e : z = w
    · subst e; simp
    · have : decide (z = w) = false := decide_eq_false e
      rw [this]
      simp only
      rw [inD_strs w zs]
      have e' : ¬ w = z := fun h => e h.symm
      simp [e']
theorem flat_strs (zs : List Str) : (zs.map D.str).all flatD = true := by
  rw [List.all_eq_true]
  intro x hx
  obtain ⟨z, _, rfl⟩ := List.mem_map.mp hx
  rfl
section
variable {S : Sto} {q : Q1} {qb : Bool → Prop} {w : Str} {ys : List D} {zs : List Str}
theorem in_strs (h : strsD ys = some zs) (k : qb (decide (w ∈ zs))) : CmpW .in_ S (.str w) (.tup ys) qb := ⟨_, by
  rw [strsD_ok h]
  show (if flatD (.str w) && (zs.map D.str).all flatD then inD (.str w) (zs.map .str) else inP (.str w) (zs.map .str)) = _
  rw [flat_strs, inD_strs]; rfl, k⟩
theorem nin_strs (h : strsD ys = some zs) (k : qb (!decide (w ∈ zs))) : CmpW .nin S (.str w) (.tup ys) qb := ⟨_, by
  rw [strsD_ok h]
  show (if flatD (.str w) && (zs.map D.str).all flatD then inD (.str w) (zs.map .str) else inP (.str w) (zs.map .str)).map (!·) = _
  rw [flat_strs, inD_strs]; rfl, k⟩
theorem cmp_isN {x : D} (h : x ≠ .non) (k : qb false) : CmpW .is_ S x .non qb := ⟨false, by
  cases x <;> first | rfl | exact absurd rfl h, k⟩
theorem cmp_isNN (k : qb true) : CmpW .is_ S .non .non qb := ⟨true, rfl, k⟩
theorem cmp_nisN {x : D} (h : x ≠ .non) (k : qb true) : CmpW .nis S x .non qb := ⟨true, by
  cases x <;> first | rfl | exact absurd rfl h, k⟩
theorem cmp_nisNN (k : qb false) : CmpW .nis S .non .non qb := ⟨false, rfl, k⟩
theorem cmp_isB {a b : Bool} (k : qb (decide (a = b))) : CmpW .is_ S (.bl a) (.bl b) qb := ⟨_, rfl, k⟩
theorem cmp_nisB {a b : Bool} (k : qb (!decide (a = b))) : CmpW .nis S (.bl a) (.bl b) qb := ⟨_, rfl, k⟩
end
section
variable {S : Sto} {q : Q1} {qb : Bool → Prop} {n : Nat} {kvs : List (L2.Key × D)} {xs : List D} {p : Prop} {w : Str} {d : D} {i : Int}
theorem kind_get2 (h : S n = some (.dic kvs)) (k : p) : KindW S (.loc n) .get2 p := ⟨by simp only [kindD, h]; rfl, k⟩
theorem kind_get1 (h : S n = some (.dic kvs)) (k : p) : KindW S (.loc n) .get1 p := ⟨by simp only [kindD, h]; rfl, k⟩
theorem kind_app (h : S n = some (.lst xs)) (k : p) : KindW S (.loc n) .append p := ⟨by simp only [kindD, h]; rfl, k⟩
theorem kind_ext (h : S n = some (.lst xs)) (k : p) : KindW S (.loc n) .extend p := ⟨by simp only [kindD, h]; rfl, k⟩
theorem kind_pop (h : S n = some (.lst xs)) (k : p) : KindW S (.loc n) .pop0 p := ⟨by simp only [kindD, h]; rfl, k⟩
theorem mt_get2 (h : S n = some (.dic kvs)) (k : q ((lkD kvs (.inr w)).getD d) S) : MtW .get2 S (.loc n) [.str w, d] q := ⟨_, by simp only [mtD, h, keyD]; rfl, k⟩
theorem mt_get2i (h : S n = some (.dic kvs)) (k : q ((lkD kvs (.inl i)).getD d) S) : MtW .get2 S (.loc n) [.int i, d] q := ⟨_, by simp only [mtD, h, keyD]; rfl, k⟩
theorem mt_get1 (h : S n = some (.dic kvs)) (k : q ((lkD kvs (.inr w)).getD .non) S) : MtW .get1 S (.loc n) [.str w] q := ⟨_, by simp only [mtD, h, keyD]; rfl, k⟩
theorem mt_get1i (h : S n = some (.dic kvs)) (k : q ((lkD kvs (.inl i)).getD .non) S) : MtW .get1 S (.loc n) [.int i] q := ⟨_, by simp only [mtD, h, keyD]; rfl, k⟩
theorem mt_app (h : S n = some (.lst xs)) (hl : xs.length < 1000000) (k : q .non (put S n (.lst (xs ++ [d])))) : MtW .append S (.loc n) [d] q := ⟨(.non, put S n (.lst (xs ++ [d]))), by simp only [mtD, h, if_pos hl], k⟩
theorem mt_extL {ys : List D} (h : S n = some (.lst xs)) (hl : xs.length + ys.length < 1000000) (k : q .non (put S n (.lst (xs ++ ys)))) : MtW .extend S (.loc n) [.lst ys] q := ⟨(.non, put S n (.lst (xs ++ ys))), by simp only [mtD, h, lstD, if_pos hl], k⟩
theorem ix_t0 {a : D} {l : List D} (k : q a S) : IxW S (.tup (a :: l)) (.int 0) q := ix_tup (L2.atI_nat (j := 0) rfl) k
theorem ix_t1 {a b : D} {l : List D} (k : q b S) : IxW S (.tup (a :: b :: l)) (.int 1) q := ix_tup (L2.atI_nat (j := 1) rfl) k
theorem ix_t2 {a b c : D} {l : List D} (k : q c S) : IxW S (.tup (a :: b :: c :: l)) (.int 2) q := ix_tup (L2.atI_nat (j := 2) rfl) k
theorem ix_t3 {a b c e : D} {l : List D} (k : q e S) : IxW S (.tup (a :: b :: c :: e :: l)) (.int 3) q := ix_tup (L2.atI_nat (j := 3) rfl) k
theorem ix_l0 {a : D} {l : List D} (k : q a S) : IxW S (.lst (a :: l)) (.int 0) q := ix_lst (L2.atI_nat (j := 0) rfl) k
theorem ix_l1 {a b : D} {l : List D} (k : q b S) : IxW S (.lst (a :: b :: l)) (.int 1) q := ix_lst (L2.atI_nat (j := 1) rfl) k
theorem ix_l2 {a b c : D} {l : List D} (k : q c S) : IxW S (.lst (a :: b :: c :: l)) (.int 2) q := ix_lst (L2.atI_nat (j := 2) rfl) k
/-- one of several -/
theorem ix_any {xs : List D} {i : Int} (h0 : 0 ≤ i) (h1 : i < xs.length) (k : ∀ x ∈ xs, q x S) : IxW S (.lst xs) (.int i) q := by
  obtain ⟨j, rfl⟩ := Int.eq_ofNat_of_zero_le h0
  have hj : j < xs.length := by omega
  exact ix_lst (L2.atI_nat (List.getElem?_eq_getElem hj)) (k _ (List.getElem_mem hj))
theorem ne_t0 {xs : List D} {x : D} (h : wD (.tup (x :: xs)) < 10 ^ 9) (h2 : dD (.tup (x :: xs)) ≤ 150) (k : qb true) : CmpW .ne S (.tup (x :: xs)) (.tup []) qb := ⟨true, by
  show (eqD (.tup (x :: xs)) (.tup [])).map (!·) = _
  rw [eq_tup0 h h2]; rfl, k⟩
theorem ne_te {xs : List D} (h : wD (.tup xs) < 10 ^ 9) (h2 : dD (.tup xs) ≤ 150) (e : xs.isEmpty = true) (k : qb false) : CmpW .ne S (.tup xs) (.tup []) qb := ⟨false, by
  show (eqD (.tup xs) (.tup [])).map (!·) = _
  rw [eq_tup0 h h2, e]; rfl, k⟩
theorem ne_tn {xs : List D} (h : wD (.tup xs) < 10 ^ 9) (h2 : dD (.tup xs) ≤ 150) (e : xs.isEmpty = false) (k : qb true) : CmpW .ne S (.tup xs) (.tup []) qb := ⟨true, by
  show (eqD (.tup xs) (.tup [])).map (!·) = _
  rw [eq_tup0 h h2, e]; rfl, k⟩
theorem ne_t00 (k : qb false) : CmpW .ne S (.tup []) (.tup []) qb := ⟨false, by
  show (eqD (.tup []) (.tup [])).map (!·) = _
  rw [eq_tup0 (by decide) (by decide)]; rfl, k⟩
theorem str_int {i : Int} (h : i.natAbs < 10 ^ 60) (k : q (.str (toString i)) S) : BifW .str S [.int i] q := ⟨_, by
  show (if i.natAbs.log2 < 1920 then some (D.str (toString i)) else none) = _
  have : i.natAbs.log2 < 1920 := by
    by_cases h0 : i.natAbs = 0
    · rw [h0]; decide
    · rw [Nat.log2_lt h0]; exact Nat.lt_trans h (by decide +kernel)
  rw [if_pos this], k⟩
theorem repr_loc {n : Nat} {xs : List D} (hn : S n = some (.lst xs)) (h : wD (.lst xs) ≤ 10 ^ 7) (h2 : dD (.lst xs) ≤ 150) (k : ∀ s, reprD (.lst xs) = some s → q (.str s) S) : BifW .repr S [.loc n] q := by
  obtain ⟨s, e⟩ := repr_some h h2
  exact ⟨.str s, by show (reprS S (.loc n)).map D.str = _; unfold reprS; rw [show reprD (.loc n) = none from rfl]; dsimp only; rw [hn]; dsimp only; rw [e]; rfl, k s e⟩
theorem repr_w {d : D} (h : wD d ≤ 10 ^ 7) (h2 : dD d ≤ 150) (k : ∀ s, reprD d = some s → q (.str s) S) : BifW .repr S [d] q := by
  obtain ⟨s, e⟩ := repr_some h h2
  exact ⟨.str s, by show (reprS S d).map D.str = _; unfold reprS; rw [e]; rfl, k s e⟩
theorem mt_get2e {z : D} (h : S n = some (.dic kvs)) (e : (lkD kvs (.inr w)).getD d = z) (k : q z S) : MtW .get2 S (.loc n) [.str w, d] q := mt_get2 h (by rw [e]; exact k)
theorem rng_1 {j : Int} {q : List D → Prop} (h1 : -(2 ^ 62) ≤ j) (h2 : j < 2 ^ 62) (k : q (rngD 0 j.toNat)) : rngW [.int j] q := ⟨h1, h2, k⟩
theorem rng_2 {i j : Int} {q : List D → Prop} (h1 : -(2 ^ 62) ≤ i) (h2 : i < 2 ^ 62) (h3 : -(2 ^ 62) ≤ j) (h4 : j < 2 ^ 62) (k : q (rngD i (j - i).toNat)) : rngW [.int i, .int j] q := ⟨h1, h2, h3, h4, k⟩
end
section
variable {T : Tab} {G : GT} {xd : XD} {S : Sto} {chk : Sto → Prop} {bd : D → Option Env} {e1 : Env} {e : E} {x : D} {xs acc : List D} {q : List D → Sto → Prop}
theorem lc_one (h : chk S) (hb : bd x = some e1) (k : wpE T G xd e e1 S fun y S2 => acc.length < 1000000 ∧ lcL chk bd (fun e1 S q => wpEs T G xd .nil e1 S fun ds S2 => match ds with
      | [] => q true S2
      | x :: _ => ∃ k, truD S2 x = some k ∧ q k S2) (fun e1 S q => wpE T G xd e e1 S q) xs (acc ++ [y]) S2 q) : lcL chk bd (fun e1 S q => wpEs T G xd .nil e1 S fun ds S2 => match ds with
      | [] => q true S2
      | x :: _ => ∃ k, truD S2 x = some k ∧ q k S2) (fun e1 S q => wpE T G xd e e1 S q) (x :: xs) acc S q := by
  refine ⟨h, e1, hb, ?_⟩
  refine w_nil ?_
  exact k
theorem lc_end {cond : Env → Sto → (Bool → Sto → Prop) → Prop} {elt : Env → Sto → Q1 → Prop} (h : chk S) (k : q acc S) : lcL chk bd cond elt [] acc S q := ⟨h, k⟩
end
theorem for_rng {bd : D → Env → Option Env} {body : En → Env → Sto → Prop} {nx bk ct : Env → Sto → Prop} {rt : Q1} (n : Nat) (lo : Int) (I : Nat → Env → Sto → Prop)
    (step : ∀ i e S, i < n → I i e S → ∀ nx' : Env → Sto → Prop, (∀ e' S', I (i + 1) e' S' → nx' e' S') → ∃ e1, bd (.int (lo + i)) e = some e1 ∧ body ⟨nx', rt, nx, nx'⟩ e1 S)
    (fin : ∀ e S, I n e S → nx e S) : ∀ e S, I 0 e S → forL (fun _ => True) bd body ⟨nx, rt, bk, ct⟩ (rngD lo n) e S := by
  intro e S h
  refine for_by (fun xs e S => ∃ i : Nat, i ≤ n ∧ xs = rngD (lo + i) (n - i) ∧ I i e S) (fun _ _ _ _ => trivial) ?_ ?_ _ _ _ ⟨0, Nat.zero_le _, by simp, h⟩
  · rintro x xs e S ⟨i, hi, hx, hI⟩ nx' hn
    obtain ⟨j, hj⟩ : ∃ j, n - i = j + 1 := by
      cases hm : n - i with
      | zero => rw [hm] at hx; cases hx
      | succ j => exact ⟨j, rfl⟩
    rw [hj] at hx
    injection hx with hx1 hx2
    subst hx1 hx2
    exact step i e S (by omega) hI nx' fun e' S' h' => hn e' S' ⟨i + 1, by omega, by
      rw [show n - (i + 1) = j by omega]
      congr 1
      push_cast
      omega, h'⟩
  · rintro e S ⟨i, hi, hx, hI⟩
    have : n - i = 0 := by
      cases hm : n - i with
      | zero => rfl
      | succ j => rw [hm] at hx; cases hx
    have : i = n := by omega
    subst this
    exact fin e S hI
/-- over a list of which each one is as told -/
theorem for_all {chk : Sto → Prop} {bd : D → Env → Option Env} {body : En → Env → Sto → Prop} {nx bk ct : Env → Sto → Prop} {rt : Q1} (P : D → Prop) (I : Env → Sto → Prop) (hc : ∀ S, chk S)
    (step : ∀ x e S, P x → I e S → ∀ nx' : Env → Sto → Prop, (∀ e' S', I e' S' → nx' e' S') → ∃ e1, bd x e = some e1 ∧ body ⟨nx', rt, nx, nx'⟩ e1 S)
    (fin : ∀ e S, I e S → nx e S) : ∀ xs e S, (∀ x ∈ xs, P x) → I e S → forL chk bd body ⟨nx, rt, bk, ct⟩ xs e S := fun xs e S h hI =>
  for_by (fun xs e S => (∀ x ∈ xs, P x) ∧ I e S) (fun _ _ _ _ => hc _) (fun x xs e S ⟨h1, h2⟩ nx' hn => step x e S (h1 x List.mem_cons_self) h2 nx' fun e' S' h' => hn e' S' ⟨fun y hy => h1 y (List.mem_cons_of_mem _ hy), h'⟩) (fun e S ⟨_, h2⟩ => fin e S h2) xs e S ⟨h, hI⟩
/-! constants, sorted(set(..)), list(range(..)) -/
section
variable {T : Tab} {G : GT} {xd : XD} {env : Env} {S : Sto} {q : Q1} {qb : Bool → Prop} {a o e : E} {es : Es}
def SrsW (S : Sto) (x : D) (q : Q1) : Prop := ∃ xs ns, seqD S x = some xs ∧ intsD xs = some ns ∧ ns.length ≤ 1000 ∧ (sortU ns).length < 64 ∧ q (.lst ((sortU ns).map .int)) S
def KgW (x : D) (q : (Str → Option D) → Prop) : Prop := ∃ ks vs, x = .kd ks vs ∧ q (fun s => (ks.zip vs).lookup s)
def StrW (y : D) (q : Str → Prop) : Prop := ∃ s, y = .str s ∧ q s
theorem w_srs (k : wpE T G xd a env S fun x S1 => SrsW S1 x q) : wpE T G xd (.srs a) env S q := by rw [wpE]; exact k
theorem w_mlrg (k : wpEs T G xd es env S fun ds S1 => rngL ds fun xs => ∀ n, S1 n = none → q (.loc n) (put S1 n (.lst xs))) : wpE T G xd (.mlrg es) env S q := by rw [wpE]; exact k
theorem w_lrg (k : wpEs T G xd es env S fun ds S1 => rngL ds fun xs => q (.lst xs) S1) : wpE T G xd (.lrg es) env S q := by rw [wpE]; exact k
theorem w_kget {ks : List Str} {vs : List D} {i : Nat} {x : Str} (h : T.cst[i]? = some (x, .kd ks vs)) (k : wpE T G xd e env S fun y S2 => StrW y fun s => q (((ks.zip vs).lookup s).getD .non) S2) : wpE T G xd (.kget (.cst i) e) env S q := by
  rw [wpE, wpE]
  exact ⟨_, h, ks, vs, rfl, k⟩
theorem str_w {s : Str} {q : Str → Prop} (k : q s) : StrW (.str s) q := ⟨s, rfl, k⟩
theorem intsD_map : ∀ ns : List Int, intsD (ns.map .int) = some ns
  | [] => rfl
  | n :: ns => by rw [List.map_cons, intsD, intsD_map ns]; rfl
theorem srs_lst {ns : List Int} (l1 : ns.length ≤ 1000) (l2 : (sortU ns).length < 64) (k : q (.lst ((sortU ns).map .int)) S) : SrsW S (.lst (ns.map .int)) q := ⟨_, ns, rfl, intsD_map ns, l1, l2, k⟩
theorem srs_tup {ns : List Int} (l1 : ns.length ≤ 1000) (l2 : (sortU ns).length < 64) (k : q (.lst ((sortU ns).map .int)) S) : SrsW S (.tup (ns.map .int)) q := ⟨_, ns, rfl, intsD_map ns, l1, l2, k⟩
theorem srs_loc {n : Nat} {ns : List Int} (h : S n = some (.lst (ns.map .int))) (l1 : ns.length ≤ 1000) (l2 : (sortU ns).length < 64) (k : q (.lst ((sortU ns).map .int)) S) : SrsW S (.loc n) q := ⟨_, ns, by simp only [seqD, h], intsD_map ns, l1, l2, k⟩
theorem lrg_1 {j : Int} {q : List D → Prop} (h0 : 0 ≤ j) (h : j ≤ 16777216) (k : q (rngD 0 j.toNat)) : rngL [.int j] q := ⟨L2.RgOk.of_le (by omega) h (by omega) h0, k⟩
theorem lrg_2 {i j : Int} {q : List D → Prop} (i0 : 0 ≤ i) (i1 : i ≤ 16777216) (h0 : 0 ≤ j) (h : j ≤ 16777216) (k : q (rngD i (j - i).toNat)) : rngL [.int i, .int j] q := ⟨L2.RgOk.of_le i0 h i1 h0, k⟩
theorem ix_kd {ks : List Str} {vs : List D} {x : Str} {z : D} (h : (ks.zip vs).lookup x = some z) (k : q z S) : IxW S (.kd ks vs) (.str x) q := ⟨z, h, k⟩
theorem in_kd {ks : List Str} {vs : List D} {x : Str} {b : Bool} (h : ((ks.zip vs).lookup x).isSome = b) (k : qb b) : CmpW .in_ S (.str x) (.kd ks vs) qb := ⟨b, by rw [← h]; rfl, k⟩
theorem nin_kd {ks : List Str} {vs : List D} {x : Str} {b : Bool} (h : ((ks.zip vs).lookup x).isSome = b) (k : qb (!b)) : CmpW .nin S (.str x) (.kd ks vs) qb := ⟨!b, by rw [← h]; rfl, k⟩
theorem in_dic {n : Nat} {kvs : List (L2.Key × D)} {x : D} {kk : L2.Key} (h : S n = some (.dic kvs)) (hk : keyD x = some kk) (k : qb (lkD kvs kk).isSome) : CmpW .in_ S x (.loc n) qb := ⟨_, by simp only [cmpD, inS, h, hk]; rfl, k⟩
theorem nin_dic {n : Nat} {kvs : List (L2.Key × D)} {x : D} {kk : L2.Key} (h : S n = some (.dic kvs)) (hk : keyD x = some kk) (k : qb (!(lkD kvs kk).isSome)) : CmpW .nin S x (.loc n) qb := ⟨_, by simp only [cmpD, inS, h, hk]; rfl, k⟩
theorem rng_3 {i j c : Int} {n : Nat} {q : List D → Prop} (h : L2.RgC i j c n) (k : q (rngC i c n)) : rngW [.int i, .int j, .int c] q := ⟨n, h, k⟩
theorem cmp_isX {x : D} {b : Bool} (h : isD x (.bl b) = some false) (k : qb false) : CmpW .is_ S x (.bl b) qb := ⟨false, h, k⟩
theorem cmp_nisX {x : D} {b : Bool} (h : isD x (.bl b) = some false) (k : qb true) : CmpW .nis S x (.bl b) qb := ⟨true, by
  show (isD x (.bl b)).map (!·) = _
  rw [h]; rfl, k⟩
theorem kind_rev {n : Nat} {xs : List D} {p : Prop} (h : S n = some (.lst xs)) (k : p) : KindW S (.loc n) .reverse p := ⟨by simp only [kindD, h]; rfl, k⟩
theorem kind_pop1 {n : Nat} {xs : List D} {p : Prop} (h : S n = some (.lst xs)) (k : p) : KindW S (.loc n) .pop1 p := ⟨by simp only [kindD, h]; rfl, k⟩
theorem mt_pop1 {n : Nat} {xs : List D} {i : Int} {y : D} (h : S n = some (.lst xs)) (i0 : 0 ≤ i) (i1 : i < 2 ^ 62) (hy : xs[i.toNat]? = some y) (k : ∀ S', S' n = some (.lst (xs.eraseIdx i.toNat)) → (∀ m, m ≠ n → S' m = S m) → q y S') : MtW .pop1 S (.loc n) [.int i] q := ⟨(y, put S n (.lst (xs.eraseIdx i.toNat))), by simp only [mtD, h, if_pos (show 0 ≤ i ∧ i < 2 ^ 62 from ⟨i0, i1⟩), hy]; rfl, k _ put_same fun _ hm => put_ne hm⟩
theorem kind_insert {n : Nat} {xs : List D} {p : Prop} (h : S n = some (.lst xs)) (k : p) : KindW S (.loc n) .insert p := ⟨by simp only [kindD, h]; rfl, k⟩
theorem mt_rev {n : Nat} {xs : List D} (h : S n = some (.lst xs)) (k : q .non (put S n (.lst xs.reverse))) : MtW .reverse S (.loc n) [] q := ⟨(.non, put S n (.lst xs.reverse)), by simp only [mtD, h], k⟩
theorem mt_insert {n : Nat} {xs : List D} {i : Int} {y : D} (h : S n = some (.lst xs)) (hl : xs.length < 1000000) (i0 : 0 ≤ i) (i1 : i < 2 ^ 62) (k : q .non (put S n (.lst (xs.take i.toNat ++ [y] ++ xs.drop i.toNat)))) : MtW .insert S (.loc n) [.int i, y] q := ⟨(.non, put S n (.lst (xs.take i.toNat ++ [y] ++ xs.drop i.toNat))), by simp only [mtD, h, if_pos (⟨hl, i0, i1⟩ : xs.length < 1000000 ∧ 0 ≤ i ∧ i < 2 ^ 62)], k⟩
end
end Mi
set_option maxHeartbeats 1000000
/-! XL: loops and comprehensions over typed lists. -/
namespace Mi
open PySem
theorem rng_map : ∀ (n : Nat) (lo : Int), rngD lo n = (List.range n).map fun (i : Nat) => D.int (lo + i)
  | 0, _ => rfl
  | n + 1, lo => by
    rw [rngD, rng_map n (lo + 1), List.range_succ_eq_map, List.map_cons, List.map_map]
    congr 1
    · simp
    · refine List.map_congr_left fun i _ => ?_
      show D.int (lo + 1 + i) = D.int (lo + ((i + 1 : Nat) : Int))
      congr 1
      push_cast
      omega
theorem rng_len : ∀ (n : Nat) (lo : Int), (rngD lo n).length = n
  | 0, _ => rfl
  | n + 1, lo => by rw [rngD, List.length_cons, rng_len n]
section
variable {T : Tab} {G : GT} {xd : XD} {S : Sto} {chk : Sto → Prop} {bd : D → Option Env} {e : E} {q : List D → Sto → Prop}
theorem wpEs_nil {env : Env} {S : Sto} {q : List D → Sto → Prop} : wpEs T G xd .nil env S q = q [] S := by rw [wpEs]
/-- what a comprehension without a test asks -/
abbrev LcN (T : Tab) (G : GT) (xd : XD) (chk : Sto → Prop) (bd : D → Option Env) (e : E) (xs acc : List D) (S : Sto) (q : List D → Sto → Prop) : Prop := lcL chk bd (fun e1 S q => wpEs T G xd .nil e1 S fun ds S2 => match ds with
      | [] => q true S2
      | x :: _ => ∃ k, truD S2 x = some k ∧ q k S2) (fun e1 S q => wpE T G xd e e1 S q) xs acc S q
abbrev LcC (T : Tab) (G : GT) (xd : XD) (chk : Sto → Prop) (bd : D → Option Env) (e c : E) (xs acc : List D) (S : Sto) (q : List D → Sto → Prop) : Prop := lcL chk bd (fun e1 S q => wpEs T G xd (.cons c .nil) e1 S fun ds S2 => match ds with
      | [] => q true S2
      | x :: _ => ∃ k, truD S2 x = some k ∧ q k S2) (fun e1 S q => wpE T G xd e e1 S q) xs acc S q
/-- typed: ys walked, things of α made -/
theorem lc_map {α β : Type} (g : β → D) (f : α → D) (I : List β → List α → Sto → Prop) (hc : ∀ ys acc S, I ys acc S → chk S) (hl : ∀ y ys acc S, I (y :: ys) acc S → acc.length < 1000000)
    (step : ∀ y ys acc S, I (y :: ys) acc S → ∀ kt : Q1, (∀ a S', I ys (acc ++ [a]) S' → kt (f a) S') → ∃ e1, bd (g y) = some e1 ∧ wpE T G xd e e1 S kt)
    (fin : ∀ acc S, I [] acc S → q (acc.map f) S) : ∀ ys acc S, I ys acc S → LcN T G xd chk bd e (ys.map g) (acc.map f) S q
  | [], acc, S, h => ⟨hc _ _ _ h, fin acc S h⟩
  | y :: ys, acc, S, h => by
    obtain ⟨e1, h1, h2⟩ := step y ys acc S h (fun z S2 => (acc.map f).length < 1000000 ∧ LcN T G xd chk bd e (ys.map g) (acc.map f ++ [z]) S2 q) (fun a S' z => ⟨by rw [List.length_map]; exact hl _ _ _ _ h, by
      have := lc_map g f I hc hl step fin ys (acc ++ [a]) S' z
      rw [List.map_append] at this
      exact this⟩)
    refine ⟨hc _ _ _ h, e1, h1, ?_⟩
    refine w_nil ?_
    exact h2
theorem lc_mapc {α β : Type} {c : E} (g : β → D) (f : α → D) (I : List β → List α → Sto → Prop) (hc : ∀ ys acc S, I ys acc S → chk S) (hl : ∀ y ys acc S, I (y :: ys) acc S → acc.length < 1000000)
    (step : ∀ y ys acc S, I (y :: ys) acc S → ∀ (kt : Q1) (kf : Sto → Prop), (∀ a S', I ys (acc ++ [a]) S' → kt (f a) S') → (∀ S', I ys acc S' → kf S') → ∃ e1, bd (g y) = some e1 ∧ wpE T G xd c e1 S fun x S1 => TruW S1 x fun b => IteW b (wpE T G xd e e1 S1 kt) (kf S1))
    (fin : ∀ acc S, I [] acc S → q (acc.map f) S) : ∀ ys acc S, I ys acc S → LcC T G xd chk bd e c (ys.map g) (acc.map f) S q
  | [], acc, S, h => ⟨hc _ _ _ h, fin acc S h⟩
  | y :: ys, acc, S, h => by
    obtain ⟨e1, h1, h2⟩ := step y ys acc S h (fun z S2 => (acc.map f).length < 1000000 ∧ LcC T G xd chk bd e c (ys.map g) (acc.map f ++ [z]) S2 q) (fun S1 => LcC T G xd chk bd e c (ys.map g) (acc.map f) S1 q) (fun a S' z => ⟨by rw [List.length_map]; exact hl _ _ _ _ h, by
      have := lc_mapc g f I hc hl step fin ys (acc ++ [a]) S' z
      rw [List.map_append] at this
      exact this⟩) (fun S' z => lc_mapc g f I hc hl step fin ys acc S' z)
    refine ⟨hc _ _ _ h, e1, h1, ?_⟩
    refine w_cons ?_
    simp only [wpEs_nil]
    exact h2
theorem lc_rng_at {α : Type} (f : α → D) (lo : Int) (n : Nat) (I : Nat → List α → Sto → Prop) (hl : ∀ i acc S, i < n → I i acc S → acc.length < 1000000)
    (step : ∀ i acc S, i < n → I i acc S → ∀ kt : Q1, (∀ a S', I (i + 1) (acc ++ [a]) S' → kt (f a) S') → ∃ e1, bd (.int (lo + i)) = some e1 ∧ wpE T G xd e e1 S kt)
    (fin : ∀ acc S, I n acc S → q (acc.map f) S) : ∀ m i acc S, i + m = n → I i acc S → LcN T G xd (fun _ => True) bd e (rngD (lo + i) m) (acc.map f) S q
  | 0, i, acc, S, hi, h => ⟨trivial, fin acc S (by rw [← hi]; exact h)⟩
  | m + 1, i, acc, S, hi, h => by
    obtain ⟨e1, h1, h2⟩ := step i acc S (by omega) h (fun z S2 => (acc.map f).length < 1000000 ∧ LcN T G xd (fun _ => True) bd e (rngD (lo + i + 1) m) (acc.map f ++ [z]) S2 q) (fun a S' z => ⟨by rw [List.length_map]; exact hl _ _ _ (by omega) h, by
      have := lc_rng_at f lo n I hl step fin m (i + 1) (acc ++ [a]) S' (by omega) z
      rw [List.map_append] at this
      rw [show lo + (i : Int) + 1 = lo + ((i + 1 : Nat) : Int) by push_cast; omega]
      exact this⟩)
    refine ⟨trivial, e1, h1, ?_⟩
    refine w_nil ?_
    exact h2
theorem lc_rng {α : Type} (f : α → D) (I : Nat → List α → Sto → Prop) {lo : Int} {n : Nat} (hl : ∀ i acc S, i < n → I i acc S → acc.length < 1000000)
    (step : ∀ i acc S, i < n → I i acc S → ∀ kt : Q1, (∀ a S', I (i + 1) (acc ++ [a]) S' → kt (f a) S') → ∃ e1, bd (.int (lo + i)) = some e1 ∧ wpE T G xd e e1 S kt)
    (fin : ∀ acc S, I n acc S → q (acc.map f) S) (S : Sto) (h : I 0 [] S) : LcN T G xd (fun _ => True) bd e (rngD lo n) [] S q := by
  have := lc_rng_at f lo n I hl step fin n 0 [] S (by omega) h
  simpa using this
end
section
variable {chk : Sto → Prop} {bd : D → Env → Option Env} {body : En → Env → Sto → Prop} {nx bk ct : Env → Sto → Prop} {rt : Q1}
/-- a for over typed things -/
theorem for_map {β : Type} (g : β → D) (I : List β → Env → Sto → Prop) (hc : ∀ ys e S, I ys e S → chk S)
    (step : ∀ y ys e S, I (y :: ys) e S → ∀ nx' : Env → Sto → Prop, (∀ e' S', I ys e' S' → nx' e' S') → ∃ e1, bd (g y) e = some e1 ∧ body ⟨nx', rt, nx, nx'⟩ e1 S)
    (fin : ∀ e S, I [] e S → nx e S) : ∀ ys e S, I ys e S → forL chk bd body ⟨nx, rt, bk, ct⟩ (ys.map g) e S
  | [], e, S, h => ⟨hc _ _ _ h, fin e S h⟩
  | y :: ys, e, S, h => by
    obtain ⟨e1, h1, h2⟩ := step y ys e S h (forL chk bd body ⟨nx, rt, bk, ct⟩ (ys.map g)) (for_map g I hc step fin ys)
    exact ⟨hc _ _ _ h, e1, h1, h2⟩
end
theorem ix_anyT {S : Sto} {q : Q1} {xs : List D} {i : Int} (h0 : 0 ≤ i) (h1 : i < xs.length) (k : ∀ x ∈ xs, q x S) : IxW S (.tup xs) (.int i) q := by
  obtain ⟨j, rfl⟩ := Int.eq_ofNat_of_zero_le h0
  have hj : j < xs.length := by omega
  exact ix_tup (L2.atI_nat (List.getElem?_eq_getElem hj)) (k _ (List.getElem_mem hj))
theorem len_scr {S : Sto} {q : Q1} {ns : List Int} (k : q (.int ns.length) S) : BifW .len S [.scr ns] q := ⟨.int (ns.map D.int).length, rfl, by rw [List.length_map]; exact k⟩
theorem ix_scr {S : Sto} {q : Q1} {ns : List Int} {i : Int} (h0 : 0 ≤ i) (h1 : i < ns.length) (k : ∀ c, q (.int c) S) : IxW S (.scr ns) (.int i) q := by
  obtain ⟨j, rfl⟩ := Int.eq_ofNat_of_zero_le h0
  have hj : j < ns.length := by omega
  refine ixw_of (z := .int ns[j]) ?_ (k _)
  show (L2.atI ns _).map D.int = _
  rw [L2.atI_nat (List.getElem?_eq_getElem hj)]
  rfl
theorem tuple_loc {S : Sto} {q : Q1} {n : Nat} {xs : List D} (h : S n = some (.lst xs)) (k : q (.tup xs) S) : BifW .tuple S [.loc n] q := ⟨.tup xs, by
  show (seqD S (.loc n)).map D.tup = _
  simp only [seqD, h]; rfl, k⟩
theorem len_loc {S : Sto} {q : Q1} {n : Nat} {xs : List D} (h : S n = some (.lst xs)) (k : q (.int xs.length) S) : BifW .len S [.loc n] q := ⟨.int xs.length, by
  show (lenD S (.loc n)).map _ = _
  simp only [lenD, seqD, h]; rfl, k⟩
theorem lcc_one {T : Tab} {G : GT} {xd : XD} {S : Sto} {chk : Sto → Prop} {bd : D → Option Env} {e1 : Env} {e c : E} {x : D} {xs acc : List D} {q : List D → Sto → Prop} (h : chk S) (hb : bd x = some e1)
    (k : wpE T G xd c e1 S fun x S1 => TruW S1 x fun b => IteW b (wpE T G xd e e1 S1 fun y S2 => acc.length < 1000000 ∧ LcC T G xd chk bd e c xs (acc ++ [y]) S2 q) (LcC T G xd chk bd e c xs acc S1 q)) : LcC T G xd chk bd e c (x :: xs) acc S q := by
  refine ⟨h, e1, hb, ?_⟩
  refine w_cons ?_
  simp only [wpEs_nil]
  exact k
theorem cut_1 {α : Type} (a : α) (l : List α) : cutD (a :: l) (some 1) none = l := by
  have h1 : HT.sIx (a :: l).length 0 (some 1) = 1 := by
    show (if (1 : Int) < 0 then ((1 : Int) + ((a :: l).length : Int)).toNat else min (1 : Int).toNat (a :: l).length) = 1
    rw [if_neg (by decide), List.length_cons]
    show min 1 (l.length + 1) = 1
    omega
  have h2 : HT.sIx (a :: l).length (a :: l).length none = (a :: l).length := rfl
  unfold cutD
  rw [h1, h2]
  simp
theorem sl_t1 {S : Sto} {q : Q1} {a : D} {l : List D} (k : q (.tup l) S) : SlW S (.tup (a :: l)) ([(1 : Int)][0]?) (([] : List Int)[0]?) q := ⟨.tup (cutD (a :: l) (some 1) none), rfl, by rw [cut_1]; exact k⟩
theorem cmp_eqB {S : Sto} {a b : Bool} {qb : Bool → Prop} (k : qb (decide (a = b))) : CmpW .eq S (.bl a) (.bl b) qb := ⟨_, rfl, k⟩
theorem pds_bls : ∀ ns : List Bool, pds (ns.map .bl) = some (ns.map .bool)
  | [] => rfl
  | n :: ns => by rw [List.map_cons, pds, pds_bls ns]; rfl
theorem lay_bls : ∀ ns : List Bool, PyData.canLayAll0 (ns.map .bool) = true ∧ PyData.depthAll (ns.map .bool) = 0
  | [] => ⟨rfl, rfl⟩
  | n :: ns => by
    obtain ⟨a, b⟩ := lay_bls ns
    rw [List.map_cons, PyData.canLayAll0, PyData.depthAll, a, b]
    exact ⟨rfl, rfl⟩
theorem cmp_neLb {S : Sto} {bs : List Bool} {qb : Bool → Prop} (k : qb (!bs.isEmpty)) : CmpW .ne S (.lst (bs.map .bl)) (.lst []) qb := ⟨_, by
  show (eqD (.lst (bs.map .bl)) (.lst [])).map (!·) = some (!bs.isEmpty)
  obtain ⟨a1, a2⟩ := lay_bls bs
  have : eqD (.lst (bs.map .bl)) (.lst []) = some bs.isEmpty := by
    show (match pd (.lst (bs.map .bl)), pd (.lst []) with
      | some a, some b => if a.canLay0 && b.canLay0 && decide (a.depth ≤ 150) then some (PyData.eqv a b) else none
      | _, _ => none) = _
    simp only [pd, pds_bls, pds, PyData.canLay0, PyData.depth, a1, a2]
    cases bs <;> rfl
  rw [this]; rfl, k⟩
end Mi
set_option maxHeartbeats 1000000
/-! Mi24: a tape: what its draws leave. -/
local macro_rules | `(tactic| tb_start) => `(tactic| first | ((with_reducible show Mi.wpE _ _ _ _ _ _ _); first | ((with_reducible apply Mi.w_var); exact rfl) | with_reducible refine Mi.w_int ?_ | with_reducible refine Mi.w_str ?_ | with_reducible refine Mi.w_bl ?_ | with_reducible refine Mi.w_non ?_ | ((with_reducible apply Mi.w_cst); exact rfl) | with_reducible refine Mi.w_tup ?_ | with_reducible refine Mi.w_lst ?_ | with_reducible refine Mi.w_mls ?_ | with_reducible refine Mi.w_dic ?_ | with_reducible refine Mi.w_bin ?_ | with_reducible refine Mi.w_cmp ?_ | with_reducible refine Mi.w_chn ?_ | with_reducible refine Mi.w_and ?_ | with_reducible refine Mi.w_or ?_ | with_reducible refine Mi.w_not ?_ | with_reducible refine Mi.w_neg ?_ | with_reducible refine Mi.w_ife ?_ | with_reducible refine Mi.w_ix ?_ | with_reducible refine Mi.w_sl ?_ | with_reducible refine Mi.w_rev ?_ | with_reducible refine Mi.w_call ?_ | with_reducible refine Mi.w_bif ?_ | with_reducible refine Mi.w_isi ?_ | with_reducible refine Mi.w_mli ?_ | with_reducible refine Mi.w_meth ?_ | with_reducible refine Mi.w_fz ?_ | with_reducible refine Mi.w_chn3 ?_ | with_reducible refine Mi.w_mdc ?_ | with_reducible refine Mi.w_den ?_ | with_reducible refine Mi.w_lc ?_ | with_reducible refine Mi.w_mlc ?_ | with_reducible refine Mi.w_srs ?_ | with_reducible refine Mi.w_lrg ?_ | with_reducible refine Mi.w_mlrg ?_ | ((with_reducible apply Mi.w_kget); exact rfl) | with_reducible refine Mi.w_mad ?_ | with_reducible refine Mi.w_fld ?_ | with_reducible refine Mi.w_mth ?_ | ((with_reducible apply Mi.w_mk); exact rfl)) | ((with_reducible show Mi.wpEs _ _ _ _ _ _ _); first | with_reducible refine Mi.w_nil ?_ | with_reducible refine Mi.w_cons ?_) | ((with_reducible show Mi.wpSs _ _ _ _ _ _ _); first | with_reducible refine Mi.w_end ?_ | with_reducible refine Mi.w_then ?_) | ((with_reducible show Mi.wpS _ _ _ _ _ _ _); first | with_reducible refine Mi.w_set ?_ | with_reducible refine Mi.w_setT ?_ | with_reducible refine Mi.w_setI ?_ | with_reducible refine Mi.w_setF ?_ | with_reducible refine Mi.w_ifs ?_ | with_reducible refine Mi.w_for ?_ | with_reducible refine Mi.w_ret ?_ | with_reducible refine Mi.w_retN ?_ | with_reducible refine Mi.w_ex ?_ | with_reducible refine Mi.w_brk ?_ | with_reducible refine Mi.w_cont ?_ | with_reducible refine Mi.w_pass ?_) | ((with_reducible show Mi.wpI _ _ _ _ _ _ _); first | with_reducible refine Mi.w_rng ?_ | with_reducible refine Mi.w_seq ?_ | with_reducible refine Mi.w_rvs ?_ | with_reducible refine Mi.w_enm ?_) | ((with_reducible show Mi.TruW _ _ _); first | with_reducible refine Mi.tru_bl ?_ | with_reducible refine Mi.tru_int ?_))
local macro_rules | `(tactic| tb_rel) => `(tactic| first | ((with_reducible show Mi.IteW _ _ _); first | with_reducible refine Mi.ite_t ?_ | with_reducible refine Mi.ite_f ?_ | with_reducible refine Mi.ite_nt ?_ | with_reducible refine Mi.ite_nf ?_ | ((with_reducible refine Mi.ite_bt ?_ ?_); focus assumption)| ((with_reducible refine Mi.ite_bf ?_ ?_); focus assumption)| ((with_reducible refine Mi.ite_nbt ?_ ?_); focus assumption)| ((with_reducible refine Mi.ite_nbf ?_ ?_); focus assumption)| ((with_reducible apply Mi.ite_some); exact rfl)| ((with_reducible apply Mi.ite_none); exact rfl)| ((with_reducible apply Mi.ite_nsome); exact rfl)| ((with_reducible apply Mi.ite_nnone); exact rfl)| ((with_reducible refine Mi.ite_no ?_ ?_); focus (first | assumption | decide))| ((with_reducible refine Mi.ite_yes ?_ ?_); focus (first | assumption | decide))| ((with_reducible refine Mi.ite_nno ?_ ?_); focus (first | assumption | decide))| ((with_reducible refine Mi.ite_nyes ?_ ?_); focus (first | assumption | decide))| ((with_reducible refine Mi.ite_no ?_ ?_); focus (first | assumption | (simp; done) | omega | (simp only [List.length_cons, List.length_nil]; omega) | decide))| ((with_reducible refine Mi.ite_yes ?_ ?_); focus (first | assumption | (simp; done) | omega | (simp only [List.length_cons, List.length_nil]; omega) | decide))| ((with_reducible refine Mi.ite_nno ?_ ?_); focus (first | assumption | (simp; done) | omega | (simp only [List.length_cons, List.length_nil]; omega) | decide))| ((with_reducible refine Mi.ite_nyes ?_ ?_); focus (first | assumption | (simp; done) | omega | (simp only [List.length_cons, List.length_nil]; omega) | decide))) | ((with_reducible show Mi.BinW _ _ _ _ _); first | with_reducible refine Mi.bin_add ?_ | with_reducible refine Mi.bin_sub ?_) | ((with_reducible show Mi.CmpW _ _ _ _ _); first | with_reducible refine Mi.cmp_lt ?_ | with_reducible refine Mi.cmp_le ?_ | with_reducible refine Mi.cmp_gt ?_ | with_reducible refine Mi.cmp_ge ?_ | with_reducible refine Mi.cmp_eqI ?_ | with_reducible refine Mi.cmp_neI ?_ | with_reducible refine Mi.cmp_eqS ?_ | with_reducible refine Mi.cmp_neS ?_ | with_reducible refine Mi.cmp_isNN ?_ | with_reducible refine Mi.cmp_nisNN ?_ | with_reducible refine Mi.cmp_isB ?_ | with_reducible refine Mi.cmp_nisB ?_ | ((with_reducible apply Mi.in_kd); exact rfl) | ((with_reducible apply Mi.nin_kd); exact rfl) | ((with_reducible apply Mi.cmp_isX); exact rfl) | ((with_reducible apply Mi.cmp_nisX); exact rfl) | ((with_reducible refine Mi.cmp_isN ?_ ?_); focus (simp; done))| ((with_reducible refine Mi.cmp_nisN ?_ ?_); focus (simp; done))) | ((with_reducible show Mi.StrW _ _); first | with_reducible refine Mi.str_w ?_) | ((with_reducible show Mi.BifW _ _ _ _); first | with_reducible refine Mi.len_tup ?_ | with_reducible refine Mi.len_lst ?_ | with_reducible refine Mi.int_bl ?_ | with_reducible refine Mi.max_2 ?_ | with_reducible refine Mi.min_2 ?_ | with_reducible refine Mi.tuple_lst ?_ | with_reducible refine Mi.list_tup ?_) | ((with_reducible show Mi.IxW _ _ _ _); first | with_reducible refine Mi.ix_t0 ?_ | with_reducible refine Mi.ix_t1 ?_ | with_reducible refine Mi.ix_t2 ?_ | with_reducible refine Mi.ix_t3 ?_ | with_reducible refine Mi.ix_l0 ?_ | with_reducible refine Mi.ix_l1 ?_ | with_reducible refine Mi.ix_l2 ?_ | ((with_reducible apply Mi.ix_kd); exact rfl)) | ((with_reducible show Mi.NegW _ _ _); first | with_reducible refine Mi.neg_int ?_) | ((with_reducible show Mi.LoW _ _); first | with_reducible refine Mi.lo_nil' ?_ | with_reducible refine Mi.lo_one' ?_) | ((with_reducible show Mi.SlW _ _ _ _ _); first | with_reducible refine Mi.sl_tup ?_ | with_reducible refine Mi.sl_lst ?_ | with_reducible refine Mi.sl_scr ?_) | ((with_reducible show Mi.RevW _ _ _); first | with_reducible refine Mi.rev_tup ?_ | with_reducible refine Mi.rev_lst ?_) | ((with_reducible show Mi.IsiW _ _ _ _); first | with_reducible refine Mi.isi_non0 ?_ | with_reducible refine Mi.isi_non1 ?_ | with_reducible refine Mi.isi_non2 ?_ | with_reducible refine Mi.isi_non3 ?_ | with_reducible refine Mi.isi_non4 ?_ | with_reducible refine Mi.isi_bl0 ?_ | with_reducible refine Mi.isi_bl1 ?_ | with_reducible refine Mi.isi_bl2 ?_ | with_reducible refine Mi.isi_bl3 ?_ | with_reducible refine Mi.isi_bl4 ?_ | with_reducible refine Mi.isi_int0 ?_ | with_reducible refine Mi.isi_int1 ?_ | with_reducible refine Mi.isi_int2 ?_ | with_reducible refine Mi.isi_int3 ?_ | with_reducible refine Mi.isi_int4 ?_ | with_reducible refine Mi.isi_str0 ?_ | with_reducible refine Mi.isi_str1 ?_ | with_reducible refine Mi.isi_str2 ?_ | with_reducible refine Mi.isi_str3 ?_ | with_reducible refine Mi.isi_str4 ?_ | with_reducible refine Mi.isi_tup0 ?_ | with_reducible refine Mi.isi_tup1 ?_ | with_reducible refine Mi.isi_tup2 ?_ | with_reducible refine Mi.isi_tup3 ?_ | with_reducible refine Mi.isi_tup4 ?_ | with_reducible refine Mi.isi_lst0 ?_ | with_reducible refine Mi.isi_lst1 ?_ | with_reducible refine Mi.isi_lst2 ?_ | with_reducible refine Mi.isi_lst3 ?_ | with_reducible refine Mi.isi_lst4 ?_) | ((with_reducible show Mi.lcL _ _ _ _ (_ :: _) _ _ _); first | refine Mi.lc_one (by exact trivial) (by exact rfl) ?_ | refine Mi.lcc_one (by exact trivial) (by exact rfl) ?_) | ((with_reducible show Mi.lcL _ _ _ _ [] _ _ _); refine Mi.lc_end (by exact trivial) ?_) | ((with_reducible refine And.intro ?_ ?_); focus (first | (simp; done) | omega)))
namespace Mi
open PySem
def tp (cs : List Int) (i l : Int) : List D := [.lst (cs.map .int), .int i, .int l]
section
variable {S : Sto} {f : Nat} {cs : List Int} {i l x : Int} {q : Q1} {p : Sto → Prop}
theorem tx_0 (h : S f = some (.lst (tp cs i l))) (k : q (.lst (cs.map .int)) S) : IxW S (.loc f) (.int 0) q := ix_mls h (by rfl) k
theorem tx_1 (h : S f = some (.lst (tp cs i l))) (k : q (.int i) S) : IxW S (.loc f) (.int 1) q := ix_mls h (by rfl) k
theorem tx_2 (h : S f = some (.lst (tp cs i l))) (k : q (.int l) S) : IxW S (.loc f) (.int 2) q := ix_mls h (by rfl) k
theorem ts_1 (h : S f = some (.lst (tp cs i l))) (k : p (put S f (.lst (tp cs x l)))) : SetW S (.loc f) (.int 1) (.int x) p := set_mls h (j := 1) (by rfl) k
theorem ts_2 (h : S f = some (.lst (tp cs i l))) (k : p (put S f (.lst (tp cs i x)))) : SetW S (.loc f) (.int 2) (.int x) p := set_mls h (j := 2) (by rfl) k
end
def Td (S : Sto) (f : Nat) (t : Int) : Prop := ∃ cs i l, S f = some (.lst (tp cs i l)) ∧ 0 ≤ i ∧ i ≤ t
theorem Td.mono {S : Sto} {f : Nat} {t t' : Int} (h : Td S f t) (e : t ≤ t') : Td S f t' := let ⟨cs, i, l, h1, h2, h3⟩ := h; ⟨cs, i, l, h1, h2, Int.le_trans h3 e⟩
theorem Td.same {S S' : Sto} {f : Nat} {t : Int} (h : Td S f t) (e : S' f = S f) : Td S' f t := let ⟨cs, i, l, h1, h2⟩ := h; ⟨cs, i, l, e.trans h1, h2⟩
def spTape : List D → Sto → Q1 → XD → Prop := fun ds S q _ => ∃ f m t, ds = [.loc f, .int m] ∧ 0 < m ∧ m < 2 ^ 60 ∧ t < 2 ^ 60 ∧ Td S f t ∧ ∀ r S', 0 ≤ r → r < m → Same S S' f → Td S' f (t + 1) → q (.int r) S'
def tapeB : List St := [.ifs (.cmp .gt (.ix (.var 0) (.int 2)) (.int 0)) [.set 5 (.bin .mod (.ix (.var 0) (.int 2)) (.var 1)), .setI (.var 0) (.int 2) (.bin .fdiv (.ix (.var 0) (.int 2)) (.var 1)), .ret (.var 5)] [], .set 2 (.ix (.var 0) (.int 1)), .setI (.var 0) (.int 1) (.bin .add (.var 2) (.int 1)), .set 3 (.int 0), .ifs (.cmp .gt (.bif .len (.cons (.ix (.var 0) (.int 0)) .nil)) (.int 0)) [.set 3 (.ix (.ix (.var 0) (.int 0)) (.bin .mod (.var 2) (.bif .len (.cons (.ix (.var 0) (.int 0)) .nil))))] [], .ifs (.and (.cmp .ge (.var 3) (.bin .pow (.int 10) (.int 18))) (.cmp .lt (.var 2) (.bif .len (.cons (.ix (.var 0) (.int 0)) .nil)))) [.setI (.var 0) (.int 2) (.bin .fdiv (.var 3) (.var 1)), .ret (.bin .mod (.var 3) (.var 1))] [], .set 4 (.bin .mod (.bin .mul (.bin .add (.bin .add (.bin .mod (.var 3) (.int 1000003)) (.bin .mul (.bin .mul (.int 31) (.var 2)) (.var 2))) (.int 7)) (.int 48271)) (.int 999983)), .ret (.bin .mod (.bin .mod (.bin .mul (.bin .mod (.bin .add (.bin .mul (.var 4) (.int 69621)) (.bin .mul (.var 2) (.int 7919))) (.int 999979)) (.int 16807)) (.int 524287)) (.var 1))]
theorem tape_ok {T : Tab} {G : GT} {ds : List D} {S : Sto} {q : Q1} (h : spTape ds S q noX) : wpSs T G noX tapeB (bodyEn q) (startD ["_law_tape", "_law_many", "_law_spot", "_law_cell", "_law_seed", "_law_found"] ds) S := by
  obtain ⟨f, m, t, rfl, m0, m1, t1, ⟨cs, i, l, hS, i0, it⟩, ok⟩ := h
  show wpSs T G noX tapeB (bodyEn q) [some (.loc f), some (.int m), none, none, none, none] S
  refine w_body ?_
  unfold tapeB
  have m64 : m < 2 ^ 64 := by omega
  repeat' (first | tb_start | with_reducible refine tx_2 hS ?_ | tb_rel)
  refine ite_dec (fun hl => ?_) fun hl => ?_
  · repeat' (first | tb_start | with_reducible refine tx_2 hS ?_ | with_reducible refine bin_mod m0 ?_ | with_reducible refine bin_fdiv ⟨m0, m64⟩ ?_ | with_reducible refine ts_2 hS ?_ | tb_rel)
    exact sub_end (ok _ _ (Int.emod_nonneg _ (by omega)) (Int.emod_lt_of_pos _ m0) ((Same.refl S f).put _) ⟨cs, i, _, put_same, i0, by omega⟩)
  · repeat' (first | tb_start | with_reducible refine tx_1 hS ?_ | with_reducible refine ts_1 hS ?_ | with_reducible refine tx_0 put_same ?_ | tb_rel)
    rw [List.length_map]
    have key : ∀ c : Int, wpSs T G noX [.ifs (.and (.cmp .ge (.var 3) (.bin .pow (.int 10) (.int 18))) (.cmp .lt (.var 2) (.bif .len (.cons (.ix (.var 0) (.int 0)) .nil)))) [.setI (.var 0) (.int 2) (.bin .fdiv (.var 3) (.var 1)), .ret (.bin .mod (.var 3) (.var 1))] [], .set 4 (.bin .mod (.bin .mul (.bin .add (.bin .add (.bin .mod (.var 3) (.int 1000003)) (.bin .mul (.bin .mul (.int 31) (.var 2)) (.var 2))) (.int 7)) (.int 48271)) (.int 999983)), .ret (.bin .mod (.bin .mod (.bin .mul (.bin .mod (.bin .add (.bin .mul (.var 4) (.int 69621)) (.bin .mul (.var 2) (.int 7919))) (.int 999979)) (.int 16807)) (.int 524287)) (.var 1))]
      ⟨fun _ S' => ∃ S'', Sub S'' S' ∧ q .non S'', fun d S' => ∃ S'', Sub S'' S' ∧ q d S'', fun _ _ => False, fun _ _ => False⟩ [some (.loc f), some (.int m), some (.int i), some (.int c), none, none] (put S f (.lst (tp cs (i + 1) l))) := by
      intro c
      repeat' (first | tb_start | with_reducible refine bin_pow (by decide) ?_ | tb_rel)
      refine ite_dec (fun h1 => ?_) fun h1 => ?_
      · repeat' (first | tb_start | with_reducible refine tx_0 put_same ?_ | tb_rel)
        rw [List.length_map]
        refine ite_dec (fun h2 => ?_) fun h2 => ?_
        · repeat' (first | tb_start | with_reducible refine ts_2 put_same ?_ | with_reducible refine bin_mod m0 ?_ | with_reducible refine bin_fdiv ⟨m0, m64⟩ ?_ | tb_rel)
          exact sub_end (ok _ _ (Int.emod_nonneg _ (by omega)) (Int.emod_lt_of_pos _ m0) (((Same.refl S f).put _).put _) ⟨cs, i + 1, _, put_same, by omega, by omega⟩)
        · repeat' (first | tb_start | with_reducible refine bin_mod (by decide) ?_ | with_reducible refine bin_mul (.inr (by omega)) ?_ | with_reducible refine bin_mul (.inl (by omega)) ?_ | with_reducible refine bin_fdiv (by omega) ?_ | with_reducible refine bin_mod m0 ?_ | tb_rel)
          exact sub_end (ok _ _ (Int.emod_nonneg _ (by omega)) (Int.emod_lt_of_pos _ m0) ((Same.refl S f).put _) ⟨cs, i + 1, _, put_same, by omega, by omega⟩)
      · repeat' (first | tb_start | with_reducible refine bin_mod (by decide) ?_ | with_reducible refine bin_mul (.inr (by omega)) ?_ | with_reducible refine bin_mul (.inl (by omega)) ?_ | with_reducible refine bin_fdiv (by omega) ?_ | with_reducible refine bin_mod m0 ?_ | tb_rel)
        exact sub_end (ok _ _ (Int.emod_nonneg _ (by omega)) (Int.emod_lt_of_pos _ m0) ((Same.refl S f).put _) ⟨cs, i + 1, _, put_same, by omega, by omega⟩)
    refine ite_dec (fun h0 => ?_) fun h0 => ?_
    · repeat' (first | tb_start | with_reducible refine tx_0 put_same ?_ | tb_rel)
      rw [List.length_map]
      obtain ⟨c, hc'⟩ := atI_mod cs i (by omega)
      refine bin_mod (by omega) (ix_lst hc' ?_)
      refine w_end ?_
      exact key c
    · refine w_end ?_
      exact key 0
end Mi
set_option maxHeartbeats 1000000
/-! Mi25: a head's run, looked at in parts (each part a run of its own: less memory). -/
namespace Mi
open PySem PySem.W PySem.Calls PyProof.Rows
/-- the state behind the top -/
noncomputable def endM (r : OpenRow) (M : Nat) (w : World) (os : OsState) : Option SharedT := HandSHeadRun.endF (HandSHeadRun.stepQ (HandSHeadRun.denQ HandSHeadRun.tabQ) r.prog w) M r.prog w os
/-- one look at it -/
def RunP {α : Type} (r : OpenRow) (M : Nat) (w : World) (f : SharedT → α) (v : α) : Prop := ∀ os : OsState, (endM r M w os).map f = some v
theorem RunP.pair {α β : Type} {r : OpenRow} {M : Nat} {w : World} {f : SharedT → α} {g : SharedT → β} {a : α} {b : β} (h : RunP r M w f a) (k : RunP r M w g b) : RunP r M w (fun s => (f s, g s)) (a, b) := fun os => by
  have h1 := h os
  have h2 := k os
  cases e : endM r M w os with
  | none => rw [e] at h1; cases h1
  | some s =>
    rw [e] at h1 h2
    simp only [Option.map_some, Option.some.injEq] at h1 h2 ⊢
    rw [h1, h2]
theorem RunP.one {α : Type} {r : OpenRow} {M : Nat} {w : World} {f : SharedT → α} {v : α} {st : SharedT → Thread → Option (SharedT × Thread)} (hst : st = HandSHeadRun.stepQ (HandSHeadRun.denQ HandSHeadRun.tabQ) r.prog w) (h : ∀ os : OsState, (HandSHeadRun.endF st M r.prog w os).map f = some v) : RunP r M w f v := fun os => by
  subst hst
  exact h os
section
variable {r : OpenRow} {q : Program} {M : Nat} {loose : List PySem.Str} {w : World} {n : Nat} {fa : List He.Fa} {fn : List He.DefD} {ex : Frag → Bool} {ts : List (PySem.Str × List PySem.Str)}
/-- a head's looks but the defs: -/
noncomputable def lookA (r : OpenRow) (q : Program) (loose : List PySem.Str) (w : World) (n : Nat) (ex : Frag → Bool) (ts : List (PySem.Str × List PySem.Str)) (s : SharedT) :=
  (HandSHeadRun.looksF r.prog (boot_heap w.params) s.abs, HandSHeadRun.seenQ q loose (importedModules r.prog.main.body) (fun s => xlAt q [] s && recOk r.toRowW.records s) s.abs, ex (He.frG (HandSHeadRun.getT s) (He.asD (HandSHeadRun.getT s) n)), tabO ts (He.frG (HandSHeadRun.getT s) (He.asD (HandSHeadRun.getT s) n)))
theorem run_of {ob : SharedT → AlM} (ho : ob = obM n fa fn ex ts) (h1 : RunP r M w (lookA r q loose w n ex ts) (true, openGood q loose, true, tabV ts w)) (h2 : RunP r M w (fun s => He.obsDG n fa fn (HandSHeadRun.getT s)) (He.valD fn)) :
    HandSHeadRun.RunEq r q (hookM n fa fn ex ts) ob M loose w := fun os => by
  subst ho
  have a := h1 os
  have b := h2 os
  show (endM r M w os).map _ = _
  cases e : endM r M w os with
  | none => rw [e] at a; cases a
  | some s =>
    rw [e] at a b
    simp only [Option.map_some, Option.some.injEq] at a b ⊢
    have a1 := congrArg (fun z => z.1) a
    have a2 := congrArg (fun z => z.2.1) a
    have a3 := congrArg (fun z => z.2.2.1) a
    have a4 := congrArg (fun z => z.2.2.2) a
    refine Prod.ext a1 (Prod.ext a2 ?_)
    show ((He.obsDG n fa fn (HandSHeadRun.getT s), _), _) = ((He.valD fn, true), tabV ts w)
    rw [b]
    exact Prod.ext (Prod.ext rfl a3) a4
end
end Mi
set_option maxHeartbeats 4000000
namespace K06
open PySem PySem.Spec PyProof.Rows L2 Mi
abbrev Pr : Program := PySem.Challenge.pw_wovenrows_k06_faults_and_where
abbrev top (i : Nat) : Stmt := Pr.main.body.getD i (.Pass ⟨0, 0, 0, 0⟩)
def T : Mi.Tab := { fn := ["joined", "worth_by", "run", "_law_feed", "_law_draw", "_law_figure", "_law_expression", "_law_faulty", "_law_calm_one", "_law_rows_with", "law"], cst := [("SIZE", .int 1000000), ("EXPRESSION_AT", .kd ["put", "write", "call", "tell", "when", "note", "back"] [.int 2, .int 2, .int 3, .int 1, .int 1, .int 2, .int 1])], cl := [("Frame", 18), ("Machine", 19)], mt := [(11, 0, "__init__"), (12, 1, "__init__"), (13, 1, "lay"), (14, 1, "begin"), (15, 1, "give_back"), (16, 1, "do"), (17, 1, "step")], fl := [(0, "went_in"), (0, "held"), (1, "routines"), (1, "cells"), (1, "notes"), (1, "told"), (1, "ticks_left"), (1, "pile"), (1, "ending")] }
/-- joined -/
def N0 : List Str := ["word", "one", "other"]
def c0 : SC := ⟨N0, defScope (top 2), fun _ => true, T⟩
def b0 : List Mi.St := [.ifs (.cmp .eq (.var 0) (.str "plus")) [.ret (.bin .mod (.bin .add (.var 1) (.var 2)) (.cst 0))] [], .ifs (.cmp .eq (.var 0) (.str "less")) [.ret (.bin .mod (.bin .sub (.var 1) (.var 2)) (.cst 0))] [], .ifs (.cmp .eq (.var 0) (.str "times")) [.ret (.bin .mod (.bin .mul (.var 1) (.var 2)) (.cst 0))] [], .ifs (.cmp .eq (.var 0) (.str "over")) [.ret (.ife (.cmp .eq (.var 2) (.int 0)) .non (.bin .fdiv (.var 1) (.var 2)))] [], .ret (.ife (.cmp .eq (.var 0) (.str "below")) (.bif .int (.cons (.cmp .lt (.var 1) (.var 2)) .nil)) (.bif .int (.cons (.cmp .eq (.var 1) (.var 2)) .nil)))]
theorem ck0 : ckSs b0 c0 (defBody (top 2)) = true := by decide +kernel
theorem sc0 : FnScope N0 ["word", "one", "other"] (defScope (top 2)) := ⟨rfl, rfl, rfl, by decide +kernel, rfl, by decide +kernel, by decide +kernel⟩
def d0 : He.DefD := ⟨("joined", none), "joined", "joined", defArgs (top 2), defBody (top 2), defScope (top 2), [], []⟩
/-- worth_by -/
def N1 : List Str := ["expression", "given", "held", "word", "one", "other"]
def c1 : SC := ⟨N1, defScope (top 3), fun _ => true, T⟩
def b1 : List Mi.St := [.set 3 (.ix (.var 0) (.int 0)), .ifs (.cmp .eq (.var 3) (.str "num")) [.ret (.ix (.var 0) (.int 1))] [], .ifs (.cmp .eq (.var 3) (.str "in")) [.ret (.var 1)] [], .ifs (.cmp .eq (.var 3) (.str "at")) [.ret (.meth .get2 (.var 2) (.cons (.ix (.var 0) (.int 1)) (.cons (.int 0) .nil)))] [], .set 4 (.call 1 (.cons (.ix (.var 0) (.int 1)) (.cons (.var 1) (.cons (.var 2) .nil)))), .set 5 (.call 1 (.cons (.ix (.var 0) (.int 2)) (.cons (.var 1) (.cons (.var 2) .nil)))), .ifs (.or (.cmp .is_ (.var 4) .non) (.cmp .is_ (.var 5) .non)) [.ret .non] [], .ret (.call 0 (.cons (.var 3) (.cons (.var 4) (.cons (.var 5) .nil))))]
theorem ck1 : ckSs b1 c1 (defBody (top 3)) = true := by decide +kernel
theorem sc1 : FnScope N1 ["expression", "given", "held"] (defScope (top 3)) := ⟨rfl, rfl, rfl, by decide +kernel, rfl, by decide +kernel, by decide +kernel⟩
def d1 : He.DefD := ⟨("worth_by", none), "worth_by", "worth_by", defArgs (top 3), defBody (top 3), defScope (top 3), [], []⟩
/-- run -/
def N2 : List Str := ["program", "given", "ticks", "machine"]
def c2 : SC := ⟨N2, defScope (top 8), fun _ => true, T⟩
def b2 : List Mi.St := [.set 3 (.mk 1 (.cons (.var 0) (.cons (.var 2) .nil))), .ex (.mth 14 (.var 3) (.cons (.int 0) (.cons (.var 1) (.cons .non (.cons (.int 0) .nil))))), .wh (.cmp .is_ (.fld (.var 3) "ending") .non) [.ex (.mth 17 (.var 3) .nil)], .ret (.tup (.cons (.fld (.var 3) "ending") (.cons (.bif .tuple (.cons (.fld (.var 3) "told") .nil)) (.cons (.bif .tuple (.cons (.fld (.var 3) "cells") .nil)) .nil))))]
theorem ck2 : ckSs b2 c2 (defBody (top 8)) = true := by decide +kernel
theorem sc2 : FnScope N2 ["program", "given", "ticks"] (defScope (top 8)) := ⟨rfl, rfl, rfl, by decide +kernel, rfl, by decide +kernel, by decide +kernel⟩
def d2 : He.DefD := ⟨("run", none), "run", "run", defArgs (top 8), defBody (top 8), defScope (top 8), [], []⟩
/-- _law_feed -/
def N3 : List Str := ["_law_script"]
def c3 : SC := ⟨N3, defScope (top 10), fun _ => true, T⟩
def b3 : List Mi.St := [.ret (.dic [.inr "cells", .inr "at", .inr "left", .inr "turn"] (.cons (.sl (.var 0) .nil (.cons (.int 63) .nil)) (.cons (.int 0) (.cons (.int 0) (.cons (.int 0) .nil)))))]
theorem ck3 : ckSs b3 c3 (defBody (top 10)) = true := by decide +kernel
theorem sc3 : FnScope N3 ["_law_script"] (defScope (top 10)) := ⟨rfl, rfl, rfl, by decide +kernel, rfl, by decide +kernel, by decide +kernel⟩
def d3 : He.DefD := ⟨("_law_feed", none), "_law_feed", "_law_feed", defArgs (top 10), defBody (top 10), defScope (top 10), [], []⟩
/-- _law_draw -/
def N4 : List Str := ["_law_feed_here", "_law_many", "_law_turn", "_law_cells", "_law_cell", "_law_mixed", "_law_digit"]
def c4 : SC := ⟨N4, defScope (top 11), fun _ => true, T⟩
def b4 : List Mi.St := [.set 2 (.bin .add (.ix (.var 0) (.str "turn")) (.int 1)), .setI (.var 0) (.str "turn") (.var 2), .ifs (.cmp .gt (.ix (.var 0) (.str "left")) (.int 0)) [.set 6 (.bin .mod (.ix (.var 0) (.str "left")) (.var 1)), .setI (.var 0) (.str "left") (.bin .fdiv (.ix (.var 0) (.str "left")) (.var 1)), .ret (.var 6)] [], .set 3 (.ix (.var 0) (.str "cells")), .set 4 (.ife (.cmp .gt (.bif .len (.cons (.var 3) .nil)) (.int 0)) (.ix (.var 3) (.bin .mod (.ix (.var 0) (.str "at")) (.bif .len (.cons (.var 3) .nil)))) (.int 0)), .setI (.var 0) (.str "at") (.bin .add (.ix (.var 0) (.str "at")) (.int 1)), .ifs (.and (.cmp .ge (.var 4) (.bin .pow (.int 10) (.int 18))) (.cmp .le (.ix (.var 0) (.str "at")) (.bif .len (.cons (.var 3) .nil)))) [.setI (.var 0) (.str "left") (.bin .fdiv (.var 4) (.var 1)), .ret (.bin .mod (.var 4) (.var 1))] [], .set 5 (.bin .mod (.bin .mul (.bin .add (.bin .add (.bin .add (.bin .mod (.var 4) (.int 1000003)) (.bin .mul (.bin .mul (.int 31) (.var 2)) (.var 2))) (.bin .mul (.int 7) (.var 2))) (.int 11)) (.int 48271)) (.int 2147483647)), .set 5 (.bin .mod (.bin .add (.bin .mul (.bin .fdiv (.var 5) (.int 64)) (.int 69621)) (.bin .mul (.int 7919) (.var 2))) (.int 2147483587)), .ret (.bin .mod (.bin .fdiv (.var 5) (.int 64)) (.var 1))]
theorem ck4 : ckSs b4 c4 (defBody (top 11)) = true := by decide +kernel
theorem sc4 : FnScope N4 ["_law_feed_here", "_law_many"] (defScope (top 11)) := ⟨rfl, rfl, rfl, by decide +kernel, rfl, by decide +kernel, by decide +kernel⟩
def d4 : He.DefD := ⟨("_law_draw", none), "_law_draw", "_law_draw", defArgs (top 11), defBody (top 11), defScope (top 11), [], []⟩
/-- _law_figure -/
def N5 : List Str := ["_law_feed_here", "_law_some"]
def c5 : SC := ⟨N5, defScope (top 12), fun _ => true, T⟩
def b5 : List Mi.St := [.set 1 (.lst (.cons (.int 0) (.cons (.int 1) (.cons (.int 2) (.cons (.int 3) (.cons (.int 7) (.cons (.int 999999) (.cons (.int 999998) (.cons (.int 500000) (.cons (.int 1000) (.cons (.int 31) (.cons (.call 4 (.cons (.var 0) (.cons (.int 10) .nil))) (.cons (.call 4 (.cons (.var 0) (.cons (.int 1000000) .nil))) .nil))))))))))))), .ret (.ix (.var 1) (.call 4 (.cons (.var 0) (.cons (.int 12) .nil))))]
theorem ck5 : ckSs b5 c5 (defBody (top 12)) = true := by decide +kernel
theorem sc5 : FnScope N5 ["_law_feed_here"] (defScope (top 12)) := ⟨rfl, rfl, rfl, by decide +kernel, rfl, by decide +kernel, by decide +kernel⟩
def d5 : He.DefD := ⟨("_law_figure", none), "_law_figure", "_law_figure", defArgs (top 12), defBody (top 12), defScope (top 12), [], []⟩
/-- _law_expression -/
def N6 : List Str := ["_law_feed_here", "_law_deep", "_law_words", "_law_word", "_law_one", "_law_way"]
def c6 : SC := ⟨N6, defScope (top 13), fun _ => true, T⟩
def b6 : List Mi.St := [.ifs (.or (.cmp .eq (.var 1) (.int 0)) (.cmp .eq (.call 4 (.cons (.var 0) (.cons (.int 3) .nil))) (.int 0))) [.set 5 (.call 4 (.cons (.var 0) (.cons (.int 4) .nil))), .ifs (.cmp .eq (.var 5) (.int 0)) [.ret (.tup (.cons (.str "in") .nil))] [], .ret (.ife (.cmp .lt (.var 5) (.int 3)) (.tup (.cons (.str "at") (.cons (.call 4 (.cons (.var 0) (.cons (.int 4) .nil))) .nil))) (.tup (.cons (.str "num") (.cons (.call 5 (.cons (.var 0) .nil)) .nil))))] [], .set 2 (.lst (.cons (.str "plus") (.cons (.str "less") (.cons (.str "times") (.cons (.str "over") (.cons (.str "below") (.cons (.str "like") (.cons (.str "plus") (.cons (.str "less") .nil))))))))), .set 3 (.ix (.var 2) (.call 4 (.cons (.var 0) (.cons (.int 8) .nil)))), .set 4 (.call 6 (.cons (.var 0) (.cons (.bin .sub (.var 1) (.int 1)) .nil))), .ret (.tup (.cons (.var 3) (.cons (.var 4) (.cons (.call 6 (.cons (.var 0) (.cons (.bin .sub (.var 1) (.int 1)) .nil))) .nil))))]
theorem ck6 : ckSs b6 c6 (defBody (top 13)) = true := by decide +kernel
theorem sc6 : FnScope N6 ["_law_feed_here", "_law_deep"] (defScope (top 13)) := ⟨rfl, rfl, rfl, by decide +kernel, rfl, by decide +kernel, by decide +kernel⟩
def d6 : He.DefD := ⟨("_law_expression", none), "_law_expression", "_law_expression", defArgs (top 13), defBody (top 13), defScope (top 13), [], []⟩
/-- _law_faulty -/
def N7 : List Str := ["_law_feed_here", "_law_deep", "_law_word", "_law_one", "_law_other"]
def c7 : SC := ⟨N7, defScope (top 14), fun _ => true, T⟩
def b7 : List Mi.St := [.ifs (.cmp .eq (.var 1) (.int 0)) [.ret (.tup (.cons (.str "over") (.cons (.call 8 (.cons (.var 0) .nil)) (.cons (.tup (.cons (.str "num") (.cons (.int 0) .nil))) .nil))))] [], .set 2 (.ix (.lst (.cons (.str "plus") (.cons (.str "less") (.cons (.str "times") (.cons (.str "below") (.cons (.str "like") (.cons (.str "over") .nil))))))) (.call 4 (.cons (.var 0) (.cons (.int 6) .nil)))), .set 3 (.call 7 (.cons (.var 0) (.cons (.bin .sub (.var 1) (.int 1)) .nil))), .set 4 (.tup (.cons (.str "num") (.cons (.bin .add (.int 1) (.call 4 (.cons (.var 0) (.cons (.int 9) .nil)))) .nil))), .ret (.ix (.lst (.cons (.tup (.cons (.var 2) (.cons (.var 3) (.cons (.var 4) .nil)))) (.cons (.tup (.cons (.var 2) (.cons (.var 4) (.cons (.var 3) .nil)))) .nil))) (.call 4 (.cons (.var 0) (.cons (.int 2) .nil))))]
theorem ck7 : ckSs b7 c7 (defBody (top 14)) = true := by decide +kernel
theorem sc7 : FnScope N7 ["_law_feed_here", "_law_deep"] (defScope (top 14)) := ⟨rfl, rfl, rfl, by decide +kernel, rfl, by decide +kernel, by decide +kernel⟩
def d7 : He.DefD := ⟨("_law_faulty", none), "_law_faulty", "_law_faulty", defArgs (top 14), defBody (top 14), defScope (top 14), [], []⟩
/-- _law_calm_one -/
def N8 : List Str := ["_law_feed_here"]
def c8 : SC := ⟨N8, defScope (top 15), fun _ => true, T⟩
def b8 : List Mi.St := [.ret (.ix (.lst (.cons (.tup (.cons (.str "in") .nil)) (.cons (.tup (.cons (.str "num") (.cons (.call 5 (.cons (.var 0) .nil)) .nil))) (.cons (.tup (.cons (.str "plus") (.cons (.tup (.cons (.str "in") .nil)) (.cons (.tup (.cons (.str "num") (.cons (.int 1) .nil))) .nil)))) .nil)))) (.call 4 (.cons (.var 0) (.cons (.int 3) .nil))))]
theorem ck8 : ckSs b8 c8 (defBody (top 15)) = true := by decide +kernel
theorem sc8 : FnScope N8 ["_law_feed_here"] (defScope (top 15)) := ⟨rfl, rfl, rfl, by decide +kernel, rfl, by decide +kernel, by decide +kernel⟩
def d8 : He.DefD := ⟨("_law_calm_one", none), "_law_calm_one", "_law_calm_one", defArgs (top 15), defBody (top 15), defScope (top 15), [], []⟩
/-- _law_rows_with -/
def N9 : List Str := ["_law_row", "_law_fault", "_law_ahead"]
def c9 : SC := ⟨N9, defScope (top 16), fun _ => true, T⟩
def b9 : List Mi.St := [.set 2 (.tup (.cons (.tup (.cons (.str "tell") (.cons (.tup (.cons (.str "num") (.cons (.int 11) .nil))) .nil))) (.cons (.tup (.cons (.str "write") (.cons (.int 0) (.cons (.tup (.cons (.str "num") (.cons (.int 5) .nil))) .nil)))) .nil))), .ret (.bin .add (.bin .add (.var 2) (.tup (.cons (.var 0) .nil))) (.tup (.cons (.tup (.cons (.str "tell") (.cons (.tup (.cons (.str "num") (.cons (.int 12) .nil))) .nil))) (.cons (.tup (.cons (.str "write") (.cons (.int 0) (.cons (.var 1) .nil)))) .nil))))]
theorem ck9 : ckSs b9 c9 (defBody (top 16)) = true := by decide +kernel
theorem sc9 : FnScope N9 ["_law_row", "_law_fault"] (defScope (top 16)) := ⟨rfl, rfl, rfl, by decide +kernel, rfl, by decide +kernel, by decide +kernel⟩
def d9 : He.DefD := ⟨("_law_rows_with", none), "_law_rows_with", "_law_rows_with", defArgs (top 16), defBody (top 16), defScope (top 16), [], []⟩
/-- law -/
def N10 : List Str := ["_law_script", "_law_feed_here", "_law_k", "_law_fault", "_law_local", "_law_some", "_law_given", "_law_row", "_law_rows", "_law_calm", "_law_ticks", "_law_inner"]
def c10 : SC := ⟨N10, defScope (top 17), fun _ => true, T⟩
def b10 : List Mi.St := [.set 1 (.call 3 (.cons (.var 0) .nil)), .for_ (.nm 2) (.rng (.cons (.int 10) .nil)) [.set 3 (.call 7 (.cons (.var 1) (.cons (.call 4 (.cons (.var 1) (.cons (.int 4) .nil))) .nil))), .set 4 (.call 4 (.cons (.var 1) (.cons (.int 4) .nil))), .set 5 (.lst (.cons (.tup (.cons (.str "put") (.cons (.var 4) (.cons (.var 3) .nil)))) (.cons (.tup (.cons (.str "write") (.cons (.int 0) (.cons (.var 3) .nil)))) (.cons (.tup (.cons (.str "call") (.cons (.var 4) (.cons (.int 1) (.cons (.var 3) .nil))))) (.cons (.tup (.cons (.str "tell") (.cons (.var 3) .nil))) .nil))))), .set 5 (.bin .add (.var 5) (.lst (.cons (.tup (.cons (.str "when") (.cons (.var 3) (.cons (.tup (.cons (.tup (.cons (.str "tell") (.cons (.tup (.cons (.str "num") (.cons (.int 1) .nil))) .nil))) .nil)) (.cons (.tup (.cons (.tup (.cons (.str "tell") (.cons (.tup (.cons (.str "num") (.cons (.int 2) .nil))) .nil))) .nil)) .nil))))) .nil))), .set 5 (.bin .add (.var 5) (.lst (.cons (.tup (.cons (.str "wove") (.cons (.int 1) (.cons .non (.cons (.tup (.cons (.tup (.cons (.str "note") (.cons (.int 3) (.cons (.var 3) .nil)))) .nil)) .nil))))) (.cons (.tup (.cons (.str "when") (.cons (.tup (.cons (.str "num") (.cons (.int 1) .nil))) (.cons (.tup (.cons (.tup (.cons (.str "put") (.cons (.int 0) (.cons (.var 3) .nil)))) .nil)) (.cons (.tup .nil) .nil))))) .nil)))), .set 6 (.call 5 (.cons (.var 1) .nil)), .for_ (.nm 7) (.seq (.var 5)) [.set 8 (.call 9 (.cons (.var 7) (.cons (.var 3) .nil))), .set 9 (.tup (.cons (.tup (.cons (.tup (.cons (.str "tell") (.cons (.tup (.cons (.str "num") (.cons (.int 20) .nil))) .nil))) .nil)) (.cons (.tup (.cons (.str "num") (.cons (.int 3) .nil))) .nil))), .for_ (.nm 10) (.seq (.tup (.cons (.int 1) (.cons (.int 2) (.cons (.int 9) .nil))))) [.ifs (.cmp .ne (.call 2 (.cons (.tup (.cons (.tup (.cons (.int 8) .nil)) (.cons (.tup (.cons (.tup (.cons (.var 8) (.cons (.tup (.cons (.str "num") (.cons (.int 0) .nil))) .nil))) (.cons (.var 9) .nil))) .nil))) (.cons (.var 6) (.cons (.var 10) .nil)))) (.tup (.cons (.tup (.cons (.str "fault") .nil)) (.cons (.tup (.cons (.int 11) .nil)) (.cons (.tup (.cons (.int 5) .nil)) .nil))))) [.ret (.bl false)] []], .set 11 (.tup (.cons (.tup (.cons (.tup (.cons (.str "call") (.cons (.int 0) (.cons (.int 1) (.cons (.tup (.cons (.str "in") .nil)) .nil))))) (.cons (.tup (.cons (.str "tell") (.cons (.tup (.cons (.str "num") (.cons (.int 30) .nil))) .nil))) .nil))) (.cons (.tup (.cons (.str "num") (.cons (.int 0) .nil))) .nil))), .ifs (.cmp .ne (.call 2 (.cons (.tup (.cons (.tup (.cons (.int 8) .nil)) (.cons (.tup (.cons (.var 11) (.cons (.tup (.cons (.var 8) (.cons (.tup (.cons (.str "num") (.cons (.int 0) .nil))) .nil))) .nil))) .nil))) (.cons (.var 6) (.cons (.int 2) .nil)))) (.tup (.cons (.tup (.cons (.str "fault") .nil)) (.cons (.tup (.cons (.int 11) .nil)) (.cons (.tup (.cons (.int 5) .nil)) .nil))))) [.ret (.bl false)] [], .ifs (.cmp .ne (.call 2 (.cons (.tup (.cons (.tup (.cons (.int 8) .nil)) (.cons (.tup (.cons (.var 11) (.cons (.tup (.cons (.var 8) (.cons (.tup (.cons (.str "num") (.cons (.int 0) .nil))) .nil))) .nil))) .nil))) (.cons (.var 6) (.cons (.int 1) .nil)))) (.tup (.cons (.tup (.cons (.str "dry") .nil)) (.cons (.tup .nil) (.cons (.tup (.cons (.int 8) .nil)) .nil))))) [.ret (.bl false)] []], .set 8 (.tup (.cons (.tup (.cons (.str "wove") (.cons (.int 2) (.cons (.tup (.cons (.str "write") (.cons (.int 0) (.cons (.var 3) .nil)))) (.cons (.tup (.cons (.tup (.cons (.str "tell") (.cons (.tup (.cons (.str "num") (.cons (.int 1) .nil))) .nil))) .nil)) .nil))))) (.cons (.tup (.cons (.str "when") (.cons (.tup (.cons (.str "num") (.cons (.int 0) .nil))) (.cons (.tup (.cons (.tup (.cons (.str "tell") (.cons (.var 3) .nil))) .nil)) (.cons (.tup .nil) .nil))))) .nil))), .ifs (.cmp .ne (.call 2 (.cons (.tup (.cons (.tup (.cons (.int 8) .nil)) (.cons (.tup (.cons (.tup (.cons (.var 8) (.cons (.tup (.cons (.str "in") .nil)) .nil))) (.cons (.tup (.cons (.tup (.cons (.tup (.cons (.str "tell") (.cons (.var 3) .nil))) .nil)) (.cons (.var 3) .nil))) .nil))) .nil))) (.cons (.var 6) (.cons (.int 1) .nil)))) (.tup (.cons (.tup (.cons (.str "gave") (.cons (.var 6) .nil))) (.cons (.tup (.cons (.int 1) .nil)) (.cons (.tup (.cons (.int 8) .nil)) .nil))))) [.ret (.bl false)] [], .ifs (.cmp .ne (.call 2 (.cons (.tup (.cons (.tup .nil) (.cons (.tup (.cons (.tup (.cons (.tup (.cons (.tup (.cons (.str "tell") (.cons (.tup (.cons (.str "num") (.cons (.int 4) .nil))) .nil))) .nil)) (.cons (.var 3) .nil))) .nil)) .nil))) (.cons (.var 6) (.cons (.int 1) .nil)))) (.tup (.cons (.tup (.cons (.str "fault") .nil)) (.cons (.tup (.cons (.int 4) .nil)) (.cons (.tup .nil) .nil))))) [.ret (.bl false)] []], .ret (.bl true)]
theorem ck10 : ckSs b10 c10 (defBody (top 17)) = true := by decide +kernel
theorem sc10 : FnScope N10 ["_law_script"] (defScope (top 17)) := ⟨rfl, rfl, rfl, by decide +kernel, rfl, by decide +kernel, by decide +kernel⟩
def d10 : He.DefD := ⟨("law", none), "law", "law", defArgs (top 17), defBody (top 17), defScope (top 17), [], []⟩
/-- Frame.__init__ -/
def N11 : List Str := ["self", "given"]
def c11 : SC := ⟨N11, defScope (L2.inClass (top 6) 0), fun _ => true, T⟩
def b11 : List Mi.St := [.setF (.var 0) "went_in" (.var 1), .setF (.var 0) "held" (.dic [] .nil)]
theorem ck11 : ckSs b11 c11 (defBody (L2.inClass (top 6) 0)) = true := by decide +kernel
theorem sc11 : FnScope N11 ["self", "given"] (defScope (L2.inClass (top 6) 0)) := ⟨rfl, rfl, rfl, by decide +kernel, rfl, by decide +kernel, by decide +kernel⟩
def d11 : He.DefD := ⟨("Frame", some "__init__"), "__init__", "Frame.__init__", defArgs (L2.inClass (top 6) 0), defBody (L2.inClass (top 6) 0), defScope (L2.inClass (top 6) 0), [], []⟩
/-- Machine.__init__ -/
def N12 : List Str := ["self", "program", "ticks"]
def c12 : SC := ⟨N12, defScope (L2.inClass (top 7) 0), fun _ => true, T⟩
def b12 : List Mi.St := [.setF (.var 0) "routines" (.ix (.var 1) (.int 1)), .setF (.var 0) "cells" (.mli (.ix (.var 1) (.int 0))), .setF (.var 0) "notes" (.dic [] .nil), .setF (.var 0) "told" (.mls .nil), .setF (.var 0) "ticks_left" (.var 2), .setF (.var 0) "pile" (.mls .nil), .setF (.var 0) "ending" .non]
theorem ck12 : ckSs b12 c12 (defBody (L2.inClass (top 7) 0)) = true := by decide +kernel
theorem sc12 : FnScope N12 ["self", "program", "ticks"] (defScope (L2.inClass (top 7) 0)) := ⟨rfl, rfl, rfl, by decide +kernel, rfl, by decide +kernel, by decide +kernel⟩
def d12 : He.DefD := ⟨("Machine", some "__init__"), "__init__", "Machine.__init__", defArgs (L2.inClass (top 7) 0), defBody (L2.inClass (top 7) 0), defScope (L2.inClass (top 7) 0), [], []⟩
/-- Machine.lay -/
def N13 : List Str := ["self", "rows", "frame", "row"]
def c13 : SC := ⟨N13, defScope (L2.inClass (top 7) 1), fun _ => true, T⟩
def b13 : List Mi.St := [.for_ (.nm 3) (.rvs (.var 1)) [.ex (.meth .append (.fld (.var 0) "pile") (.cons (.tup (.cons (.var 3) (.cons (.var 2) .nil))) .nil))]]
theorem ck13 : ckSs b13 c13 (defBody (L2.inClass (top 7) 1)) = true := by decide +kernel
theorem sc13 : FnScope N13 ["self", "rows", "frame"] (defScope (L2.inClass (top 7) 1)) := ⟨rfl, rfl, rfl, by decide +kernel, rfl, by decide +kernel, by decide +kernel⟩
def d13 : He.DefD := ⟨("Machine", some "lay"), "lay", "Machine.lay", defArgs (L2.inClass (top 7) 1), defBody (L2.inClass (top 7) 1), defScope (L2.inClass (top 7) 1), [], []⟩
/-- Machine.begin -/
def N14 : List Str := ["self", "r", "given", "caller", "local", "frame", "rows", "last"]
def c14 : SC := ⟨N14, defScope (L2.inClass (top 7) 2), fun _ => true, T⟩
def b14 : List Mi.St := [.ifs (.cmp .eq (.fld (.var 0) "ticks_left") (.int 0)) [.setF (.var 0) "ending" (.tup (.cons (.str "dry") .nil))] [.setF (.var 0) "ticks_left" (.bin .sub (.fld (.var 0) "ticks_left") (.int 1)), .set 5 (.mk 0 (.cons (.var 2) .nil)), .setT [6, 7] (.ix (.fld (.var 0) "routines") (.var 1)), .ex (.meth .append (.fld (.var 0) "pile") (.cons (.tup (.cons (.tup (.cons (.str "back") (.cons (.var 7) (.cons (.var 3) (.cons (.var 4) .nil))))) (.cons (.var 5) .nil))) .nil)), .ex (.mth 13 (.var 0) (.cons (.var 6) (.cons (.var 5) .nil)))]]
theorem ck14 : ckSs b14 c14 (defBody (L2.inClass (top 7) 2)) = true := by decide +kernel
theorem sc14 : FnScope N14 ["self", "r", "given", "caller", "local"] (defScope (L2.inClass (top 7) 2)) := ⟨rfl, rfl, rfl, by decide +kernel, rfl, by decide +kernel, by decide +kernel⟩
def d14 : He.DefD := ⟨("Machine", some "begin"), "begin", "Machine.begin", defArgs (L2.inClass (top 7) 2), defBody (L2.inClass (top 7) 2), defScope (L2.inClass (top 7) 2), [], []⟩
/-- Machine.give_back -/
def N15 : List Str := ["self", "row", "number", "caller", "local"]
def c15 : SC := ⟨N15, defScope (L2.inClass (top 7) 3), fun _ => true, T⟩
def b15 : List Mi.St := [.setT [3, 4] (.sl (.var 1) (.cons (.int 2) .nil) .nil), .ifs (.cmp .is_ (.var 3) .non) [.setF (.var 0) "ending" (.tup (.cons (.str "gave") (.cons (.var 2) .nil)))] [.setI (.fld (.var 3) "held") (.var 4) (.var 2)]]
theorem ck15 : ckSs b15 c15 (defBody (L2.inClass (top 7) 3)) = true := by decide +kernel
theorem sc15 : FnScope N15 ["self", "row", "number"] (defScope (L2.inClass (top 7) 3)) := ⟨rfl, rfl, rfl, by decide +kernel, rfl, by decide +kernel, by decide +kernel⟩
def d15 : He.DefD := ⟨("Machine", some "give_back"), "give_back", "Machine.give_back", defArgs (L2.inClass (top 7) 3), defBody (L2.inClass (top 7) 3), defScope (L2.inClass (top 7) 3), [], []⟩
/-- Machine.do -/
def N16 : List Str := ["self", "row", "frame", "number", "word"]
def c16 : SC := ⟨N16, defScope (L2.inClass (top 7) 4), fun _ => true, T⟩
def b16 : List Mi.St := [.set 4 (.ix (.var 1) (.int 0)), .ifs (.cmp .eq (.var 4) (.str "put")) [.setI (.fld (.var 2) "held") (.ix (.var 1) (.int 1)) (.var 3)] [.ifs (.cmp .eq (.var 4) (.str "read")) [.setI (.fld (.var 2) "held") (.ix (.var 1) (.int 1)) (.ix (.fld (.var 0) "cells") (.ix (.var 1) (.int 2)))] [.ifs (.cmp .eq (.var 4) (.str "write")) [.setI (.fld (.var 0) "cells") (.ix (.var 1) (.int 1)) (.var 3)] [.ifs (.cmp .eq (.var 4) (.str "call")) [.ex (.mth 14 (.var 0) (.cons (.ix (.var 1) (.int 2)) (.cons (.var 3) (.cons (.var 2) (.cons (.ix (.var 1) (.int 1)) .nil)))))] [.ifs (.cmp .eq (.var 4) (.str "tell")) [.ex (.meth .append (.fld (.var 0) "told") (.cons (.var 3) .nil))] [.ifs (.cmp .eq (.var 4) (.str "when")) [.ex (.mth 13 (.var 0) (.cons (.ife (.cmp .eq (.var 3) (.int 0)) (.ix (.var 1) (.int 3)) (.ix (.var 1) (.int 2))) (.cons (.var 2) .nil)))] [.ifs (.cmp .eq (.var 4) (.str "look")) [.setI (.fld (.var 2) "held") (.ix (.var 1) (.int 1)) (.meth .get2 (.fld (.var 0) "notes") (.cons (.ix (.var 1) (.int 2)) (.cons (.int 0) .nil)))] [.ifs (.cmp .eq (.var 4) (.str "note")) [.setI (.fld (.var 0) "notes") (.ix (.var 1) (.int 1)) (.var 3)] [.ifs (.cmp .eq (.var 4) (.str "wove")) [.ex (.mth 13 (.var 0) (.cons (.ix (.var 1) (.int 3)) (.cons (.var 2) .nil)))] [.ex (.mth 15 (.var 0) (.cons (.var 1) (.cons (.var 3) .nil)))]]]]]]]]]]
theorem ck16 : ckSs b16 c16 (defBody (L2.inClass (top 7) 4)) = true := by decide +kernel
theorem sc16 : FnScope N16 ["self", "row", "frame", "number"] (defScope (L2.inClass (top 7) 4)) := ⟨rfl, rfl, rfl, by decide +kernel, rfl, by decide +kernel, by decide +kernel⟩
def d16 : He.DefD := ⟨("Machine", some "do"), "do", "Machine.do", defArgs (L2.inClass (top 7) 4), defBody (L2.inClass (top 7) 4), defScope (L2.inClass (top 7) 4), [], []⟩
/-- Machine.step -/
def N17 : List Str := ["self", "number", "row", "frame"]
def c17 : SC := ⟨N17, defScope (L2.inClass (top 7) 5), fun _ => true, T⟩
def b17 : List Mi.St := [.setT [2, 3] (.meth .pop0 (.fld (.var 0) "pile") .nil), .set 1 (.int 0), .ifs (.cmp .in_ (.ix (.var 2) (.int 0)) (.cst 1)) [.set 1 (.call 1 (.cons (.ix (.var 2) (.ix (.cst 1) (.ix (.var 2) (.int 0)))) (.cons (.fld (.var 3) "went_in") (.cons (.fld (.var 3) "held") .nil))))] [], .ifs (.cmp .is_ (.var 1) .non) [.setF (.var 0) "ending" (.tup (.cons (.str "fault") .nil))] [.ex (.mth 16 (.var 0) (.cons (.var 2) (.cons (.var 3) (.cons (.var 1) .nil))))]]
theorem ck17 : ckSs b17 c17 (defBody (L2.inClass (top 7) 5)) = true := by decide +kernel
theorem sc17 : FnScope N17 ["self"] (defScope (L2.inClass (top 7) 5)) := ⟨rfl, rfl, rfl, by decide +kernel, rfl, by decide +kernel, by decide +kernel⟩
def d17 : He.DefD := ⟨("Machine", some "step"), "step", "Machine.step", defArgs (L2.inClass (top 7) 5), defBody (L2.inClass (top 7) 5), defScope (L2.inClass (top 7) 5), [], []⟩
end K06

set_option maxHeartbeats 4000000
namespace K06
open PySem PySem.Spec PyProof.Rows L2 Mi
section
def fns : List He.DefD := [d0, d1, d2, d3, d4, d5, d6, d7, d8, d9, d10, d11, d12, d13, d14, d15, d16, d17]
def fas : List He.Fa := fasT T
def exs (K : PySem.W.Frag) : Bool := T.cst.all fun p => cstB K p
def loose : List Str := (["SIZE", "joined", "worth_by", "EXPRESSION_AT", "Frame", "Machine", "run", "_law_feed", "_law_draw", "_law_figure", "_law_expression", "_law_faulty"] : List Str) ++ (["_law_calm_one", "_law_rows_with"] : List Str)
abbrev R : PySem.W.OpenRow := PySem.W.OpenLaw.row PySem.Challenge.rw_wovenrows_k06_faults_and_where
abbrev hk : PySem.W.Hook := hookM 5 fas fns exs (kds T.cst)
def ob (s : PySem.W.SharedT) : Mi.AlM := obM 5 fas fns exs (kds T.cst) s
theorem ob_eq (s : PySem.W.SharedT) : ob s = hk.obs s.abs := obM_eq s
theorem run_false1 (w : World) : RunP R 1480 (w.withFollow "special-get-raises" false) (lookA R (PySem.W.view R.prog [17]) loose (w.withFollow "special-get-raises" false) 5 exs (kds T.cst)) (true, PySem.W.openGood (PySem.W.view R.prog [17]) loose, true, tabV (kds T.cst) (w.withFollow "special-get-raises" false)) := RunP.one rfl fun os => by kernel_rfl
theorem run_false2 (w : World) : RunP R 1480 (w.withFollow "special-get-raises" false) (fun s => He.obsDG 5 fas fns (HandSHeadRun.getT s)) (He.valD fns) := RunP.one rfl fun os => by kernel_rfl
theorem run_false (w : World) : HandSHeadRun.RunEq R (PySem.W.view R.prog [17]) hk ob 1480 loose (w.withFollow "special-get-raises" false) := run_of rfl (run_false1 w) (run_false2 w)
theorem run_true1 (w : World) : RunP R 1480 (w.withFollow "special-get-raises" true) (lookA R (PySem.W.view R.prog [17]) loose (w.withFollow "special-get-raises" true) 5 exs (kds T.cst)) (true, PySem.W.openGood (PySem.W.view R.prog [17]) loose, true, tabV (kds T.cst) (w.withFollow "special-get-raises" true)) := RunP.one rfl fun os => by kernel_rfl
theorem run_true2 (w : World) : RunP R 1480 (w.withFollow "special-get-raises" true) (fun s => He.obsDG 5 fas fns (HandSHeadRun.getT s)) (He.valD fns) := RunP.one rfl fun os => by kernel_rfl
theorem run_true (w : World) : HandSHeadRun.RunEq R (PySem.W.view R.prog [17]) hk ob 1480 loose (w.withFollow "special-get-raises" true) := run_of rfl (run_true1 w) (run_true2 w)
theorem run (w : World) : HandSHeadRun.RunEq R (PySem.W.view R.prog [17]) hk ob 1480 loose w :=
  PySem.W.byRow2 "special-get-raises" (P := fun w => HandSHeadRun.RunEq R (PySem.W.view R.prog [17]) hk ob 1480 loose w) run_false run_true w
end
end K06
set_option maxHeartbeats 1000000
/-! XE: expressions, what they are worth, their ranges. -/
namespace Mi
open PySem
inductive W6 | plus | less | times | over | below | like
  deriving DecidableEq
def W6.s : W6 → Str
  | .plus => "plus" | .less => "less" | .times => "times" | .over => "over" | .below => "below" | .like => "like"
inductive Ex where
  | inn | out | at_ (i : Int) | num (i : Int) | op (w : W6) (a b : Ex)
  deriving DecidableEq
def Ex.d : Ex → D
  | .inn => .tup [.str "in"]
  | .out => .tup [.str "out"]
  | .at_ i => .tup [.str "at", .int i]
  | .num i => .tup [.str "num", .int i]
  | .op w a b => .tup [.str w.s, a.d, b.d]
def Ex.dep : Ex → Nat
  | .op _ a b => max a.dep b.dep + 1
  | _ => 0
/-- right, its locals below m, out only where o -/
def Ex.Ok (o : Bool) (m : Int) : Ex → Prop
  | .inn => True
  | .out => o = true
  | .at_ i => 0 ≤ i ∧ i < m
  | .num i => 0 ≤ i ∧ i ≤ 999999
  | .op _ a b => a.Ok o m ∧ b.Ok o m
theorem Ex.Ok.o {o : Bool} {m : Int} : ∀ {e : Ex}, e.Ok o m → e.Ok true m
  | .inn, _ => trivial
  | .out, _ => rfl
  | .at_ _, h => h
  | .num _, h => h
  | .op _ _ _, h => ⟨Ex.Ok.o h.1, Ex.Ok.o h.2⟩
theorem Ex.Ok.mono {o : Bool} {m m' : Int} (hm : m ≤ m') : ∀ {e : Ex}, e.Ok o m → e.Ok o m'
  | .inn, _ => trivial
  | .out, h => h
  | .at_ _, h => ⟨h.1, Int.lt_of_lt_of_le h.2 hm⟩
  | .num _, h => h
  | .op _ _ _, h => ⟨Ex.Ok.mono hm h.1, Ex.Ok.mono hm h.2⟩
theorem Ex.dD_le : ∀ e : Ex, dD e.d ≤ e.dep + 1
  | .inn => by decide
  | .out => by decide
  | .at_ _ => by simp [Ex.d, dD, dDs]
  | .num _ => by simp [Ex.d, dD, dDs]
  | .op w a b => by
    have := Ex.dD_le a
    have := Ex.dD_le b
    simp only [Ex.d, Ex.dep, dD, dDs]
    omega
theorem Ex.dD_op1 {w : W6} {a b : Ex} : dD a.d + 1 ≤ dD (Ex.op w a b).d := by simp only [Ex.d, dD, dDs]; omega
theorem Ex.dD_op2 {w : W6} {a b : Ex} : dD b.d + 1 ≤ dD (Ex.op w a b).d := by simp only [Ex.d, dD, dDs]; omega
def wE : Nat → Nat
  | 0 => 102
  | n + 1 => 62 + 2 * wE n
theorem wE_pos : ∀ n, 102 ≤ wE n
  | 0 => by decide
  | n + 1 => by have := wE_pos n; rw [wE]; omega
theorem wE_mono : ∀ {n m}, n ≤ m → wE n ≤ wE m
  | 0, m, _ => wE_pos m
  | n + 1, 0, h => absurd h (by omega)
  | n + 1, m + 1, h => by have := wE_mono (n := n) (m := m) (by omega); rw [wE, wE]; omega
theorem W6.w (w : W6) : wD (.str w.s) ≤ 52 := by cases w <;> decide +kernel
theorem Ex.wD_le {m : Int} (hm : m ≤ 10 ^ 50) : ∀ {o : Bool} {e : Ex}, e.Ok o m → ∀ {n}, e.dep ≤ n → wD e.d ≤ wE n
  | o, .inn, _, n, _ => by
    have h1 : wD (.tup [.str "in"]) ≤ 102 := by decide +kernel
    exact Nat.le_trans h1 (wE_pos n)
  | o, .out, _, n, _ => by
    have h1 : wD (.tup [.str "out"]) ≤ 102 := by decide +kernel
    exact Nat.le_trans h1 (wE_pos n)
  | o, .at_ i, h, n, _ => by
    have h2 : wD (.str "at") = 22 := by decide +kernel
    have h0 : 0 ≤ i ∧ i < m := h
    have h3 : wD (.int i) = 62 := wD_int (by omega)
    have := wE_pos n
    rw [Ex.d, wD, wDs, wDs, wDs, h2, h3]
    omega
  | o, .num i, h, n, _ => by
    have h2 : wD (.str "num") = 32 := by decide +kernel
    have h0 : 0 ≤ i ∧ i ≤ 999999 := h
    have h3 : wD (.int i) = 62 := wD_int (by omega)
    have := wE_pos n
    rw [Ex.d, wD, wDs, wDs, wDs, h2, h3]
    omega
  | o, .op w a b, h, 0, hn => absurd hn (by simp only [Ex.dep]; omega)
  | o, .op w a b, h, n + 1, hn => by
    simp only [Ex.dep] at hn
    have h2 := W6.w w
    have ha := Ex.wD_le hm h.1 (n := n) (by omega)
    have hb := Ex.wD_le hm h.2 (n := n) (by omega)
    rw [Ex.d, wD, wDs, wDs, wDs, wDs, wE]
    omega
/-- how many draws an expression wants at most -/
def cE : Nat → Int
  | 0 => 6
  | n + 1 => 6 + 2 * cE n
theorem cE_pos : ∀ n, 6 ≤ cE n
  | 0 => by decide
  | n + 1 => by have := cE_pos n; rw [cE]; omega
def intOf : D → Int
  | .int i => i
  | _ => 0
/-! ### figures -/
def FI (i : Int) : Prop := 0 ≤ i ∧ i ≤ 999999
def od : Option Int → D
  | none => .non
  | some i => .int i
@[simp] theorem od_none : od none = .non := rfl
@[simp] theorem od_some {i : Int} : od (some i) = .int i := rfl
def W6.jn (w : W6) (i j : Int) : Option Int := match w with
  | .plus => some ((i + j) % 1000000)
  | .less => some ((i - j) % 1000000)
  | .times => some (i * j % 1000000)
  | .over => if j = 0 then none else some (i / j)
  | .below => some (if i < j then 1 else 0)
  | .like => some (if i = j then 1 else 0)
theorem W6.jn_ok {w : W6} {i j r : Int} (hi : FI i) (hj : FI j) (h : w.jn i j = some r) : FI r := by
  obtain ⟨i0, i1⟩ := hi
  obtain ⟨j0, j1⟩ := hj
  cases w with
  | plus => simp only [W6.jn, Option.some.injEq] at h; subst h; exact ⟨by omega, by omega⟩
  | less => simp only [W6.jn, Option.some.injEq] at h; subst h; exact ⟨by omega, by omega⟩
  | times =>
    simp only [W6.jn, Option.some.injEq] at h; subst h
    exact ⟨Int.emod_nonneg _ (by decide), by have := Int.emod_lt_of_pos (i * j) (show (0 : Int) < 1000000 by decide); omega⟩
  | over =>
    simp only [W6.jn] at h
    split at h
    · cases h
    · simp only [Option.some.injEq] at h; subst h
      exact ⟨Int.ediv_nonneg i0 j0, Int.le_trans (Int.ediv_le_self _ i0) i1⟩
  | below => simp only [W6.jn, Option.some.injEq] at h; subst h; constructor <;> split <;> omega
  | like => simp only [W6.jn, Option.some.injEq] at h; subst h; constructor <;> split <;> omega
def Ex.val (g : Int) (h : Int → Int) : Ex → Option Int
  | .inn => some g
  | .out => none
  | .at_ i => some (h i)
  | .num i => some i
  | .op w a b => match a.val g h, b.val g h with
    | some x, some y => w.jn x y
    | _, _ => none
theorem Ex.val_ok {m g : Int} {h : Int → Int} (hg : FI g) (hh : ∀ i, FI (h i)) : ∀ {e : Ex} {r : Int}, e.Ok false m → e.val g h = some r → FI r
  | .inn, r, _, e => by simp only [Ex.val, Option.some.injEq] at e; exact e ▸ hg
  | .out, r, _, e => by cases e
  | .at_ i, r, _, e => by simp only [Ex.val, Option.some.injEq] at e; exact e ▸ hh i
  | .num i, r, o, e => by simp only [Ex.val, Option.some.injEq] at e; exact e ▸ o
  | .op w a b, r, o, e => by
    simp only [Ex.val] at e
    split at e
    · rename_i x y ex ey
      exact W6.jn_ok (Ex.val_ok hg hh o.1 ex) (Ex.val_ok hg hh o.2 ey) e
    · cases e
/-- what a dict of locals holds -/
def DH (kvs : List (L2.Key × D)) (h : Int → Int) : Prop := ∀ i, (lkD kvs (.inl i)).getD (.int 0) = .int (h i) ∧ FI (h i)
theorem lk_numD : ∀ (xs : List D) (lo i : Nat), lkD (numD lo xs) (.inl ((lo + i : Nat) : Int)) = xs[i]?
  | [], lo, i => by simp [numD, lkD]
  | x :: xs, lo, 0 => by simp [numD, lkD]
  | x :: xs, lo, i + 1 => by
    have ih := lk_numD xs (lo + 1) i
    rw [show lo + 1 + i = lo + (i + 1) by omega] at ih
    rw [List.getElem?_cons_succ, ← ih]
    unfold lkD
    rw [numD, List.find?_cons_of_neg]
    have : ¬ ((lo : Int) = ((lo + (i + 1) : Nat) : Int)) := by omega
    simpa using this
theorem lk_numD_neg (i : Int) (h : i < 0) : ∀ (xs : List D) (lo : Nat), lkD (numD lo xs) (.inl i) = none
  | [], lo => rfl
  | x :: xs, lo => by
    have := lk_numD_neg i h xs (lo + 1)
    unfold lkD at this ⊢
    rw [numD, List.find?_cons_of_neg]
    · exact this
    · have : ¬ (lo : Int) = i := by omega
      simpa using this
/-- the values of locals by a tuple -/
def lhv (vs : List Int) (i : Int) : Int := if i < 0 then 0 else (vs[i.toNat]?).getD 0
theorem lk_vals (vs : List Int) (i : Int) : (lkD (numD 0 (vs.map .int)) (.inl i)).getD (.int 0) = .int (lhv vs i) := by
  by_cases h : i < 0
  · rw [lk_numD_neg i h]
    simp [lhv, h]
  · obtain ⟨j, rfl⟩ := Int.eq_ofNat_of_zero_le (Int.not_lt.mp h)
    have := lk_numD (vs.map .int) 0 j
    rw [Nat.zero_add] at this
    rw [this, List.getElem?_map]
    have h2 : lhv vs (j : Int) = (vs[j]?).getD 0 := by
      unfold lhv
      rw [if_neg (by omega)]
      rfl
    rw [h2]
    cases vs[j]? <;> rfl
theorem lhv_ok {vs : List Int} (h : ∀ v ∈ vs, FI v) (i : Int) : FI (lhv vs i) := by
  unfold lhv
  split
  · exact ⟨by omega, by omega⟩
  · cases e : vs[i.toNat]? with
    | none => exact ⟨by decide, by decide⟩
    | some v => exact h v (List.mem_of_getElem? e)
theorem dh_vals {vs : List Int} (h : ∀ v ∈ vs, FI v) : DH (numD 0 (vs.map .int)) (lhv vs) := fun i => ⟨lk_vals vs i, lhv_ok h i⟩
/-! ### ranges -/
abbrev Rg := Int × Int
def rd (r : Rg) : D := .tup [.int r.1, .int r.2]
def ord : Option Rg → D
  | none => .non
  | some r => rd r
@[simp] theorem ord_none : ord none = .non := rfl
@[simp] theorem ord_some {r : Rg} : ord (some r) = rd r := rfl
def RI (r : Rg) : Prop := 0 ≤ r.1 ∧ r.1 ≤ r.2 ∧ r.2 ≤ 999999
def W6.rj (w : W6) (r s : Rg) : Option Rg := match w with
  | .over => if s.2 = 0 then none else some (r.1 / s.2, r.2 / max s.1 1)
  | .plus => some (if r.2 + s.2 ≤ 999999 then (r.1 + s.1, r.2 + s.2) else (0, 999999))
  | .less => some (if s.2 ≤ r.1 then (r.1 - s.2, r.2 - s.1) else (0, 999999))
  | .times => some (if r.2 * s.2 ≤ 999999 then (r.1 * s.1, r.2 * s.2) else (0, 999999))
  | .below => some (if r.2 < s.1 then (1, 1) else if s.2 ≤ r.1 then (0, 0) else (0, 1))
  | .like => some (if r.2 < s.1 ∨ s.2 < r.1 then (0, 0) else if r.1 = r.2 ∧ r.2 = s.1 ∧ s.1 = s.2 then (1, 1) else (0, 1))
theorem div_le {a b c e : Int} (a0 : 0 ≤ a) (ab : a ≤ b) (c0 : 0 ≤ c) (ce : c ≤ e) (e0 : e ≠ 0) : 0 ≤ a / e ∧ a / e ≤ b / max c 1 ∧ b / max c 1 ≤ b := by
  have hm : 0 < max c 1 := by omega
  have hme : max c 1 ≤ e := by omega
  refine ⟨Int.ediv_nonneg a0 (by omega), ?_, Int.ediv_le_self _ (by omega)⟩
  refine Int.le_trans ?_ (Int.ediv_le_ediv hm ab)
  refine (Int.le_ediv_iff_mul_le hm).mpr ?_
  have h1 : a / e * e ≤ a := Int.ediv_mul_le a (by omega)
  have h2 : a / e * max c 1 ≤ a / e * e := Int.mul_le_mul_of_nonneg_left hme (Int.ediv_nonneg a0 (by omega))
  omega
theorem W6.rj_ok {w : W6} {r s t : Rg} (hr : RI r) (hs : RI s) (h : w.rj r s = some t) : RI t := by
  obtain ⟨a0, ab, bm⟩ := hr
  obtain ⟨c0, ce, em⟩ := hs
  cases w with
  | over =>
    simp only [W6.rj] at h
    split at h
    · cases h
    · rename_i hn
      simp only [Option.some.injEq] at h; subst h
      obtain ⟨h1, h2, h3⟩ := div_le a0 ab c0 ce hn
      exact ⟨h1, h2, Int.le_trans h3 bm⟩
  | times =>
    simp only [W6.rj, Option.some.injEq] at h; subst h
    split
    · rename_i h5
      have h1 : 0 ≤ r.1 * s.1 := Int.mul_nonneg a0 c0
      have h2 : r.1 * s.1 ≤ r.2 * s.2 := Int.mul_le_mul ab ce c0 (by omega)
      exact ⟨h1, h2, h5⟩
    · exact ⟨by decide, by decide, by decide⟩
  | plus =>
    simp only [W6.rj, Option.some.injEq] at h; subst h
    split
    · exact ⟨by show 0 ≤ r.1 + s.1; omega, by show r.1 + s.1 ≤ r.2 + s.2; omega, by assumption⟩
    · exact ⟨by decide, by decide, by decide⟩
  | less =>
    simp only [W6.rj, Option.some.injEq] at h; subst h
    split
    · exact ⟨by show 0 ≤ r.1 - s.2; omega, by show r.1 - s.2 ≤ r.2 - s.1; omega, by show r.2 - s.1 ≤ _; omega⟩
    · exact ⟨by decide, by decide, by decide⟩
  | below =>
    simp only [W6.rj, Option.some.injEq] at h; subst h
    split
    · exact ⟨by decide, by decide, by decide⟩
    · split <;> exact ⟨by decide, by decide, by decide⟩
  | like =>
    simp only [W6.rj, Option.some.injEq] at h; subst h
    split
    · exact ⟨by decide, by decide, by decide⟩
    · split <;> exact ⟨by decide, by decide, by decide⟩
def Ex.rng (g : Rg) (o : Option Rg) (h : Int → Rg) : Ex → Option Rg
  | .inn => some g
  | .out => o
  | .at_ i => some (h i)
  | .num i => some (i, i)
  | .op w a b => match a.rng g o h, b.rng g o h with
    | some x, some y => w.rj x y
    | _, _ => none
theorem Ex.rng_ok {m : Int} {g : Rg} {o : Option Rg} {h : Int → Rg} (hg : RI g) (ho : ∀ r, o = some r → RI r) (hh : ∀ i, RI (h i)) : ∀ {e : Ex} {r : Rg}, e.Ok true m → e.rng g o h = some r → RI r
  | .inn, r, _, e => by simp only [Ex.rng, Option.some.injEq] at e; exact e ▸ hg
  | .out, r, _, e => ho r e
  | .at_ i, r, _, e => by simp only [Ex.rng, Option.some.injEq] at e; exact e ▸ hh i
  | .num i, r, q, e => by simp only [Ex.rng, Option.some.injEq] at e; exact e ▸ ⟨q.1, Int.le_refl _, q.2⟩
  | .op w a b, r, q, e => by
    simp only [Ex.rng] at e
    split at e
    · rename_i x y ex ey
      exact W6.rj_ok (Ex.rng_ok hg ho hh q.1 ex) (Ex.rng_ok hg ho hh q.2 ey) e
    · cases e
/-- what a dict of locals' ranges holds -/
def DR (kvs : List (L2.Key × D)) (h : Int → Rg) : Prop := ∀ i, (lkD kvs (.inl i)).getD (.tup [.int 0, .int 0]) = rd (h i) ∧ RI (h i)
/-! ### what is worth lies in the range -/
def InR (i : Int) (r : Rg) : Prop := r.1 ≤ i ∧ i ≤ r.2
theorem W6.in_rj {w : W6} {r s : Rg} {i j x : Int} (hr : RI r) (hs : RI s) (hi : InR i r) (hj : InR j s) (h : w.jn i j = some x) : ∃ t, w.rj r s = some t ∧ InR x t := by
  obtain ⟨a0, ab, bm⟩ := hr
  obtain ⟨c0, ce, em⟩ := hs
  obtain ⟨i1, i2⟩ := hi
  obtain ⟨j1, j2⟩ := hj
  have xf : FI x := W6.jn_ok ⟨by omega, by omega⟩ ⟨by omega, by omega⟩ h
  cases w with
  | plus =>
    simp only [W6.jn, Option.some.injEq] at h; subst h
    refine ⟨_, rfl, ?_⟩
    split
    · exact ⟨by show r.1 + s.1 ≤ _; omega, by show _ ≤ r.2 + s.2; omega⟩
    · exact xf
  | less =>
    simp only [W6.jn, Option.some.injEq] at h; subst h
    refine ⟨_, rfl, ?_⟩
    split
    · exact ⟨by show r.1 - s.2 ≤ _; omega, by show _ ≤ r.2 - s.1; omega⟩
    · exact xf
  | times =>
    simp only [W6.jn, Option.some.injEq] at h; subst h
    refine ⟨_, rfl, ?_⟩
    split
    · rename_i h5
      have h1 : r.1 * s.1 ≤ i * j := Int.mul_le_mul i1 j1 c0 (by omega)
      have h2 : i * j ≤ r.2 * s.2 := Int.mul_le_mul i2 j2 (by omega) (by omega)
      have h3 : 0 ≤ i * j := Int.mul_nonneg (by omega) (by omega)
      have h4 : i * j % 1000000 = i * j := Int.emod_eq_of_lt h3 (by omega)
      rw [h4]
      exact ⟨h1, h2⟩
    · exact xf
  | over =>
    simp only [W6.jn] at h
    split at h
    · cases h
    · rename_i hn
      simp only [Option.some.injEq] at h; subst h
      refine ⟨(r.1 / s.2, r.2 / max s.1 1), ?_, ?_, ?_⟩
      · show (if s.2 = 0 then none else _) = _
        rw [if_neg (by omega)]
      · show r.1 / s.2 ≤ i / j
        refine (Int.le_ediv_iff_mul_le (by omega)).mpr ?_
        have h1 : r.1 / s.2 * s.2 ≤ r.1 := Int.ediv_mul_le _ (by omega)
        have h2 : r.1 / s.2 * j ≤ r.1 / s.2 * s.2 := Int.mul_le_mul_of_nonneg_left j2 (Int.ediv_nonneg a0 (by omega))
        omega
      · show i / j ≤ r.2 / max s.1 1
        refine (Int.le_ediv_iff_mul_le (by omega)).mpr ?_
        have h1 : i / j * j ≤ i := Int.ediv_mul_le _ (by omega)
        have h2 : i / j * max s.1 1 ≤ i / j * j := Int.mul_le_mul_of_nonneg_left (by omega) (Int.ediv_nonneg (by omega) (by omega))
        omega
  | below =>
    simp only [W6.jn, Option.some.injEq] at h; subst h
    refine ⟨_, rfl, ?_⟩
    split
    · split
      · exact ⟨by decide, by decide⟩
      · split
        · omega
        · exact ⟨by decide, by decide⟩
    · split
      · omega
      · split <;> exact ⟨by decide, by decide⟩
  | like =>
    simp only [W6.jn, Option.some.injEq] at h; subst h
    refine ⟨_, rfl, ?_⟩
    split
    · split
      · omega
      · split <;> exact ⟨by decide, by decide⟩
    · split
      · exact ⟨by decide, by decide⟩
      · split
        · omega
        · exact ⟨by decide, by decide⟩
theorem Ex.in_rng {m g : Int} {h : Int → Int} {gr : Rg} {o : Option Rg} {hr : Int → Rg} (g1 : RI gr) (o1 : ∀ r, o = some r → RI r) (h1 : ∀ i, RI (hr i)) (gi : InR g gr) (hi : ∀ i, 0 ≤ i → i < m → InR (h i) (hr i)) :
    ∀ {e : Ex} {x : Int}, e.Ok false m → e.val g h = some x → ∃ t, e.rng gr o hr = some t ∧ InR x t
  | .inn, x, _, e => by simp only [Ex.val, Option.some.injEq] at e; exact ⟨_, rfl, e ▸ gi⟩
  | .out, x, _, e => by cases e
  | .at_ i, x, q, e => by simp only [Ex.val, Option.some.injEq] at e; exact ⟨_, rfl, e ▸ hi i q.1 q.2⟩
  | .num i, x, q, e => by simp only [Ex.val, Option.some.injEq] at e; exact ⟨_, rfl, e ▸ ⟨Int.le_refl _, Int.le_refl _⟩⟩
  | .op w a b, x, q, e => by
    simp only [Ex.val] at e
    split at e
    · rename_i y z ey ez
      obtain ⟨t, t1, t2⟩ := Ex.in_rng g1 o1 h1 gi hi q.1 ey
      obtain ⟨u, u1, u2⟩ := Ex.in_rng g1 o1 h1 gi hi q.2 ez
      obtain ⟨v, v1, v2⟩ := W6.in_rj (Ex.rng_ok g1 o1 h1 q.1.o t1) (Ex.rng_ok g1 o1 h1 q.2.o u1) t2 u2 e
      exact ⟨v, by simp only [Ex.rng, t1, u1]; exact v1, v2⟩
    · cases e
end Mi
set_option maxHeartbeats 1000000
/-! XP: rows, programs, patterns. -/
namespace Mi
open PySem
/-- a wove's kept row: none or one -/
inductive Row where
  | put (l : Int) (e : Ex) | read (l c : Int) | write (c : Int) (e : Ex) | call (l r : Int) (e : Ex) | tell (e : Ex)
  | whn (e : Ex) (a b : List Row) | look (l n : Int) | note (n : Int) (e : Ex) | wove (w : Int) (k rs : List Row) | go (l : Int) (e : Ex)
def hdD : List D → D
  | [] => .non
  | x :: _ => x
mutual
def Row.d : Row → D
  | .put l e => .tup [.str "put", .int l, e.d]
  | .read l c => .tup [.str "read", .int l, .int c]
  | .write c e => .tup [.str "write", .int c, e.d]
  | .call l r e => .tup [.str "call", .int l, .int r, e.d]
  | .tell e => .tup [.str "tell", e.d]
  | .whn e a b => .tup [.str "when", e.d, .tup (Row.ds a), .tup (Row.ds b)]
  | .look l n => .tup [.str "look", .int l, .int n]
  | .note n e => .tup [.str "note", .int n, e.d]
  | .wove w k rs => .tup [.str "wove", .int w, hdD (Row.ds k), .tup (Row.ds rs)]
  | .go l e => .tup [.str "go", .int l, e.d]
def Row.ds : List Row → List D
  | [] => []
  | r :: rs => r.d :: Row.ds rs
end
theorem Row.ds_map : ∀ rs : List Row, Row.ds rs = rs.map Row.d
  | [] => by rw [Row.ds, List.map_nil]
  | r :: rs => by rw [Row.ds, List.map_cons, Row.ds_map rs]
/-- what a wove keeps -/
def kpD : List Row → D
  | [] => .non
  | r :: _ => r.d
theorem hd_kp (k : List Row) : hdD (Row.ds k) = kpD k := by cases k <;> simp [Row.ds, hdD, kpD]
def rwsD (rs : List Row) : D := .tup (rs.map Row.d)
theorem wD_rws {xs : List Row} : wD (rwsD xs) = wDs (xs.map Row.d) + 4 := by rw [rwsD, wD]
theorem dD_rws {xs : List Row} : dD (rwsD xs) = dDs (xs.map Row.d) + 1 := by rw [rwsD, dD]
theorem Row.d_whn {e : Ex} {a b : List Row} : (Row.whn e a b).d = .tup [.str "when", e.d, rwsD a, rwsD b] := by rw [Row.d, Row.ds_map, Row.ds_map]; rfl
theorem Row.d_wove {w : Int} {k rs : List Row} : (Row.wove w k rs).d = .tup [.str "wove", .int w, kpD k, rwsD rs] := by rw [Row.d, hd_kp, Row.ds_map]; rfl
theorem Row.d_put {l : Int} {e : Ex} : (Row.put l e).d = .tup [.str "put", .int l, e.d] := by rw [Row.d]
theorem Row.d_read {l c : Int} : (Row.read l c).d = .tup [.str "read", .int l, .int c] := by rw [Row.d]
theorem Row.d_write {c : Int} {e : Ex} : (Row.write c e).d = .tup [.str "write", .int c, e.d] := by rw [Row.d]
theorem Row.d_call {l r : Int} {e : Ex} : (Row.call l r e).d = .tup [.str "call", .int l, .int r, e.d] := by rw [Row.d]
theorem Row.d_tell {e : Ex} : (Row.tell e).d = .tup [.str "tell", e.d] := by rw [Row.d]
theorem Row.d_look {l n : Int} : (Row.look l n).d = .tup [.str "look", .int l, .int n] := by rw [Row.d]
theorem Row.d_note {n : Int} {e : Ex} : (Row.note n e).d = .tup [.str "note", .int n, e.d] := by rw [Row.d]
theorem Row.d_go {l : Int} {e : Ex} : (Row.go l e).d = .tup [.str "go", .int l, e.d] := by rw [Row.d]
/-- the rows within a row -/
def Row.inner : Row → List (List Row)
  | .whn _ a b => [a, b]
  | .wove _ _ rs => [rs]
  | _ => []
def Row.isPlace : Row → Bool
  | .read _ _ => true
  | .write _ _ => true
  | .call _ _ _ => true
  | _ => false
def Row.word : Row → Str
  | .put _ _ => "put" | .read _ _ => "read" | .write _ _ => "write" | .call _ _ _ => "call" | .tell _ => "tell" | .whn _ _ _ => "when" | .look _ _ => "look" | .note _ _ => "note" | .wove _ _ _ => "wove" | .go _ _ => "go"
def LcI (l : Int) : Prop := 0 ≤ l ∧ l ≤ 99999
def NtI (l : Int) : Prop := 0 ≤ l ∧ l ≤ 999
mutual
/-- numbers are right: c cells, r routines -/
def Row.Ok (c r : Nat) : Row → Prop
  | .put l e => LcI l ∧ e.Ok false 100000
  | .read l k => LcI l ∧ 0 ≤ k ∧ k < c
  | .write k e => (0 ≤ k ∧ k < c) ∧ e.Ok false 100000
  | .call l n e => LcI l ∧ (0 ≤ n ∧ n < r) ∧ e.Ok false 100000
  | .tell e => e.Ok false 100000
  | .whn e a b => e.Ok false 100000 ∧ Row.Oks c r a ∧ Row.Oks c r b
  | .look l n => LcI l ∧ NtI n
  | .note n e => NtI n ∧ e.Ok false 100000
  | .wove w k rs => (1 ≤ w ∧ w ≤ 999) ∧ (k.length ≤ 1 ∧ Row.Oks c r k ∧ ∀ x ∈ k, x.isPlace = true) ∧ Row.Oks c r rs
  | .go l e => False
def Row.Oks (c r : Nat) : List Row → Prop
  | [] => True
  | x :: xs => x.Ok c r ∧ Row.Oks c r xs
end
theorem Row.Oks_mem {c r : Nat} : ∀ {rs : List Row}, Row.Oks c r rs ↔ ∀ x ∈ rs, x.Ok c r
  | [] => by simp [Row.Oks]
  | x :: xs => by rw [Row.Oks, Row.Oks_mem (rs := xs)]; simp
/-! programs -/
abbrev Rtn := List Row × Ex
def rtD (r : Rtn) : D := .tup [rwsD r.1, r.2.d]
structure Prog where
  cells : List Int
  rs : List Rtn
def Prog.d (p : Prog) : D := .tup [.tup (p.cells.map .int), .tup (p.rs.map rtD)]
structure Prog.Ok (p : Prog) : Prop where
  cells : ∀ x ∈ p.cells, FI x
  ncell : p.cells.length ≤ 6
  nrt : 1 ≤ p.rs.length ∧ p.rs.length ≤ 8
  rows : ∀ r ∈ p.rs, Row.Oks p.cells.length p.rs.length r.1
  last : ∀ r ∈ p.rs, r.2.Ok false 100000
/-! patterns -/
inductive Pat where
  | calls (ns : List Int) | reads (ns : List Int) | writes (ns : List Int) | within (ns : List Int) | under (ns : List Int) | goes (a b : Int) | both (p q : Pat) | either (p q : Pat) | not (p : Pat)
  deriving DecidableEq
def tns (ns : List Int) : D := .tup (ns.map .int)
def Pat.d : Pat → D
  | .calls ns => .tup [.str "calls", tns ns]
  | .reads ns => .tup [.str "reads", tns ns]
  | .writes ns => .tup [.str "writes", tns ns]
  | .within ns => .tup [.str "within", tns ns]
  | .under ns => .tup [.str "under", tns ns]
  | .goes a b => .tup [.str "goes", .int a, .int b]
  | .both p q => .tup [.str "both", p.d, q.d]
  | .either p q => .tup [.str "either", p.d, q.d]
  | .not p => .tup [.str "not", p.d]
def Pat.parts : Pat → Nat
  | .both p q => 1 + p.parts + q.parts
  | .either p q => 1 + p.parts + q.parts
  | .not p => 1 + p.parts
  | _ => 1
theorem Pat.parts_pos : ∀ p : Pat, 1 ≤ p.parts
  | .both p q => by simp only [Pat.parts]; omega
  | .either p q => by simp only [Pat.parts]; omega
  | .not p => by simp only [Pat.parts]; omega
  | .calls _ => Nat.le_refl _
  | .reads _ => Nat.le_refl _
  | .writes _ => Nat.le_refl _
  | .within _ => Nat.le_refl _
  | .under _ => Nat.le_refl _
  | .goes _ _ => Nat.le_refl _
def Pat.dep : Pat → Nat
  | .both p q => max p.dep q.dep + 1
  | .either p q => max p.dep q.dep + 1
  | .not p => p.dep + 1
  | _ => 0
/-- rising numbers below m -/
def Nums (m : Nat) (ns : List Int) : Prop := ns.Pairwise (· < ·) ∧ ∀ x ∈ ns, 0 ≤ x ∧ x < m
theorem Nums.len {m : Nat} {ns : List Int} (h : Nums m ns) : ns.length ≤ m := by
  obtain ⟨h1, h2⟩ := h
  have key : ∀ (ns : List Int) (lo : Int), ns.Pairwise (· < ·) → (∀ x ∈ ns, lo ≤ x ∧ x < m) → (ns.length : Int) ≤ max 0 (m - lo) := by
    intro ns
    induction ns with
    | nil => intro lo _ _; simp only [List.length_nil]; omega
    | cons x xs ih =>
      intro lo hp hb
      obtain ⟨p1, p2⟩ := List.pairwise_cons.mp hp
      have hx := hb x List.mem_cons_self
      have := ih (x + 1) p2 fun y hy => ⟨by have := p1 y hy; omega, (hb y (List.mem_cons_of_mem _ hy)).2⟩
      rw [List.length_cons]
      push_cast
      omega
  have := key ns 0 h1 h2
  omega
def Pat.Ok (c r : Nat) : Pat → Prop
  | .calls ns => Nums r ns
  | .reads ns => Nums c ns
  | .writes ns => Nums c ns
  | .within ns => Nums r ns
  | .under ns => Nums r ns
  | .goes a b => FI a ∧ FI b ∧ a ≤ b
  | .both p q => p.Ok c r ∧ q.Ok c r
  | .either p q => p.Ok c r ∧ q.Ok c r
  | .not p => p.Ok c r
theorem dDs_ints : ∀ ns : List Int, dDs (ns.map .int) = 0
  | [] => rfl
  | n :: ns => by rw [List.map_cons, dDs, dDs_ints ns]; rfl
theorem Pat.dD_le : ∀ p : Pat, dD p.d ≤ p.dep + 2
  | .calls ns => by simp [Pat.d, tns, dD, dDs, dDs_ints, Pat.dep]
  | .reads ns => by simp [Pat.d, tns, dD, dDs, dDs_ints, Pat.dep]
  | .writes ns => by simp [Pat.d, tns, dD, dDs, dDs_ints, Pat.dep]
  | .within ns => by simp [Pat.d, tns, dD, dDs, dDs_ints, Pat.dep]
  | .under ns => by simp [Pat.d, tns, dD, dDs, dDs_ints, Pat.dep]
  | .goes a b => by simp [Pat.d, dD, dDs, Pat.dep]
  | .both p q => by
    have := p.dD_le
    have := q.dD_le
    simp only [Pat.d, Pat.dep, dD, dDs]; omega
  | .either p q => by
    have := p.dD_le
    have := q.dD_le
    simp only [Pat.d, Pat.dep, dD, dDs]; omega
  | .not p => by
    have := p.dD_le
    simp only [Pat.d, Pat.dep, dD, dDs]; omega
theorem wDs_ints : ∀ ns : List Int, (∀ x ∈ ns, x.natAbs < 10 ^ 60) → wDs (ns.map .int) = 64 * ns.length
  | [], _ => rfl
  | n :: ns, h => by
    rw [List.map_cons, wDs, wDs_ints ns (fun x hx => h x (List.mem_cons_of_mem _ hx)), wD_int (h n List.mem_cons_self), List.length_cons]
    omega
theorem wD_tns {m : Nat} (hm : m ≤ 1000000) {ns : List Int} (h : Nums m ns) : wD (tns ns) ≤ 64 * m + 4 := by
  have := h.len
  rw [tns, wD, wDs_ints ns fun x hx => by have := h.2 x hx; omega]
  omega
def wP : Nat → Nat
  | 0 => 700
  | n + 1 => 100 + 2 * wP n
theorem wP_pos : ∀ n, 700 ≤ wP n
  | 0 => by decide
  | n + 1 => by have := wP_pos n; rw [wP]; omega
theorem wP_mono : ∀ {n m}, n ≤ m → wP n ≤ wP m
  | 0, m, _ => wP_pos m
  | n + 1, 0, h => absurd h (by omega)
  | n + 1, m + 1, h => by have := wP_mono (n := n) (m := m) (by omega); rw [wP, wP]; omega
theorem Pat.wD_le {c r : Nat} (hc : c ≤ 8) (hr : r ≤ 8) : ∀ {p : Pat}, p.Ok c r → ∀ {n}, p.dep ≤ n → wD p.d ≤ wP n := by
  intro p
  have one : ∀ (w : Str) (ns : List Int) (m n : Nat), wD (.str w) ≤ 82 → m ≤ 8 → Nums m ns → wD (.tup [.str w, tns ns]) ≤ wP n := by
    intro w ns m n hw hm h
    have := wD_tns (by omega) h
    have := wP_pos n
    rw [wD, wDs, wDs, wDs]
    omega
  induction p with
  | calls ns => intro h n _; exact one _ ns r n (by decide +kernel) hr h
  | reads ns => intro h n _; exact one _ ns c n (by decide +kernel) hc h
  | writes ns => intro h n _; exact one _ ns c n (by decide +kernel) hc h
  | within ns => intro h n _; exact one _ ns r n (by decide +kernel) hr h
  | under ns => intro h n _; exact one _ ns r n (by decide +kernel) hr h
  | goes a b =>
    intro h n _
    obtain ⟨⟨a0, a1⟩, ⟨b0, b1⟩, _⟩ := h
    have w1 : wD (.str "goes") ≤ 82 := by decide +kernel
    have w2 : wD (.int a) = 62 := wD_int (by omega)
    have w3 : wD (.int b) = 62 := wD_int (by omega)
    have := wP_pos n
    rw [Pat.d, wD, wDs, wDs, wDs, wDs, w2, w3]
    omega
  | both p q ip iq =>
    intro h n hn
    simp only [Pat.dep] at hn
    obtain ⟨m, rfl⟩ : ∃ m, n = m + 1 := ⟨n - 1, by omega⟩
    have w1 : wD (.str "both") ≤ 82 := by decide +kernel
    have := ip h.1 (n := m) (by omega)
    have := iq h.2 (n := m) (by omega)
    rw [Pat.d, wD, wDs, wDs, wDs, wDs, wP]
    omega
  | either p q ip iq =>
    intro h n hn
    simp only [Pat.dep] at hn
    obtain ⟨m, rfl⟩ : ∃ m, n = m + 1 := ⟨n - 1, by omega⟩
    have w1 : wD (.str "either") ≤ 82 := by decide +kernel
    have := ip h.1 (n := m) (by omega)
    have := iq h.2 (n := m) (by omega)
    rw [Pat.d, wD, wDs, wDs, wDs, wDs, wP]
    omega
  | not p ip =>
    intro h n hn
    simp only [Pat.dep] at hn
    obtain ⟨m, rfl⟩ : ∃ m, n = m + 1 := ⟨n - 1, by omega⟩
    have w1 : wD (.str "not") ≤ 82 := by decide +kernel
    have := ip h (n := m) (by omega)
    have := wP_pos m
    rw [Pat.d, wD, wDs, wDs, wDs, wP]
    omega
/-! ### readings -/
/-- what a call, a read or a write names -/
def Row.named : Row → Int
  | .read _ c => c
  | .write c _ => c
  | .call _ r _ => r
  | _ => 0
inductive Rdg where
  | b (x : Bool) | p (x : Pat)
  deriving DecidableEq
def Rdg.d : Rdg → D
  | .b x => .bl x
  | .p x => x.d
def jBoth (a b : Rdg) : Rdg := match a, b with
  | .b false, _ => .b false
  | _, .b false => .b false
  | .b true, b => b
  | a, .b true => a
  | .p x, .p y => .p (.both x y)
def jEither (a b : Rdg) : Rdg := match a, b with
  | .b true, _ => .b true
  | _, .b true => .b true
  | .b false, b => b
  | a, .b false => a
  | .p x, .p y => .p (.either x y)
def jNot : Rdg → Rdg
  | .b x => .b (!x)
  | .p x => .p (.not x)
/-- the reading of a pattern at a place's row of routine r -/
def Row.rdg (row : Row) (r : Int) : Pat → Rdg
  | .within ns => .b (decide (r ∈ ns))
  | .under ns => if r ∈ ns then .b true else if ns = [] then .b false else .p (.under ns)
  | .calls ns => .b (row.word == "call" && decide (row.named ∈ ns))
  | .reads ns => .b (row.word == "read" && decide (row.named ∈ ns))
  | .writes ns => .b (row.word == "write" && decide (row.named ∈ ns))
  | .goes a b => if row.word = "read" then .b false else if a = 0 ∧ b = 999999 then .b true else .p (.goes a b)
  | .both p q => jBoth (row.rdg r p) (row.rdg r q)
  | .either p q => jEither (row.rdg r p) (row.rdg r q)
  | .not p => jNot (row.rdg r p)
/-- what is left is read as itself, is right, has no more parts -/
theorem Row.rdg_left {row : Row} {r : Int} {c n : Nat} : ∀ {p q : Pat}, p.Ok c n → row.rdg r p = .p q → row.rdg r q = .p q ∧ q.Ok c n ∧ q.parts ≤ p.parts ∧ q.dep ≤ p.dep := by
  intro p
  induction p with
  | within ns => intro q _ h; cases h
  | calls ns => intro q _ h; cases h
  | reads ns => intro q _ h; cases h
  | writes ns => intro q _ h; cases h
  | under ns =>
    intro q ok h
    have h' := h
    simp only [Row.rdg] at h
    split at h
    · cases h
    · split at h
      · cases h
      · cases h; exact ⟨h', ok, Nat.le_refl _, Nat.le_refl _⟩
  | goes a b =>
    intro q ok h
    have h' := h
    simp only [Row.rdg] at h
    split at h
    · cases h
    · split at h
      · cases h
      · cases h; exact ⟨h', ok, Nat.le_refl _, Nat.le_refl _⟩
  | both p1 p2 i1 i2 =>
    intro q ok h
    simp only [Row.rdg] at h
    cases e1 : row.rdg r p1 with
    | b x =>
      rw [e1] at h
      cases e2 : row.rdg r p2 with
      | b y => rw [e2] at h; cases x <;> cases y <;> cases h
      | p y =>
        rw [e2] at h
        cases x with
        | false => cases h
        | true =>
          cases h
          obtain ⟨a, b, d, e⟩ := i2 ok.2 e2
          exact ⟨a, b, by simp only [Pat.parts]; omega, by simp only [Pat.dep]; omega⟩
    | p x =>
      rw [e1] at h
      obtain ⟨a1, b1, d1, f1⟩ := i1 ok.1 e1
      cases e2 : row.rdg r p2 with
      | b y =>
        rw [e2] at h
        cases y with
        | false => cases h
        | true => cases h; exact ⟨a1, b1, by simp only [Pat.parts]; omega, by simp only [Pat.dep]; omega⟩
      | p y =>
        rw [e2] at h
        cases h
        obtain ⟨a2, b2, d2, f2⟩ := i2 ok.2 e2
        refine ⟨by simp only [Row.rdg, a1, a2]; rfl, ⟨b1, b2⟩, by simp only [Pat.parts]; omega, by simp only [Pat.dep]; omega⟩
  | either p1 p2 i1 i2 =>
    intro q ok h
    simp only [Row.rdg] at h
    cases e1 : row.rdg r p1 with
    | b x =>
      rw [e1] at h
      cases e2 : row.rdg r p2 with
      | b y => rw [e2] at h; cases x <;> cases y <;> cases h
      | p y =>
        rw [e2] at h
        cases x with
        | true => cases h
        | false =>
          cases h
          obtain ⟨a, b, d, e⟩ := i2 ok.2 e2
          exact ⟨a, b, by simp only [Pat.parts]; omega, by simp only [Pat.dep]; omega⟩
    | p x =>
      rw [e1] at h
      obtain ⟨a1, b1, d1, f1⟩ := i1 ok.1 e1
      cases e2 : row.rdg r p2 with
      | b y =>
        rw [e2] at h
        cases y with
        | true => cases h
        | false => cases h; exact ⟨a1, b1, by simp only [Pat.parts]; omega, by simp only [Pat.dep]; omega⟩
      | p y =>
        rw [e2] at h
        cases h
        obtain ⟨a2, b2, d2, f2⟩ := i2 ok.2 e2
        refine ⟨by simp only [Row.rdg, a1, a2]; rfl, ⟨b1, b2⟩, by simp only [Pat.parts]; omega, by simp only [Pat.dep]; omega⟩
  | not p1 i1 =>
    intro q ok h
    simp only [Row.rdg] at h
    cases e1 : row.rdg r p1 with
    | b x => rw [e1] at h; cases h
    | p x =>
      rw [e1] at h
      cases h
      obtain ⟨a1, b1, d1, f1⟩ := i1 ok e1
      exact ⟨by simp only [Row.rdg, a1]; rfl, b1, by simp only [Pat.parts]; omega, by simp only [Pat.dep]; omega⟩
section
variable {S : Sto} {q : Q1} {z : Pat}
theorem isi_pat1 (k : q (.bl false) S) : IsiW S z.d 1 q := by cases z <;> exact isi_tup1 k
theorem isi_pat3 (k : q (.bl true) S) : IsiW S z.d 3 q := by cases z <;> exact isi_tup3 k
theorem isX_pat (b : Bool) : isD z.d (.bl b) = some false := by cases z <;> rfl
theorem isN_pat : z.d ≠ .non := by cases z <;> simp [Pat.d]
end
end Mi
set_option maxHeartbeats 1000000
/-! XW: a well: what its draws leave. -/
namespace Mi
open PySem
def kw (c l t : Int) : List (L2.Key × D) := [(.inr "cell", .int c), (.inr "left", .int l), (.inr "turn", .int t)]
theorem kw_c {c l t} : lkD (kw c l t) (.inr "cell") = some (.int c) := by kernel_rfl
theorem kw_l {c l t} : lkD (kw c l t) (.inr "left") = some (.int l) := by kernel_rfl
theorem kw_t {c l t} : lkD (kw c l t) (.inr "turn") = some (.int t) := by kernel_rfl
theorem kwp_l {c l t x} : putD (kw c l t) (.inr "left") (.int x) = kw c x t := by kernel_rfl
theorem kwp_t {c l t x} : putD (kw c l t) (.inr "turn") (.int x) = kw c l x := by kernel_rfl
theorem kw_n {c l t} : (kw c l t).length < 1000000 := by show 3 < 1000000; decide
section
variable {S : Sto} {f : Nat} {c l t x : Int} {q : Sto → Prop}
theorem ws_l (h : S f = some (.dic (kw c l t))) (k : q (put S f (.dic (kw c x t)))) : SetW S (.loc f) (.str "left") (.int x) q := set_dic h kw_n (by rw [kwp_l]; exact k)
theorem ws_t (h : S f = some (.dic (kw c l t))) (k : q (put S f (.dic (kw c l x)))) : SetW S (.loc f) (.str "turn") (.int x) q := set_dic h kw_n (by rw [kwp_t]; exact k)
end
/-- f holds a well, its turn at most t -/
def Wl (S : Sto) (f : Nat) (t : Int) : Prop := ∃ c l u, S f = some (.dic (kw c l u)) ∧ 0 ≤ u ∧ u ≤ t
theorem Wl.mono {S : Sto} {f : Nat} {t t' : Int} (h : Wl S f t) (e : t ≤ t') : Wl S f t' := let ⟨c, l, u, h1, h2, h3⟩ := h; ⟨c, l, u, h1, h2, Int.le_trans h3 e⟩
theorem Wl.same {S S' : Sto} {f : Nat} {t : Int} (h : Wl S f t) (e : S' f = S f) : Wl S' f t := let ⟨c, l, u, h1, h2⟩ := h; ⟨c, l, u, e.trans h1, h2⟩
theorem Wl.ne {S : Sto} {f n : Nat} {t : Int} (h : Wl S f t) (hn : S n = none) : f ≠ n := fun z => by subst z; obtain ⟨_, _, _, z, _⟩ := h; rw [hn] at z; cases z
theorem Wl.put {S : Sto} {f n : Nat} {t : Int} (h : Wl S f t) (hn : S n = none) {o : Ob} : Wl (put S n o) f t := h.same (put_ne (h.ne hn))
/-- how many draws an expression wants at most -/
def cX : Nat → Int
  | 0 => 2
  | n + 1 => 2 + 2 * cX n
theorem cX_pos : ∀ n, 2 ≤ cX n
  | 0 => by decide
  | n + 1 => by have := cX_pos n; rw [cX]; omega
def cR : Nat → Int
  | 0 => 20
  | n + 1 => 60 + 2 * cR n
theorem cR_pos : ∀ n, 20 ≤ cR n
  | 0 => by decide
  | n + 1 => by have := cR_pos n; rw [cR]; omega
def cP : Nat → Int
  | 0 => 12
  | n + 1 => 12 + 2 * cP n
theorem cP_pos : ∀ n, 12 ≤ cP n
  | 0 => by decide
  | n + 1 => by have := cP_pos n; rw [cP]; omega
def wR : Nat → Nat
  | 0 => 900
  | n + 1 => 2000 + 2 * wR n
theorem wR_pos : ∀ n, 900 ≤ wR n
  | 0 => by decide
  | n + 1 => by have := wR_pos n; rw [wR]; omega
theorem wR_mono : ∀ {n m}, n ≤ m → wR n ≤ wR m
  | 0, m, _ => wR_pos m
  | n + 1, 0, h => absurd h (by omega)
  | n + 1, m + 1, h => by have := wR_mono (n := n) (m := m) (by omega); rw [wR, wR]; omega
/-- a drawn row -/
structure Rw (c r n : Nat) (x : Row) : Prop where
  ok : x.Ok c r
  w : wD x.d ≤ wR n
  d : dD x.d ≤ 4 + 2 * n
theorem Rw.mono {c r n m : Nat} {x : Row} (h : Rw c r n x) (hm : n ≤ m) : Rw c r m x := ⟨h.ok, Nat.le_trans h.w (wR_mono hm), by have := h.d; omega⟩
theorem rws_oks {c r n : Nat} {xs : List Row} (h : ∀ x ∈ xs, Rw c r n x) : Row.Oks c r xs := Row.Oks_mem.mpr fun x hx => (h x hx).ok
theorem rws_w {c r n : Nat} : ∀ {xs : List Row}, (∀ x ∈ xs, Rw c r n x) → wDs (xs.map Row.d) ≤ xs.length * (wR n + 2) ∧ dDs (xs.map Row.d) ≤ 4 + 2 * n
  | [], _ => ⟨by simp [wDs], by simp [dDs]⟩
  | x :: xs, h => by
    obtain ⟨a, b⟩ := rws_w (xs := xs) fun y hy => h y (List.mem_cons_of_mem _ hy)
    have hx := h x List.mem_cons_self
    have := hx.w
    have := hx.d
    rw [List.map_cons, wDs, dDs, List.length_cons, Nat.add_mul]
    omega
theorem rwsD_w {c r n m : Nat} {xs : List Row} (h : ∀ x ∈ xs, Rw c r n x) (hl : xs.length ≤ m) : wD (rwsD xs) ≤ m * (wR n + 2) + 4 ∧ dD (rwsD xs) ≤ 5 + 2 * n := by
  obtain ⟨a, b⟩ := rws_w h
  have := Nat.mul_le_mul_right (wR n + 2) hl
  rw [rwsD, wD, dD]
  omega
section
variable {c r n : Nat} {e : Ex} {l k : Int}
theorem ex_w {e : Ex} {m : Nat} (h : e.Ok false 100000) (hd : e.dep ≤ m) : wD e.d ≤ wE m ∧ dD e.d ≤ m + 1 := ⟨Ex.wD_le (by decide) h hd, Nat.le_trans (Ex.dD_le e) (by omega)⟩
theorem w_int62 {i : Int} (h : 0 ≤ i ∧ i ≤ 1000000) : wD (.int i) = 62 := wD_int (by omega)
theorem rw_put (hl : LcI l) (he : e.Ok false 100000) (hd : e.dep ≤ 2) : Rw c r n (.put l e) := by
  obtain ⟨a, b⟩ := ex_w he hd
  have w1 : wD (.str "put") ≤ 52 := by decide +kernel
  have w2 := w_int62 (i := l) ⟨hl.1, by have := hl.2; omega⟩
  have := wR_pos n
  have w3 : wE 2 = 594 := rfl
  refine ⟨by rw [Row.Ok]; exact ⟨hl, he⟩, by rw [Row.d_put, wD, wDs, wDs, wDs, wDs]; omega, by rw [Row.d_put, dD, dDs, dDs, dDs, dDs]; simp only [dD]; omega⟩
theorem rw_read (hl : LcI l) (hk : 0 ≤ k ∧ k < c) (hc : c ≤ 8) : Rw c r n (.read l k) := by
  have w1 : wD (.str "read") ≤ 52 := by decide +kernel
  have w2 := w_int62 (i := l) ⟨hl.1, by have := hl.2; omega⟩
  have w3 := w_int62 (i := k) ⟨hk.1, by omega⟩
  have := wR_pos n
  refine ⟨by rw [Row.Ok]; exact ⟨hl, hk⟩, by rw [Row.d_read, wD, wDs, wDs, wDs, wDs]; omega, by rw [Row.d_read, dD, dDs, dDs, dDs, dDs]; simp only [dD]; omega⟩
theorem rw_write (hk : 0 ≤ k ∧ k < c) (hc : c ≤ 8) (he : e.Ok false 100000) (hd : e.dep ≤ 2) : Rw c r n (.write k e) := by
  obtain ⟨a, b⟩ := ex_w he hd
  have w1 : wD (.str "write") ≤ 52 := by decide +kernel
  have w2 := w_int62 (i := k) ⟨hk.1, by omega⟩
  have := wR_pos n
  have w3 : wE 2 = 594 := rfl
  refine ⟨by rw [Row.Ok]; exact ⟨hk, he⟩, by rw [Row.d_write, wD, wDs, wDs, wDs, wDs]; omega, by rw [Row.d_write, dD, dDs, dDs, dDs, dDs]; simp only [dD]; omega⟩
theorem rw_call (hl : LcI l) (hk : 0 ≤ k ∧ k < r) (hr : r ≤ 8) (he : e.Ok false 100000) (hd : e.dep ≤ 2) : Rw c r n (.call l k e) := by
  obtain ⟨a, b⟩ := ex_w he hd
  have w1 : wD (.str "call") ≤ 52 := by decide +kernel
  have w2 := w_int62 (i := l) ⟨hl.1, by have := hl.2; omega⟩
  have w4 := w_int62 (i := k) ⟨hk.1, by omega⟩
  have := wR_pos n
  have w3 : wE 2 = 594 := rfl
  refine ⟨by rw [Row.Ok]; exact ⟨hl, hk, he⟩, by rw [Row.d_call, wD, wDs, wDs, wDs, wDs, wDs]; omega, by rw [Row.d_call, dD, dDs, dDs, dDs, dDs, dDs]; simp only [dD]; omega⟩
theorem rw_tell (he : e.Ok false 100000) (hd : e.dep ≤ 2) : Rw c r n (.tell e) := by
  obtain ⟨a, b⟩ := ex_w he hd
  have w1 : wD (.str "tell") ≤ 52 := by decide +kernel
  have := wR_pos n
  have w3 : wE 2 = 594 := rfl
  refine ⟨by rw [Row.Ok]; exact he, by rw [Row.d_tell, wD, wDs, wDs, wDs]; omega, by rw [Row.d_tell, dD, dDs, dDs, dDs]; simp only [dD]; omega⟩
theorem rw_look (hl : LcI l) (hk : NtI k) : Rw c r n (.look l k) := by
  have w1 : wD (.str "look") ≤ 52 := by decide +kernel
  have w2 := w_int62 (i := l) ⟨hl.1, by have := hl.2; omega⟩
  have w4 := w_int62 (i := k) ⟨hk.1, by have := hk.2; omega⟩
  have := wR_pos n
  refine ⟨by rw [Row.Ok]; exact ⟨hl, hk⟩, by rw [Row.d_look, wD, wDs, wDs, wDs, wDs]; omega, by rw [Row.d_look, dD, dDs, dDs, dDs, dDs]; simp only [dD]; omega⟩
theorem rw_note (hk : NtI k) (he : e.Ok false 100000) (hd : e.dep ≤ 2) : Rw c r n (.note k e) := by
  obtain ⟨a, b⟩ := ex_w he hd
  have w1 : wD (.str "note") ≤ 52 := by decide +kernel
  have w2 := w_int62 (i := k) ⟨hk.1, by have := hk.2; omega⟩
  have := wR_pos n
  have w3 : wE 2 = 594 := rfl
  refine ⟨by rw [Row.Ok]; exact ⟨hk, he⟩, by rw [Row.d_note, wD, wDs, wDs, wDs, wDs]; omega, by rw [Row.d_note, dD, dDs, dDs, dDs, dDs]; simp only [dD]; omega⟩
theorem rw_whn {a b : List Row} (he : e.Ok false 100000) (hd : e.dep ≤ 2) (ha : ∀ x ∈ a, Rw c r n x) (hb : ∀ x ∈ b, Rw c r n x) (hl : a.length + b.length ≤ 2) : Rw c r (n + 1) (.whn e a b) := by
  obtain ⟨e1, e2⟩ := ex_w he hd
  obtain ⟨a1, a2⟩ := rws_w ha
  obtain ⟨b1, b2⟩ := rws_w hb
  have w1 : wD (.str "when") ≤ 52 := by decide +kernel
  have w3 : wE 2 = 594 := rfl
  have ab : a.length * (wR n + 2) + b.length * (wR n + 2) ≤ 2 * (wR n + 2) := by rw [← Nat.add_mul]; exact Nat.mul_le_mul_right _ hl
  refine ⟨by rw [Row.Ok]; exact ⟨he, rws_oks ha, rws_oks hb⟩, by rw [Row.d_whn, wD, wDs, wDs, wDs, wDs, wDs, wR, wD_rws, wD_rws]; omega, by rw [Row.d_whn, dD, dDs, dDs, dDs, dDs, dDs, dD_rws, dD_rws]; simp only [dD]; omega⟩
theorem rw_wove {w : Int} {k rs : List Row} (hw : 1 ≤ w ∧ w ≤ 999) (hk : k.length ≤ 1 ∧ (∀ x ∈ k, Rw c r 0 x) ∧ ∀ x ∈ k, x.isPlace = true) {x y : Row} {zs : List Row} (hx : Rw c r 0 x) (hy : Rw c r 0 y) (hz : ∀ x ∈ zs, Rw c r n x) (hl : zs.length ≤ 2) (hrs : rs = x :: zs ++ [y]) (hk2 : wD (kpD k) ≤ 300) (hx2 : wD x.d ≤ 300) (hy2 : wD y.d ≤ 500) : Rw c r (n + 1) (.wove w k rs) := by
  subst hrs
  obtain ⟨a1, a2⟩ := rws_w hz
  have w1 : wD (.str "wove") ≤ 52 := by decide +kernel
  have w2 := w_int62 (i := w) ⟨by omega, by omega⟩
  have h2 := Nat.mul_le_mul_right (wR n + 2) hl
  have kd : dD (kpD k) ≤ 4 := by
    cases k with
    | nil => simp [kpD, dD]
    | cons r k => exact (hk.2.1 r List.mem_cons_self).d
  have xd := hx.d
  have yd := hy.d
  have all : ∀ u ∈ x :: zs ++ [y], u.Ok c r := by
    intro u hu
    simp only [List.cons_append, List.mem_cons, List.mem_append, List.not_mem_nil, or_false] at hu
    rcases hu with rfl | hu | rfl
    · exact hx.ok
    · exact (hz u hu).ok
    · exact hy.ok
  have ww : wDs ((x :: zs ++ [y]).map Row.d) = wD x.d + 2 + (wDs (zs.map Row.d) + (wD y.d + 2)) := by
    rw [List.map_append, wDs_append, List.map_cons, wDs]
    simp only [List.map_cons, List.map_nil, wDs]
    omega
  have dd : ∀ (us vs : List D), dDs (us ++ vs) = max (dDs us) (dDs vs) := by
    intro us vs
    induction us with
    | nil => simp [dDs]
    | cons u us ih => rw [List.cons_append, dDs, dDs, ih]; omega
  refine ⟨by rw [Row.Ok]; exact ⟨hw, ⟨hk.1, rws_oks hk.2.1, hk.2.2⟩, Row.Oks_mem.mpr all⟩, ?_, ?_⟩
  · rw [Row.d_wove, wD, wDs, wDs, wDs, wDs, wDs, wR, wD_rws, ww]
    omega
  · rw [Row.d_wove, dD, dDs, dDs, dDs, dDs, dDs, dD_rws]
    rw [List.map_append, dd, List.map_cons, dDs]
    simp only [List.map_cons, List.map_nil, dDs, dD]
    omega
end
/-- a drawn program -/
structure Pg (p : Prog) : Prop where
  cells : ∀ x ∈ p.cells, FI x
  nc : p.cells.length ≤ 3
  n : 1 ≤ p.rs.length ∧ p.rs.length ≤ 4
  rws : ∀ r ∈ p.rs, (∀ x ∈ r.1, Rw p.cells.length p.rs.length 2 x) ∧ r.1.length ≤ 4 ∧ r.2.Ok false 4 ∧ r.2.dep ≤ 1
theorem Pg.ok {p : Prog} (h : Pg p) : p.Ok := ⟨h.cells, by have := h.nc; omega, ⟨h.n.1, by have := h.n.2; omega⟩, fun r hr => rws_oks (h.rws r hr).1, fun r hr => (h.rws r hr).2.2.1.mono (by decide)⟩
theorem rt_w {c n : Nat} {r : Rtn} (h : (∀ x ∈ r.1, Rw c n 2 x) ∧ r.1.length ≤ 4 ∧ r.2.Ok false 4 ∧ r.2.dep ≤ 1) : wD (rtD r) ≤ 38700 ∧ dD (rtD r) ≤ 10 := by
  obtain ⟨a, b⟩ := rwsD_w h.1 h.2.1
  obtain ⟨d, e⟩ := ex_w (h.2.2.1.mono (by decide)) h.2.2.2
  have w1 : wE 1 = 266 := rfl
  have w2 : wR 2 = 9600 := rfl
  rw [rtD, wD, wDs, wDs, wDs, dD, dDs, dDs, dDs]
  omega
theorem rts_w {c n : Nat} : ∀ {rs : List Rtn}, (∀ r ∈ rs, (∀ x ∈ r.1, Rw c n 2 x) ∧ r.1.length ≤ 4 ∧ r.2.Ok false 4 ∧ r.2.dep ≤ 1) → wDs (rs.map rtD) ≤ rs.length * 38702 ∧ dDs (rs.map rtD) ≤ 10
  | [], _ => ⟨by simp [wDs], by simp [dDs]⟩
  | r :: rs, h => by
    obtain ⟨a, b⟩ := rts_w (rs := rs) fun y hy => h y (List.mem_cons_of_mem _ hy)
    obtain ⟨d, e⟩ := rt_w (h r List.mem_cons_self)
    rw [List.map_cons, wDs, dDs, List.length_cons, Nat.add_mul]
    omega
theorem Pg.w {p : Prog} (h : Pg p) : wD p.d ≤ 200000 ∧ dD p.d ≤ 12 := by
  obtain ⟨a, b⟩ := rts_w h.rws
  have h1 := h.nc
  have h2 := h.n.2
  have h3 := wDs_ints p.cells fun x hx => by have := h.cells x hx; unfold FI at this; omega
  have h4 := dDs_ints p.cells
  have h5 : p.rs.length * 38702 ≤ 4 * 38702 := Nat.mul_le_mul_right _ h2
  rw [Prog.d, wD, wDs, wDs, wDs, wD, wD, dD, dDs, dDs, dDs, dD, dD]
  omega
theorem sub_del {S : Sto} {n : Nat} : Sub (del S n) S := fun m o h => by
  by_cases e : m = n
  · subst e; rw [del_same] at h; cases h
  · rwa [del_ne e] at h
/-- but for f and n -/
def Same2 (S S' : Sto) (f n : Nat) : Prop := ∀ m, m ≠ f → m ≠ n → S' m = S m
theorem Same2.del {S S' : Sto} {f n : Nat} (h : Same2 S S' f n) (hn : S n = none) : Same S (del S' n) f := fun m hm => by
  by_cases e : m = n
  · subst e; rw [del_same, hn]
  · rw [del_ne e]; exact h m hm e
theorem Pg.rows {p : Prog} (h : Pg p) {r : Rtn} (hr : r ∈ p.rs) : wDs (r.1.map Row.d) ≤ 40000 ∧ dD (rwsD r.1) ≤ 9 := by
  obtain ⟨h1, h2, _⟩ := h.rws r hr
  obtain ⟨a, b⟩ := rws_w h1
  have w2 : wR 2 = 9600 := rfl
  have := Nat.mul_le_mul_right (wR 2 + 2) h2
  rw [dD_rws]
  omega
end Mi
set_option maxHeartbeats 1000000
/-! XJ: any plain things; patterns among them. -/
namespace Mi
open PySem
mutual
/-- plain, no tuple or list longer than 60 -/
def jk : D → Bool
  | .non => true
  | .bl _ => true
  | .int _ => true
  | .str x => decide (x.length ≤ 1000)
  | .tup xs => decide (xs.length ≤ 60) && jks xs
  | .lst xs => decide (xs.length ≤ 60) && jks xs
  | _ => false
def jks : List D → Bool
  | [] => true
  | x :: xs => jk x && jks xs
end
theorem jks_all : ∀ xs : List D, jks xs = true ↔ ∀ x ∈ xs, jk x = true
  | [] => by simp [jks]
  | x :: xs => by rw [jks, Bool.and_eq_true, jks_all xs]; simp
theorem jk_tup {xs : List D} (h : jk (.tup xs) = true) : xs.length ≤ 60 ∧ ∀ x ∈ xs, jk x = true := by
  rw [jk, Bool.and_eq_true, decide_eq_true_eq, jks_all] at h
  exact h
theorem jk_lst {xs : List D} (h : jk (.lst xs) = true) : xs.length ≤ 60 ∧ ∀ x ∈ xs, jk x = true := by
  rw [jk, Bool.and_eq_true, decide_eq_true_eq, jks_all] at h
  exact h
theorem jk_of_tup {xs : List D} (h1 : xs.length ≤ 60) (h2 : ∀ x ∈ xs, jk x = true) : jk (.tup xs) = true := by
  rw [jk, Bool.and_eq_true, decide_eq_true_eq, jks_all]
  exact ⟨h1, h2⟩
theorem jk_ints {ns : List Int} (h : ns.length ≤ 60) : jk (tns ns) = true := jk_of_tup (by rw [List.length_map]; exact h) fun x hx => by
  obtain ⟨i, _, rfl⟩ := List.mem_map.mp hx
  rfl
def btwD (lo hi : Int) : D → Bool
  | .int i => decide (lo ≤ i) && decide (i ≤ hi)
  | _ => false
def figD : D → Bool := btwD 0 999999
def leD : D → D → Bool
  | .int i, .int j => decide (i ≤ j)
  | _, _ => false
def rising : List Int → Bool
  | x :: y :: zs => decide (x < y) && rising (y :: zs)
  | _ => true
theorem rising_iff : ∀ ns : List Int, rising ns = true ↔ ns.Pairwise (· < ·)
  | [] => by simp [rising]
  | [x] => by simp [rising]
  | x :: y :: zs => by
    rw [rising, Bool.and_eq_true, decide_eq_true_eq, rising_iff (y :: zs), List.pairwise_cons (a := x)]
    constructor
    · rintro ⟨h1, h2⟩
      refine ⟨fun z hz => ?_, h2⟩
      rcases List.mem_cons.mp hz with rfl | hz
      · exact h1
      · exact Int.lt_trans h1 ((List.pairwise_cons.mp h2).1 z hz)
    · rintro ⟨h1, h2⟩
      exact ⟨h1 y List.mem_cons_self, h2⟩
/-- a rising tuple of numbers below m -/
def numsD (m : Nat) : D → Bool
  | .tup xs => match intsD xs with
    | some ns => rising ns && ns.all fun x => decide (0 ≤ x) && decide (x < m)
    | none => false
  | _ => false
theorem numsD_tns {m : Nat} {ns : List Int} (h : Nums m ns) : numsD m (tns ns) = true := by
  rw [tns, numsD, intsD_map]
  simp only [Bool.and_eq_true, List.all_eq_true, decide_eq_true_eq]
  exact ⟨(rising_iff ns).mpr h.1, h.2⟩
def singleB (c r : Nat) (w : Str) (xs : List D) : Bool := match xs with
  | [x] => if w = "calls" ∨ w = "within" ∨ w = "under" then numsD r x else if w = "reads" ∨ w = "writes" then numsD c x else false
  | [x, y] => if w = "goes" then figD x && (figD y && leD x y) else false
  | _ => false
def partsF (c r : Nat) : Nat → D → Nat
  | 0, _ => 0
  | n + 1, .tup (.str w :: xs) => match xs with
    | [x, y] => if w = "both" ∨ w = "either" then (if partsF c r n x = 0 ∨ partsF c r n y = 0 then 0 else 1 + partsF c r n x + partsF c r n y) else (if singleB c r w [x, y] = true then 1 else 0)
    | [x] => if w = "not" then (if partsF c r n x = 0 then 0 else 1 + partsF c r n x) else (if singleB c r w [x] = true then 1 else 0)
    | xs => 0
  | _, _ => 0
theorem partsF_one {c r n : Nat} {w : Str} {x : D} (h1 : w ≠ "not") (h : singleB c r w [x] = true) : partsF c r (n + 1) (.tup [.str w, x]) = 1 := by
  show (if w = "not" then _ else (if singleB c r w [x] = true then 1 else 0)) = 1
  rw [if_neg h1, if_pos h]
theorem single_r {c r : Nat} {w : Str} {ns : List Int} (hw : w = "calls" ∨ w = "within" ∨ w = "under") (h : Nums r ns) : singleB c r w [tns ns] = true := by
  show (if w = "calls" ∨ w = "within" ∨ w = "under" then numsD r (tns ns) else _) = true
  rw [if_pos hw]; exact numsD_tns h
theorem single_c {c r : Nat} {w : Str} {ns : List Int} (hn : ¬ (w = "calls" ∨ w = "within" ∨ w = "under")) (hw : w = "reads" ∨ w = "writes") (h : Nums c ns) : singleB c r w [tns ns] = true := by
  show (if w = "calls" ∨ w = "within" ∨ w = "under" then numsD r (tns ns) else if w = "reads" ∨ w = "writes" then numsD c (tns ns) else false) = true
  rw [if_neg hn, if_pos hw]; exact numsD_tns h
theorem partsF_pat {c r : Nat} : ∀ {p : Pat}, p.Ok c r → ∀ {n}, p.dep < n → partsF c r n p.d = p.parts := by
  intro p
  induction p with
  | calls ns => intro h n hn; obtain ⟨m, rfl⟩ : ∃ m, n = m + 1 := ⟨n - 1, by omega⟩; exact partsF_one (by decide) (single_r (by decide) h)
  | within ns => intro h n hn; obtain ⟨m, rfl⟩ : ∃ m, n = m + 1 := ⟨n - 1, by omega⟩; exact partsF_one (by decide) (single_r (by decide) h)
  | under ns => intro h n hn; obtain ⟨m, rfl⟩ : ∃ m, n = m + 1 := ⟨n - 1, by omega⟩; exact partsF_one (by decide) (single_r (by decide) h)
  | reads ns => intro h n hn; obtain ⟨m, rfl⟩ : ∃ m, n = m + 1 := ⟨n - 1, by omega⟩; exact partsF_one (by decide) (single_c (by decide) (by decide) h)
  | writes ns => intro h n hn; obtain ⟨m, rfl⟩ : ∃ m, n = m + 1 := ⟨n - 1, by omega⟩; exact partsF_one (by decide) (single_c (by decide) (by decide) h)
  | goes a b =>
    intro h n hn
    obtain ⟨m, rfl⟩ : ∃ m, n = m + 1 := ⟨n - 1, by omega⟩
    obtain ⟨⟨a0, a1⟩, ⟨b0, b1⟩, ab⟩ := h
    show (if ("goes" : Str) = "both" ∨ ("goes" : Str) = "either" then (if partsF c r m (.int a) = 0 ∨ partsF c r m (.int b) = 0 then 0 else 1 + partsF c r m (.int a) + partsF c r m (.int b)) else (if singleB c r "goes" [.int a, .int b] = true then 1 else 0)) = 1
    have hs : singleB c r "goes" [.int a, .int b] = true := by
      show (if ("goes" : Str) = "goes" then figD (.int a) && (figD (.int b) && leD (.int a) (.int b)) else false) = true
      rw [if_pos rfl]
      simp [figD, btwD, leD, a0, a1, b0, b1, ab]
    rw [if_neg (by decide), if_pos hs]
  | both p q ip iq =>
    intro h n hn
    simp only [Pat.dep] at hn
    obtain ⟨m, rfl⟩ : ∃ m, n = m + 1 := ⟨n - 1, by omega⟩
    have hp := ip h.1 (n := m) (by omega)
    have hq := iq h.2 (n := m) (by omega)
    have := p.parts_pos
    have := q.parts_pos
    show (if ("both" : Str) = "both" ∨ ("both" : Str) = "either" then (if partsF c r m p.d = 0 ∨ partsF c r m q.d = 0 then 0 else 1 + partsF c r m p.d + partsF c r m q.d) else (if singleB c r "both" [p.d, q.d] = true then 1 else 0)) = _
    rw [if_pos (.inl rfl), hp, hq, if_neg (by omega)]
    rfl
  | either p q ip iq =>
    intro h n hn
    simp only [Pat.dep] at hn
    obtain ⟨m, rfl⟩ : ∃ m, n = m + 1 := ⟨n - 1, by omega⟩
    have hp := ip h.1 (n := m) (by omega)
    have hq := iq h.2 (n := m) (by omega)
    have := p.parts_pos
    have := q.parts_pos
    show (if ("either" : Str) = "both" ∨ ("either" : Str) = "either" then (if partsF c r m p.d = 0 ∨ partsF c r m q.d = 0 then 0 else 1 + partsF c r m p.d + partsF c r m q.d) else (if singleB c r "either" [p.d, q.d] = true then 1 else 0)) = _
    rw [if_pos (.inr rfl), hp, hq, if_neg (by omega)]
    rfl
  | not p ip =>
    intro h n hn
    simp only [Pat.dep] at hn
    obtain ⟨m, rfl⟩ : ∃ m, n = m + 1 := ⟨n - 1, by omega⟩
    have hp := ip h (n := m) (by omega)
    have := p.parts_pos
    show (if ("not" : Str) = "not" then (if partsF c r m p.d = 0 then 0 else 1 + partsF c r m p.d) else (if singleB c r "not" [p.d] = true then 1 else 0)) = _
    rw [if_pos rfl, hp, if_neg (by omega)]
    rfl
theorem Pat.jk {c r : Nat} (hc : c ≤ 8) (hr : r ≤ 8) : ∀ {p : Pat}, p.Ok c r → Mi.jk p.d = true := by
  intro p
  have one : ∀ (w : Str) (ns : List Int) (m : Nat), w.length ≤ 1000 → m ≤ 8 → Nums m ns → Mi.jk (.tup [.str w, tns ns]) = true := fun w ns m hw hm h => by
    have := h.len
    refine jk_of_tup (by simp) fun x hx => ?_
    simp only [List.mem_cons, List.not_mem_nil, or_false] at hx
    rcases hx with rfl | rfl
    · rw [Mi.jk]; exact decide_eq_true hw
    · exact jk_ints (by omega)
  induction p with
  | calls ns => exact fun h => one _ ns r (by decide) hr h
  | within ns => exact fun h => one _ ns r (by decide) hr h
  | under ns => exact fun h => one _ ns r (by decide) hr h
  | reads ns => exact fun h => one _ ns c (by decide) hc h
  | writes ns => exact fun h => one _ ns c (by decide) hc h
  | goes a b => intro _; rfl
  | both p q ip iq =>
    intro h
    refine jk_of_tup (by simp) fun x hx => ?_
    simp only [List.mem_cons, List.not_mem_nil, or_false] at hx
    rcases hx with rfl | rfl | rfl
    · decide
    · exact ip h.1
    · exact iq h.2
  | either p q ip iq =>
    intro h
    refine jk_of_tup (by simp) fun x hx => ?_
    simp only [List.mem_cons, List.not_mem_nil, or_false] at hx
    rcases hx with rfl | rfl | rfl
    · decide
    · exact ip h.1
    · exact iq h.2
  | not p ip =>
    intro h
    refine jk_of_tup (by simp) fun x hx => ?_
    simp only [List.mem_cons, List.not_mem_nil, or_false] at hx
    rcases hx with rfl | rfl
    · decide
    · exact ip h
/-! ### steps -/
section
variable {S : Sto} {q : Q1} {qb : Bool → Prop} {d : D}
/-- what isinstance tells of a plain thing -/
def isB (t : Nat) : D → Bool
  | .non => false
  | .bl _ => t == 0 || t == 1
  | .int _ => t == 0
  | .str _ => t == 2
  | .tup _ => t == 3
  | .lst _ => t == 4
  | _ => false
theorem isi_jk (h : jk d = true) {t : Nat} (ht : t ≤ 4) (k : q (.bl (isB t d)) S) : IsiW S d t q := by
  have : t = 0 ∨ t = 1 ∨ t = 2 ∨ t = 3 ∨ t = 4 := by omega
  cases d with
  | scr _ => cases h
  | loc _ => cases h
  | kd _ _ => cases h
  | non => rcases this with rfl | rfl | rfl | rfl | rfl <;> exact ⟨_, by kernel_rfl, k⟩
  | bl _ => rcases this with rfl | rfl | rfl | rfl | rfl <;> exact ⟨_, by kernel_rfl, k⟩
  | int _ => rcases this with rfl | rfl | rfl | rfl | rfl <;> exact ⟨_, by kernel_rfl, k⟩
  | str _ => rcases this with rfl | rfl | rfl | rfl | rfl <;> exact ⟨_, by kernel_rfl, k⟩
  | tup _ => rcases this with rfl | rfl | rfl | rfl | rfl <;> exact ⟨_, by kernel_rfl, k⟩
  | lst _ => rcases this with rfl | rfl | rfl | rfl | rfl <;> exact ⟨_, by kernel_rfl, k⟩
theorem pds_ints : ∀ ns : List Int, pds (ns.map .int) = some (ns.map .int)
  | [] => rfl
  | n :: ns => by rw [List.map_cons, pds, pds_ints ns]; rfl
theorem eqv_ints : ∀ a b : List Int, PyData.eqvAll (a.map .int) (b.map .int) = decide (a = b)
  | [], [] => rfl
  | [], _ :: _ => rfl
  | _ :: _, [] => rfl
  | x :: xs, y :: ys => by
    rw [List.map_cons, List.map_cons, PyData.eqvAll, eqv_ints xs ys]
    simp only [PyData.eqv]
    by_cases h1 : x = y
    · subst h1
      by_cases h2 : xs = ys
      · subst h2; simp
      · simp [h2]
    · simp [h1]
theorem lay_ints : ∀ ns : List Int, PyData.canLayAll0 (ns.map .int) = true ∧ PyData.depthAll (ns.map .int) = 0
  | [] => ⟨rfl, rfl⟩
  | n :: ns => by
    obtain ⟨a, b⟩ := lay_ints ns
    rw [List.map_cons, PyData.canLayAll0, PyData.depthAll, a, b]
    exact ⟨rfl, rfl⟩
theorem eqD_ints (a b : List Int) : eqD (.lst (a.map .int)) (.lst (b.map .int)) = some (decide (a = b)) := by
  obtain ⟨a1, a2⟩ := lay_ints a
  obtain ⟨b1, b2⟩ := lay_ints b
  show (match pd (.lst (a.map .int)), pd (.lst (b.map .int)) with
    | some a, some b => if a.canLay0 && b.canLay0 && decide (a.depth ≤ 150) then some (PyData.eqv a b) else none
    | _, _ => none) = _
  simp only [pd, pds_ints, PyData.canLay0, PyData.depth, a1, a2, b1, PyData.eqv, eqv_ints]
  rfl
theorem eqD_tns (a b : List Int) : eqD (tns a) (tns b) = some (decide (a = b)) := by
  obtain ⟨a1, a2⟩ := lay_ints a
  obtain ⟨b1, b2⟩ := lay_ints b
  show (match pd (.tup (a.map .int)), pd (.tup (b.map .int)) with
    | some a, some b => if a.canLay0 && b.canLay0 && decide (a.depth ≤ 150) then some (PyData.eqv a b) else none
    | _, _ => none) = _
  simp only [pd, pds_ints, PyData.canLay0, PyData.depth, a1, a2, b1, PyData.eqv, eqv_ints]
  rfl
theorem cmp_eqLi {a b : List Int} (k : qb (decide (a = b))) : CmpW .eq S (.lst (a.map .int)) (.lst (b.map .int)) qb := ⟨_, eqD_ints a b, k⟩
theorem cmp_neLi {a b : List Int} (k : qb (!decide (a = b))) : CmpW .ne S (.lst (a.map .int)) (.lst (b.map .int)) qb := ⟨_, by
  show (eqD (.lst (a.map .int)) (.lst (b.map .int))).map (!·) = _
  rw [eqD_ints]; rfl, k⟩
theorem cmp_eqTi {a b : List Int} (k : qb (decide (a = b))) : CmpW .eq S (tns a) (tns b) qb := ⟨_, eqD_tns a b, k⟩
theorem cmp_neTi {a b : List Int} (k : qb (!decide (a = b))) : CmpW .ne S (tns a) (tns b) qb := ⟨_, by
  show (eqD (tns a) (tns b)).map (!·) = _
  rw [eqD_tns]; rfl, k⟩
theorem blsD_map : ∀ bs : List Bool, blsD (bs.map .bl) = some bs
  | [] => rfl
  | b :: bs => by rw [List.map_cons, blsD, blsD_map bs]; rfl
theorem all_bls {bs : List Bool} (k : q (.bl (bs.all id)) S) : BifW .all S [.lst (bs.map .bl)] q := ⟨.bl (bs.all id), by
  show (match lstD S (.lst (bs.map .bl)) with
    | some xs => (blsD xs).map fun (bs : List Bool) => D.bl (bs.all id)
    | none => none) = _
  simp only [lstD, blsD_map]; rfl, k⟩
theorem any_bls {bs : List Bool} (k : q (.bl (bs.any id)) S) : BifW .any S [.lst (bs.map .bl)] q := ⟨.bl (bs.any id), by
  show (match lstD S (.lst (bs.map .bl)) with
    | some xs => (blsD xs).map fun (bs : List Bool) => D.bl (bs.any id)
    | none => none) = _
  simp only [lstD, blsD_map]; rfl, k⟩
/-- an int among ints -/
theorem inD_ints (i : Int) : ∀ ns : List Int, inD (.int i) (ns.map .int) = some (decide (i ∈ ns))
  | [] => by simp [inD]
  | n :: ns => by
    simp only [List.map_cons, inD, eqD]
    by_cases e : n = i
    · subst e; simp
    · have : decide (n = i) = false := decide_eq_false e
      rw [this]
      simp only
      rw [inD_ints i ns]
      have e' : ¬ i = n := fun h => e h.symm
      simp [e']
theorem flat_ints (ns : List Int) : (ns.map D.int).all flatD = true := by
  rw [List.all_eq_true]
  intro x hx
  obtain ⟨z, _, rfl⟩ := List.mem_map.mp hx
  rfl
theorem inF_ints (i : Int) (ns : List Int) : inF (.int i) (ns.map .int) = some (decide (i ∈ ns)) := by
  unfold inF
  rw [flat_ints, inD_ints]
  rfl
theorem in_tns {i : Int} {ns : List Int} (k : qb (decide (i ∈ ns))) : CmpW .in_ S (.int i) (tns ns) qb := ⟨_, inF_ints i ns, k⟩
theorem in_lns {i : Int} {ns : List Int} (k : qb (decide (i ∈ ns))) : CmpW .in_ S (.int i) (.lst (ns.map .int)) qb := ⟨_, inF_ints i ns, k⟩
theorem nin_tns {i : Int} {ns : List Int} (k : qb (!decide (i ∈ ns))) : CmpW .nin S (.int i) (tns ns) qb := ⟨_, by
  show (inF _ _).map (!·) = _
  rw [inF_ints]; rfl, k⟩
end
def isInt : D → Bool
  | .int _ => true
  | _ => false
theorem all_isInt (xs : List D) : (xs.map isInt).all id = (intsD xs).isSome := by
  induction xs with
  | nil => rfl
  | cons x xs ih =>
    rw [List.map_cons, List.all_cons, ih]
    cases x with
    | int i =>
      rw [intsD]
      cases intsD xs <;> rfl
    | _ => rfl
theorem intsD_eq : ∀ {xs : List D} {ns : List Int}, intsD xs = some ns → xs = ns.map .int
  | [], ns, h => by cases h; rfl
  | .int i :: xs, ns, h => by
    rw [intsD] at h
    cases e : intsD xs with
    | none => rw [e] at h; cases h
    | some ms => rw [e] at h; cases h; rw [intsD_eq e]; rfl
  | .non :: _, _, h => by cases h
  | .bl _ :: _, _, h => by cases h
  | .str _ :: _, _, h => by cases h
  | .tup _ :: _, _, h => by cases h
  | .lst _ :: _, _, h => by cases h
  | .scr _ :: _, _, h => by cases h
  | .loc _ :: _, _, h => by cases h
  | .kd _ _ :: _, _, h => by cases h
theorem insU_len {x : Int} : ∀ l : List Int, (insU x l).length ≤ l.length + 1
  | [] => by simp [insU]
  | y :: ys => by
    have := insU_len (x := x) ys
    unfold insU
    split
    · simp
    · split
      · simp
      · simp only [List.length_cons]; omega
theorem sortU_len : ∀ l : List Int, (sortU l).length ≤ l.length
  | [] => Nat.le_refl _
  | x :: xs => by
    have := insU_len (x := x) (sortU xs)
    have := sortU_len xs
    rw [sortU, List.length_cons]; omega
/-- a comprehension that tells f of each, the store as it was -/
theorem lc_pure {T : Tab} {G : GT} {xd : XD} {S : Sto} {chk : Sto → Prop} {bd : D → Option Env} {e : E} {q : List D → Sto → Prop} {α β : Type} (g : β → D) (f : α → D) (h : β → α) (ys : List β) (hl : ys.length < 1000000) (hc : chk S)
    (step : ∀ y ∈ ys, ∀ kt : Q1, kt (f (h y)) S → ∃ e1, bd (g y) = some e1 ∧ wpE T G xd e e1 S kt) (fin : q ((ys.map h).map f) S) : LcN T G xd chk bd e (ys.map g) [] S q := by
  refine lc_map (q := q) g f (fun zs acc S' => S' = S ∧ ∃ us, ys = us ++ zs ∧ acc = us.map h) (fun _ _ _ z => by rw [z.1]; exact hc) (fun z zs acc S' hz => ?_) ?_ ?_ ys [] S ⟨rfl, [], rfl, rfl⟩
  · obtain ⟨_, us, e1, e2⟩ := hz
    have := congrArg List.length e1
    rw [e2, List.length_map]
    rw [List.length_append, List.length_cons] at this
    omega
  · rintro z zs acc S' ⟨rfl, us, e1, e2⟩ kt hk
    exact step z (by rw [e1]; simp) kt (hk (h z) S' ⟨rfl, us ++ [z], by rw [e1]; simp, by rw [e2]; simp⟩)
  · rintro acc S' ⟨rfl, us, e1, e2⟩
    rw [List.append_nil] at e1
    subst e1 e2
    exact fin
end Mi
set_option maxHeartbeats 1000000
/-! XT: places. -/
namespace Mi
open PySem
/-- the row that the rest of a path leads to -/
inductive AtR : Row → List Int → Row → Prop where
  | nil (row : Row) : AtR row [] row
  | step {row r' fin : Row} {w v : Nat} {rs' : List Row} {path : List Int} (h1 : row.inner[w]? = some rs') (h2 : rs'[v]? = some r') (h3 : AtR r' path fin) : AtR row ((w : Int) :: (v : Int) :: path) fin
def At (rs : List Row) (path : List Int) (row : Row) : Prop := ∃ (n : Nat) (rest : List Int) (row0 : Row), path = (n : Int) :: rest ∧ rs[n]? = some row0 ∧ AtR row0 rest row
theorem AtR.len {row fin : Row} {path : List Int} (h : AtR row path fin) : ∃ m, path.length = 2 * m := by
  induction h with
  | nil => exact ⟨0, rfl⟩
  | step _ _ _ ih => obtain ⟨m, hm⟩ := ih; exact ⟨m + 1, by rw [List.length_cons, List.length_cons, hm]; omega⟩
theorem AtR.app {row mid fin : Row} {p q : List Int} (h : AtR row p mid) (h2 : AtR mid q fin) : AtR row (p ++ q) fin := by
  induction h with
  | nil => exact h2
  | step a b _ ih => exact .step a b (ih h2)
theorem At.step {rs rs' : List Row} {row r' : Row} {p : List Int} {w v : Nat} (h : At rs p row) (h1 : row.inner[w]? = some rs') (h2 : rs'[v]? = some r') : At rs (p ++ [(w : Int), (v : Int)]) r' := by
  obtain ⟨n, rest, row0, rfl, a, b⟩ := h
  exact ⟨n, rest ++ [(w : Int), (v : Int)], row0, rfl, a, b.app (.step h1 h2 (.nil _))⟩
theorem rs_two (m : Nat) : Builtin.Range.rangeSize 1 (1 + 2 * m) 2 = m := by
  unfold Builtin.Range.rangeSize
  rw [if_pos (by decide)]
  split
  · omega
  · omega
theorem fits {i : Int} (h1 : -(2 ^ 62) ≤ i) (h2 : i < 2 ^ 62) : Builtin.Range.rangeFitsLong i = true := by
  unfold Builtin.Range.rangeFitsLong
  rw [Bool.and_eq_true]
  exact ⟨decide_eq_true (by omega), decide_eq_true (by omega)⟩
theorem rgc_two {m : Nat} (h : m < 1000000) : L2.RgC 1 (1 + 2 * m) 2 m := by
  refine ⟨by decide, by decide, ?_, rs_two m⟩
  unfold Builtin.Range.small
  rw [rs_two, fits (by omega) (by omega), fits (by omega) (by omega), fits (by omega) (by omega), fits (by omega) (by omega), if_pos (by decide), fits (by omega) (by omega)]
  simp
theorem rngC_map : ∀ (n : Nat) (lo c : Int), rngC lo c n = (List.range n).map fun (i : Nat) => D.int (lo + i * c)
  | 0, _, _ => rfl
  | n + 1, lo, c => by
    rw [rngC, rngC_map n (lo + c) c, List.range_succ_eq_map, List.map_cons, List.map_map]
    congr 1
    · simp
    · refine List.map_congr_left fun i _ => ?_
      show D.int (lo + c + i * c) = D.int (lo + ((i + 1 : Nat) : Int) * c)
      congr 1
      push_cast
      rw [Int.add_mul]
      omega
/-! ### all rows with their paths -/
mutual
def Row.pths (here : List Int) : Row → List (List Int × Row)
  | .whn _ a b => Row.pthss (here ++ [0]) 0 a ++ Row.pthss (here ++ [1]) 0 b
  | .wove _ _ rs => Row.pthss (here ++ [0]) 0 rs
  | .put _ _ => [] | .read _ _ => [] | .write _ _ => [] | .call _ _ _ => [] | .tell _ => [] | .look _ _ => [] | .note _ _ => [] | .go _ _ => []
def Row.pthss (ahead : List Int) (n : Nat) : List Row → List (List Int × Row)
  | [] => []
  | r :: rs => (ahead ++ [(n : Int)], r) :: (Row.pths (ahead ++ [(n : Int)]) r ++ Row.pthss ahead (n + 1) rs)
end
/-- .. by the rows within -/
def innP (here : List Int) : Nat → List (List Row) → List (List Int × Row)
  | _, [] => []
  | w, rs :: rss => Row.pthss (here ++ [(w : Int)]) 0 rs ++ innP here (w + 1) rss
theorem pths_inn (here : List Int) (r : Row) : Row.pths here r = innP here 0 r.inner := by
  cases r with
  | whn e a b => simp [Row.pths, Row.inner, innP]
  | wove w k rs => simp [Row.pths, Row.inner, innP]
  | _ => simp [Row.pths, Row.inner, innP]
mutual
theorem pths_at (rs0 : List Row) : ∀ (r : Row) (here : List Int), At rs0 here r → ∀ x ∈ Row.pths here r, At rs0 x.1 x.2
  | .whn e a b, here, h, x, hx => by
    rw [Row.pths] at hx
    rcases List.mem_append.mp hx with hx | hx
    · exact pthss_at rs0 a (here ++ [0]) 0 a (fun i r hi => by have := h.step (w := 0) (rs' := a) rfl hi; simpa using this) (fun i => by rw [Nat.zero_add]) x hx
    · exact pthss_at rs0 b (here ++ [1]) 0 b (fun i r hi => by have := h.step (w := 1) (rs' := b) rfl hi; simpa using this) (fun i => by rw [Nat.zero_add]) x hx
  | .wove w k rs, here, h, x, hx => by
    rw [Row.pths] at hx
    exact pthss_at rs0 rs (here ++ [0]) 0 rs (fun i r hi => by have := h.step (w := 0) (rs' := rs) rfl hi; simpa using this) (fun i => by rw [Nat.zero_add]) x hx
  | .put _ _, here, h, x, hx => by rw [Row.pths] at hx; cases hx
  | .read _ _, here, h, x, hx => by rw [Row.pths] at hx; cases hx
  | .write _ _, here, h, x, hx => by rw [Row.pths] at hx; cases hx
  | .call _ _ _, here, h, x, hx => by rw [Row.pths] at hx; cases hx
  | .tell _, here, h, x, hx => by rw [Row.pths] at hx; cases hx
  | .look _ _, here, h, x, hx => by rw [Row.pths] at hx; cases hx
  | .note _ _, here, h, x, hx => by rw [Row.pths] at hx; cases hx
  | .go _ _, here, h, x, hx => by rw [Row.pths] at hx; cases hx
theorem pthss_at (rs0 : List Row) : ∀ (rs : List Row) (ahead : List Int) (n : Nat) (all : List Row), (∀ (i : Nat) (r : Row), all[i]? = some r → At rs0 (ahead ++ [(i : Int)]) r) → (∀ i, all[n + i]? = rs[i]?) → ∀ x ∈ Row.pthss ahead n rs, At rs0 x.1 x.2
  | [], _, _, _, _, _, x, hx => by rw [Row.pthss] at hx; cases hx
  | r :: rs, ahead, n, all, h, hall, x, hx => by
    have h0 := h n r (by have := hall 0; simpa using this)
    rw [Row.pthss] at hx
    rcases List.mem_cons.mp hx with rfl | hx
    · exact h0
    · rcases List.mem_append.mp hx with hx | hx
      · exact pths_at rs0 r _ h0 x hx
      · exact pthss_at rs0 rs ahead (n + 1) all h (fun i => by rw [show n + 1 + i = n + (i + 1) by omega, hall, List.getElem?_cons_succ]) x hx
end
theorem all_at {rs : List Row} : ∀ x ∈ Row.pthss [] 0 rs, At rs x.1 x.2 :=
  pthss_at rs rs [] 0 rs (fun i r hi => ⟨i, [], r, rfl, hi, .nil _⟩) fun i => by rw [Nat.zero_add]
/-! how many -/
mutual
theorem pths_len : ∀ (r : Row) (here : List Int), (Row.pths here r).length + 1 ≤ wD r.d
  | .whn e a b, here => by
    have h1 := pthss_len a (here ++ [0]) 0
    have h2 := pthss_len b (here ++ [1]) 0
    rw [Row.pths, List.length_append, Row.d_whn, wD, wDs, wDs, wDs, wDs, wDs, wD_rws, wD_rws]
    omega
  | .wove w k rs, here => by
    have h1 := pthss_len rs (here ++ [0]) 0
    rw [Row.pths, Row.d_wove, wD, wDs, wDs, wDs, wDs, wDs, wD_rws]
    omega
  | .put _ _, here => by rw [Row.pths, Row.d, wD]; simp
  | .read _ _, here => by rw [Row.pths, Row.d, wD]; simp
  | .write _ _, here => by rw [Row.pths, Row.d, wD]; simp
  | .call _ _ _, here => by rw [Row.pths, Row.d, wD]; simp
  | .tell _, here => by rw [Row.pths, Row.d, wD]; simp
  | .look _ _, here => by rw [Row.pths, Row.d, wD]; simp
  | .note _ _, here => by rw [Row.pths, Row.d, wD]; simp
  | .go _ _, here => by rw [Row.pths, Row.d, wD]; simp
theorem pthss_len : ∀ (rs : List Row) (ahead : List Int) (n : Nat), (Row.pthss ahead n rs).length ≤ wDs (rs.map Row.d)
  | [], _, _ => by rw [Row.pthss]; simp
  | r :: rs, ahead, n => by
    have h1 := pths_len r (ahead ++ [(n : Int)])
    have h2 := pthss_len rs ahead (n + 1)
    rw [Row.pthss, List.length_cons, List.length_append, List.map_cons, wDs]
    omega
end
/-! how long a path is -/
mutual
theorem pths_plen : ∀ (r : Row) (here : List Int), ∀ x ∈ Row.pths here r, x.1.length ≤ here.length + dD r.d
  | .whn e a b, here, x, hx => by
    rw [Row.pths] at hx
    rw [Row.d_whn, dD, dDs, dDs, dDs, dDs, dDs, dD_rws, dD_rws]
    rcases List.mem_append.mp hx with hx | hx
    · have := pthss_plen a (here ++ [0]) 0 x hx
      rw [List.length_append, List.length_cons, List.length_nil] at this
      omega
    · have := pthss_plen b (here ++ [1]) 0 x hx
      rw [List.length_append, List.length_cons, List.length_nil] at this
      omega
  | .wove w k rs, here, x, hx => by
    rw [Row.pths] at hx
    rw [Row.d_wove, dD, dDs, dDs, dDs, dDs, dDs, dD_rws]
    have := pthss_plen rs (here ++ [0]) 0 x hx
    rw [List.length_append, List.length_cons, List.length_nil] at this
    omega
  | .put _ _, here, x, hx => by rw [Row.pths] at hx; cases hx
  | .read _ _, here, x, hx => by rw [Row.pths] at hx; cases hx
  | .write _ _, here, x, hx => by rw [Row.pths] at hx; cases hx
  | .call _ _ _, here, x, hx => by rw [Row.pths] at hx; cases hx
  | .tell _, here, x, hx => by rw [Row.pths] at hx; cases hx
  | .look _ _, here, x, hx => by rw [Row.pths] at hx; cases hx
  | .note _ _, here, x, hx => by rw [Row.pths] at hx; cases hx
  | .go _ _, here, x, hx => by rw [Row.pths] at hx; cases hx
theorem pthss_plen : ∀ (rs : List Row) (ahead : List Int) (n : Nat), ∀ x ∈ Row.pthss ahead n rs, x.1.length ≤ ahead.length + 1 + dDs (rs.map Row.d)
  | [], _, _, x, hx => by rw [Row.pthss] at hx; cases hx
  | r :: rs, ahead, n, x, hx => by
    rw [Row.pthss] at hx
    rw [List.map_cons, dDs]
    rcases List.mem_cons.mp hx with rfl | hx
    · rw [List.length_append, List.length_cons, List.length_nil]; omega
    · rcases List.mem_append.mp hx with hx | hx
      · have := pths_plen r (ahead ++ [(n : Int)]) x hx
        rw [List.length_append, List.length_cons, List.length_nil] at this
        omega
      · have := pthss_plen rs ahead (n + 1) x hx
        omega
end
/-! walked by parts -/
def pthD (x : List Int × Row) : D := .tup [tns x.1, x.2.d]
theorem pthss_app (ahead : List Int) : ∀ (as bs : List Row) (n : Nat), Row.pthss ahead n (as ++ bs) = Row.pthss ahead n as ++ Row.pthss ahead (n + as.length) bs
  | [], bs, n => by rw [List.nil_append, Row.pthss, List.nil_append]; rfl
  | a :: as, bs, n => by
    rw [List.cons_append, Row.pthss, Row.pthss, pthss_app ahead as bs (n + 1), List.length_cons, show n + 1 + as.length = n + (as.length + 1) by omega]
    simp only [List.cons_append, List.append_assoc]
theorem innP_app (here : List Int) : ∀ (as bs : List (List Row)) (n : Nat), innP here n (as ++ bs) = innP here n as ++ innP here (n + as.length) bs
  | [], bs, n => by rw [List.nil_append, innP, List.nil_append]; rfl
  | a :: as, bs, n => by
    rw [List.cons_append, innP, innP, innP_app here as bs (n + 1), List.length_cons, show n + 1 + as.length = n + (as.length + 1) by omega]
    simp only [List.append_assoc]
theorem wds_len (rs : List Row) : rs.length ≤ wDs (rs.map Row.d) := by
  induction rs with
  | nil => simp
  | cons r rs ih => rw [List.map_cons, wDs, List.length_cons]; omega
theorem inner_len (r : Row) : r.inner.length ≤ 2 := by cases r <;> simp [Row.inner]
theorem wD_mem {d : D} : ∀ {xs : List D}, d ∈ xs → wD d + 2 ≤ wDs xs
  | x :: xs, h => by
    rw [wDs]
    rcases List.mem_cons.mp h with rfl | h
    · omega
    · have := wD_mem h; omega
theorem dD_mem {d : D} : ∀ {xs : List D}, d ∈ xs → dD d ≤ dDs xs
  | x :: xs, h => by
    rw [dDs]
    rcases List.mem_cons.mp h with rfl | h
    · omega
    · have := dD_mem h; omega
theorem inner_w (r : Row) : ∀ rs ∈ r.inner, wDs (rs.map Row.d) ≤ wD r.d ∧ dD (rwsD rs) + 1 ≤ dD r.d := by
  intro rs h
  cases r with
  | whn e a b =>
    simp only [Row.inner, List.mem_cons, List.not_mem_nil, or_false] at h
    rw [Row.d_whn, wD, wDs, wDs, wDs, wDs, wDs, wD_rws, wD_rws, dD, dDs, dDs, dDs, dDs, dDs]
    rcases h with rfl | rfl <;> omega
  | wove w k xs =>
    simp only [Row.inner, List.mem_cons, List.not_mem_nil, or_false] at h
    subst h
    rw [Row.d_wove, wD, wDs, wDs, wDs, wDs, wDs, wD_rws, dD, dDs, dDs, dDs, dDs, dDs]
    omega
  | _ => simp [Row.inner] at h
end Mi
set_option maxHeartbeats 1000000
/-! XM: places of a program, those that a pattern meets. -/
namespace Mi
open PySem
/-- the paths of places -/
def plcs (xs : List (List Int × Row)) : List (List Int) := (xs.filter fun x => x.2.isPlace).map fun x => x.1
theorem plcs_app (a b : List (List Int × Row)) : plcs (a ++ b) = plcs a ++ plcs b := by simp [plcs]
theorem plcs_one {p : List Int} {r : Row} : plcs [(p, r)] = if r.isPlace = true then [p] else [] := by cases h : r.isPlace <;> simp [plcs, h]
theorem plcs_le (xs : List (List Int × Row)) : (plcs xs).length ≤ xs.length := by
  rw [plcs, List.length_map]; exact List.length_filter_le _ _
mutual
theorem pths_cnt : ∀ (r : Row) (here : List Int), 120 * (plcs (Row.pths here r)).length + (if r.isPlace = true then 120 else 0) ≤ wD r.d
  | .whn e a b, here => by
    have h1 := pthss_cnt a (here ++ [0]) 0
    have h2 := pthss_cnt b (here ++ [1]) 0
    rw [Row.pths, plcs_app, List.length_append, Row.d_whn, wD, wDs, wDs, wDs, wDs, wDs, wD_rws, wD_rws]
    simp only [Row.isPlace, Bool.false_eq_true, if_false]
    omega
  | .wove w k rs, here => by
    have h1 := pthss_cnt rs (here ++ [0]) 0
    rw [Row.pths, Row.d_wove, wD, wDs, wDs, wDs, wDs, wDs, wD_rws]
    simp only [Row.isPlace, Bool.false_eq_true, if_false]
    omega
  | .put _ _, here => by rw [Row.pths]; simp [Row.isPlace, plcs]
  | .read l c, here => by
    have h1 : 62 ≤ wD (.int l) := by rw [wD]; split <;> omega
    have h2 : 62 ≤ wD (.int c) := by rw [wD]; split <;> omega
    rw [Row.pths, Row.d_read, wD, wDs, wDs, wDs, wDs]
    simp only [Row.isPlace, if_true, plcs, List.filter_nil, List.map_nil, List.length_nil]
    omega
  | .write c e, here => by
    have h1 : 62 ≤ wD (.int c) := by rw [wD]; split <;> omega
    have h2 : wD (.str "write") = 52 := by decide +kernel
    rw [Row.pths, Row.d_write, wD, wDs, wDs, wDs, wDs, h2]
    simp only [Row.isPlace, if_true, plcs, List.filter_nil, List.map_nil, List.length_nil]
    omega
  | .call l r e, here => by
    have h1 : 62 ≤ wD (.int l) := by rw [wD]; split <;> omega
    have h2 : 62 ≤ wD (.int r) := by rw [wD]; split <;> omega
    rw [Row.pths, Row.d_call, wD, wDs, wDs, wDs, wDs, wDs]
    simp only [Row.isPlace, if_true, plcs, List.filter_nil, List.map_nil, List.length_nil]
    omega
  | .tell _, here => by rw [Row.pths]; simp [Row.isPlace, plcs]
  | .look _ _, here => by rw [Row.pths]; simp [Row.isPlace, plcs]
  | .note _ _, here => by rw [Row.pths]; simp [Row.isPlace, plcs]
  | .go _ _, here => by rw [Row.pths]; simp [Row.isPlace, plcs]
theorem pthss_cnt : ∀ (rs : List Row) (ahead : List Int) (n : Nat), 120 * (plcs (Row.pthss ahead n rs)).length ≤ wDs (rs.map Row.d)
  | [], _, _ => by rw [Row.pthss]; simp [plcs]
  | r :: rs, ahead, n => by
    have h1 := pths_cnt r (ahead ++ [(n : Int)])
    have h2 := pthss_cnt rs ahead (n + 1)
    rw [Row.pthss, show ∀ (a : List Int × Row) l, a :: l = [a] ++ l from fun _ _ => rfl, plcs_app, plcs_app, plcs_one, List.length_append, List.length_append, List.map_cons, wDs]
    split
    · rename_i h; rw [if_pos h] at h1; simp only [List.length_cons, List.length_nil]; omega
    · rename_i h; rw [if_neg h] at h1; simp only [List.length_nil]; omega
end
/-! ### a program's places -/
abbrev Plc := Nat × List Int × Row
def plOf (n : Nat) (xs : List (List Int × Row)) : List Plc := (xs.filter fun x => x.2.isPlace).map fun x => (n, x)
def plxs : Nat → List Rtn → List Plc
  | _, [] => []
  | n, r :: rs => plOf n (Row.pthss [] 0 r.1) ++ plxs (n + 1) rs
def Prog.plx (p : Prog) : List Plc := plxs 0 p.rs
def plD (y : Plc) : D := .tup [.int y.1, tns y.2.1]
theorem plOf_app (n : Nat) (a b : List (List Int × Row)) : plOf n (a ++ b) = plOf n a ++ plOf n b := by simp [plOf]
theorem plOf_one {n : Nat} {x : List Int × Row} : plOf n [x] = if x.2.isPlace = true then [(n, x)] else [] := by cases h : x.2.isPlace <;> simp [plOf, h]
theorem plOf_D (n : Nat) (xs : List (List Int × Row)) : (plOf n xs).map plD = (plcs xs).map fun p => .tup [.int n, tns p] := by
  rw [plOf, plcs, List.map_map, List.map_map]; rfl
theorem plOf_len (n : Nat) (xs : List (List Int × Row)) : (plOf n xs).length = (plcs xs).length := by simp [plOf, plcs]
theorem plxs_app : ∀ (as bs : List Rtn) (n : Nat), plxs n (as ++ bs) = plxs n as ++ plxs (n + as.length) bs
  | [], bs, n => by rw [List.nil_append, plxs, List.nil_append]; rfl
  | a :: as, bs, n => by
    rw [List.cons_append, plxs, plxs, plxs_app as bs (n + 1), List.length_cons, show n + 1 + as.length = n + (as.length + 1) by omega, List.append_assoc]
theorem plxs_take {rs : List Rtn} {i : Nat} {r : Rtn} (h : rs[i]? = some r) : plxs 0 (rs.take (i + 1)) = plxs 0 (rs.take i) ++ plOf i (Row.pthss [] 0 r.1) := by
  have hi : i < rs.length := (List.getElem?_eq_some_iff.mp h).1
  rw [List.take_add_one, h, plxs_app, List.length_take, Nat.min_eq_left (by omega), Nat.zero_add]
  simp [plxs]
theorem plxs_mem : ∀ {rs : List Rtn} {n : Nat} {y : Plc}, y ∈ plxs n rs → ∃ rt, n ≤ y.1 ∧ rs[y.1 - n]? = some rt ∧ y.2 ∈ Row.pthss [] 0 rt.1 ∧ y.2.2.isPlace = true
  | [], _, _, h => by cases h
  | r :: rs, n, y, h => by
    rw [plxs] at h
    rcases List.mem_append.mp h with h | h
    · rw [plOf] at h
      obtain ⟨x, hx, rfl⟩ := List.mem_map.mp h
      obtain ⟨h1, h2⟩ := List.mem_filter.mp hx
      exact ⟨r, Nat.le_refl _, by simp, h1, h2⟩
    · obtain ⟨rt, h1, h2, h3, h4⟩ := plxs_mem h
      refine ⟨rt, by omega, ?_, h3, h4⟩
      rw [show y.1 - n = (y.1 - (n + 1)) + 1 by omega, List.getElem?_cons_succ]
      exact h2
theorem Prog.plx_mem {p : Prog} {y : Plc} (h : y ∈ p.plx) : ∃ rt, p.rs[y.1]? = some rt ∧ y.2 ∈ Row.pthss [] 0 rt.1 ∧ y.2.2.isPlace = true := by
  obtain ⟨rt, _, h2, h3⟩ := plxs_mem h
  exact ⟨rt, by simpa using h2, h3⟩
/-- small enough -/
structure PgB (p : Prog) : Prop where
  n : p.rs.length ≤ 8
  w : ∀ r ∈ p.rs, wDs (r.1.map Row.d) ≤ 40000 ∧ dD (rwsD r.1) ≤ 9
theorem Pg.b {p : Prog} (h : Pg p) : PgB p := ⟨by have := h.n.2; omega, fun r hr => h.rows hr⟩
theorem plxs_len : ∀ {rs : List Rtn} {n : Nat}, (∀ r ∈ rs, wDs (r.1.map Row.d) ≤ 40000) → (plxs n rs).length ≤ 333 * rs.length
  | [], _, _ => by simp [plxs]
  | r :: rs, n, h => by
    have h1 := pthss_cnt r.1 [] 0
    have h2 := h r List.mem_cons_self
    have h3 := plxs_len (rs := rs) (n := n + 1) fun r hr => h r (List.mem_cons_of_mem _ hr)
    rw [plxs, List.length_append, plOf_len, List.length_cons]
    omega
theorem PgB.len {p : Prog} (h : PgB p) : p.plx.length ≤ 333 * p.rs.length := plxs_len fun r hr => (h.w r hr).1
/-! ### met -/
def rdF : Rdg → Bool
  | .b false => false
  | _ => true
def metF (x : Pat) (ys : List Plc) : List Plc := ys.filter fun y => rdF (y.2.2.rdg y.1 x)
def metD (x : Pat) (y : Plc) : D := .tup [plD y, (y.2.2.rdg y.1 x).d]
def Prog.met (p : Prog) (x : Pat) : List Plc := metF x p.plx
theorem metF_app (x : Pat) (a b : List Plc) : metF x (a ++ b) = metF x a ++ metF x b := by simp [metF]
theorem metF_y {x : Pat} {y : Plc} (h : rdF (y.2.2.rdg y.1 x) = true) : metF x [y] = [y] := by simp [metF, h]
theorem metF_n {x : Pat} {y : Plc} (h : rdF (y.2.2.rdg y.1 x) = false) : metF x [y] = [] := by simp [metF, h]
theorem metF_le (x : Pat) (ys : List Plc) : (metF x ys).length ≤ ys.length := List.length_filter_le _ _
/-- what is left is no wider -/
theorem Row.rdg_w {row : Row} {r : Int} : ∀ {p q : Pat}, row.rdg r p = .p q → wD q.d ≤ wD p.d ∧ dD q.d ≤ dD p.d := by
  intro p
  induction p with
  | within ns => intro q h; cases h
  | calls ns => intro q h; cases h
  | reads ns => intro q h; cases h
  | writes ns => intro q h; cases h
  | under ns =>
    intro q h
    simp only [Row.rdg] at h
    split at h
    · cases h
    · split at h
      · cases h
      · cases h; exact ⟨Nat.le_refl _, Nat.le_refl _⟩
  | goes a b =>
    intro q h
    simp only [Row.rdg] at h
    split at h
    · cases h
    · split at h
      · cases h
      · cases h; exact ⟨Nat.le_refl _, Nat.le_refl _⟩
  | both p1 p2 i1 i2 =>
    intro q h
    simp only [Row.rdg] at h
    simp only [Pat.d, wD, wDs, dD, dDs]
    cases e1 : row.rdg r p1 with
    | b x =>
      rw [e1] at h
      cases e2 : row.rdg r p2 with
      | b y => rw [e2] at h; cases x <;> cases y <;> cases h
      | p y =>
        rw [e2] at h
        cases x with
        | false => cases h
        | true => cases h; have := i2 e2; omega
    | p x =>
      rw [e1] at h
      have a1 := i1 e1
      cases e2 : row.rdg r p2 with
      | b y =>
        rw [e2] at h
        cases y with
        | false => cases h
        | true => cases h; omega
      | p y =>
        rw [e2] at h
        cases h
        have a2 := i2 e2
        simp only [Pat.d, wD, wDs, dD, dDs]
        omega
  | either p1 p2 i1 i2 =>
    intro q h
    simp only [Row.rdg] at h
    simp only [Pat.d, wD, wDs, dD, dDs]
    cases e1 : row.rdg r p1 with
    | b x =>
      rw [e1] at h
      cases e2 : row.rdg r p2 with
      | b y => rw [e2] at h; cases x <;> cases y <;> cases h
      | p y =>
        rw [e2] at h
        cases x with
        | true => cases h
        | false => cases h; have := i2 e2; omega
    | p x =>
      rw [e1] at h
      have a1 := i1 e1
      cases e2 : row.rdg r p2 with
      | b y =>
        rw [e2] at h
        cases y with
        | true => cases h
        | false => cases h; omega
      | p y =>
        rw [e2] at h
        cases h
        have a2 := i2 e2
        simp only [Pat.d, wD, wDs, dD, dDs]
        omega
  | not p1 i1 =>
    intro q h
    simp only [Row.rdg] at h
    simp only [Pat.d, wD, wDs, dD, dDs]
    cases e1 : row.rdg r p1 with
    | b x => rw [e1] at h; cases h
    | p x =>
      rw [e1] at h
      cases h
      have a1 := i1 e1
      simp only [Pat.d, wD, wDs, dD, dDs]
      omega
theorem Rdg.w {row : Row} {r : Int} {p : Pat} : wD (row.rdg r p).d ≤ wD p.d + 6 ∧ dD (row.rdg r p).d ≤ dD p.d := by
  cases e : row.rdg r p with
  | b x => refine ⟨?_, ?_⟩ <;> simp [Rdg.d, wD, dD]
  | p x => have := Row.rdg_w e; exact ⟨by show wD x.d ≤ _; omega, this.2⟩
/-! paths' numbers are small -/
mutual
theorem pths_sm : ∀ (r : Row) (here : List Int) (B : Int), (∀ i ∈ here, 0 ≤ i ∧ i < B) → (wD r.d : Int) < B → 2 ≤ B → ∀ x ∈ Row.pths here r, ∀ i ∈ x.1, 0 ≤ i ∧ i < B
  | .whn e a b, here, B, h, hb, h2, x, hx => by
    rw [Row.pths] at hx
    rw [Row.d_whn, wD, wDs, wDs, wDs, wDs, wDs, wD_rws, wD_rws] at hb
    rcases List.mem_append.mp hx with hx | hx
    · exact pthss_sm a (here ++ [0]) 0 B (fun i hi => by rcases List.mem_append.mp hi with hi | hi; exact h i hi; rw [List.mem_singleton.mp hi]; omega) (by push_cast; omega) h2 x hx
    · exact pthss_sm b (here ++ [1]) 0 B (fun i hi => by rcases List.mem_append.mp hi with hi | hi; exact h i hi; rw [List.mem_singleton.mp hi]; omega) (by push_cast; omega) h2 x hx
  | .wove w k rs, here, B, h, hb, h2, x, hx => by
    rw [Row.pths] at hx
    rw [Row.d_wove, wD, wDs, wDs, wDs, wDs, wDs, wD_rws] at hb
    exact pthss_sm rs (here ++ [0]) 0 B (fun i hi => by rcases List.mem_append.mp hi with hi | hi; exact h i hi; rw [List.mem_singleton.mp hi]; omega) (by push_cast; omega) h2 x hx
  | .put _ _, here, _, _, _, _, x, hx => by rw [Row.pths] at hx; cases hx
  | .read _ _, here, _, _, _, _, x, hx => by rw [Row.pths] at hx; cases hx
  | .write _ _, here, _, _, _, _, x, hx => by rw [Row.pths] at hx; cases hx
  | .call _ _ _, here, _, _, _, _, x, hx => by rw [Row.pths] at hx; cases hx
  | .tell _, here, _, _, _, _, x, hx => by rw [Row.pths] at hx; cases hx
  | .look _ _, here, _, _, _, _, x, hx => by rw [Row.pths] at hx; cases hx
  | .note _ _, here, _, _, _, _, x, hx => by rw [Row.pths] at hx; cases hx
  | .go _ _, here, _, _, _, _, x, hx => by rw [Row.pths] at hx; cases hx
theorem pthss_sm : ∀ (rs : List Row) (ahead : List Int) (n : Nat) (B : Int), (∀ i ∈ ahead, 0 ≤ i ∧ i < B) → ((n + wDs (rs.map Row.d) : Nat) : Int) < B → 2 ≤ B → ∀ x ∈ Row.pthss ahead n rs, ∀ i ∈ x.1, 0 ≤ i ∧ i < B
  | [], _, _, _, _, _, _, x, hx => by rw [Row.pthss] at hx; cases hx
  | r :: rs, ahead, n, B, h, hb, h2, x, hx => by
    rw [Row.pthss] at hx
    rw [List.map_cons, wDs] at hb
    have h0 : ∀ i ∈ ahead ++ [(n : Int)], 0 ≤ i ∧ i < B := fun i hi => by
      rcases List.mem_append.mp hi with hi | hi
      · exact h i hi
      · rw [List.mem_singleton.mp hi]; omega
    rcases List.mem_cons.mp hx with rfl | hx
    · exact h0
    · rcases List.mem_append.mp hx with hx | hx
      · exact pths_sm r _ B h0 (by omega) h2 x hx
      · exact pthss_sm rs ahead (n + 1) B h (by omega) h2 x hx
end
theorem mt_w {p : Prog} {x : Pat} {y : Plc} (hp : PgB p) (hy : y ∈ p.plx) : wD (metD x y) ≤ 700 + wD x.d ∧ dD (metD x y) ≤ 3 + dD x.d := by
  obtain ⟨rt, h1, h2, _⟩ := p.plx_mem hy
  obtain ⟨w1, w2⟩ := hp.w rt (List.mem_of_getElem? h1)
  have hl : y.1 < p.rs.length := (List.getElem?_eq_some_iff.mp h1).1
  have hn := hp.n
  have pl := pthss_plen _ _ _ _ h2
  rw [dD_rws] at w2
  simp only [List.length_nil] at pl
  have sm := pthss_sm rt.1 [] 0 50000 (fun _ h => by cases h) (by push_cast; omega) (by decide) y.2 h2
  have e1 : wDs (y.2.1.map .int) = 64 * y.2.1.length := wDs_ints _ fun i hi => by have := sm i hi; omega
  have e2 : dDs (y.2.1.map .int) = 0 := dDs_ints _
  have e3 : wD (.int (y.1 : Int)) = 62 := wD_int (by omega)
  obtain ⟨r1, r2⟩ := Rdg.w (row := y.2.2) (r := y.1) (p := x)
  have a1 : wD (tns y.2.1) = 64 * y.2.1.length + 4 := by rw [tns, wD, e1]
  have a2 : dD (tns y.2.1) = 1 := by rw [tns, dD, e2]
  have b1 : wD (plD y) = 62 + 2 + (wD (tns y.2.1) + 2 + 0) + 4 := by rw [plD, wD, wDs, wDs, wDs, e3]
  have b2 : dD (plD y) = max 0 (max (dD (tns y.2.1)) 0) + 1 := by
    have : dD (.int (y.1 : Int)) = 0 := by simp [dD]
    rw [plD, dD, dDs, dDs, dDs, this]
  rw [metD, wD, wDs, wDs, wDs, dD, dDs, dDs, dDs, b1, b2, a1, a2]
  omega
theorem wDs_bd {m : Nat} : ∀ {xs : List D}, (∀ d ∈ xs, wD d ≤ m) → wDs xs ≤ xs.length * (m + 2)
  | [], _ => by simp [wDs]
  | x :: xs, h => by
    have h1 := wDs_bd fun d hd => h d (List.mem_cons_of_mem _ hd)
    have h2 := h x List.mem_cons_self
    rw [wDs, List.length_cons, Nat.add_mul]
    omega
theorem dDs_bd {m : Nat} : ∀ {xs : List D}, (∀ d ∈ xs, dD d ≤ m) → dDs xs ≤ m
  | [], _ => by simp [dDs]
  | x :: xs, h => by
    have h1 := dDs_bd fun d hd => h d (List.mem_cons_of_mem _ hd)
    have h2 := h x List.mem_cons_self
    rw [dDs]; omega
theorem met_w {p : Prog} {x : Pat} {W : Nat} (hp : PgB p) (hw : wD x.d ≤ W) (hb : 333 * p.rs.length * (W + 702) + 4 ≤ 10 ^ 7) (hd : dD x.d ≤ 60) : wD (.lst ((p.met x).map (metD x))) ≤ 10 ^ 7 ∧ dD (.lst ((p.met x).map (metD x))) ≤ 150 := by
  have sub : ∀ y ∈ p.met x, y ∈ p.plx := fun y hy => (List.mem_filter.mp hy).1
  have a := wDs_bd (m := 700 + W) (xs := (p.met x).map (metD x)) fun d hd => by
    obtain ⟨y, hy, rfl⟩ := List.mem_map.mp hd
    have := (mt_w (x := x) hp (sub y hy)).1
    omega
  have b := dDs_bd (m := 63) (xs := (p.met x).map (metD x)) fun d hd' => by
    obtain ⟨y, hy, rfl⟩ := List.mem_map.mp hd'
    have := (mt_w (x := x) hp (sub y hy)).2
    omega
  have c : (p.met x).length ≤ 333 * p.rs.length := Nat.le_trans (metF_le _ _) hp.len
  rw [List.length_map] at a
  have d := Nat.mul_le_mul_right (700 + W + 2) c
  rw [wD, dD]
  rw [show W + 702 = 700 + W + 2 by omega] at hb
  omega
theorem sub_own {S S' : Sto} {n : Nat} (hn : S n = none) (s : ∀ m, m ≠ n → S' m = S m) : Sub S S' := fun m o h => by
  by_cases e : m = n
  · subst e; rw [hn] at h; cases h
  · rw [s m e]; exact h
/-! ### a great program -/
def grR (i : Nat) : Rtn := ([.whn .inn [.call 0 (7 - i) (.op .less .inn (.num 1)), .write (i % 6) (.at_ 0), .read 1 5] []], .op .plus (.at_ 0) (.at_ 1))
theorem grR_d (i : Nat) : [grR i].map rtD = [D.tup [.tup [.tup [.str "when", .tup [.str "in"], .tup [.tup [.str "call", .int 0, .int (7 - i), .tup [.str "less", .tup [.str "in"], .tup [.str "num", .int 1]]], .tup [.str "write", .int (i % 6), .tup [.str "at", .int 0]], .tup [.str "read", .int 1, .int 5]], .tup []]], .tup [.str "plus", .tup [.str "at", .int 0], .tup [.str "at", .int 1]]]] := by
  simp [grR, rtD, rwsD, Row.d_whn, Row.d_call, Row.d_write, Row.d_read, Ex.d, W6.s]
def grP : Prog := ⟨[0, 1, 2, 3, 4, 999999], (List.range 8).map grR⟩
theorem grP_b : PgB grP := ⟨by decide, by
  have h : ∀ i ∈ List.range 8, wDs ((grR i).1.map Row.d) ≤ 40000 ∧ dD (rwsD (grR i).1) ≤ 9 := by decide +kernel
  intro r hr
  obtain ⟨i, hi, rfl⟩ := List.mem_map.mp hr
  exact h i hi⟩
theorem gr_pats : ∀ y ∈ ([.under [4, 7], .calls [0, 3, 6], .writes [5], .reads [5], .within [5, 7]] : List Pat), y.Ok 6 8 ∧ wD y.d ≤ 1000 ∧ dD y.d ≤ 10 := by
  have h : ∀ y ∈ ([.under [4, 7], .calls [0, 3, 6], .writes [5], .reads [5], .within [5, 7]] : List Pat), wD y.d ≤ 1000 ∧ dD y.d ≤ 10 := by decide +kernel
  intro y hy
  refine ⟨?_, h y hy⟩
  simp only [List.mem_cons, List.not_mem_nil, or_false] at hy
  rcases hy with rfl | rfl | rfl | rfl | rfl <;> simp [Pat.Ok, Nums]
/-- not both it and never -/
theorem negp {x : Pat} {c n : Nat} (ox : x.Ok c n) (xw : wD x.d ≤ 3100) (xd : dD x.d ≤ x.dep + 2 ∧ x.dep ≤ 2) : ∃ z : Pat, (D.tup [.str "not", .tup [.str "both", x.d, .tup [.str "calls", .tup []]]]) = z.d ∧ z.Ok c n ∧ wD z.d ≤ 3500 ∧ dD z.d ≤ 10 := by
  refine ⟨.not (.both x (.calls [])), rfl, ⟨ox, by simp [Pat.Ok, Nums]⟩, ?_, ?_⟩
  · have a : wD (.str "not") = 32 := by decide +kernel
    have b : wD (.str "both") = 42 := by decide +kernel
    have c : wD (.str "calls") = 52 := by decide +kernel
    simp only [Pat.d, List.map_nil, tns]
    simp only [wD, wDs] at a b c ⊢
    simp only [a, b, c]
    omega
  · simp only [Pat.d, List.map_nil, tns, dD, dDs]
    omega
theorem isi_locL {S : Sto} {n : Nat} {xs : List D} {q : Q1} (h : S n = some (.lst xs)) (k : q (.bl true) S) : IsiW S (.loc n) 4 q := ⟨true, by unfold isiD; rw [show kindD S (.loc n) = some "list" by simp only [kindD, h]]; decide, k⟩
end Mi
set_option maxHeartbeats 1000000
/-! XQ: bent things. -/
namespace Mi
open PySem
mutual
/-- plain, nothing longer than n -/
def jL (n : Nat) : D → Bool
  | .non => true
  | .bl _ => true
  | .int i => decide (i.natAbs ≤ 10 ^ 8 + n)
  | .str x => decide (x.length ≤ n) && PyData.strOk x
  | .tup xs => decide (xs.length ≤ n) && jLs n xs
  | .lst xs => decide (xs.length ≤ n) && jLs n xs
  | _ => false
def jLs (n : Nat) : List D → Bool
  | [] => true
  | x :: xs => jL n x && jLs n xs
end
theorem jLs_all {n : Nat} : ∀ {xs : List D}, jLs n xs = true ↔ ∀ x ∈ xs, jL n x = true
  | [] => by simp [jLs]
  | x :: xs => by rw [jLs, Bool.and_eq_true, jLs_all (xs := xs)]; simp
theorem jL_tup {n : Nat} {xs : List D} : jL n (.tup xs) = true ↔ xs.length ≤ n ∧ ∀ x ∈ xs, jL n x = true := by
  rw [jL, Bool.and_eq_true, decide_eq_true_eq, jLs_all]
theorem jL_lst {n : Nat} {xs : List D} : jL n (.lst xs) = true ↔ xs.length ≤ n ∧ ∀ x ∈ xs, jL n x = true := by
  rw [jL, Bool.and_eq_true, decide_eq_true_eq, jLs_all]
theorem jL_str {n : Nat} {x : Str} : jL n (.str x) = true ↔ x.length ≤ n ∧ PyData.strOk x = true := by
  rw [jL, Bool.and_eq_true, decide_eq_true_eq]
theorem jL_int {n : Nat} {i : Int} : jL n (.int i) = true ↔ i.natAbs ≤ 10 ^ 8 + n := by
  rw [jL, decide_eq_true_eq]
mutual
theorem jL_mono {n m : Nat} (h : n ≤ m) : ∀ {d : D}, jL n d = true → jL m d = true
  | .non, _ => rfl
  | .bl _, _ => rfl
  | .int i, e => by rw [jL_int] at e ⊢; omega
  | .str x, e => by rw [jL_str] at e ⊢; exact ⟨Nat.le_trans e.1 h, e.2⟩
  | .tup xs, e => by rw [jL, Bool.and_eq_true, decide_eq_true_eq] at e ⊢; exact ⟨Nat.le_trans e.1 h, jLs_mono h e.2⟩
  | .lst xs, e => by rw [jL, Bool.and_eq_true, decide_eq_true_eq] at e ⊢; exact ⟨Nat.le_trans e.1 h, jLs_mono h e.2⟩
  | .scr _, e => by cases e
  | .loc _, e => by cases e
  | .kd _ _, e => by cases e
theorem jLs_mono {n m : Nat} (h : n ≤ m) : ∀ {xs : List D}, jLs n xs = true → jLs m xs = true
  | [], _ => rfl
  | x :: xs, e => by rw [jLs, Bool.and_eq_true] at e ⊢; exact ⟨jL_mono h e.1, jLs_mono h e.2⟩
end
mutual
theorem jL_jk {n : Nat} (h : n ≤ 60) : ∀ {d : D}, jL n d = true → jk d = true
  | .non, _ => rfl
  | .bl _, _ => rfl
  | .int i, _ => rfl
  | .str x, e => by rw [jL_str] at e; rw [jk, decide_eq_true_eq]; omega
  | .tup xs, e => by rw [jL, Bool.and_eq_true, decide_eq_true_eq] at e; rw [jk, Bool.and_eq_true, decide_eq_true_eq]; exact ⟨by omega, jLs_jks h e.2⟩
  | .lst xs, e => by rw [jL, Bool.and_eq_true, decide_eq_true_eq] at e; rw [jk, Bool.and_eq_true, decide_eq_true_eq]; exact ⟨by omega, jLs_jks h e.2⟩
  | .scr _, e => by cases e
  | .loc _, e => by cases e
  | .kd _ _, e => by cases e
theorem jLs_jks {n : Nat} (h : n ≤ 60) : ∀ {xs : List D}, jLs n xs = true → jks xs = true
  | [], _ => rfl
  | x :: xs, e => by rw [jLs, Bool.and_eq_true] at e; rw [jks, Bool.and_eq_true]; exact ⟨jL_jk h e.1, jLs_jks h e.2⟩
end
theorem cut_mem {α : Type} {xs : List α} {lo hi : Option Int} {x : α} (h : x ∈ cutD xs lo hi) : x ∈ xs := List.mem_of_mem_drop (List.mem_of_mem_take h)
theorem cut_len {α : Type} (xs : List α) (lo hi : Option Int) : (cutD xs lo hi).length ≤ xs.length := by
  rw [cutD, List.length_take, List.length_drop]; omega
theorem jL_cut {n : Nat} {xs : List D} {lo hi : Option Int} (h : jL n (.tup xs) = true) : jL n (.tup (cutD xs lo hi)) = true := by
  rw [jL_tup] at h ⊢
  exact ⟨Nat.le_trans (cut_len _ _ _) h.1, fun x hx => h.2 x (cut_mem hx)⟩
theorem strOk_cut {z : Str} {lo hi : Option Int} (h : PyData.strOk z = true) : PyData.strOk (L2.cutS z lo hi) = true := by
  unfold PyData.strOk at h ⊢
  rw [← Array.all_toList] at h ⊢
  rw [L2.cutS, List.all_eq_true]
  rw [List.all_eq_true] at h
  exact fun x hx => h x (List.mem_of_mem_drop (List.mem_of_mem_take (by simpa using hx)))
theorem Pat.jL {c r : Nat} (hc : c ≤ 8) (hr : r ≤ 8) : ∀ {p : Pat}, p.Ok c r → Mi.jL 10 p.d = true := by
  intro p
  have one : ∀ (w : Str) (ns : List Int) (m : Nat), Mi.jL 10 (.str w) = true → m ≤ 8 → Nums m ns → Mi.jL 10 (.tup [.str w, tns ns]) = true := fun w ns m hw hm h => by
    have := h.len
    refine jL_tup.mpr ⟨by simp, fun x hx => ?_⟩
    simp only [List.mem_cons, List.not_mem_nil, or_false] at hx
    rcases hx with rfl | rfl
    · exact hw
    · refine jL_tup.mpr ⟨by rw [List.length_map]; omega, fun x hx => ?_⟩
      obtain ⟨i, hi, rfl⟩ := List.mem_map.mp hx
      have := h.2 i hi
      exact jL_int.mpr (by omega)
  have two : ∀ (w : Str) (x y : D), Mi.jL 10 (.str w) = true → Mi.jL 10 x = true → Mi.jL 10 y = true → Mi.jL 10 (.tup [.str w, x, y]) = true := fun w x y h1 h2 h3 => by
    refine jL_tup.mpr ⟨by simp, fun z hz => ?_⟩
    simp only [List.mem_cons, List.not_mem_nil, or_false] at hz
    rcases hz with rfl | rfl | rfl
    · exact h1
    · exact h2
    · exact h3
  induction p with
  | calls ns => exact fun h => one _ ns r (by decide +kernel) hr h
  | within ns => exact fun h => one _ ns r (by decide +kernel) hr h
  | under ns => exact fun h => one _ ns r (by decide +kernel) hr h
  | reads ns => exact fun h => one _ ns c (by decide +kernel) hc h
  | writes ns => exact fun h => one _ ns c (by decide +kernel) hc h
  | goes a b =>
    rintro ⟨⟨a0, a1⟩, ⟨b0, b1⟩, _⟩
    exact two _ _ _ (by decide +kernel) (jL_int.mpr (by omega)) (jL_int.mpr (by omega))
  | both p q ip iq => exact fun h => two _ _ _ (by decide +kernel) (ip h.1) (iq h.2)
  | either p q ip iq => exact fun h => two _ _ _ (by decide +kernel) (ip h.1) (iq h.2)
  | not p ip =>
    intro h
    refine jL_tup.mpr ⟨by simp, fun x hx => ?_⟩
    simp only [List.mem_cons, List.not_mem_nil, or_false] at hx
    rcases hx with rfl | rfl
    · decide +kernel
    · exact ip h
/-- what bending leaves: w is how wide, m how deep -/
structure Bent (n w m : Nat) (d : D) : Prop where
  j : jL n d = true
  w : wD d ≤ w
  d : dD d ≤ m
theorem wD_pos : ∀ d : D, 2 ≤ wD d
  | .non => by decide
  | .bl _ => by show 2 ≤ 6; decide
  | .int i => by rw [wD]; split <;> omega
  | .str x => by rw [wD]; split <;> omega
  | .tup xs => by rw [wD]; omega
  | .lst xs => by rw [wD]; omega
  | .scr _ => by rw [wD]; omega
  | .loc _ => by rw [wD]; omega
  | .kd _ _ => by rw [wD]; omega
theorem dD_mem' {xs : List D} {d : D} (h : d ∈ xs) : dD d + 1 ≤ dD (.tup xs) := by
  rw [dD]; have := dD_mem h; omega
/-! are numbers -/
theorem pw_ext : ∀ {a b : List Int}, a.Pairwise (· < ·) → b.Pairwise (· < ·) → (∀ x, x ∈ a ↔ x ∈ b) → a = b
  | [], [], _, _, _ => rfl
  | [], y :: ys, _, _, h => absurd ((h y).mpr List.mem_cons_self) (by simp)
  | x :: xs, [], _, _, h => absurd ((h x).mp List.mem_cons_self) (by simp)
  | x :: xs, y :: ys, ha, hb, h => by
    obtain ⟨a1, a2⟩ := List.pairwise_cons.mp ha
    obtain ⟨b1, b2⟩ := List.pairwise_cons.mp hb
    have e : x = y := by
      rcases List.mem_cons.mp ((h x).mp List.mem_cons_self) with e | e
      · exact e
      · rcases List.mem_cons.mp ((h y).mpr List.mem_cons_self) with e' | e'
        · exact e'.symm
        · have := b1 x e
          have := a1 y e'
          omega
    subst e
    congr 1
    refine pw_ext a2 b2 fun z => ⟨fun hz => ?_, fun hz => ?_⟩
    · rcases List.mem_cons.mp ((h z).mp (List.mem_cons_of_mem _ hz)) with e | e
      · have := a1 z hz; omega
      · exact e
    · rcases List.mem_cons.mp ((h z).mpr (List.mem_cons_of_mem _ hz)) with e | e
      · have := b1 z hz; omega
      · exact e
/-- those of 0 .. i that are in ns -/
def inU (ns : List Int) (i : Nat) : List Int := ((List.range i).map fun (j : Nat) => (j : Int)).filter fun j => decide (j ∈ ns)
theorem inU_succ (ns : List Int) (i : Nat) : inU ns (i + 1) = inU ns i ++ (if (i : Int) ∈ ns then [(i : Int)] else []) := by
  unfold inU
  rw [List.range_succ, List.map_append, List.filter_append]
  simp only [List.map_cons, List.map_nil, List.filter_cons, List.filter_nil, decide_eq_true_eq]
theorem inU_len (ns : List Int) (i : Nat) : (inU ns i).length ≤ i := by
  refine Nat.le_trans (List.length_filter_le _ _) ?_
  rw [List.length_map, List.length_range]; exact Nat.le_refl _
theorem inU_pw (ns : List Int) : ∀ i, (inU ns i).Pairwise (· < ·) ∧ ∀ x ∈ inU ns i, x < i
  | 0 => by simp [inU]
  | i + 1 => by
    obtain ⟨a, b⟩ := inU_pw ns i
    rw [inU_succ]
    refine ⟨List.pairwise_append.mpr ⟨a, by split <;> simp, fun x hx y hy => ?_⟩, fun x hx => ?_⟩
    · split at hy
      · rw [List.mem_singleton.mp hy]; exact b x hx
      · cases hy
    · rcases List.mem_append.mp hx with h | h
      · have := b x h; push_cast; omega
      · split at h
        · rw [List.mem_singleton.mp h]; push_cast; omega
        · cases h
theorem inU_eq {ns : List Int} {m : Nat} (h : ∀ x ∈ ns, 0 ≤ x ∧ x < m) : decide (inU ns m = ns) = rising ns := by
  have hm : ∀ x, x ∈ inU ns m ↔ x ∈ ns := fun x => by
    unfold inU
    rw [List.mem_filter, decide_eq_true_eq]
    refine ⟨fun h => h.2, fun hx => ⟨?_, hx⟩⟩
    obtain ⟨h0, h1⟩ := h x hx
    exact List.mem_map.mpr ⟨x.toNat, List.mem_range.mpr (by omega), by omega⟩
  rw [Bool.eq_iff_iff, decide_eq_true_eq, rising_iff]
  exact ⟨fun e => e ▸ (inU_pw ns m).1, fun p => pw_ext (inU_pw ns m).1 p hm⟩
/-! words and lengths -/
section
variable {S : Sto} {q : Q1} {qb : Bool → Prop} {w : Str} {i : Int}
theorem eqv_pair (a w : Str) (j i : Int) : PyData.eqv (.tuple [.str a, .int j]) (.tuple [.str w, .int i]) = decide (a = w ∧ j = i) := by
  simp only [PyData.eqv, PyData.eqvAll, Bool.and_true]
  by_cases h1 : a = w <;> by_cases h2 : j = i <;> simp [h1, h2]
def prD (z : Str × Int) : D := .tup [.str z.1, .int z.2]
theorem pds_prs : ∀ zs : List (Str × Int), pds (zs.map prD) = some (zs.map fun z => .tuple [.str z.1, .int z.2])
  | [] => rfl
  | z :: zs => by rw [List.map_cons, pds, pds_prs zs]; rfl
theorem lay_prs : ∀ zs : List (Str × Int), (∀ z ∈ zs, PyData.strOk z.1 = true) → PyData.canLayAll0 (zs.map fun z => PyData.tuple [.str z.1, .int z.2]) = true
  | [], _ => rfl
  | z :: zs, h => by
    rw [List.map_cons, PyData.canLayAll0, lay_prs zs fun y hy => h y (List.mem_cons_of_mem _ hy)]
    simp only [PyData.canLay0, PyData.canLayAll0, h z List.mem_cons_self, Bool.and_true]
theorem any_prs : ∀ zs : List (Str × Int), ((zs.map fun z => PyData.tuple [.str z.1, .int z.2]).any fun z => PyData.eqv z (.tuple [.str w, .int i])) = decide ((w, i) ∈ zs)
  | [] => by simp
  | (a, j) :: zs => by
    rw [List.map_cons, List.any_cons, any_prs zs]
    show (PyData.eqv _ _ || _) = _
    rw [eqv_pair]
    by_cases h1 : a = w
    · subst h1
      by_cases h2 : j = i
      · subst h2; simp
      · have h3 : ¬ i = j := fun e => h2 e.symm
        simp [h2, h3]
    · have h3 : ¬ w = a := fun e => h1 e.symm
      simp [h1, h3]
theorem in_prs {zs : List (Str × Int)} (hz : ∀ z ∈ zs, PyData.strOk z.1 = true) (hw : PyData.strOk w = true) (k : qb (decide ((w, i) ∈ zs))) : CmpW .in_ S (.tup [.str w, .int i]) (.tup (zs.map prD)) qb := ⟨_, by
  show inF (.tup [.str w, .int i]) (zs.map prD) = some (decide ((w, i) ∈ zs))
  unfold inF
  rw [show flatD (.tup [.str w, .int i]) = false from rfl, Bool.false_and, if_neg (by decide)]
  unfold inP
  rw [pds_prs]
  show (if (PyData.tuple [.str w, .int i]).canLay0 && PyData.canLayAll0 _ && decide ((PyData.tuple [.str w, .int i]).depth ≤ 150) then some (List.any _ _) else none) = _
  rw [lay_prs zs hz, show (PyData.tuple [.str w, .int i]).canLay0 = true by simp only [PyData.canLay0, PyData.canLayAll0, hw, Bool.and_true], show decide ((PyData.tuple [.str w, .int i]).depth ≤ 150) = true from rfl, if_pos (by decide)]
  congr 1
  exact any_prs zs, k⟩
end
section
variable {S : Sto} {q : Q1} {qb : Bool → Prop} {i j : Int}
theorem in_tupI {ns : List Int} (k : qb (decide (i ∈ ns))) : CmpW .in_ S (.int i) (.tup (ns.map .int)) qb := in_tns k
theorem sl_strW {z : Str} {lo hi : Option Int} (h : z.length ≤ sizeLine) (k : q (.str (L2.cutS z lo hi)) S) : SlW S (.str z) lo hi q := ⟨_, if_pos h, k⟩
theorem nin_1n (k : qb true) : CmpW .in_ S .non (.lst [.non]) qb := ⟨_, rfl, k⟩
theorem nin_1i (k : qb false) : CmpW .in_ S .non (.lst [.int i]) qb := ⟨_, rfl, k⟩
theorem nin_2nn (k : qb true) : CmpW .in_ S .non (.lst [.non, .non]) qb := ⟨_, rfl, k⟩
theorem nin_2ni (k : qb true) : CmpW .in_ S .non (.lst [.non, .int i]) qb := ⟨_, rfl, k⟩
theorem nin_2in (k : qb true) : CmpW .in_ S .non (.lst [.int i, .non]) qb := ⟨_, rfl, k⟩
theorem nin_2ii (k : qb false) : CmpW .in_ S .non (.lst [.int i, .int j]) qb := ⟨_, rfl, k⟩
theorem sum_1 (k : q (.int i) S) : BifW .sum S [.lst [.int i]] q := ⟨.int ([i].sum), rfl, by simpa using k⟩
theorem sum_2 (k : q (.int (i + j)) S) : BifW .sum S [.lst [.int i, .int j]] q := ⟨.int ([i, j].sum), rfl, by simpa using k⟩
end
theorem numsD_bad {m : Nat} {xs : List D} {y : D} (hy : y ∈ xs) (h : ∀ i, y = .int i → ¬ (0 ≤ i ∧ i < m)) : numsD m (.tup xs) = false := by
  rw [numsD]
  cases e : intsD xs with
  | none => rfl
  | some ns =>
    rw [intsD_eq e] at hy
    obtain ⟨i, hi, rfl⟩ := List.mem_map.mp hy
    have h1 := h i rfl
    have h2 : (ns.all fun x => decide (0 ≤ x) && decide (x < m)) = false := by
      rw [← Bool.not_eq_true, List.all_eq_true]
      intro z
      have := z i hi
      rw [Bool.and_eq_true, decide_eq_true_eq, decide_eq_true_eq] at this
      exact h1 this
    simp only [h2, Bool.and_false]
theorem numsD_good {m : Nat} {ns : List Int} (h : ∀ x ∈ ns, 0 ≤ x ∧ x < m) : numsD m (.tup (ns.map .int)) = rising ns := by
  rw [numsD, intsD_map]
  have h2 : (ns.all fun x => decide (0 ≤ x) && decide (x < m)) = true := by
    rw [List.all_eq_true]
    intro x hx
    rw [Bool.and_eq_true, decide_eq_true_eq, decide_eq_true_eq]
    exact h x hx
  simp only [h2, Bool.and_true]
def ptO (n : Nat) : D := if n = 0 then .non else .int n
theorem partsF_tup' {c r n : Nat} {w : Str} {xs : List D} (h1 : ¬ ((w = "both" ∨ w = "either") ∧ xs.length = 2)) (h2 : ¬ (w = "not" ∧ xs.length = 1)) : partsF c r (n + 1) (.tup (.str w :: xs)) = if singleB c r w xs = true then 1 else 0 := by
  match xs, h1, h2 with
  | [], _, _ => rfl
  | [x], _, h2 =>
    show (if w = "not" then _ else (if singleB c r w [x] = true then 1 else 0)) = _
    rw [if_neg (fun z => h2 ⟨z, rfl⟩)]
  | [x, y], h1, _ =>
    show (if w = "both" ∨ w = "either" then _ else (if singleB c r w [x, y] = true then 1 else 0)) = _
    rw [if_neg (fun z => h1 ⟨z, rfl⟩)]
  | x :: y :: z :: zs, _, _ => rfl
/-! odd ones -/
theorem mem_rep {n : Nat} {l : List D} {x : D} (h : x ∈ (List.replicate n l).flatten) : x ∈ l := by
  obtain ⟨l', h1, h2⟩ := List.mem_flatten.mp h
  rw [(List.mem_replicate.mp h1).2] at h2
  exact h2
theorem Bent.mono {n w m n' w' m' : Nat} {d : D} (h : Bent n w m d) (h1 : n ≤ n') (h2 : w ≤ w') (h3 : m ≤ m') : Bent n' w' m' d := ⟨jL_mono h1 h.j, Nat.le_trans h.w h2, Nat.le_trans h.d h3⟩
def oddB : List D := [.non, .bl true, .bl false, .int (-1), .int 0, .int 1, .int 9, .int 10, .int 999999, .int 1000000, .str "", .str "in", .str "out", .str "not", .tup [], .lst [], .tup [.str "in"], .tup [.str "out"]]
def oddW : List D := [.str "calls", .str "under", .str "goes", .str "both", .str "ahead", .str "around", .str "behind", .str "go", .str "tell", .str "put", .str "look", .str "over"]
theorem oddB_ok : ∀ x ∈ oddB, Bent 10 100 1 x := by
  have h : ∀ x ∈ oddB, jL 10 x = true ∧ wD x ≤ 100 ∧ dD x ≤ 1 := by decide +kernel
  exact fun x hx => ⟨(h x hx).1, (h x hx).2.1, (h x hx).2.2⟩
theorem oddW_ok : ∀ x ∈ oddW, Bent 10 100 1 x := by
  have h : ∀ x ∈ oddW, jL 10 x = true ∧ wD x ≤ 100 ∧ dD x ≤ 1 := by decide +kernel
  exact fun x hx => ⟨(h x hx).1, (h x hx).2.1, (h x hx).2.2⟩
section
variable {n w m : Nat} {xs : List D}
theorem bent_tup (h : Bent n w m (.tup xs)) : xs.length ≤ n ∧ (∀ x ∈ xs, jL n x = true) ∧ wDs xs + 4 ≤ w ∧ dDs xs + 1 ≤ m := by
  obtain ⟨a, b⟩ := jL_tup.mp h.j
  have c := h.w
  have d := h.d
  rw [wD] at c
  rw [dD] at d
  exact ⟨a, b, c, d⟩
theorem bent_of {ys : List D} (h1 : ys.length ≤ n) (h2 : ∀ x ∈ ys, jL n x = true) (h3 : wDs ys + 4 ≤ w) (h4 : dDs ys + 1 ≤ m) : Bent n w m (.tup ys) := ⟨jL_tup.mpr ⟨h1, h2⟩, by rw [wD]; exact h3, by rw [dD]; exact h4⟩
theorem bent_ofL {ys : List D} (h1 : ys.length ≤ n) (h2 : ∀ x ∈ ys, jL n x = true) (h3 : wDs ys + 4 ≤ w) (h4 : dDs ys + 1 ≤ m) : Bent n w m (.lst ys) := ⟨jL_lst.mpr ⟨h1, h2⟩, by rw [wD]; exact h3, by rw [dD]; exact h4⟩
theorem odd_tup (h : Bent n w m (.tup xs)) (hn : 1 ≤ n) {x : D} (hx : x ∈ [D.lst xs, .tup (xs ++ [.int 0]), .tup (cutD xs none (some (-1))), .tup (cutD xs (some 1) none), .tup (xs ++ cutD xs none (some 1)), .tup [.tup xs], .tup xs.reverse]) : Bent (n + 1) (2 * w + 200) (m + 1) x := by
  obtain ⟨h1, h2, h3, h4⟩ := bent_tup h
  have h2' : ∀ x ∈ xs, jL (n + 1) x = true := fun x hx => jL_mono (by omega) (h2 x hx)
  have w0 : wD (.int 0) = 62 := by decide +kernel
  have cut : ∀ lo hi, Bent (n + 1) (2 * w + 200) (m + 1) (.tup (cutD xs lo hi)) := fun lo hi => by
    have := cut_len xs lo hi
    have := wDs_cut xs lo hi
    have := dDs_cut xs lo hi
    exact bent_of (by omega) (fun x hx => h2' x (cut_mem hx)) (by omega) (by omega)
  simp only [List.mem_cons, List.not_mem_nil, or_false] at hx
  rcases hx with rfl | rfl | rfl | rfl | rfl | rfl | rfl
  · exact bent_ofL (by omega) h2' (by omega) (by omega)
  · refine bent_of (by rw [List.length_append, List.length_cons, List.length_nil]; omega) (fun x hx => ?_) (by rw [wDs_append, wDs, wDs, w0]; omega) (by rw [dDs_append, dDs, dDs]; simp only [dD]; omega)
    rcases List.mem_append.mp hx with hx | hx
    · exact h2' x hx
    · rw [List.mem_singleton.mp hx, jL_int]; omega
  · exact cut _ _
  · exact cut _ _
  · have a := cut_len xs none (some 1)
    have b := wDs_cut xs none (some 1)
    have c := dDs_cut xs none (some 1)
    have d : (cutD xs none (some (1 : Int))).length ≤ 1 := by
      rw [show (some (1 : Int)) = some ((1 : Nat) : Int) from rfl, cutD_to, List.length_take]; omega
    refine bent_of (by rw [List.length_append]; omega) (fun x hx => ?_) (by rw [wDs_append]; omega) (by rw [dDs_append]; omega)
    rcases List.mem_append.mp hx with hx | hx
    · exact h2' x hx
    · exact h2' x (cut_mem hx)
  · refine bent_of (by simp) (fun x hx => ?_) (by rw [wDs, wDs, wD]; omega) (by rw [dDs, dDs, dD]; omega)
    rw [List.mem_singleton.mp hx]
    exact jL_mono (by omega) h.j
  · exact bent_of (by rw [List.length_reverse]; omega) (fun x hx => h2' x (List.mem_reverse.mp hx)) (by rw [wDs_reverse]; omega) (by rw [dDs_reverse]; omega)
theorem odd_str {s : Str} (h : Bent n w m (.str s)) (hn : n ≤ 1000) {x : D} (hx : x ∈ [D.str (s ++ "s"), .str (L2.cutS s none (some (-1)))]) : Bent (n + 1) (2 * w + 200) (m + 1) x := by
  obtain ⟨h1, h2⟩ := jL_str.mp h.j
  have h3 := h.w
  rw [wD_str h2] at h3
  have hs : PyData.strOk ("s" : Str) = true := strOk_of "s"
  simp only [List.mem_cons, List.not_mem_nil, or_false] at hx
  rcases hx with rfl | rfl
  · have e : (s ++ ("s" : Str)).length = s.length + 1 := by
      have : ("s" : Str).length = 1 := rfl
      rw [Str.length_append, this]
    have ok := strOk_append h2 hs
    exact ⟨jL_str.mpr ⟨by omega, ok⟩, by rw [wD_str ok]; omega, by simp only [dD]; omega⟩
  · have ok := strOk_cut (lo := none) (hi := some (-1)) h2
    have := L2.cutS_length s none (some (-1))
    exact ⟨jL_str.mpr ⟨by omega, ok⟩, by rw [wD_str ok]; omega, by simp only [dD]; omega⟩
theorem odd_int {i : Int} (h : Bent n w m (.int i)) (hn : n ≤ 1000) (n1 : 1 ≤ n) {x : D} (hx : x ∈ [D.int (i + 1), .int (i - 1), .bl (decide (i = 1)), .tup [.int i]]) : Bent (n + 1) (2 * w + 200) (m + 1) x := by
  have h1 := jL_int.mp h.j
  have w1 : ∀ j : Int, j.natAbs ≤ 10 ^ 8 + (n + 1) → Bent (n + 1) (2 * w + 200) (m + 1) (.int j) := fun j hj => ⟨jL_int.mpr hj, by rw [wD_int (by omega)]; omega, by simp only [dD]; omega⟩
  simp only [List.mem_cons, List.not_mem_nil, or_false] at hx
  rcases hx with rfl | rfl | rfl | rfl
  · exact w1 _ (by omega)
  · exact w1 _ (by omega)
  · exact ⟨rfl, by show 6 ≤ _; omega, by simp only [dD]; omega⟩
  · refine bent_of (by simp) (fun x hx => ?_) (by rw [wDs, wDs, wD_int (by omega)]; omega) (by rw [dDs, dDs]; simp only [dD]; omega)
    rw [List.mem_singleton.mp hx, jL_int]; omega
/-- one part laid over -/
theorem bent_at (h : Bent n w m (.tup xs)) {i : Nat} (hi : i < xs.length) {y : D} (hy : Bent (n + 1) (2 * wD xs[i] + 200) (dD xs[i] + 1) y) : Bent (n + 1) (2 * w + 200) (m + 1) (.tup (xs.take i ++ [y] ++ xs.drop (i + 1))) := by
  obtain ⟨h1, h2, h3, h4⟩ := bent_tup h
  have e : xs = xs.take i ++ xs[i] :: xs.drop (i + 1) := by
    rw [← List.drop_eq_getElem_cons hi, List.take_append_drop]
  have e1 := congrArg wDs e
  have e2 := congrArg dDs e
  rw [wDs_append, wDs] at e1
  rw [dDs_append, dDs] at e2
  have := hy.w
  have := hy.d
  refine bent_of ?_ (fun x hx => ?_) ?_ ?_
  · rw [List.length_append, List.length_append, List.length_take, List.length_drop, List.length_cons, List.length_nil]; omega
  · rcases List.mem_append.mp hx with hx | hx
    · rcases List.mem_append.mp hx with hx | hx
      · exact jL_mono (by omega) (h2 x (List.mem_of_mem_take hx))
      · rw [List.mem_singleton.mp hx]; exact hy.j
    · exact jL_mono (by omega) (h2 x (List.mem_of_mem_drop hx))
  · rw [wDs_append, wDs_append, wDs, wDs]; omega
  · rw [dDs_append, dDs_append, dDs, dDs]; omega
end
theorem wD_1 {a : D} : wD (.tup [a]) = wD a + 6 := by rw [wD, wDs, wDs]
theorem wD_2 {a b : D} : wD (.tup [a, b]) = wD a + wD b + 8 := by rw [wD, wDs, wDs, wDs]; omega
theorem wD_3 {a b c : D} : wD (.tup [a, b, c]) = wD a + wD b + wD c + 10 := by rw [wD, wDs, wDs, wDs, wDs]; omega
theorem jL_2 {n : Nat} {a b : D} (hn : 2 ≤ n) (ha : jL n a = true) (hb : jL n b = true) : jL n (.tup [a, b]) = true := jL_tup.mpr ⟨hn, fun x hx => by
  simp only [List.mem_cons, List.not_mem_nil, or_false] at hx
  rcases hx with rfl | rfl
  · exact ha
  · exact hb⟩
theorem jL_3 {n : Nat} {a b c : D} (hn : 3 ≤ n) (ha : jL n a = true) (hb : jL n b = true) (hc : jL n c = true) : jL n (.tup [a, b, c]) = true := jL_tup.mpr ⟨hn, fun x hx => by
  simp only [List.mem_cons, List.not_mem_nil, or_false] at hx
  rcases hx with rfl | rfl | rfl
  · exact ha
  · exact hb
  · exact hc⟩
end Mi
set_option maxHeartbeats 1000000
/-! XI: what is an expression, a row of a weave, a weave. -/
namespace Mi
open PySem
def w6L : List Str := ["plus", "less", "times", "over", "below", "like"]
theorem w6_of {w : Str} (h : w ∈ w6L) : ∃ z : W6, w = z.s := by
  simp only [w6L, List.mem_cons, List.not_mem_nil, or_false] at h
  rcases h with rfl | rfl | rfl | rfl | rfl | rfl
  · exact ⟨.plus, rfl⟩
  · exact ⟨.less, rfl⟩
  · exact ⟨.times, rfl⟩
  · exact ⟨.over, rfl⟩
  · exact ⟨.below, rfl⟩
  · exact ⟨.like, rfl⟩
theorem w6_in (z : W6) : z.s ∈ w6L := by cases z <;> decide
/-- how many parts an expression has, none if it is none -/
def exF (ls : List Str) (m : Int) : Nat → D → Nat
  | n + 1, .tup [.str w] => if w ∈ ls then 1 else 0
  | n + 1, .tup [.str w, x] => if (w = "num" ∧ btwD 0 999999 x = true) ∨ (w = "at" ∧ btwD 0 m x = true) then 1 else 0
  | n + 1, .tup [.str w, x, y] => if w ∈ w6L then (if exF ls m n x = 0 ∨ exF ls m n y = 0 then 0 else 1 + exF ls m n x + exF ls m n y) else 0
  | _, _ => 0
def Ex.lc : Ex → Int
  | .at_ i => i
  | .op _ a b => max (max (-1) a.lc) b.lc
  | _ => -1
theorem btwD_int {lo hi : Int} {x : D} (h : btwD lo hi x = true) : ∃ i, x = .int i ∧ lo ≤ i ∧ i ≤ hi := by
  cases x with
  | int i =>
    rw [btwD, Bool.and_eq_true, decide_eq_true_eq, decide_eq_true_eq] at h
    exact ⟨i, rfl, h⟩
  | _ => cases h
theorem exF_ok : ∀ (n : Nat) (d : D), exF ["in"] 99999 n d ≠ 0 → ∃ e : Ex, d = e.d ∧ e.Ok false 100000 ∧ e.dep < n ∧ exF ["in"] 9 n d = if e.lc ≤ 9 then exF ["in"] 99999 n d else 0 := by
  intro n
  induction n with
  | zero => intro d h; exact absurd (by unfold exF; rfl) h
  | succ n ih =>
    intro d h
    unfold exF at h
    split at h
    · rename_i w e1
      cases e1
      split at h
      · rename_i hw
        have hw : w = "in" := by simpa using hw
        subst hw
        refine ⟨.inn, rfl, trivial, by simp [Ex.dep], ?_⟩
        rw [if_pos (by decide)]
        rfl
      · exact absurd rfl h
    · rename_i w x e1
      cases e1
      split at h
      · rename_i hw
        rcases hw with ⟨rfl, hx⟩ | ⟨rfl, hx⟩
        · obtain ⟨i, rfl, i0, i1⟩ := btwD_int hx
          refine ⟨.num i, rfl, ⟨i0, i1⟩, by simp [Ex.dep], ?_⟩
          rw [if_pos (by show (-1 : Int) ≤ 9; decide)]
          show (if _ then 1 else 0) = (if _ then 1 else 0)
          rw [if_pos (.inl ⟨rfl, hx⟩), if_pos (.inl ⟨rfl, hx⟩)]
        · obtain ⟨i, rfl, i0, i1⟩ := btwD_int hx
          refine ⟨.at_ i, rfl, ⟨i0, by omega⟩, by simp [Ex.dep], ?_⟩
          show (if _ then 1 else 0) = (if i ≤ 9 then (if _ then 1 else 0) else 0)
          rw [if_pos (.inr ⟨rfl, hx⟩ : (("at" : Str) = "num" ∧ _) ∨ (("at" : Str) = "at" ∧ btwD 0 99999 (.int i) = true))]
          by_cases h9 : i ≤ 9
          · rw [if_pos h9, if_pos (.inr ⟨rfl, by simp [btwD, i0, h9]⟩)]
          · rw [if_neg h9, if_neg]
            rintro (⟨z, _⟩ | ⟨_, z⟩)
            · exact absurd z (by decide)
            · simp [btwD, i0, h9] at z
      · exact absurd rfl h
    · rename_i w x y e1
      cases e1
      split at h
      · rename_i hw
        obtain ⟨z, rfl⟩ := w6_of hw
        split at h
        · exact absurd rfl h
        · rename_i hxy
          have hx : exF ["in"] 99999 n x ≠ 0 := fun e => hxy (.inl e)
          have hy : exF ["in"] 99999 n y ≠ 0 := fun e => hxy (.inr e)
          obtain ⟨a, rfl, oa, da, ea⟩ := ih x hx
          obtain ⟨b, rfl, ob, db, eb⟩ := ih y hy
          refine ⟨.op z a b, rfl, ⟨oa, ob⟩, by simp only [Ex.dep]; omega, ?_⟩
          show (if z.s ∈ w6L then (if exF ["in"] 9 n a.d = 0 ∨ exF ["in"] 9 n b.d = 0 then 0 else 1 + exF ["in"] 9 n a.d + exF ["in"] 9 n b.d) else 0) = if (max (max (-1) a.lc) b.lc) ≤ 9 then (if z.s ∈ w6L then (if exF ["in"] 99999 n a.d = 0 ∨ exF ["in"] 99999 n b.d = 0 then 0 else 1 + exF ["in"] 99999 n a.d + exF ["in"] 99999 n b.d) else 0) else 0
          rw [if_pos hw, if_pos hw, if_neg hxy, ea, eb]
          by_cases h1 : a.lc ≤ 9 <;> by_cases h2 : b.lc ≤ 9
          · rw [if_pos h1, if_pos h2, if_neg hxy, if_pos (by omega)]
          · rw [if_neg h2, if_pos (.inr rfl), if_neg (by omega)]
          · rw [if_neg h1, if_pos (.inl rfl), if_neg (by omega)]
          · rw [if_neg h1, if_pos (.inl rfl), if_neg (by omega)]
      · exact absurd rfl h
    · exact absurd rfl h
theorem exF_le {ls : List Str} : ∀ (n : Nat) (d : D), exF ls 9 n d ≠ 0 → exF ls 99999 n d ≠ 0 := by
  intro n
  induction n with
  | zero => intro d h; exact absurd (by unfold exF; rfl) h
  | succ n ih =>
    intro d h
    unfold exF at h ⊢
    split at h
    · exact h
    · rename_i w x
      split at h
      · rename_i hw
        rw [if_pos]
        · decide
        · rcases hw with hw | ⟨h1, hx⟩
          · exact .inl hw
          · obtain ⟨i, rfl, i0, i1⟩ := btwD_int hx
            exact .inr ⟨h1, by simp [btwD, i0]; omega⟩
      · exact absurd rfl h
    · rename_i n1 w x y e1
      cases e1
      split at h
      · rename_i hw
        rw [if_pos hw]
        split at h
        · exact absurd rfl h
        · rename_i hxy
          rw [if_neg]
          · omega
          · rintro (z | z)
            · exact ih x (fun e => hxy (.inl e)) z
            · exact ih y (fun e => hxy (.inr e)) z
      · exact absurd rfl h
    · exact absurd rfl h
/-! out for in -/
def isOut : D → Bool
  | .tup [.str w] => decide (w = "out")
  | _ => false
mutual
def wo : D → D
  | .tup xs => if isOut (.tup xs) = true then .tup [.str "in"] else .tup (wos xs)
  | .non => .non | .bl b => .bl b | .int i => .int i | .str x => .str x | .lst xs => .lst xs | .scr ns => .scr ns | .loc n => .loc n | .kd a b => .kd a b
def wos : List D → List D
  | [] => []
  | x :: xs => wo x :: wos xs
end
theorem wos_map : ∀ xs : List D, wos xs = xs.map wo
  | [] => by simp [wos]
  | x :: xs => by rw [wos, wos_map xs, List.map_cons]
theorem wo_tup (xs : List D) : ∃ ys, wo (.tup xs) = .tup ys := by
  rw [wo]; split
  · exact ⟨_, rfl⟩
  · exact ⟨_, rfl⟩
theorem btw_wo (lo hi : Int) (x : D) : btwD lo hi (wo x) = btwD lo hi x := by
  cases x with
  | tup xs => obtain ⟨ys, e⟩ := wo_tup xs; rw [e]; rfl
  | _ => rw [wo]
theorem exF_nil {ls : List Str} {m : Int} {n : Nat} {d : D} (h : ∀ w xs, d ≠ .tup (.str w :: xs)) : exF ls m n d = 0 := by
  unfold exF
  split
  · exact absurd rfl (h _ _)
  · exact absurd rfl (h _ _)
  · exact absurd rfl (h _ _)
  · rfl
theorem exF_wo {m : Int} : ∀ (n : Nat) (d : D), exF ["in"] m n (wo d) = exF ["in", "out"] m n d := by
  intro n
  induction n with
  | zero => intro d; unfold exF; rfl
  | succ n ih =>
    intro d
    have non : ∀ d : D, (∀ w xs, d ≠ .tup (.str w :: xs)) → (∀ w xs, wo d ≠ .tup (.str w :: xs)) → exF ["in"] m (n + 1) (wo d) = exF ["in", "out"] m (n + 1) d := fun d h1 h2 => by rw [exF_nil h1, exF_nil h2]
    cases d with
    | tup xs =>
      cases xs with
      | nil => exact non _ (by simp) (by rw [wo, wos]; simp [isOut])
      | cons x xs =>
        cases x with
        | str w =>
          match xs with
          | [] =>
            by_cases hw : w = "out"
            · subst hw
              rfl
            · rw [wo, if_neg (by simp [isOut, hw]), wos, wos, wo]
              show (if w ∈ (["in"] : List Str) then 1 else 0) = (if w ∈ (["in", "out"] : List Str) then 1 else 0)
              simp [hw]
          | [y] =>
            rw [wo, if_neg (by simp [isOut]), wos, wos, wos, wo]
            show (if (w = "num" ∧ btwD 0 999999 (wo y) = true) ∨ (w = "at" ∧ btwD 0 m (wo y) = true) then 1 else 0) = _
            rw [btw_wo, btw_wo]
            rfl
          | [y, z] =>
            rw [wo, if_neg (by simp [isOut]), wos, wos, wos, wos, wo]
            show (if w ∈ w6L then (if exF ["in"] m n (wo y) = 0 ∨ exF ["in"] m n (wo z) = 0 then 0 else 1 + exF ["in"] m n (wo y) + exF ["in"] m n (wo z)) else 0) = _
            rw [ih, ih]
            rfl
          | y :: z :: u :: us =>
            rw [wo, if_neg (by simp [isOut]), wos, wos, wos, wos, wo]
            rfl
        | tup ys =>
          refine non _ (by simp) ?_
          intro w zs
          obtain ⟨us, e⟩ := wo_tup ys
          rw [wo, if_neg (by simp [isOut]), wos, e]
          simp
        | _ =>
          refine non _ (by simp) ?_
          intro w zs
          rw [wo, if_neg (by simp [isOut]), wos, wo]
          simp
    | _ => exact non _ (by simp) (by rw [wo]; simp)
/-- is an expression of a weave of this kind -/
def lsK (k : Str) : List Str := if k = "behind" then ["in", "out"] else ["in"]
def wxB (k : Str) (d : D) : Bool := decide (1 ≤ exF (lsK k) 9 60 d) && decide (exF (lsK k) 9 60 d ≤ 400)
def numB (m : Int) : D → Bool
  | .int i => decide (0 ≤ i) && decide (i < m)
  | _ => false
def plB (c r : Nat) (k w : Str) (xs : List D) : Bool := match xs with
  | [x] => decide (w = "tell") && wxB k x
  | [x, y] => if w = "put" then numB 10 x && wxB k y else if w = "read" then numB 10 x && numB c y else if w = "write" then numB c x && wxB k y else if w = "go" then decide (k = "around") && (numB 10 x && wxB k y) else false
  | [x, y, z] => decide (w = "call") && (numB 10 x && (numB r y && wxB k z))
  | _ => false
def rsum (f : D → Nat) : List D → Option Nat
  | [] => some 0
  | x :: xs => if f x = 0 then none else (rsum f xs).map (f x + ·)
def rsD (f : D → Nat) : D → Option Nat
  | .tup xs => rsum f xs
  | _ => none
def rowB (c r : Nat) (k : Str) (f : D → Nat) : D → Nat
  | .tup (.str w :: xs) => if w = "when" then (match xs with
      | [e, a, b] => if wxB k e = true then (match rsD f a, rsD f b with
        | some x, some y => 1 + x + y
        | _, _ => 0) else 0
      | _ => 0) else if plB c r k w xs = true then 1 else 0
  | _ => 0
def rwF (c r : Nat) (k : Str) : Nat → D → Nat
  | 0, _ => 0
  | n + 1, d => rowB c r k (rwF c r k n) d
def rsI (z : Option Nat) : Int := match z with
  | some m => m
  | none => -1
def nonB : D → Bool
  | .non => true
  | _ => false
def wvB (c r : Nat) : D → Bool
  | .tup [x, .str k, rs, la] => (decide (1 ≤ partsF c r 60 x) && decide (partsF c r 60 x ≤ 15)) && (decide (k ∈ (["ahead", "behind", "around"] : List Str)) && ((if k = "around" then wxB k la else nonB la) && (match rsD (rwF c r k 6) rs with
      | some m => decide (m ≤ 20)
      | none => false)))
  | _ => false
/-! ### steps -/
theorem strsD_map : ∀ zs : List Str, strsD (zs.map .str) = some zs
  | [] => rfl
  | z :: zs => by rw [List.map_cons, strsD, strsD_map zs]; rfl
def rl (w : Str) : D := (((["put", "read", "write", "call", "tell", "when", "go"] : List Str).zip [D.int 3, .int 3, .int 3, .int 4, .int 2, .int 4, .int 3]).lookup w).getD .non
def rlB (w : Str) (n : Int) : Bool := match rl w with
  | .int i => decide (i = n)
  | _ => false
theorem rl_cases (w : Str) : (w = "put" ∧ rl w = .int 3) ∨ (w = "read" ∧ rl w = .int 3) ∨ (w = "write" ∧ rl w = .int 3) ∨ (w = "call" ∧ rl w = .int 4) ∨ (w = "tell" ∧ rl w = .int 2) ∨ (w = "when" ∧ rl w = .int 4) ∨ (w = "go" ∧ rl w = .int 3) ∨ (w ∉ (["put", "read", "write", "call", "tell", "when", "go"] : List Str) ∧ rl w = .non) := by
  by_cases h1 : w = "put"
  · subst h1; exact .inl ⟨rfl, rfl⟩
  by_cases h2 : w = "read"
  · subst h2; exact .inr (.inl ⟨rfl, rfl⟩)
  by_cases h3 : w = "write"
  · subst h3; exact .inr (.inr (.inl ⟨rfl, rfl⟩))
  by_cases h4 : w = "call"
  · subst h4; exact .inr (.inr (.inr (.inl ⟨rfl, rfl⟩)))
  by_cases h5 : w = "tell"
  · subst h5; exact .inr (.inr (.inr (.inr (.inl ⟨rfl, rfl⟩))))
  by_cases h6 : w = "when"
  · subst h6; exact .inr (.inr (.inr (.inr (.inr (.inl ⟨rfl, rfl⟩)))))
  by_cases h7 : w = "go"
  · subst h7; exact .inr (.inr (.inr (.inr (.inr (.inr (.inl ⟨rfl, rfl⟩))))))
  refine .inr (.inr (.inr (.inr (.inr (.inr (.inr ⟨by simp [h1, h2, h3, h4, h5, h6, h7], ?_⟩))))))
  have e : ∀ a : Str, w ≠ a → (w == a) = false := fun a h => by simpa using h
  simp only [rl, List.zip_cons_cons, List.zip_nil_left, List.lookup, e _ h1, e _ h2, e _ h3, e _ h4, e _ h5, e _ h6, e _ h7]
  rfl
section
variable {S : Sto} {q : Q1} {qb : Bool → Prop} {w : Str} {n : Int} {e : Ex}
theorem cmp_rl (k : qb (!rlB w n)) : CmpW .ne S (rl w) (.int n) qb := ⟨!rlB w n, by
  have h := rl_cases w
  unfold rlB
  rcases h with ⟨_, h⟩ | ⟨_, h⟩ | ⟨_, h⟩ | ⟨_, h⟩ | ⟨_, h⟩ | ⟨_, h⟩ | ⟨_, h⟩ | ⟨_, h⟩ <;> rw [h] <;> rfl, k⟩
theorem rlB_yes {m : Nat} (h : rlB w ((m + 1 : Nat) : Int) = true) : (w = "put" ∧ m = 2) ∨ (w = "read" ∧ m = 2) ∨ (w = "write" ∧ m = 2) ∨ (w = "call" ∧ m = 3) ∨ (w = "tell" ∧ m = 1) ∨ (w = "when" ∧ m = 3) ∨ (w = "go" ∧ m = 2) := by
  unfold rlB at h
  rcases rl_cases w with ⟨h1, h2⟩ | ⟨h1, h2⟩ | ⟨h1, h2⟩ | ⟨h1, h2⟩ | ⟨h1, h2⟩ | ⟨h1, h2⟩ | ⟨h1, h2⟩ | ⟨h1, h2⟩ <;> rw [h2] at h <;> first | (have h := of_decide_eq_true h; simp only [h1, true_and]; omega) | cases h
theorem isi_ex3 (k : q (.bl true) S) : IsiW S e.d 3 q := by cases e <;> exact isi_tup3 k
end
theorem rowB_ar {c r : Nat} {k w : Str} {f : D → Nat} {xs : List D} (h : rlB w ((xs.length + 1 : Nat) : Int) = false) : rowB c r k f (.tup (.str w :: xs)) = 0 := by
  have no : ∀ (a : Str) (m : Int), rl a = .int m → w = a → ((xs.length + 1 : Nat) : Int) ≠ m := fun a m h1 h2 h3 => by
    subst h2
    unfold rlB at h
    rw [h1] at h
    exact absurd (of_decide_eq_false h) (by rw [h3]; exact fun z => z rfl)
  have n1 := no "put" 3 rfl
  have n2 := no "read" 3 rfl
  have n3 := no "write" 3 rfl
  have n4 := no "call" 4 rfl
  have n5 := no "tell" 2 rfl
  have n6 := no "when" 4 rfl
  have n7 := no "go" 3 rfl
  match xs, n1, n2, n3, n4, n5, n6, n7 with
  | [], _, _, _, _, _, _, _ => simp [rowB, plB]
  | [x], _, _, _, _, n5, _, _ =>
    have : w ≠ "tell" := fun z => n5 z rfl
    simp [rowB, plB, this]
  | [x, y], n1, n2, n3, _, _, _, n7 =>
    have a1 : w ≠ "put" := fun z => n1 z rfl
    have a2 : w ≠ "read" := fun z => n2 z rfl
    have a3 : w ≠ "write" := fun z => n3 z rfl
    have a4 : w ≠ "go" := fun z => n7 z rfl
    simp [rowB, plB, a1, a2, a3, a4]
  | [x, y, z], _, _, _, n4, _, n6, _ =>
    have a1 : w ≠ "call" := fun z => n4 z rfl
    have a2 : w ≠ "when" := fun z => n6 z rfl
    simp [rowB, plB, a1, a2]
  | _ :: _ :: _ :: _ :: _, _, _, _, _, _, _, _ => simp [rowB, plB]
def nfB (c r : Nat) (w : Str) (xs : List D) : Bool := match xs with
  | [x, y] => if w = "read" then numB 10 x && numB c y else if w = "write" then numB c x else numB 10 x
  | [x, y, _] => if w = "call" then numB 10 x && numB r y else true
  | _ => true
/-! data of out for in -/
theorem jk_wo : ∀ (d : D), jk d = true → jk (wo d) = true := by
  have key : ∀ (n : Nat) (d : D), dD d ≤ n → jk d = true → jk (wo d) = true := by
    intro n
    induction n with
    | zero =>
      intro d hn h
      cases d with
      | tup xs => rw [dD] at hn; omega
      | _ => rw [wo]; exact h
    | succ n ih =>
      intro d hn h
      cases d with
      | tup xs =>
        rw [wo]
        split
        · decide
        · obtain ⟨a, b⟩ := jk_tup h
          rw [wos_map]
          refine jk_of_tup (by rw [List.length_map]; exact a) fun x hx => ?_
          obtain ⟨y, hy, rfl⟩ := List.mem_map.mp hx
          have := dD_mem' hy
          exact ih y (by omega) (b y hy)
      | _ => rw [wo]; exact h
  exact fun d => key _ d (Nat.le_refl _)
theorem eqv_out {xs : List D} {ps : List PyData} (h : pds xs = some ps) : PyData.eqv (.tuple ps) (.tuple [.str "out"]) = isOut (.tup xs) := by
  match xs, ps, h with
  | [], _, h => cases h; rfl
  | [x], ps, h =>
    rw [pds] at h
    cases e : pd x with
    | none => rw [e] at h; cases h
    | some p =>
      rw [e] at h
      cases h
      simp only [PyData.eqv, PyData.eqvAll, Bool.and_true]
      cases x with
      | str w =>
        cases e
        simp only [PyData.eqv, isOut]
        by_cases hw : w = "out" <;> simp [hw]
      | non => cases e; rfl
      | bl _ => cases e; rfl
      | int _ => cases e; rfl
      | scr _ => cases e; rfl
      | loc _ => cases e
      | kd _ _ => cases e
      | tup ys =>
        rw [pd] at e
        split at e
        · cases e; rfl
        · cases e
      | lst ys =>
        rw [pd] at e
        split at e
        · cases e; rfl
        · cases e
  | x :: y :: zs, ps, h =>
    rw [pds, pds] at h
    split at h
    · rename_i d ds e1 e2
      split at e2
      · cases e2
        cases h
        simp only [PyData.eqv, PyData.eqvAll, Bool.and_false]
        cases x <;> rfl
      · cases e2
    · cases h
theorem eq_out {xs : List D} (h : wD (.tup xs) < 10 ^ 9) (h2 : dD (.tup xs) ≤ 150) : eqD (.tup xs) (.tup [.str "out"]) = some (isOut (.tup xs)) := by
  rw [wD] at h
  obtain ⟨ps, h1, h3, _, h4⟩ := reps_le xs (by omega)
  have e2 : decide ((PyData.tuple ps).depth ≤ 150) = true := decide_eq_true (by rw [dD] at h2; simp only [PyData.depth]; omega)
  have e3 : (PyData.tuple ps).canLay0 = true := by simp only [PyData.canLay0]; exact h3.2
  have e4 := eqv_out h1
  have e5 : (PyData.tuple [.str "out"]).canLay0 = true := by decide +kernel
  show (match pd (.tup xs), pd (.tup [.str "out"]) with
    | some a, some b => if a.canLay0 && b.canLay0 && decide (a.depth ≤ 150) then some (PyData.eqv a b) else none
    | _, _ => none) = _
  simp only [pd, h1, pds, e3, e2, e5]
  rw [e4]
  rfl
theorem cmp_eqOut {S : Sto} {qb : Bool → Prop} {xs : List D} (h : wD (.tup xs) < 10 ^ 9) (h2 : dD (.tup xs) ≤ 150) (k : qb (isOut (.tup xs))) : CmpW .eq S (.tup xs) (.tup [.str "out"]) qb := ⟨_, eq_out h h2, k⟩
theorem wxB_eq (k : Str) (d : D) : wxB k d = ((decide (1 ≤ exF ["in"] 9 60 (if k = "behind" then wo d else d))) && decide (exF ["in"] 9 60 (if k = "behind" then wo d else d) ≤ 400)) := by
  unfold wxB lsK
  split
  · rw [exF_wo]
  · rfl
theorem wvB_len {c r : Nat} {xs : List D} (h : xs.length ≠ 4) : wvB c r (.tup xs) = false := by
  unfold wvB
  split
  · rename_i e
    cases e
    exact absurd rfl h
  · rfl
/-! drawn ones are right -/
def Ex.parts : Ex → Nat
  | .op _ a b => 1 + a.parts + b.parts
  | _ => 1
theorem Ex.parts_pos : ∀ e : Ex, 1 ≤ e.parts
  | .op _ a b => by simp only [Ex.parts]; omega
  | .inn => Nat.le_refl _
  | .out => Nat.le_refl _
  | .at_ _ => Nat.le_refl _
  | .num _ => Nat.le_refl _
theorem Ex.parts_le : ∀ (e : Ex) (n : Nat), e.dep ≤ n → e.parts + 1 ≤ 2 ^ (n + 1) := by
  intro e
  have one : ∀ n : Nat, 1 + 1 ≤ 2 ^ (n + 1) := fun n => by
    have : 1 ≤ 2 ^ n := Nat.one_le_two_pow
    rw [Nat.pow_succ]; omega
  induction e with
  | op w a b ia ib =>
    intro n hn
    simp only [Ex.dep] at hn
    obtain ⟨m, rfl⟩ : ∃ m, n = m + 1 := ⟨n - 1, by omega⟩
    have := ia m (by omega)
    have := ib m (by omega)
    rw [Nat.pow_succ, Ex.parts]; omega
  | _ => intro n _; exact one n
theorem exF_ex {ls : List Str} {o : Bool} {m : Int} (h1 : ("in" : Str) ∈ ls) (h2 : o = true → ("out" : Str) ∈ ls) : ∀ (e : Ex) (n : Nat), e.Ok o m → m ≤ 10 → e.dep < n → exF ls 9 n e.d = e.parts := by
  intro e
  induction e with
  | inn => intro n _ _ hn; obtain ⟨k, rfl⟩ : ∃ k, n = k + 1 := ⟨n - 1, by omega⟩; exact if_pos h1
  | out => intro n ho _ hn; obtain ⟨k, rfl⟩ : ∃ k, n = k + 1 := ⟨n - 1, by omega⟩; exact if_pos (h2 ho)
  | at_ i =>
    intro n ho hm hn
    obtain ⟨k, rfl⟩ : ∃ k, n = k + 1 := ⟨n - 1, by omega⟩
    have ho : 0 ≤ i ∧ i < m := ho
    exact if_pos (.inr ⟨rfl, by simp [btwD, ho.1]; omega⟩)
  | num i =>
    intro n ho hm hn
    obtain ⟨k, rfl⟩ : ∃ k, n = k + 1 := ⟨n - 1, by omega⟩
    have ho : 0 ≤ i ∧ i ≤ 999999 := ho
    exact if_pos (.inl ⟨rfl, by simp [btwD, ho.1, ho.2]⟩)
  | op w a b ia ib =>
    intro n ho hm hn
    simp only [Ex.dep] at hn
    obtain ⟨k, rfl⟩ : ∃ k, n = k + 1 := ⟨n - 1, by omega⟩
    have ea := ia k ho.1 hm (by omega)
    have eb := ib k ho.2 hm (by omega)
    have := a.parts_pos
    have := b.parts_pos
    show (if w.s ∈ w6L then (if exF ls 9 k a.d = 0 ∨ exF ls 9 k b.d = 0 then 0 else 1 + exF ls 9 k a.d + exF ls 9 k b.d) else 0) = _
    rw [if_pos (w6_in w), ea, eb, if_neg (by omega)]
    rfl
theorem wxB_ok {k : Str} {e : Ex} {o : Bool} (ho : o = true → k = "behind") (he : e.Ok o 4) (hd : e.dep ≤ 6) : wxB k e.d = true := by
  have h1 : exF (lsK k) 9 60 e.d = e.parts := exF_ex (by unfold lsK; split <;> simp) (fun z => by unfold lsK; rw [if_pos (ho z)]; simp) e 60 he (by decide) (by omega)
  have h2 := e.parts_pos
  have h3 := e.parts_le 6 hd
  have h4 : (2 : Nat) ^ (6 + 1) = 128 := by decide
  unfold wxB
  rw [h1, decide_eq_true h2, decide_eq_true (show e.parts ≤ 400 by omega)]
  rfl
theorem Ex.jL {o : Bool} {m : Int} (hm : m ≤ 10 ^ 6) : ∀ {e : Ex}, e.Ok o m → Mi.jL 10 e.d = true := by
  intro e
  induction e with
  | inn => intro _; decide +kernel
  | out => intro _; decide +kernel
  | at_ i => intro h; have h : 0 ≤ i ∧ i < m := h; exact jL_2 (by decide) (by decide +kernel) (jL_int.mpr (by omega))
  | num i => intro h; have h : 0 ≤ i ∧ i ≤ 999999 := h; exact jL_2 (by decide) (by decide +kernel) (jL_int.mpr (by omega))
  | op w a b ia ib => intro h; exact jL_3 (by decide) (by cases w <;> decide +kernel) (ia h.1) (ib h.2)
theorem rsum_le {f : D → Nat} {b : Nat} : ∀ {xs : List D}, (∀ x ∈ xs, 1 ≤ f x ∧ f x ≤ b) → ∃ s, rsum f xs = some s ∧ s ≤ xs.length * b
  | [], _ => ⟨0, rfl, Nat.zero_le _⟩
  | x :: xs, h => by
    obtain ⟨s, e, hs⟩ := rsum_le (xs := xs) fun y hy => h y (List.mem_cons_of_mem _ hy)
    obtain ⟨h1, h2⟩ := h x List.mem_cons_self
    refine ⟨f x + s, ?_, ?_⟩
    · rw [rsum, if_neg (by omega), e]; rfl
    · rw [List.length_cons, Nat.add_mul]; omega
end Mi
set_option maxHeartbeats 1000000
/-! XV: weaves, how often they go on. -/
namespace Mi
open PySem
inductive Kd | around | ahead | behind
  deriving DecidableEq
def Kd.s : Kd → Str
  | .around => "around" | .ahead => "ahead" | .behind => "behind"
mutual
def Row.gos : Row → Int × Int
  | .go _ _ => (1, 1)
  | .whn _ a b => (min (Row.goss a).1 (Row.goss b).1, max (Row.goss a).2 (Row.goss b).2)
  | .put _ _ => (0, 0) | .read _ _ => (0, 0) | .write _ _ => (0, 0) | .call _ _ _ => (0, 0) | .tell _ => (0, 0) | .look _ _ => (0, 0) | .note _ _ => (0, 0) | .wove _ _ _ => (0, 0)
def Row.goss : List Row → Int × Int
  | [] => (0, 0)
  | r :: rs => (r.gos.1 + (Row.goss rs).1, r.gos.2 + (Row.goss rs).2)
end
theorem goss_snoc : ∀ (us : List Row) (r : Row), Row.goss (us ++ [r]) = ((Row.goss us).1 + r.gos.1, (Row.goss us).2 + r.gos.2)
  | [], r => by simp [Row.goss]
  | u :: us, r => by rw [List.cons_append, Row.goss, goss_snoc us r, Row.goss]; simp [Int.add_assoc]
mutual
def Row.hg : Row → Bool
  | .go _ _ => true
  | .whn _ a b => Row.hgs a || Row.hgs b
  | .put _ _ => false | .read _ _ => false | .write _ _ => false | .call _ _ _ => false | .tell _ => false | .look _ _ => false | .note _ _ => false | .wove _ _ _ => false
def Row.hgs : List Row → Bool
  | [] => false
  | r :: rs => r.hg || Row.hgs rs
end
theorem hgs_snoc : ∀ (us : List Row) (r : Row), Row.hgs (us ++ [r]) = (Row.hgs us || r.hg)
  | [], r => by simp [Row.hgs]
  | u :: us, r => by rw [List.cons_append, Row.hgs, hgs_snoc us r, Row.hgs, Bool.or_assoc]
theorem hgs_app : ∀ (us vs : List Row), Row.hgs (us ++ vs) = (Row.hgs us || Row.hgs vs)
  | [], vs => by simp [Row.hgs]
  | u :: us, vs => by rw [List.cons_append, Row.hgs, hgs_app us vs, Row.hgs, Bool.or_assoc]
mutual
theorem gos_hg : ∀ r : Row, 0 ≤ r.gos.2 ∧ (r.hg = true ↔ 0 < r.gos.2)
  | .go _ _ => by simp [Row.gos, Row.hg]
  | .whn e a b => by
    have h1 := goss_hgs a
    have h2 := goss_hgs b
    simp only [Row.gos, Row.hg, Bool.or_eq_true, h1.2, h2.2]
    omega
  | .put _ _ => by simp [Row.gos, Row.hg]
  | .read _ _ => by simp [Row.gos, Row.hg]
  | .write _ _ => by simp [Row.gos, Row.hg]
  | .call _ _ _ => by simp [Row.gos, Row.hg]
  | .tell _ => by simp [Row.gos, Row.hg]
  | .look _ _ => by simp [Row.gos, Row.hg]
  | .note _ _ => by simp [Row.gos, Row.hg]
  | .wove _ _ _ => by simp [Row.gos, Row.hg]
theorem goss_hgs : ∀ rs : List Row, 0 ≤ (Row.goss rs).2 ∧ (Row.hgs rs = true ↔ 0 < (Row.goss rs).2)
  | [] => by simp [Row.goss, Row.hgs]
  | r :: rs => by
    have h1 := gos_hg r
    have h2 := goss_hgs rs
    simp only [Row.goss, Row.hgs, Bool.or_eq_true, h1.2, h2.2]
    omega
end
/-! without gos -/
mutual
def Row.ng : Row → List Row
  | .go _ _ => []
  | .whn e a b => [.whn e (Row.ngs a) (Row.ngs b)]
  | .put l e => [.put l e] | .read l c => [.read l c] | .write c e => [.write c e] | .call l r e => [.call l r e] | .tell e => [.tell e] | .look l n => [.look l n] | .note n e => [.note n e] | .wove w k rs => [.wove w k rs]
def Row.ngs : List Row → List Row
  | [] => []
  | r :: rs => r.ng ++ Row.ngs rs
end
theorem ngs_snoc : ∀ (us : List Row) (r : Row), Row.ngs (us ++ [r]) = Row.ngs us ++ r.ng
  | [], r => by simp [Row.ngs]
  | u :: us, r => by rw [List.cons_append, Row.ngs, ngs_snoc us r, Row.ngs, List.append_assoc]
theorem ng_len (r : Row) : r.ng.length ≤ 1 := by cases r <;> simp [Row.ng]
theorem ngs_len : ∀ rs : List Row, (Row.ngs rs).length ≤ rs.length
  | [] => by simp [Row.ngs]
  | r :: rs => by have := ngs_len rs; have := ng_len r; rw [Row.ngs, List.length_append, List.length_cons]; omega
mutual
theorem ng_w : ∀ r : Row, wDs (r.ng.map Row.d) ≤ wD r.d + 2 ∧ dDs (r.ng.map Row.d) ≤ dD r.d
  | .go _ _ => by simp [Row.ng, wDs, dDs]
  | .whn e a b => by
    have h1 := ngs_w a
    have h2 := ngs_w b
    simp only [Row.ng, List.map_cons, List.map_nil, Row.d_whn, wDs, dDs, wD, dD, wD_rws, dD_rws]
    omega
  | .put _ _ => by simp [Row.ng, wDs, dDs]
  | .read _ _ => by simp [Row.ng, wDs, dDs]
  | .write _ _ => by simp [Row.ng, wDs, dDs]
  | .call _ _ _ => by simp [Row.ng, wDs, dDs]
  | .tell _ => by simp [Row.ng, wDs, dDs]
  | .look _ _ => by simp [Row.ng, wDs, dDs]
  | .note _ _ => by simp [Row.ng, wDs, dDs]
  | .wove _ _ _ => by simp [Row.ng, wDs, dDs]
theorem ngs_w : ∀ rs : List Row, wDs ((Row.ngs rs).map Row.d) ≤ wDs (rs.map Row.d) ∧ dDs ((Row.ngs rs).map Row.d) ≤ dDs (rs.map Row.d)
  | [] => by simp [Row.ngs]
  | r :: rs => by
    have h1 := ng_w r
    have h2 := ngs_w rs
    rw [Row.ngs, List.map_append, wDs_append, dDs_append, List.map_cons, wDs, dDs]
    omega
end
/-! a weave -/
structure Wv where
  x : Pat
  kd : Kd
  rs : List Row
  la : D
def Wv.d (w : Wv) : D := .tup [w.x.d, .str w.kd.s, rwsD w.rs, w.la]
def Wv.g (w : Wv) : Int × Int := if w.kd = .around then Row.goss w.rs else (1, 1)
def truF (x : Pat) (ys : List Plc) : List Plc := ys.filter fun y => decide (y.2.2.rdg y.1 x = .b true)
def Wv.due (w : Wv) (p : Prog) : List Plc := if w.kd = .around ∧ Row.hgs w.rs = false then truF w.x p.plx else []
theorem truF_app (x : Pat) (a b : List Plc) : truF x (a ++ b) = truF x a ++ truF x b := by simp [truF]
theorem truF_y {x : Pat} {y : Plc} (h : y.2.2.rdg y.1 x = .b true) : truF x [y] = [y] := by simp [truF, h]
theorem truF_n {x : Pat} {y : Plc} (h : y.2.2.rdg y.1 x ≠ .b true) : truF x [y] = [] := by simp [truF, h]
theorem truF_le (x : Pat) (ys : List Plc) : (truF x ys).length ≤ ys.length := List.length_filter_le _ _
theorem truF_met (x : Pat) (ys : List Plc) : truF x (metF x ys) = truF x ys := by
  rw [truF, metF, List.filter_filter, truF]
  refine List.filter_congr fun y _ => ?_
  cases e : y.2.2.rdg y.1 x with
  | b z => cases z <;> simp [rdF]
  | p z => simp [rdF]
theorem due_n {w : Wv} {p : Prog} (h : 0 < w.g.2) : w.due p = [] := by
  rw [Wv.due, if_neg]
  rintro ⟨h1, h2⟩
  rw [Wv.g, if_pos h1] at h
  rw [(goss_hgs w.rs).2.mpr h] at h2
  cases h2
theorem due_y {w : Wv} {p : Prog} (h : ¬ 0 < w.g.2) : w.due p = truF w.x p.plx := by
  rw [Wv.due, if_pos]
  by_cases hk : w.kd = .around
  · refine ⟨hk, ?_⟩
    rw [Wv.g, if_pos hk] at h
    cases e : Row.hgs w.rs with
    | false => rfl
    | true => exact absurd ((goss_hgs w.rs).2.mp e) h
  · rw [Wv.g, if_neg hk] at h
    exact absurd (by decide) h
theorem due_w {w : Wv} {p : Prog} (hp : PgB p) : wD (.lst ((w.due p).map plD)) ≤ 10 ^ 7 ∧ dD (.lst ((w.due p).map plD)) ≤ 150 := by
  have sub : ∀ y ∈ w.due p, y ∈ p.plx := fun y hy => by
    rw [Wv.due] at hy
    split at hy
    · exact (List.mem_filter.mp hy).1
    · cases hy
  have hw : ∀ y ∈ p.plx, wD (plD y) ≤ 780 ∧ dD (plD y) ≤ 63 := fun y hy => by
    have := mt_w (x := .calls []) hp hy
    rw [metD, wD, wDs, dD, dDs] at this
    have e1 : wD (Pat.calls []).d ≤ 70 := by decide +kernel
    have e2 : dD (Pat.calls []).d ≤ 2 := by decide +kernel
    omega
  have a := wDs_bd (m := 780) (xs := (w.due p).map plD) fun d hd => by
    obtain ⟨y, hy, rfl⟩ := List.mem_map.mp hd
    exact (hw y (sub y hy)).1
  have b := dDs_bd (m := 63) (xs := (w.due p).map plD) fun d hd => by
    obtain ⟨y, hy, rfl⟩ := List.mem_map.mp hd
    exact (hw y (sub y hy)).2
  have c : (w.due p).length ≤ 333 * 8 := by
    have := hp.len
    have := hp.n
    rw [Wv.due]
    split
    · have := truF_le w.x p.plx
      unfold Prog.plx at *
      omega
    · simp
  rw [List.length_map] at a
  have d := Nat.mul_le_mul_right 782 c
  rw [wD, dD]
  omega
theorem Wl.sub {S S' : Sto} {f : Nat} {t : Int} (h : Wl S f t) (s : Sub S S') : Wl S' f t := let ⟨c, l, u, h1, h2⟩ := h; ⟨c, l, u, s _ _ h1, h2⟩
/-! drawn rows of a weave -/
def cV : Nat → Nat
  | 0 => 1
  | n + 1 => 1 + 2 * cV n
theorem cV_mono : ∀ {n m}, n ≤ m → cV n ≤ cV m
  | 0, 0, _ => Nat.le_refl _
  | 0, m + 1, _ => by have := cV_mono (Nat.zero_le m); have h : cV 0 = 1 := rfl; show cV 0 ≤ 1 + 2 * cV m; omega
  | n + 1, 0, h => absurd h (by omega)
  | n + 1, m + 1, h => by have := cV_mono (n := n) (m := m) (by omega); rw [cV, cV]; omega
structure Vw (c r : Nat) (kd : Kd) (n : Nat) (x : Row) : Prop where
  w : wD x.d ≤ wR n
  d : dD x.d ≤ 4 + 2 * n
  j : jL 10 x.d = true
  f : ∀ m, n < m → 1 ≤ rwF c r kd.s m x.d ∧ rwF c r kd.s m x.d ≤ cV n
theorem Vw.mono {c r n m : Nat} {kd : Kd} {x : Row} (h : Vw c r kd n x) (hm : n ≤ m) : Vw c r kd m x := ⟨Nat.le_trans h.w (wR_mono hm), by have := h.d; omega, h.j, fun k hk => ⟨(h.f k (by omega)).1, Nat.le_trans (h.f k (by omega)).2 (cV_mono hm)⟩⟩
section
variable {c r n : Nat} {kd : Kd} {l k : Int} {e : Ex}
theorem cV_pos : 1 ≤ cV n := by have := cV_mono (Nat.zero_le n); rw [cV] at this; exact this
theorem vx_w {o : Bool} (h : e.Ok o 4) (hd : e.dep ≤ 2) : wD e.d ≤ 594 ∧ dD e.d ≤ 3 := ⟨Ex.wD_le (by decide) h hd, Nat.le_trans (Ex.dD_le e) (by omega)⟩
theorem vx_x (h : e.Ok (decide (kd = Kd.behind)) 4) (hd : e.dep ≤ 2) : wxB kd.s e.d = true := wxB_ok (fun z => by rw [of_decide_eq_true z]; rfl) h (by omega)
theorem vf_pl {w : Str} {xs : List D} (h1 : w ≠ "when") (h : plB c r kd.s w xs = true) {x : Row} (hx : x.d = .tup (.str w :: xs)) : ∀ m, n < m → 1 ≤ rwF c r kd.s m x.d ∧ rwF c r kd.s m x.d ≤ cV n := fun m hm => by
  obtain ⟨m, rfl⟩ : ∃ z, m = z + 1 := ⟨m - 1, by omega⟩
  have e : rwF c r kd.s (m + 1) x.d = 1 := by
    rw [hx]
    show (if w = "when" then _ else if plB c r kd.s w xs = true then 1 else 0) = 1
    rw [if_neg h1, if_pos h]
  rw [e]
  exact ⟨Nat.le_refl _, cV_pos⟩
theorem numB_ok {m i : Int} (h : 0 ≤ i ∧ i < m) : numB m (.int i) = true := by simp [numB, h.1, h.2]
theorem jL_4 {n : Nat} {a b c d : D} (hn : 4 ≤ n) (ha : jL n a = true) (hb : jL n b = true) (hc : jL n c = true) (hd : jL n d = true) : jL n (.tup [a, b, c, d]) = true := jL_tup.mpr ⟨hn, fun x hx => by
  simp only [List.mem_cons, List.not_mem_nil, or_false] at hx
  rcases hx with rfl | rfl | rfl | rfl
  · exact ha
  · exact hb
  · exact hc
  · exact hd⟩
theorem jL_i (h : 0 ≤ l ∧ l ≤ 1000) : jL 10 (.int l) = true := jL_int.mpr (by omega)
theorem vw_put (hl : 0 ≤ l ∧ l < 10) (he : e.Ok (decide (kd = Kd.behind)) 4) (hd : e.dep ≤ 2) : Vw c r kd n (.put l e) := by
  obtain ⟨a, b⟩ := vx_w he hd
  have w1 : wD (.str "put") ≤ 52 := by decide +kernel
  have w2 := w_int62 (i := l) ⟨hl.1, by omega⟩
  have := wR_pos n
  refine ⟨by rw [Row.d_put, wD, wDs, wDs, wDs, wDs]; omega, by rw [Row.d_put, dD, dDs, dDs, dDs, dDs]; simp only [dD]; omega, by rw [Row.d_put]; exact jL_3 (by decide) (by decide +kernel) (jL_i ⟨hl.1, by omega⟩) (Ex.jL (by decide) he), vf_pl (by decide) ?_ Row.d_put⟩
  show (numB 10 (.int l) && wxB kd.s e.d) = true
  rw [numB_ok hl, vx_x he hd]; rfl
theorem vw_go (hl : 0 ≤ l ∧ l < 10) (he : e.Ok false 4) (hd : e.dep ≤ 2) : Vw c r .around n (.go l e) := by
  obtain ⟨a, b⟩ := vx_w he hd
  have w1 : wD (.str "go") ≤ 52 := by decide +kernel
  have w2 := w_int62 (i := l) ⟨hl.1, by omega⟩
  have := wR_pos n
  refine ⟨by rw [Row.d_go, wD, wDs, wDs, wDs, wDs]; omega, by rw [Row.d_go, dD, dDs, dDs, dDs, dDs]; simp only [dD]; omega, by rw [Row.d_go]; exact jL_3 (by decide) (by decide +kernel) (jL_i ⟨hl.1, by omega⟩) (Ex.jL (by decide) he), vf_pl (by decide) ?_ Row.d_go⟩
  show (numB 10 (.int l) && wxB Kd.around.s e.d) = true
  rw [numB_ok hl, vx_x (kd := .around) he hd]; rfl
theorem vw_read (hl : 0 ≤ l ∧ l < 10) (hk : 0 ≤ k ∧ k < c) (hc : c ≤ 100) : Vw c r kd n (.read l k) := by
  have w1 : wD (.str "read") ≤ 52 := by decide +kernel
  have w2 := w_int62 (i := l) ⟨hl.1, by omega⟩
  have w3 := w_int62 (i := k) ⟨hk.1, by omega⟩
  have := wR_pos n
  refine ⟨by rw [Row.d_read, wD, wDs, wDs, wDs, wDs]; omega, by rw [Row.d_read, dD, dDs, dDs, dDs, dDs]; simp only [dD]; omega, by rw [Row.d_read]; exact jL_3 (by decide) (by decide +kernel) (jL_i ⟨hl.1, by omega⟩) (jL_i ⟨hk.1, by omega⟩), vf_pl (by decide) ?_ Row.d_read⟩
  show (numB 10 (.int l) && numB c (.int k)) = true
  rw [numB_ok hl, numB_ok hk]; rfl
theorem vw_write (hk : 0 ≤ k ∧ k < c) (hc : c ≤ 100) (he : e.Ok (decide (kd = Kd.behind)) 4) (hd : e.dep ≤ 2) : Vw c r kd n (.write k e) := by
  obtain ⟨a, b⟩ := vx_w he hd
  have w1 : wD (.str "write") ≤ 52 := by decide +kernel
  have w2 := w_int62 (i := k) ⟨hk.1, by omega⟩
  have := wR_pos n
  refine ⟨by rw [Row.d_write, wD, wDs, wDs, wDs, wDs]; omega, by rw [Row.d_write, dD, dDs, dDs, dDs, dDs]; simp only [dD]; omega, by rw [Row.d_write]; exact jL_3 (by decide) (by decide +kernel) (jL_i ⟨hk.1, by omega⟩) (Ex.jL (by decide) he), vf_pl (by decide) ?_ Row.d_write⟩
  show (numB c (.int k) && wxB kd.s e.d) = true
  rw [numB_ok hk, vx_x he hd]; rfl
theorem vw_call (hl : 0 ≤ l ∧ l < 10) (hk : 0 ≤ k ∧ k < r) (hr : r ≤ 100) (he : e.Ok (decide (kd = Kd.behind)) 4) (hd : e.dep ≤ 2) : Vw c r kd n (.call l k e) := by
  obtain ⟨a, b⟩ := vx_w he hd
  have w1 : wD (.str "call") ≤ 52 := by decide +kernel
  have w2 := w_int62 (i := l) ⟨hl.1, by omega⟩
  have w4 := w_int62 (i := k) ⟨hk.1, by omega⟩
  have := wR_pos n
  refine ⟨by rw [Row.d_call, wD, wDs, wDs, wDs, wDs, wDs]; omega, by rw [Row.d_call, dD, dDs, dDs, dDs, dDs, dDs]; simp only [dD]; omega, by rw [Row.d_call]; exact jL_4 (by decide) (by decide +kernel) (jL_i ⟨hl.1, by omega⟩) (jL_i ⟨hk.1, by omega⟩) (Ex.jL (by decide) he), vf_pl (by decide) ?_ Row.d_call⟩
  show (decide (("call" : Str) = "call") && (numB 10 (.int l) && (numB r (.int k) && wxB kd.s e.d))) = true
  rw [numB_ok hl, numB_ok hk, vx_x he hd]; rfl
theorem vw_tell (he : e.Ok (decide (kd = Kd.behind)) 4) (hd : e.dep ≤ 2) : Vw c r kd n (.tell e) := by
  obtain ⟨a, b⟩ := vx_w he hd
  have w1 : wD (.str "tell") ≤ 52 := by decide +kernel
  have := wR_pos n
  refine ⟨by rw [Row.d_tell, wD, wDs, wDs, wDs]; omega, by rw [Row.d_tell, dD, dDs, dDs, dDs]; simp only [dD]; omega, by rw [Row.d_tell]; exact jL_2 (by decide) (by decide +kernel) (Ex.jL (by decide) he), vf_pl (by decide) ?_ Row.d_tell⟩
  show (decide (("tell" : Str) = "tell") && wxB kd.s e.d) = true
  rw [vx_x he hd]; rfl
theorem vws_w {xs : List Row} (h : ∀ x ∈ xs, Vw c r kd n x) : wDs (xs.map Row.d) ≤ xs.length * (wR n + 2) ∧ dDs (xs.map Row.d) ≤ 4 + 2 * n := by
  have a := wDs_bd (m := wR n) (xs := xs.map Row.d) fun d hd => by obtain ⟨x, hx, rfl⟩ := List.mem_map.mp hd; exact (h x hx).w
  have b := dDs_bd (m := 4 + 2 * n) (xs := xs.map Row.d) fun d hd => by obtain ⟨x, hx, rfl⟩ := List.mem_map.mp hd; exact (h x hx).d
  rw [List.length_map] at a
  exact ⟨a, b⟩
theorem vws_j {xs : List Row} (h : ∀ x ∈ xs, Vw c r kd n x) (hl : xs.length ≤ 10) : jL 10 (rwsD xs) = true := jL_tup.mpr ⟨by rw [List.length_map]; exact hl, fun d hd => by obtain ⟨x, hx, rfl⟩ := List.mem_map.mp hd; exact (h x hx).j⟩
theorem vws_f {xs : List Row} (h : ∀ x ∈ xs, Vw c r kd n x) {m : Nat} (hm : n < m) : ∃ s, rsD (rwF c r kd.s m) (rwsD xs) = some s ∧ s ≤ xs.length * cV n := by
  obtain ⟨s, a, b⟩ := rsum_le (f := rwF c r kd.s m) (b := cV n) (xs := xs.map Row.d) fun d hd => by obtain ⟨x, hx, rfl⟩ := List.mem_map.mp hd; exact (h x hx).f m hm
  rw [List.length_map] at b
  exact ⟨s, a, b⟩
theorem vw_whn {a b : List Row} (he : e.Ok (decide (kd = Kd.behind)) 4) (hd : e.dep ≤ 2) (ha : ∀ x ∈ a, Vw c r kd n x) (hb : ∀ x ∈ b, Vw c r kd n x) (la : a.length ≤ 1) (lb : b.length ≤ 1) : Vw c r kd (n + 1) (.whn e a b) := by
  obtain ⟨e1, e2⟩ := vx_w he hd
  obtain ⟨a1, a2⟩ := vws_w ha
  obtain ⟨b1, b2⟩ := vws_w hb
  have w1 : wD (.str "when") ≤ 52 := by decide +kernel
  have la' := Nat.mul_le_mul_right (wR n + 2) la
  have lb' := Nat.mul_le_mul_right (wR n + 2) lb
  refine ⟨by rw [Row.d_whn, wD, wDs, wDs, wDs, wDs, wDs, wD_rws, wD_rws, wR]; omega, by rw [Row.d_whn, dD, dDs, dDs, dDs, dDs, dDs, dD_rws, dD_rws]; simp only [dD]; omega, by rw [Row.d_whn]; exact jL_4 (by decide) (by decide +kernel) (Ex.jL (by decide) he) (vws_j ha (by omega)) (vws_j hb (by omega)), fun m hm => ?_⟩
  obtain ⟨m, rfl⟩ : ∃ z, m = z + 1 := ⟨m - 1, by omega⟩
  obtain ⟨s1, f1, l1⟩ := vws_f ha (m := m) (by omega)
  obtain ⟨s2, f2, l2⟩ := vws_f hb (m := m) (by omega)
  have ee : rwF c r kd.s (m + 1) (Row.whn e a b).d = 1 + s1 + s2 := by
    rw [Row.d_whn]
    show (if ("when" : Str) = "when" then (if wxB kd.s e.d = true then (match rsD (rwF c r kd.s m) (rwsD a), rsD (rwF c r kd.s m) (rwsD b) with
      | some x, some y => 1 + x + y
      | _, _ => 0) else 0) else (if plB c r kd.s "when" [e.d, rwsD a, rwsD b] = true then 1 else 0)) = _
    rw [if_pos rfl, if_pos (vx_x he hd), f1, f2]
  have c1 := Nat.mul_le_mul_right (cV n) la
  have c2 := Nat.mul_le_mul_right (cV n) lb
  rw [ee, cV]
  omega
end
/-- a drawn weave -/
structure Wv.Ok (w : Wv) (p : Prog) : Prop where
  x : w.x.Ok p.cells.length p.rs.length
  dx : w.x.dep ≤ 2
  px : w.x.parts ≤ 15
  rs : ∀ r ∈ w.rs, Vw p.cells.length p.rs.length w.kd 2 r
  n : w.rs.length ≤ 4
  m : ∃ s, rsD (rwF p.cells.length p.rs.length w.kd.s 6) (rwsD w.rs) = some s ∧ s ≤ 20
  wl : wD w.la ≤ 600
  dl : dD w.la ≤ 3
  jl : jL 10 w.la = true
  la : (w.kd = .around ∧ wxB w.kd.s w.la = true) ∨ (w.kd ≠ .around ∧ w.la = .non)
theorem Wv.Ok.w {w : Wv} {p : Prog} (h : w.Ok p) (hc : p.cells.length ≤ 8) (hr : p.rs.length ≤ 8) : wD w.d ≤ 50000 ∧ dD w.d ≤ 20 ∧ dD (rwsD w.rs) ≤ 10 ∧ wDs (w.rs.map Row.d) ≤ 40000 ∧ dD w.x.d ≤ 4 := by
  have a := Pat.wD_le hc hr h.x h.dx
  have b := w.x.dD_le
  have c := h.dx
  obtain ⟨d, e⟩ := vws_w h.rs
  have f := Nat.mul_le_mul_right (wR 2 + 2) h.n
  have w2 : wP 2 = 3100 := rfl
  have w3 : wR 2 = 9600 := rfl
  have w4 : wD (.str w.kd.s) ≤ 100 := by cases w.kd <;> decide +kernel
  have := h.wl
  have := h.dl
  rw [Wv.d, wD, wDs, wDs, wDs, wDs, wDs, dD, dDs, dDs, dDs, dDs, dDs, wD_rws, dD_rws]
  simp only [dD]
  omega
theorem Wv.Ok.j {w : Wv} {p : Prog} (h : w.Ok p) (hc : p.cells.length ≤ 8) (hr : p.rs.length ≤ 8) : jL 10 w.d = true := by
  have := h.n
  exact jL_4 (by decide) (Pat.jL hc hr h.x) (by cases w.kd <;> decide +kernel) (vws_j h.rs (by omega)) h.jl
theorem Wv.Ok.wv {w : Wv} {p : Prog} (h : w.Ok p) : wvB p.cells.length p.rs.length w.d = true := by
  obtain ⟨s, e, hs⟩ := h.m
  have h1 : partsF p.cells.length p.rs.length 60 w.x.d = w.x.parts := partsF_pat h.x (by have := h.dx; omega)
  have h2 : w.kd.s ∈ (["ahead", "behind", "around"] : List Str) := by cases w.kd <;> decide
  have h3 : (if w.kd.s = "around" then wxB w.kd.s w.la else nonB w.la) = true := by
    rcases h.la with ⟨a, b⟩ | ⟨a, b⟩
    · rw [if_pos (by rw [a]; rfl)]; exact b
    · rw [if_neg (by
        cases hk : w.kd with
        | around => exact absurd hk a
        | ahead => decide
        | behind => decide), b]
      rfl
  rw [Wv.d, wvB, h1, decide_eq_true w.x.parts_pos, decide_eq_true h.px, decide_eq_true h2, h3, e]
  simp [hs]
/-- without its gos -/
def Wv.ng (w : Wv) : Wv := ⟨w.x, w.kd, Row.ngs w.rs, w.la⟩
theorem wD_4 {a b c d : D} : wD (.tup [a, b, c, d]) = wD a + wD b + wD c + wD d + 12 := by rw [wD, wDs, wDs, wDs, wDs, wDs]; omega
theorem dD_4 {a b c d : D} : dD (.tup [a, b, c, d]) = max (dD a) (max (dD b) (max (dD c) (dD d))) + 1 := by rw [dD, dDs, dDs, dDs, dDs, dDs]; omega
theorem Wv.d_w {w : Wv} : wD w.d = wD w.x.d + wD (.str w.kd.s) + wDs (w.rs.map Row.d) + wD w.la + 16 ∧ dD w.d = max (dD w.x.d) (max (dDs (w.rs.map Row.d) + 1) (dD w.la)) + 1 := by
  constructor
  · rw [Wv.d, wD_4, wD_rws]; omega
  · rw [Wv.d, dD_4, dD_rws]
    have : dD (.str w.kd.s) = 0 := rfl
    omega
theorem Wv.ng_w {w : Wv} : wD w.ng.d ≤ wD w.d ∧ dD w.ng.d ≤ dD w.d ∧ dD (rwsD w.ng.rs) ≤ dD (rwsD w.rs) := by
  obtain ⟨a, b⟩ := ngs_w w.rs
  have h1 := Wv.d_w (w := w)
  have h2 := Wv.d_w (w := w.ng)
  rw [dD_rws, dD_rws]
  simp only [Wv.ng] at *
  omega
theorem due_len {w : Wv} {p : Prog} (hp : PgB p) : ((w.due p).map plD).length ≤ 333 * 8 := by
  have := hp.len
  have := hp.n
  rw [List.length_map, Wv.due]
  split
  · have := truF_le w.x p.plx
    unfold Prog.plx at *
    omega
  · simp
section
variable {S : Sto} {w : Wv} {q : Q1}
theorem sl_wv2 (k : q (.tup [w.x.d, .str w.kd.s]) S) : SlW S w.d (([] : List Int)[0]?) ([(2 : Int)][0]?) q := ⟨_, rfl, k⟩
theorem ix_wv0 (k : q w.x.d S) : IxW S w.d (.int 0) q := ixw_of (z := w.x.d) rfl k
theorem ix_wv1 (k : q (.str w.kd.s) S) : IxW S w.d (.int 1) q := ixw_of (z := .str w.kd.s) rfl k
theorem ix_wv2 (k : q (rwsD w.rs) S) : IxW S w.d (.int 2) q := ixw_of (z := rwsD w.rs) rfl k
theorem ix_wv3 (k : q w.la S) : IxW S w.d (.int 3) q := ixw_of (z := w.la) rfl k
end
end Mi
set_option maxHeartbeats 1000000
/-! XG: ways through rows; more gos. -/
namespace Mi
open PySem
/-- rising, from lo to hi -/
structure Pw (ws : List Int) (lo hi : Int) : Prop where
  ris : ws.Pairwise (· < ·)
  b : ∀ x ∈ ws, lo ≤ x ∧ x ≤ hi
  lo : lo ∈ ws
  hi : hi ∈ ws
theorem Pw.len {ws : List Int} {lo hi : Int} (h : Pw ws lo hi) : (ws.length : Int) ≤ hi - lo + 1 := by
  have key : ∀ (ws : List Int) (lo hi : Int), ws.Pairwise (· < ·) → (∀ x ∈ ws, lo ≤ x ∧ x ≤ hi) → (ws.length : Int) ≤ max 0 (hi - lo + 1) := by
    intro ws
    induction ws with
    | nil => intro lo hi _ _; simp only [List.length_nil]; omega
    | cons x xs ih =>
      intro lo hi hp hb
      obtain ⟨p1, p2⟩ := List.pairwise_cons.mp hp
      have hx := hb x List.mem_cons_self
      have := ih (x + 1) hi p2 fun y hy => ⟨by have := p1 y hy; omega, (hb y (List.mem_cons_of_mem _ hy)).2⟩
      rw [List.length_cons]
      push_cast
      omega
  have a := key ws lo hi h.ris h.b
  have := h.b lo h.lo
  omega
theorem Pw.one (i : Int) : Pw [i] i i := ⟨by simp, by simp, by simp, by simp⟩
theorem Pw.ne {ws : List Int} {lo hi : Int} (h : Pw ws lo hi) : 1 ≤ ws.length := List.length_pos_of_mem h.lo
theorem Pw.head {ws : List Int} {lo hi : Int} (h : Pw ws lo hi) : ws[0]? = some lo := by
  obtain ⟨h1, h2, h3, _⟩ := h
  cases ws with
  | nil => cases h3
  | cons x xs =>
    have a := h2 x List.mem_cons_self
    rcases List.mem_cons.mp h3 with e | e
    · rw [e]; rfl
    · have := (List.pairwise_cons.mp h1).1 lo e; omega
theorem Pw.last {ws : List Int} {lo hi : Int} (h : Pw ws lo hi) : ws[ws.length - 1]? = some hi := by
  obtain ⟨h1, h2, _, h4⟩ := h
  obtain ⟨i, hi', e⟩ := List.getElem_of_mem h4
  have hl : ws.length - 1 < ws.length := by omega
  rw [List.getElem?_eq_getElem hl]
  by_cases c : i = ws.length - 1
  · subst c; rw [e]
  · have := List.pairwise_iff_getElem.mp h1 i (ws.length - 1) hi' hl (by omega)
    have := (h2 ws[ws.length - 1] (List.getElem_mem hl)).2
    omega
theorem atI_last {α : Type} {xs : List α} {x : α} (h : xs[xs.length - 1]? = some x) : L2.atI xs (-1) = some x := by
  have hl : 0 < xs.length := by
    have := (List.getElem?_eq_some_iff.mp h).1
    omega
  have : L2.ixN xs.length (-1) = some (xs.length - 1) := by
    unfold L2.ixN
    rw [if_neg (by decide), if_pos (by omega)]
    congr 1
    omega
  rw [L2.atI, this]
  exact h
theorem Pw.or {a b : List Int} {la ha lb hb : Int} (h1 : Pw a la ha) (h2 : Pw b lb hb) : Pw (sortU (a ++ b)) (min la lb) (max ha hb) := by
  refine ⟨sortU_ris _, fun x hx => ?_, ?_, ?_⟩
  · rw [sortU_mem] at hx
    rcases List.mem_append.mp hx with hx | hx
    · have := h1.b x hx; omega
    · have := h2.b x hx; omega
  · rw [sortU_mem, List.mem_append]
    by_cases h : la ≤ lb
    · rw [show min la lb = la by omega]; exact .inl h1.lo
    · rw [show min la lb = lb by omega]; exact .inr h2.lo
  · rw [sortU_mem, List.mem_append]
    by_cases h : ha ≤ hb
    · rw [show max ha hb = hb by omega]; exact .inr h2.hi
    · rw [show max ha hb = ha by omega]; exact .inl h1.hi
/-- sums of each of a and each of b -/
def sums (a b : List Int) : List Int := (a.map fun m => b.map fun h => m + h).flatten
theorem sums_mem {a b : List Int} {x : Int} : x ∈ sums a b ↔ ∃ m ∈ a, ∃ h ∈ b, x = m + h := by
  unfold sums
  rw [List.mem_flatten]
  constructor
  · rintro ⟨l, h1, h2⟩
    obtain ⟨m, hm, rfl⟩ := List.mem_map.mp h1
    obtain ⟨h, hh, rfl⟩ := List.mem_map.mp h2
    exact ⟨m, hm, h, hh, rfl⟩
  · rintro ⟨m, hm, h, hh, rfl⟩
    exact ⟨_, List.mem_map_of_mem hm, List.mem_map_of_mem hh⟩
theorem sums_len {b : List Int} : ∀ a : List Int, (sums a b).length = a.length * b.length
  | [] => by simp [sums]
  | x :: xs => by
    have := sums_len (b := b) xs
    unfold sums at *
    rw [List.map_cons, List.flatten_cons, List.length_append, List.length_map, this, List.length_cons, Nat.add_mul]
    omega
theorem sums_snoc {a b : List Int} {m : Int} : sums (a ++ [m]) b = sums a b ++ b.map fun h => m + h := by
  unfold sums
  simp
theorem Pw.sum {a b : List Int} {la ha lb hb : Int} (h1 : Pw a la ha) (h2 : Pw b lb hb) : Pw (sortU (sums a b)) (la + lb) (ha + hb) := by
  refine ⟨sortU_ris _, fun x hx => ?_, ?_, ?_⟩
  · rw [sortU_mem, sums_mem] at hx
    obtain ⟨m, hm, h, hh, rfl⟩ := hx
    have := h1.b m hm
    have := h2.b h hh
    omega
  · rw [sortU_mem, sums_mem]; exact ⟨_, h1.lo, _, h2.lo, rfl⟩
  · rw [sortU_mem, sums_mem]; exact ⟨_, h1.hi, _, h2.hi, rfl⟩
mutual
theorem gos_lo : ∀ r : Row, 0 ≤ r.gos.1 ∧ r.gos.1 ≤ r.gos.2
  | .go _ _ => by simp [Row.gos]
  | .whn e a b => by
    have h1 := goss_lo a
    have h2 := goss_lo b
    simp only [Row.gos]
    omega
  | .put _ _ => by simp [Row.gos]
  | .read _ _ => by simp [Row.gos]
  | .write _ _ => by simp [Row.gos]
  | .call _ _ _ => by simp [Row.gos]
  | .tell _ => by simp [Row.gos]
  | .look _ _ => by simp [Row.gos]
  | .note _ _ => by simp [Row.gos]
  | .wove _ _ _ => by simp [Row.gos]
theorem goss_lo : ∀ rs : List Row, 0 ≤ (Row.goss rs).1 ∧ (Row.goss rs).1 ≤ (Row.goss rs).2
  | [] => by simp [Row.goss]
  | r :: rs => by
    have h1 := gos_lo r
    have h2 := goss_lo rs
    simp only [Row.goss]
    omega
end
theorem goss_app : ∀ (us vs : List Row), Row.goss (us ++ vs) = ((Row.goss us).1 + (Row.goss vs).1, (Row.goss us).2 + (Row.goss vs).2)
  | [], vs => by simp [Row.goss]
  | u :: us, vs => by rw [List.cons_append, Row.goss, goss_app us vs, Row.goss]; simp [Int.add_assoc]
/-- a right weave goes on no more often than it has rows -/
theorem gos_rw {c r : Nat} {k : Str} : ∀ (n : Nat),
    (∀ x : Row, rwF c r k n x.d ≠ 0 → x.gos.2 ≤ rwF c r k n x.d) ∧ (∀ (xs : List Row) (s : Nat), rsum (rwF c r k n) (xs.map Row.d) = some s → (Row.goss xs).2 ≤ s) := by
  intro n
  have rows : ∀ (n : Nat), (∀ x : Row, rwF c r k n x.d ≠ 0 → x.gos.2 ≤ rwF c r k n x.d) → ∀ (xs : List Row) (s : Nat), rsum (rwF c r k n) (xs.map Row.d) = some s → (Row.goss xs).2 ≤ s := by
    intro n h xs
    induction xs with
    | nil => intro s e; cases e; simp [Row.goss]
    | cons x xs ih =>
      intro s e
      rw [List.map_cons, rsum] at e
      split at e
      · cases e
      · rename_i hx
        cases e2 : rsum (rwF c r k n) (xs.map Row.d) with
        | none => rw [e2] at e; cases e
        | some z =>
          rw [e2] at e
          cases e
          have := h x hx
          have := ih z e2
          simp only [Row.goss]
          push_cast
          omega
  induction n with
  | zero => exact ⟨fun x h => absurd rfl h, rows 0 fun x h => absurd rfl h⟩
  | succ n ih =>
    have one : ∀ x : Row, rwF c r k (n + 1) x.d ≠ 0 → x.gos.2 ≤ rwF c r k (n + 1) x.d := by
      intro x h
      cases x with
      | whn e a b =>
        rw [Row.d_whn] at h ⊢
        have ee : rwF c r k (n + 1) (.tup [.str "when", e.d, rwsD a, rwsD b]) = (if ("when" : Str) = "when" then (if wxB k e.d = true then (match rsD (rwF c r k n) (rwsD a), rsD (rwF c r k n) (rwsD b) with
          | some x, some y => 1 + x + y
          | _, _ => 0) else 0) else (if plB c r k "when" [e.d, rwsD a, rwsD b] = true then 1 else 0)) := rfl
        rw [ee, if_pos rfl] at h ⊢
        split at h
        · rename_i hw
          rw [if_pos hw]
          cases ea : rsD (rwF c r k n) (rwsD a) with
          | none => rw [ea] at h; exact absurd rfl h
          | some s1 =>
            cases eb : rsD (rwF c r k n) (rwsD b) with
            | none => rw [ea, eb] at h; exact absurd rfl h
            | some s2 =>
              have h1 := ih.2 a s1 ea
              have h2 := ih.2 b s2 eb
              simp only [Row.gos]
              push_cast
              omega
        · exact absurd rfl h
      | go _ _ => simp only [Row.gos]; omega
      | put _ _ => simp only [Row.gos]; omega
      | read _ _ => simp only [Row.gos]; omega
      | write _ _ => simp only [Row.gos]; omega
      | call _ _ _ => simp only [Row.gos]; omega
      | tell _ => simp only [Row.gos]; omega
      | look _ _ => simp only [Row.gos]; omega
      | note _ _ => simp only [Row.gos]; omega
      | wove _ _ _ => simp only [Row.gos]; omega
    exact ⟨one, rows _ one⟩
theorem wv_gos {c r : Nat} {w : Wv} (h : wvB c r w.d = true) : (Row.goss w.rs).2 ≤ 20 := by
  rw [Wv.d, wvB] at h
  simp only [Bool.and_eq_true] at h
  obtain ⟨_, _, _, h⟩ := h
  split at h
  · rename_i m e
    have := (gos_rw 6).2 w.rs m e
    have := of_decide_eq_true h
    omega
  · cases h
/-- rows and what they are with more gos -/
structure More (rs xs : List Row) : Prop where
  w : wDs (xs.map Row.d) ≤ 8 * wDs (rs.map Row.d) + 200
  d : dDs (xs.map Row.d) ≤ dDs (rs.map Row.d) + 2
  l : xs.length ≤ rs.length + 1
  j : jL 10 (rwsD rs) = true → jL 11 (rwsD xs) = true
def goR : Row := .go 1 .inn
theorem goR_w : wD goR.d ≤ 190 ∧ dD goR.d ≤ 2 ∧ jL 11 goR.d = true := by decide +kernel
/-- .. ahead of one put in -/
structure Md (us zs : List Row) : Prop where
  w : wDs (zs.map Row.d) ≤ 8 * wDs (us.map Row.d)
  d : dDs (zs.map Row.d) ≤ dDs (us.map Row.d) + 2
  l : zs.length = us.length
  j : (∀ x ∈ us, jL 10 x.d = true) → ∀ z ∈ zs, jL 11 z.d = true
theorem Md.nil : Md [] [] := ⟨by simp [wDs], by simp [dDs], rfl, fun _ _ h => by cases h⟩
theorem Md.snoc {us zs : List Row} {r s : Row} (h : Md us zs) (h1 : wD s.d ≤ 8 * wD r.d) (h2 : dD s.d ≤ dD r.d + 2) (h3 : jL 10 r.d = true → jL 11 s.d = true) : Md (us ++ [r]) (zs ++ [s]) := by
  have := h.w
  have := h.d
  refine ⟨?_, ?_, by rw [List.length_append, List.length_append, h.l]; rfl, fun hu z hz => ?_⟩
  · rw [List.map_append, List.map_append, wDs_append, wDs_append, List.map_cons, List.map_cons, List.map_nil, wDs, wDs, wDs, wDs]; omega
  · rw [List.map_append, List.map_append, dDs_append, dDs_append, List.map_cons, List.map_cons, List.map_nil, dDs, dDs, dDs, dDs]; omega
  · rcases List.mem_append.mp hz with hz | hz
    · exact h.j (fun x hx => hu x (List.mem_append_left _ hx)) z hz
    · rw [List.mem_singleton.mp hz]
      exact h3 (hu r (by simp))
theorem Md.same {us zs : List Row} {r : Row} (h : Md us zs) : Md (us ++ [r]) (zs ++ [r]) := h.snoc (by omega) (by omega) (fun h => jL_mono (by decide) h)
theorem jL_rows {n : Nat} {rs : List Row} : jL n (rwsD rs) = true ↔ rs.length ≤ n ∧ ∀ r ∈ rs, jL n r.d = true := by
  rw [rwsD, jL_tup, List.length_map]
  refine ⟨fun ⟨a, b⟩ => ⟨a, fun r hr => b _ (List.mem_map_of_mem hr)⟩, fun ⟨a, b⟩ => ⟨a, fun x hx => ?_⟩⟩
  obtain ⟨r, hr, rfl⟩ := List.mem_map.mp hx
  exact b r hr
theorem jL_4' {n : Nat} {a b c d : D} (h : jL n (.tup [a, b, c, d]) = true) : jL n a = true ∧ jL n b = true ∧ jL n c = true ∧ jL n d = true := by
  obtain ⟨_, h⟩ := jL_tup.mp h
  exact ⟨h a (by simp), h b (by simp), h c (by simp), h d (by simp)⟩
theorem Md.whn {us zs : List Row} {e : Ex} {a b a' b' : List Row} (h : Md us zs) (ha : More a a') (hb : More b b') : Md (us ++ [.whn e a b]) (zs ++ [.whn e a' b']) := by
  have w0 : wD (.str "when") = 42 := by decide +kernel
  have := ha.w
  have := hb.w
  have := ha.d
  have := hb.d
  refine h.snoc ?_ ?_ fun hj => ?_
  · rw [Row.d_whn, Row.d_whn, wD_4, wD_4, wD_rws, wD_rws, wD_rws, wD_rws, w0]; omega
  · rw [Row.d_whn, Row.d_whn, dD_4, dD_4, dD_rws, dD_rws, dD_rws, dD_rws]; omega
  · rw [Row.d_whn] at hj ⊢
    obtain ⟨j1, j2, j3, j4⟩ := jL_4' hj
    exact jL_4 (by decide) (jL_mono (by decide) j1) (jL_mono (by decide) j2) (ha.j j3) (hb.j j4)
theorem Md.more {us zs : List Row} (h : Md us zs) : More us zs := ⟨by have := h.w; omega, h.d, by rw [h.l]; omega, fun hj => by
  obtain ⟨a, b⟩ := jL_rows.mp hj
  exact jL_rows.mpr ⟨by rw [h.l]; omega, h.j b⟩⟩
theorem Md.ins {us zs : List Row} (h : Md us zs) (i : Nat) : More us (zs.take i ++ [goR] ++ zs.drop i) := by
  obtain ⟨g1, g2, g3⟩ := goR_w
  have e1 : wDs (zs.map Row.d) = wDs ((zs.take i).map Row.d) + wDs ((zs.drop i).map Row.d) := by rw [← wDs_append, ← List.map_append, List.take_append_drop]
  have e2 : dDs (zs.map Row.d) = max (dDs ((zs.take i).map Row.d)) (dDs ((zs.drop i).map Row.d)) := by rw [← dDs_append, ← List.map_append, List.take_append_drop]
  have := h.w
  have := h.d
  have := h.l
  refine ⟨?_, ?_, ?_, fun hj => ?_⟩
  · rw [List.map_append, List.map_append, wDs_append, wDs_append, List.map_cons, List.map_nil, wDs, wDs]; omega
  · rw [List.map_append, List.map_append, dDs_append, dDs_append, List.map_cons, List.map_nil, dDs, dDs]; omega
  · rw [List.length_append, List.length_append, List.length_take, List.length_drop, List.length_cons, List.length_nil]; omega
  · obtain ⟨a, b⟩ := jL_rows.mp hj
    refine jL_rows.mpr ⟨by rw [List.length_append, List.length_append, List.length_take, List.length_drop, List.length_cons, List.length_nil]; omega, fun r hr => ?_⟩
    rcases List.mem_append.mp hr with hr | hr
    · rcases List.mem_append.mp hr with hr | hr
      · exact h.j b r (List.mem_of_mem_take hr)
      · rw [List.mem_singleton.mp hr]; exact g3
    · exact h.j b r (List.mem_of_mem_drop hr)
end Mi
set_option maxHeartbeats 1000000
/-! XS: what a law's own look at weaves leans on. -/
namespace Mi
open PySem
def mo2 (w : Str) : Int := if w = "num" then 999999 else if w = "at" then 9 else -1
theorem lk2 (w : Str) : (lkD ([(.inr "num" : L2.Key), .inr "at"].zip [D.int 999999, .int 9]) (.inr w)).getD (.int (-1)) = .int (mo2 w) := by
  unfold mo2
  by_cases h1 : w = "num"
  · subst h1; rfl
  · by_cases h2 : w = "at"
    · subst h2; rfl
    · rw [if_neg h1, if_neg h2]
      have a1 : ¬ ("num" : Str) = w := fun e => h1 e.symm
      have a2 : ¬ ("at" : Str) = w := fun e => h2 e.symm
      simp [lkD, List.find?, a1, a2]
def sz6 (w : Str) : Int := if w = "put" then 3 else if w = "read" then 3 else if w = "write" then 3 else if w = "call" then 4 else if w = "tell" then 2 else if w = "go" then 3 else 0
theorem lk6 (w : Str) : (lkD ([(.inr "put" : L2.Key), .inr "read", .inr "write", .inr "call", .inr "tell", .inr "go"].zip [D.int 3, .int 3, .int 3, .int 4, .int 2, .int 3]) (.inr w)).getD (.int 0) = .int (sz6 w) := by
  unfold sz6
  by_cases h1 : w = "put"
  · subst h1; rfl
  by_cases h2 : w = "read"
  · subst h2; rfl
  by_cases h3 : w = "write"
  · subst h3; rfl
  by_cases h4 : w = "call"
  · subst h4; rfl
  by_cases h5 : w = "tell"
  · subst h5; rfl
  by_cases h6 : w = "go"
  · subst h6; rfl
  rw [if_neg h1, if_neg h2, if_neg h3, if_neg h4, if_neg h5, if_neg h6]
  have a1 : ¬ ("put" : Str) = w := fun e => h1 e.symm
  have a2 : ¬ ("read" : Str) = w := fun e => h2 e.symm
  have a3 : ¬ ("write" : Str) = w := fun e => h3 e.symm
  have a4 : ¬ ("call" : Str) = w := fun e => h4 e.symm
  have a5 : ¬ ("tell" : Str) = w := fun e => h5 e.symm
  have a6 : ¬ ("go" : Str) = w := fun e => h6 e.symm
  simp [lkD, List.find?, a1, a2, a3, a4, a5, a6]
theorem sz6_yes {w : Str} {m : Nat} (h : sz6 w = ((m + 1 : Nat) : Int)) : (w = "put" ∧ m = 2) ∨ (w = "read" ∧ m = 2) ∨ (w = "write" ∧ m = 2) ∨ (w = "call" ∧ m = 3) ∨ (w = "tell" ∧ m = 1) ∨ (w = "go" ∧ m = 2) := by
  unfold sz6 at h
  by_cases h1 : w = "put"
  · rw [if_pos h1] at h; exact .inl ⟨h1, by omega⟩
  rw [if_neg h1] at h
  by_cases h2 : w = "read"
  · rw [if_pos h2] at h; exact .inr (.inl ⟨h2, by omega⟩)
  rw [if_neg h2] at h
  by_cases h3 : w = "write"
  · rw [if_pos h3] at h; exact .inr (.inr (.inl ⟨h3, by omega⟩))
  rw [if_neg h3] at h
  by_cases h4 : w = "call"
  · rw [if_pos h4] at h; exact .inr (.inr (.inr (.inl ⟨h4, by omega⟩)))
  rw [if_neg h4] at h
  by_cases h5 : w = "tell"
  · rw [if_pos h5] at h; exact .inr (.inr (.inr (.inr (.inl ⟨h5, by omega⟩))))
  rw [if_neg h5] at h
  by_cases h6 : w = "go"
  · rw [if_pos h6] at h; exact .inr (.inr (.inr (.inr (.inr ⟨h6, by omega⟩))))
  rw [if_neg h6] at h
  omega
theorem plB_sz {c r : Nat} {k w : Str} {xs : List D} (h : ¬ sz6 w = ((xs.length + 1 : Nat) : Int)) : plB c r k w xs = false := by
  match xs, h with
  | [], _ => rfl
  | [x], h =>
    have : w ≠ "tell" := fun e => h (by subst e; rfl)
    simp [plB, this]
  | [x, y], h =>
    have a1 : w ≠ "put" := fun e => h (by subst e; rfl)
    have a2 : w ≠ "read" := fun e => h (by subst e; rfl)
    have a3 : w ≠ "write" := fun e => h (by subst e; rfl)
    have a4 : w ≠ "go" := fun e => h (by subst e; rfl)
    simp [plB, a1, a2, a3, a4]
  | [x, y, z], h =>
    have a1 : w ≠ "call" := fun e => h (by subst e; rfl)
    simp [plB, a1]
  | _ :: _ :: _ :: _ :: _, _ => rfl
theorem lsK_b {k : Str} (h : k = "behind") : [D.str "in", .str "out"] = (lsK k).map .str := by rw [lsK, if_pos h]; rfl
theorem lsK_n {k : Str} (h : ¬ k = "behind") : [D.str "in"] = (lsK k).map .str := by rw [lsK, if_neg h]; rfl
theorem rowB_not {c r : Nat} {k : Str} {f : D → Nat} {d : D} (h : ∀ w xs, d ≠ .tup (.str w :: xs)) : rowB c r k f d = 0 := by
  unfold rowB
  split
  · exact absurd rfl (h _ _)
  · rfl
/-! built of right ones -/
section
variable {n w m : Nat} {a b c d : D}
theorem bt_1 (ha : Bent n w m a) (hn : 1 ≤ n) {w' m' : Nat} (hw : w + 6 ≤ w') (hm : m + 1 ≤ m') : Bent n w' m' (.tup [a]) := ⟨jL_tup.mpr ⟨hn, fun x hx => by rw [List.mem_singleton.mp hx]; exact ha.j⟩, by rw [wD_1]; have := ha.w; omega, by simp only [dD, dDs]; have := ha.d; omega⟩
theorem bt_2 {wa wb ma mb : Nat} (ha : Bent n wa ma a) (hb : Bent n wb mb b) (hn : 2 ≤ n) {w' m' : Nat} (hw : wa + wb + 8 ≤ w') (hm : max ma mb + 1 ≤ m') : Bent n w' m' (.tup [a, b]) := ⟨jL_2 hn ha.j hb.j, by rw [wD_2]; have := ha.w; have := hb.w; omega, by simp only [dD, dDs]; have := ha.d; have := hb.d; omega⟩
theorem bt_3 {wa wb wc ma mb mc : Nat} (ha : Bent n wa ma a) (hb : Bent n wb mb b) (hc : Bent n wc mc c) (hn : 3 ≤ n) {w' m' : Nat} (hw : wa + wb + wc + 10 ≤ w') (hm : max ma (max mb mc) + 1 ≤ m') : Bent n w' m' (.tup [a, b, c]) := ⟨jL_3 hn ha.j hb.j hc.j, by rw [wD_3]; have := ha.w; have := hb.w; have := hc.w; omega, by simp only [dD, dDs]; have := ha.d; have := hb.d; have := hc.d; omega⟩
theorem bt_4 {wa wb wc wd ma mb mc md : Nat} (ha : Bent n wa ma a) (hb : Bent n wb mb b) (hc : Bent n wc mc c) (hd : Bent n wd md d) (hn : 4 ≤ n) {w' m' : Nat} (hw : wa + wb + wc + wd + 12 ≤ w') (hm : max ma (max mb (max mc md)) + 1 ≤ m') : Bent n w' m' (.tup [a, b, c, d]) := ⟨jL_4 hn ha.j hb.j hc.j hd.j, by rw [wD_4]; have := ha.w; have := hb.w; have := hc.w; have := hd.w; omega, by simp only [dD, dDs]; have := ha.d; have := hb.d; have := hc.d; have := hd.d; omega⟩
theorem bt_list {xs : List D} (h : ∀ x ∈ xs, Bent n w m x) (hn : xs.length ≤ n) {w' m' : Nat} (hw : xs.length * (w + 2) + 4 ≤ w') (hm : m + 1 ≤ m') : Bent n w' m' (.tup xs) := by
  have a := wDs_bd (m := w) (xs := xs) fun x hx => (h x hx).w
  have b := dDs_bd (m := m) (xs := xs) fun x hx => (h x hx).d
  exact ⟨jL_tup.mpr ⟨hn, fun x hx => (h x hx).j⟩, by rw [wD]; omega, by rw [dD]; omega⟩
theorem bt_str {s : Str} (h : jL n (.str s) = true) (hw : wD (.str s) ≤ w) : Bent n w m (.str s) := ⟨h, hw, Nat.zero_le _⟩
end
theorem rep_len {k : Nat} {x : D} : (List.replicate k [x]).flatten.length = k := by
  induction k with
  | zero => rfl
  | succ k ih => rw [List.replicate_succ, List.flatten_cons, List.length_append, ih]; simp; omega
section
variable {f : D → Nat} {xs ys : List D} {y : D} {m : Nat}
theorem rs_bad (he : rsum f xs = (if f y = 0 then none else (rsum f ys).map (f y + ·)).map (m + ·)) (e : f y = 0) : rsum f xs = none := by
  rw [he, if_pos e]; rfl
theorem rs_add {v : Nat} (he : rsum f xs = (if f y = 0 then none else (rsum f ys).map (f y + ·)).map (m + ·)) (e : f y = v) (hv : v ≠ 0) : rsum f xs = (rsum f ys).map ((m + v) + ·) := by
  rw [he, e, if_neg hv, Option.map_map]
  congr 1
  funext z
  simp only [Function.comp_apply]
  omega
end
theorem bin_mulT1 {S : Sto} {q : Q1} {x : D} {i : Int} (h : 2 ≤ i ∧ i ≤ 1000) (k : q (.tup (List.replicate i.toNat [x]).flatten) S) : BinW .mul S (.tup [x]) (.int i) q := bin_mulT ⟨rfl, by omega, h.2, by show 1 ≤ 1000; decide⟩ k
theorem lstD_loc {S : Sto} {n : Nat} {xs : List D} (h : S n = some (.lst xs)) : lstD S (.loc n) = some xs := by simp only [lstD, h]
theorem bin_addV {S : Sto} {q : Q1} {v : D} {L ys : List D} (hv : lstD S v = some L) (hv2 : (∃ j, v = .loc j) ∨ ∃ j, v = .lst j) (h : L.length + ys.length ≤ sizeLine) (k : q (.lst (L ++ ys)) S) : BinW .add S v (.lst ys) q := by
  refine ⟨.lst (L ++ ys), ?_, k⟩
  rcases hv2 with ⟨j, rfl⟩ | ⟨j, rfl⟩
  · show (match lstD S (D.loc j), lstD S (D.lst ys) with
      | some a, some b => if a.length + b.length ≤ sizeLine then some (D.lst (a ++ b)) else none
      | _, _ => none) = _
    rw [hv]
    exact if_pos h
  · cases hv
    exact if_pos h
end Mi
set_option maxHeartbeats 1000000
/-! XF: programs by a feed; woves put in; locals. -/
namespace Mi
open PySem
theorem Fd.ne {S : Sto} {f n : Nat} {t : Int} (h : Fd S f t) (hn : S n = none) : f ≠ n := fun z => by subst z; obtain ⟨_, _, _, _, z, _⟩ := h; rw [hn] at z; cases z
theorem Fd.put {S : Sto} {f n : Nat} {t : Int} (h : Fd S f t) (hn : S n = none) {o : Ob} : Fd (put S n o) f t := h.same (put_ne (h.ne hn))
theorem Fd.sub {S S' : Sto} {f : Nat} {t : Int} (h : Fd S f t) (s : Sub S S') : Fd S' f t := let ⟨cs, a, l, u, h1, h2⟩ := h; ⟨cs, a, l, u, s _ _ h1, h2⟩
/-! how many rows -/
mutual
def Row.cnt : Row → Nat
  | .whn _ a b => 1 + Row.cnts a + Row.cnts b
  | .wove _ _ rs => 1 + Row.cnts rs
  | .put _ _ => 1 | .read _ _ => 1 | .write _ _ => 1 | .call _ _ _ => 1 | .tell _ => 1 | .look _ _ => 1 | .note _ _ => 1 | .go _ _ => 1
def Row.cnts : List Row → Nat
  | [] => 0
  | r :: rs => r.cnt + Row.cnts rs
end
theorem cnts_app : ∀ (us vs : List Row), Row.cnts (us ++ vs) = Row.cnts us + Row.cnts vs
  | [], vs => by simp [Row.cnts]
  | u :: us, vs => by rw [List.cons_append, Row.cnts, cnts_app us vs, Row.cnts, Nat.add_assoc]
theorem cnt_pos : ∀ r : Row, 1 ≤ r.cnt
  | .whn _ a b => by simp only [Row.cnt]; omega
  | .wove _ _ rs => by simp only [Row.cnt]; omega
  | .put _ _ => Nat.le_refl _ | .read _ _ => Nat.le_refl _ | .write _ _ => Nat.le_refl _ | .call _ _ _ => Nat.le_refl _ | .tell _ => Nat.le_refl _ | .look _ _ => Nat.le_refl _ | .note _ _ => Nat.le_refl _ | .go _ _ => Nat.le_refl _
theorem cnts_len : ∀ rs : List Row, rs.length ≤ Row.cnts rs
  | [] => by simp
  | r :: rs => by have := cnts_len rs; have := cnt_pos r; rw [Row.cnts, List.length_cons]; omega
mutual
theorem pths_cn : ∀ (r : Row) (here : List Int), (plcs (Row.pths here r)).length + (if r.isPlace = true then 1 else 0) ≤ r.cnt
  | .whn e a b, here => by
    have h1 := pthss_cn a (here ++ [0]) 0
    have h2 := pthss_cn b (here ++ [1]) 0
    rw [Row.pths, plcs_app, List.length_append]
    simp only [Row.isPlace, Bool.false_eq_true, if_false, Row.cnt]
    omega
  | .wove w k rs, here => by
    have h1 := pthss_cn rs (here ++ [0]) 0
    rw [Row.pths]
    simp only [Row.isPlace, Bool.false_eq_true, if_false, Row.cnt]
    omega
  | .put _ _, here => by simp [Row.pths, Row.isPlace, plcs, Row.cnt]
  | .read _ _, here => by simp [Row.pths, Row.isPlace, plcs, Row.cnt]
  | .write _ _, here => by simp [Row.pths, Row.isPlace, plcs, Row.cnt]
  | .call _ _ _, here => by simp [Row.pths, Row.isPlace, plcs, Row.cnt]
  | .tell _, here => by simp [Row.pths, Row.isPlace, plcs, Row.cnt]
  | .look _ _, here => by simp [Row.pths, Row.isPlace, plcs, Row.cnt]
  | .note _ _, here => by simp [Row.pths, Row.isPlace, plcs, Row.cnt]
  | .go _ _, here => by simp [Row.pths, Row.isPlace, plcs, Row.cnt]
theorem pthss_cn : ∀ (rs : List Row) (ahead : List Int) (n : Nat), (plcs (Row.pthss ahead n rs)).length ≤ Row.cnts rs
  | [], _, _ => by rw [Row.pthss]; simp [plcs]
  | r :: rs, ahead, n => by
    have h1 := pths_cn r (ahead ++ [(n : Int)])
    have h2 := pthss_cn rs ahead (n + 1)
    rw [Row.pthss, show ∀ (a : List Int × Row) l, a :: l = [a] ++ l from fun _ _ => rfl, plcs_app, plcs_app, plcs_one, List.length_append, List.length_append, Row.cnts]
    split
    · rename_i h; rw [if_pos h] at h1; simp only [List.length_cons, List.length_nil]; omega
    · rename_i h; rw [if_neg h] at h1; simp only [List.length_nil]; omega
end
mutual
/-- each row within is light -/
def Row.Hw : Row → Prop
  | .whn e a b => wD e.d ≤ 600 ∧ Row.Hws a ∧ Row.Hws b
  | .wove w k rs => (wD (.int w) ≤ 62 ∧ wD (kpD k) ≤ 1000) ∧ Row.Hws rs
  | .put l e => wD (Row.put l e).d ≤ 1000
  | .read l c => wD (Row.read l c).d ≤ 1000
  | .write c e => wD (Row.write c e).d ≤ 1000
  | .call l r e => wD (Row.call l r e).d ≤ 1000
  | .tell e => wD (Row.tell e).d ≤ 1000
  | .look l n => wD (Row.look l n).d ≤ 1000
  | .note n e => wD (Row.note n e).d ≤ 1000
  | .go l e => wD (Row.go l e).d ≤ 1000
def Row.Hws : List Row → Prop
  | [] => True
  | r :: rs => r.Hw ∧ Row.Hws rs
end
theorem Hws_mem : ∀ {rs : List Row}, Row.Hws rs ↔ ∀ x ∈ rs, x.Hw
  | [] => by simp [Row.Hws]
  | x :: xs => by rw [Row.Hws, Hws_mem (rs := xs)]; simp
mutual
theorem hw_w : ∀ {x : Row}, x.Hw → wD x.d + 2 ≤ 1300 * x.cnt
  | .whn e a b, h => by
    rw [Row.Hw] at h
    have h1 := hws_w h.2.1
    have h2 := hws_w h.2.2
    have w1 : wD (.str "when") ≤ 52 := by decide +kernel
    have := h.1
    rw [Row.d_whn, wD_4, wD_rws, wD_rws]; simp only [Row.cnt]; omega
  | .wove w k rs, h => by
    rw [Row.Hw] at h
    have h1 := hws_w h.2
    have w1 : wD (.str "wove") ≤ 52 := by decide +kernel
    have := h.1.1
    have := h.1.2
    rw [Row.d_wove, wD_4, wD_rws]; simp only [Row.cnt]; omega
  | .put _ _, h => by rw [Row.Hw] at h; simp only [Row.cnt]; omega
  | .read _ _, h => by rw [Row.Hw] at h; simp only [Row.cnt]; omega
  | .write _ _, h => by rw [Row.Hw] at h; simp only [Row.cnt]; omega
  | .call _ _ _, h => by rw [Row.Hw] at h; simp only [Row.cnt]; omega
  | .tell _, h => by rw [Row.Hw] at h; simp only [Row.cnt]; omega
  | .look _ _, h => by rw [Row.Hw] at h; simp only [Row.cnt]; omega
  | .note _ _, h => by rw [Row.Hw] at h; simp only [Row.cnt]; omega
  | .go _ _, h => by rw [Row.Hw] at h; simp only [Row.cnt]; omega
theorem hws_w : ∀ {rs : List Row}, Row.Hws rs → wDs (rs.map Row.d) ≤ 1300 * Row.cnts rs
  | [], _ => by simp [wDs, Row.cnts]
  | x :: xs, h => by
    rw [Row.Hws] at h
    have h1 := hw_w h.1
    have h2 := hws_w h.2
    rw [List.map_cons, wDs, Row.cnts]; omega
end
theorem hw_place {x : Row} (h : x.Hw) (hp : x.isPlace = true) : wD x.d ≤ 1000 := by
  cases x <;> first | (cases hp; done) | (rw [Row.Hw] at h; exact h)
/-- a row that was fed: m how deep at most -/
structure Rfd (c r m : Nat) (x : Row) : Prop where
  ok : x.Ok c r
  h : x.Hw
  d : dD x.d ≤ m
theorem Rfd.mono {c r m m' : Nat} {x : Row} (h : Rfd c r m x) (hm : m ≤ m') : Rfd c r m' x := ⟨h.ok, h.h, Nat.le_trans h.d hm⟩
section
variable {c r m : Nat} {xs : List Row}
theorem rgs_w (h : ∀ x ∈ xs, Rfd c r m x) : wDs (xs.map Row.d) ≤ 1300 * Row.cnts xs ∧ dDs (xs.map Row.d) ≤ m :=
  ⟨hws_w (Hws_mem.mpr fun x hx => (h x hx).h), dDs_bd fun d hd => by obtain ⟨x, hx, rfl⟩ := List.mem_map.mp hd; exact (h x hx).d⟩
theorem rgs_ok (h : ∀ x ∈ xs, Rfd c r m x) : Row.Oks c r xs := Row.Oks_mem.mpr fun x hx => (h x hx).ok
theorem rgs_h (h : ∀ x ∈ xs, Rfd c r m x) : Row.Hws xs := Hws_mem.mpr fun x hx => (h x hx).h
variable {e : Ex} {l k : Int}
theorem ew (he : e.Ok false 4) (hd : e.dep ≤ 2) : wD e.d ≤ 594 ∧ dD e.d ≤ 3 ∧ e.Ok false 100000 := ⟨Ex.wD_le (by decide) he hd, Nat.le_trans (Ex.dD_le e) (by omega), he.mono (by decide)⟩
theorem rg_put (hl : LcI l) (he : e.Ok false 4) (hd : e.dep ≤ 2) (hm : 4 ≤ m) : Rfd c r m (.put l e) := by
  obtain ⟨a, b, o⟩ := ew he hd
  have w1 : wD (.str "put") ≤ 52 := by decide +kernel
  have w2 := w_int62 (i := l) ⟨hl.1, by have := hl.2; omega⟩
  exact ⟨by rw [Row.Ok]; exact ⟨hl, o⟩, by rw [Row.Hw, Row.d_put, wD_3]; omega, by rw [Row.d_put]; simp only [dD, dDs]; omega⟩
theorem rg_read (hl : LcI l) (hk : 0 ≤ k ∧ k < c) (hc : c ≤ 8) (hm : 4 ≤ m) : Rfd c r m (.read l k) := by
  have w1 : wD (.str "read") ≤ 52 := by decide +kernel
  have w2 := w_int62 (i := l) ⟨hl.1, by have := hl.2; omega⟩
  have w3 := w_int62 (i := k) ⟨hk.1, by omega⟩
  exact ⟨by rw [Row.Ok]; exact ⟨hl, hk⟩, by rw [Row.Hw, Row.d_read, wD_3]; omega, by rw [Row.d_read]; simp only [dD, dDs]; omega⟩
theorem rg_write (hk : 0 ≤ k ∧ k < c) (hc : c ≤ 8) (he : e.Ok false 4) (hd : e.dep ≤ 2) (hm : 4 ≤ m) : Rfd c r m (.write k e) := by
  obtain ⟨a, b, o⟩ := ew he hd
  have w1 : wD (.str "write") ≤ 52 := by decide +kernel
  have w2 := w_int62 (i := k) ⟨hk.1, by omega⟩
  exact ⟨by rw [Row.Ok]; exact ⟨hk, o⟩, by rw [Row.Hw, Row.d_write, wD_3]; omega, by rw [Row.d_write]; simp only [dD, dDs]; omega⟩
theorem rg_call (hl : LcI l) (hk : 0 ≤ k ∧ k < r) (hr : r ≤ 8) (he : e.Ok false 4) (hd : e.dep ≤ 2) (hm : 4 ≤ m) : Rfd c r m (.call l k e) := by
  obtain ⟨a, b, o⟩ := ew he hd
  have w1 : wD (.str "call") ≤ 52 := by decide +kernel
  have w2 := w_int62 (i := l) ⟨hl.1, by have := hl.2; omega⟩
  have w4 := w_int62 (i := k) ⟨hk.1, by omega⟩
  exact ⟨by rw [Row.Ok]; exact ⟨hl, hk, o⟩, by rw [Row.Hw, Row.d_call, wD_4]; omega, by rw [Row.d_call]; simp only [dD, dDs]; omega⟩
theorem rg_tell (he : e.Ok false 4) (hd : e.dep ≤ 2) (hm : 4 ≤ m) : Rfd c r m (.tell e) := by
  obtain ⟨a, b, o⟩ := ew he hd
  have w1 : wD (.str "tell") ≤ 52 := by decide +kernel
  exact ⟨by rw [Row.Ok]; exact o, by rw [Row.Hw, Row.d_tell, wD_2]; omega, by rw [Row.d_tell]; simp only [dD, dDs]; omega⟩
theorem rg_look (hl : LcI l) (hk : NtI k) (hm : 4 ≤ m) : Rfd c r m (.look l k) := by
  have w1 : wD (.str "look") ≤ 52 := by decide +kernel
  have w2 := w_int62 (i := l) ⟨hl.1, by have := hl.2; omega⟩
  have w4 := w_int62 (i := k) ⟨hk.1, by have := hk.2; omega⟩
  exact ⟨by rw [Row.Ok]; exact ⟨hl, hk⟩, by rw [Row.Hw, Row.d_look, wD_3]; omega, by rw [Row.d_look]; simp only [dD, dDs]; omega⟩
theorem rg_note (hk : NtI k) (he : e.Ok false 4) (hd : e.dep ≤ 2) (hm : 4 ≤ m) : Rfd c r m (.note k e) := by
  obtain ⟨a, b, o⟩ := ew he hd
  have w1 : wD (.str "note") ≤ 52 := by decide +kernel
  have w2 := w_int62 (i := k) ⟨hk.1, by have := hk.2; omega⟩
  exact ⟨by rw [Row.Ok]; exact ⟨hk, o⟩, by rw [Row.Hw, Row.d_note, wD_3]; omega, by rw [Row.d_note]; simp only [dD, dDs]; omega⟩
theorem rg_whn' {a b : List Row} {m' : Nat} (o : e.Ok false 100000) (e1 : wD e.d ≤ 600) (e2 : dD e.d + 1 ≤ m') (ha : ∀ x ∈ a, Rfd c r m x) (hb : ∀ x ∈ b, Rfd c r m x) (hm : m + 2 ≤ m') : Rfd c r m' (.whn e a b) := by
  obtain ⟨a1, a2⟩ := rgs_w ha
  obtain ⟨b1, b2⟩ := rgs_w hb
  refine ⟨by rw [Row.Ok]; exact ⟨o, rgs_ok ha, rgs_ok hb⟩, by rw [Row.Hw]; exact ⟨e1, rgs_h ha, rgs_h hb⟩, ?_⟩
  rw [Row.d_whn, dD_4, dD_rws, dD_rws]; simp only [dD]; omega
theorem rg_whn {a b : List Row} {m' : Nat} (he : e.Ok false 4) (hd : e.dep ≤ 2) (ha : ∀ x ∈ a, Rfd c r m x) (hb : ∀ x ∈ b, Rfd c r m x) (hm : m + 2 ≤ m') (h4 : 4 ≤ m') : Rfd c r m' (.whn e a b) := by
  obtain ⟨e1, e2, o⟩ := ew he hd
  exact rg_whn' o (by omega) (by omega) ha hb hm
theorem rg_wove {w : Int} {kp rs : List Row} {m' : Nat} (hw : 1 ≤ w ∧ w ≤ 999) (hk : kp.length ≤ 1 ∧ (∀ x ∈ kp, x.Ok c r ∧ wD x.d ≤ 1000 ∧ dD x.d + 1 ≤ m') ∧ ∀ x ∈ kp, x.isPlace = true) (hr : ∀ x ∈ rs, Rfd c r m x) (hm : m + 2 ≤ m') : Rfd c r m' (.wove w kp rs) := by
  obtain ⟨a1, a2⟩ := rgs_w hr
  have w2 := w_int62 (i := w) ⟨by omega, by omega⟩
  have k1 : wD (kpD kp) ≤ 1000 ∧ dD (kpD kp) + 1 ≤ m' := by
    cases kp with
    | nil => exact ⟨by decide, by show 0 + 1 ≤ m'; omega⟩
    | cons x xs => exact (hk.2.1 x List.mem_cons_self).2
  refine ⟨by rw [Row.Ok]; exact ⟨hw, ⟨hk.1, Row.Oks_mem.mpr fun x hx => (hk.2.1 x hx).1, hk.2.2⟩, rgs_ok hr⟩, by rw [Row.Hw]; exact ⟨⟨by omega, k1.1⟩, rgs_h hr⟩, ?_⟩
  rw [Row.d_wove, dD_4, dD_rws]; simp only [dD]; omega
/-- the rows within a when -/
theorem Rfd.whn {a b : List Row} (h : Rfd c r m (.whn e a b)) : (∀ x ∈ a, Rfd c r (m - 2) x) ∧ (∀ x ∈ b, Rfd c r (m - 2) x) ∧ e.Ok false 100000 ∧ wD e.d ≤ 600 ∧ dD e.d + 1 ≤ m ∧ 2 ≤ m := by
  obtain ⟨o, hh, d⟩ := h
  rw [Row.Ok] at o
  rw [Row.Hw] at hh
  rw [Row.d_whn, dD_4, dD_rws, dD_rws] at d
  refine ⟨fun x hx => ⟨Row.Oks_mem.mp o.2.1 x hx, Hws_mem.mp hh.2.1 x hx, ?_⟩, fun x hx => ⟨Row.Oks_mem.mp o.2.2 x hx, Hws_mem.mp hh.2.2 x hx, ?_⟩, o.1, hh.1, by omega, by omega⟩
  · have := dD_mem (List.mem_map_of_mem (f := Row.d) hx); omega
  · have := dD_mem (List.mem_map_of_mem (f := Row.d) hx); omega
end
/-- draws that expressions want -/
def cF : Nat → Int
  | 0 => 6
  | n + 1 => 4 + 2 * cF n
theorem cF_pos : ∀ n, 6 ≤ cF n
  | 0 => by decide
  | n + 1 => by have := cF_pos n; rw [cF]; omega
/-- draws that rows want -/
def rC : Nat → Int
  | 0 => 200
  | n + 1 => 300 + 4 * rC n
theorem rC_pos : ∀ n, 200 ≤ rC n
  | 0 => by decide
  | n + 1 => by have := rC_pos n; rw [rC]; omega
def nC : Nat → Nat
  | 0 => 1
  | n + 1 => 1 + 4 * nC n
theorem nC_pos : ∀ n, 1 ≤ nC n
  | 0 => by decide
  | n + 1 => by have := nC_pos n; rw [nC]; omega
theorem cnts_le {b : Nat} : ∀ {xs : List Row}, (∀ x ∈ xs, x.cnt ≤ b) → Row.cnts xs ≤ xs.length * b
  | [], _ => by simp [Row.cnts]
  | x :: xs, h => by
    have := cnts_le (xs := xs) fun y hy => h y (List.mem_cons_of_mem _ hy)
    have := h x List.mem_cons_self
    rw [Row.cnts, List.length_cons, Nat.add_mul]; omega
/-- a program that was fed -/
structure Pf (m : Nat) (p : Prog) : Prop where
  cells : ∀ x ∈ p.cells, FI x
  nc : p.cells.length ≤ 3
  n : 1 ≤ p.rs.length ∧ p.rs.length ≤ 4
  rws : ∀ r ∈ p.rs, (∀ x ∈ r.1, Rfd p.cells.length p.rs.length m x) ∧ Row.cnts r.1 ≤ 350 ∧ r.2.Ok false 4 ∧ r.2.dep ≤ 2
theorem Pf.mono {m m' : Nat} {p : Prog} (h : Pf m p) (hm : m ≤ m') : Pf m' p := ⟨h.cells, h.nc, h.n, fun r hr => ⟨fun x hx => ((h.rws r hr).1 x hx).mono hm, (h.rws r hr).2⟩⟩
/-- small enough for its places -/
structure PgC (p : Prog) : Prop where
  n : p.rs.length ≤ 8
  w : ∀ r ∈ p.rs, wDs (r.1.map Row.d) ≤ 500000 ∧ dD (rwsD r.1) ≤ 62
theorem Pf.c {m : Nat} {p : Prog} (h : Pf m p) (hm : m ≤ 60) : PgC p := ⟨by have := h.n.2; omega, fun r hr => by
  obtain ⟨a, b, _⟩ := h.rws r hr
  obtain ⟨w, d⟩ := rgs_w a
  rw [dD_rws]
  omega⟩
theorem PgB.c {p : Prog} (h : PgB p) : PgC p := ⟨h.n, fun r hr => by have := h.w r hr; omega⟩
theorem Pf.w {m : Nat} {p : Prog} (h : Pf m p) (hm : m ≤ 60) : wD p.d ≤ 4000000 ∧ dD p.d ≤ 70 := by
  have h1 := h.nc
  have h2 := h.n.2
  have h3 := wDs_ints p.cells fun x hx => by have := h.cells x hx; unfold FI at this; omega
  have h4 := dDs_ints p.cells
  have one : ∀ r ∈ p.rs, wD (rtD r) ≤ 460000 ∧ dD (rtD r) ≤ 64 := fun r hr => by
    obtain ⟨a, b, c, d⟩ := h.rws r hr
    obtain ⟨w, d'⟩ := rgs_w a
    obtain ⟨e1, e2, _⟩ := ew c d
    rw [rtD, wD_2, wD_rws, dD, dDs, dDs, dDs, dD_rws]
    omega
  have a := wDs_bd (m := 460000) (xs := p.rs.map rtD) fun d hd => by obtain ⟨r, hr, rfl⟩ := List.mem_map.mp hd; exact (one r hr).1
  have b := dDs_bd (m := 64) (xs := p.rs.map rtD) fun d hd => by obtain ⟨r, hr, rfl⟩ := List.mem_map.mp hd; exact (one r hr).2
  rw [List.length_map] at a
  have := Nat.mul_le_mul_right (460000 + 2) h2
  rw [Prog.d, wD_2, wD, wD, dD, dDs, dDs, dDs, dD, dD]
  omega
/-! ### the greatest local -/
mutual
def Row.lc : Row → Int
  | .put l e => max (max (-1) l) e.lc
  | .read l _ => max (-1) l
  | .write _ e => max (-1) e.lc
  | .call l _ e => max (max (-1) l) e.lc
  | .tell e => max (-1) e.lc
  | .whn e a b => max (max (max (-1) e.lc) (Row.lcs a)) (Row.lcs b)
  | .look l _ => max (-1) l
  | .note _ e => max (-1) e.lc
  | .wove _ k rs => max (max (-1) (Row.lcs k)) (Row.lcs rs)
  | .go l e => max (max (-1) l) e.lc
def Row.lcs : List Row → Int
  | [] => -1
  | r :: rs => max r.lc (Row.lcs rs)
end
theorem lcs_ge : ∀ rs : List Row, -1 ≤ Row.lcs rs
  | [] => by simp [Row.lcs]
  | r :: rs => by have := lcs_ge rs; rw [Row.lcs]; omega
theorem lc_ge (r : Row) : -1 ≤ r.lc := by cases r <;> simp only [Row.lc] <;> omega
theorem elc_ge {o : Bool} {m : Int} : ∀ {e : Ex}, e.Ok o m → -1 ≤ e.lc
  | .inn, _ => by simp [Ex.lc]
  | .out, _ => by simp [Ex.lc]
  | .at_ i, h => by have h : 0 ≤ i ∧ i < m := h; simp only [Ex.lc]; omega
  | .num _, _ => by simp [Ex.lc]
  | .op _ a b, _ => by simp only [Ex.lc]; omega
theorem fold_max : ∀ (xs : List Row) (m : Int), -1 ≤ m → (xs.map Row.lc).foldl max m = max m (Row.lcs xs)
  | [], m, h => by simp only [List.map_nil, List.foldl_nil, Row.lcs]; omega
  | x :: xs, m, h => by
    rw [List.map_cons, List.foldl_cons, fold_max xs _ (by omega), Row.lcs]
    omega
theorem max1_loc {S : Sto} {q : Q1} {n : Nat} {m : Int} {ns : List Int} (h : S n = some (.lst ((m :: ns).map .int))) (k : q (.int (ns.foldl max m)) S) : BifW .max1 S [.loc n] q := ⟨.int (ns.foldl max m), by
  show (match lstD S (.loc n) with
    | some xs => match intsD xs with
      | some (n :: ns) => some (D.int (ns.foldl max n))
      | _ => none
    | none => none) = _
  rw [lstD_loc h]
  show (match intsD ((m :: ns).map .int) with
      | some (n :: ns) => some (D.int (ns.foldl max n))
      | _ => none) = _
  rw [intsD_map], k⟩
theorem max1_lst {S : Sto} {q : Q1} {m : Int} {ns : List Int} (k : q (.int (ns.foldl max m)) S) : BifW .max1 S [.lst ((m :: ns).map .int)] q := ⟨.int (ns.foldl max m), by
  show (match lstD S (.lst ((m :: ns).map .int)) with
    | some xs => match intsD xs with
      | some (n :: ns) => some (D.int (ns.foldl max n))
      | _ => none
    | none => none) = _
  show (match intsD ((m :: ns).map .int) with
      | some (n :: ns) => some (D.int (ns.foldl max n))
      | _ => none) = _
  rw [intsD_map], k⟩
/-! .. by a look at all -/
def grW : List Str := ["at", "put", "read", "call", "look"]
def grA (m : Int) : List D → Int
  | .str w :: .int i :: _ => if w ∈ grW then max m i else m
  | _ => m
mutual
def gr : D → Int
  | .tup xs => grA (grs xs) xs
  | .non => -1 | .bl _ => -1 | .int _ => -1 | .str _ => -1 | .lst _ => -1 | .scr _ => -1 | .loc _ => -1 | .kd _ _ => -1
def grs : List D → Int
  | [] => -1
  | x :: xs => max (gr x) (grs xs)
end
mutual
/-- a word of grW is followed by a number -/
def gok : D → Bool
  | .tup xs => gokA xs && goks xs
  | .non => true | .bl _ => true | .int _ => true | .str _ => true | .lst _ => false | .scr _ => false | .loc _ => false | .kd _ _ => false
def goks : List D → Bool
  | [] => true
  | x :: xs => gok x && goks xs
def gokA : List D → Bool
  | .str w :: .int _ :: _ => true
  | .str w :: _ => decide (w ∉ grW)
  | .tup _ :: _ => true
  | [] => true
  | _ => false
end
theorem goks_all : ∀ xs : List D, goks xs = true ↔ ∀ x ∈ xs, gok x = true
  | [] => by simp [goks]
  | x :: xs => by rw [goks, Bool.and_eq_true, goks_all xs]; simp
theorem grs_ge : ∀ xs : List D, -1 ≤ grs xs
  | [] => by simp [grs]
  | x :: xs => by have := grs_ge xs; rw [grs]; omega
theorem gr_ge (d : D) : -1 ≤ gr d := by
  cases d with
  | tup xs =>
    have := grs_ge xs
    rw [gr]
    unfold grA
    split
    · split <;> omega
    · omega
  | _ => simp [gr]
theorem gr_ex {o : Bool} {m : Int} : ∀ {e : Ex}, e.Ok o m → gr e.d = e.lc ∧ gok e.d = true
  | .inn, _ => ⟨by decide +kernel, by decide +kernel⟩
  | .out, _ => ⟨by decide +kernel, by decide +kernel⟩
  | .at_ i, h => by
    have h : 0 ≤ i ∧ i < m := h
    refine ⟨?_, rfl⟩
    show (if ("at" : Str) ∈ grW then max (max (-1) (max (-1) (-1))) i else max (-1) (max (-1) (-1))) = i
    rw [if_pos (by decide)]
    omega
  | .num i, h => by
    refine ⟨?_, rfl⟩
    show (if ("num" : Str) ∈ grW then max (max (-1) (max (-1) (-1))) i else max (-1) (max (-1) (-1))) = (-1 : Int)
    rw [if_neg (by decide)]
    decide
  | .op w a b, h => by
    obtain ⟨a1, a2⟩ := gr_ex (e := a) h.1
    obtain ⟨b1, b2⟩ := gr_ex (e := b) h.2
    have := elc_ge h.1
    have := elc_ge h.2
    have hw : w.s ∉ grW := by cases w <;> decide
    refine ⟨?_, ?_⟩
    · have e1 : ∀ (a : Ex) (z : Int), grA z [.str w.s, a.d, b.d] = z := fun a z => by cases a <;> rfl
      rw [Ex.d, gr, e1, grs, grs, grs, grs, gr, a1, b1, Ex.lc]
      omega
    · have e1 : ∀ a : Ex, gokA [.str w.s, a.d, b.d] = true := fun a => by cases a <;> exact decide_eq_true hw
      rw [Ex.d, gok, e1, goks, goks, goks, goks, a2, b2]
      rfl
theorem grA_n {m : Int} {w : Str} {xs : List D} (h : w ∉ grW) : grA m (.str w :: xs) = m := by
  unfold grA
  split
  · rename_i e
    injection e with e1 e2
    injection e1 with e1
    subst e1
    rw [if_neg h]
  · rfl
theorem grA_y {m i : Int} {w : Str} {xs : List D} (h : w ∈ grW) : grA m (.str w :: .int i :: xs) = max m i := by
  show (if w ∈ grW then max m i else m) = _
  rw [if_pos h]
theorem gokA_n {w : Str} {xs : List D} (h : w ∉ grW) : gokA (.str w :: xs) = true := by
  cases xs with
  | nil => exact decide_eq_true h
  | cons x xs => cases x <;> first | rfl | exact decide_eq_true h
theorem gr_str {w : Str} : gr (.str w) = -1 := by rw [gr]
theorem gr_int {i : Int} : gr (.int i) = -1 := by rw [gr]
mutual
theorem gr_row {c r : Nat} : ∀ {x : Row}, x.Ok c r → gr x.d = x.lc ∧ gok x.d = true
  | .put l e, h => by
    rw [Row.Ok] at h
    obtain ⟨a, b⟩ := gr_ex h.2
    have := h.1.1
    refine ⟨?_, by rw [Row.d_put, gok, goks, goks, goks, goks, b]; rfl⟩
    rw [Row.d_put, gr, grA_y (by decide), grs, grs, grs, grs, a, gr_str, gr_int, Row.lc]; omega
  | .read l k, h => by
    rw [Row.Ok] at h
    have := h.1.1
    refine ⟨?_, by rw [Row.d_read]; rfl⟩
    rw [Row.d_read, gr, grA_y (by decide), grs, grs, grs, grs, gr_str, gr_int, gr_int, Row.lc]; omega
  | .write k e, h => by
    rw [Row.Ok] at h
    obtain ⟨a, b⟩ := gr_ex h.2
    refine ⟨?_, by rw [Row.d_write, gok, gokA_n (by decide), goks, goks, goks, goks, b]; rfl⟩
    rw [Row.d_write, gr, grA_n (by decide), grs, grs, grs, grs, a, gr_str, gr_int, Row.lc]; omega
  | .call l k e, h => by
    rw [Row.Ok] at h
    obtain ⟨a, b⟩ := gr_ex h.2.2
    have := h.1.1
    refine ⟨?_, by rw [Row.d_call, gok, goks, goks, goks, goks, goks, b]; rfl⟩
    rw [Row.d_call, gr, grA_y (by decide), grs, grs, grs, grs, grs, a, gr_str, gr_int, gr_int, Row.lc]; omega
  | .tell e, h => by
    rw [Row.Ok] at h
    obtain ⟨a, b⟩ := gr_ex h
    refine ⟨?_, by rw [Row.d_tell, gok, gokA_n (by decide), goks, goks, goks, b]; rfl⟩
    rw [Row.d_tell, gr, grA_n (by decide), grs, grs, grs, a, gr_str, Row.lc]; omega
  | .whn e x y, h => by
    rw [Row.Ok] at h
    obtain ⟨a, b⟩ := gr_ex h.1
    obtain ⟨a1, b1⟩ := gr_rows h.2.1
    obtain ⟨a2, b2⟩ := gr_rows h.2.2
    refine ⟨?_, by rw [Row.d_whn, gok, gokA_n (by decide), goks, goks, goks, goks, goks, b, b1, b2]; rfl⟩
    rw [Row.d_whn, gr, grA_n (by decide), grs, grs, grs, grs, grs, a, a1, a2, gr_str, Row.lc]
    have := lcs_ge x
    have := lcs_ge y
    omega
  | .look l k, h => by
    rw [Row.Ok] at h
    have := h.1.1
    refine ⟨?_, by rw [Row.d_look]; rfl⟩
    rw [Row.d_look, gr, grA_y (by decide), grs, grs, grs, grs, gr_str, gr_int, gr_int, Row.lc]; omega
  | .note k e, h => by
    rw [Row.Ok] at h
    obtain ⟨a, b⟩ := gr_ex h.2
    refine ⟨?_, by rw [Row.d_note, gok, gokA_n (by decide), goks, goks, goks, goks, b]; rfl⟩
    rw [Row.d_note, gr, grA_n (by decide), grs, grs, grs, grs, a, gr_str, gr_int, Row.lc]; omega
  | .wove w kp rs, h => by
    rw [Row.Ok] at h
    obtain ⟨a1, b1⟩ := gr_rows h.2.2
    have hk : gr (kpD kp) = Row.lcs kp ∧ gok (kpD kp) = true := gr_kept h.2.1.1 h.2.1.2.1
    have := lcs_ge rs
    have := lcs_ge kp
    refine ⟨?_, by rw [Row.d_wove, gok, gokA_n (by decide), goks, goks, goks, goks, goks, b1, hk.2]; rfl⟩
    rw [Row.d_wove, gr, grA_n (by decide), grs, grs, grs, grs, grs, hk.1, a1, gr_str, gr_int, Row.lc]
    omega
  | .go l e, h => by rw [Row.Ok] at h; exact h.elim
theorem gr_kept {c r : Nat} : ∀ {k : List Row}, k.length ≤ 1 → Row.Oks c r k → gr (kpD k) = Row.lcs k ∧ gok (kpD k) = true
  | [], _, _ => ⟨by rw [kpD, Row.lcs, gr], rfl⟩
  | [x], _, h => by
    rw [Row.Oks] at h
    obtain ⟨a, b⟩ := gr_row h.1
    refine ⟨?_, b⟩
    rw [kpD, a, Row.lcs, Row.lcs]
    have := lc_ge x
    omega
  | _ :: _ :: _, h, _ => absurd h (by simp)
theorem gr_rows {c r : Nat} : ∀ {rs : List Row}, Row.Oks c r rs → gr (rwsD rs) = Row.lcs rs ∧ gok (rwsD rs) = true
  | [], _ => ⟨by decide +kernel, rfl⟩
  | x :: xs, h => by
    rw [Row.Oks] at h
    obtain ⟨a, b⟩ := gr_row h.1
    obtain ⟨a2, b2⟩ := gr_rows h.2
    have e1 : ∀ (x : Row) (z : Int) (ds : List D), grA z (x.d :: ds) = z ∧ gokA (x.d :: ds) = true := fun x z ds => by cases x <;> exact ⟨rfl, rfl⟩
    have a3 : grs (xs.map Row.d) = Row.lcs xs := by
      cases xs with
      | nil => rfl
      | cons y ys =>
        rw [rwsD, List.map_cons, gr, (e1 y _ _).1] at a2
        rw [List.map_cons]; exact a2
    rw [rwsD, gok] at b2
    rw [Bool.and_eq_true] at b2
    refine ⟨?_, ?_⟩
    · rw [rwsD, List.map_cons, gr, (e1 x _ _).1, grs, a, a3, Row.lcs]
    · rw [rwsD, List.map_cons, gok, (e1 x 0 _).2, goks, b, b2.2]; rfl
end
theorem gr_rt {c r : Nat} {x : Rtn} (h : Row.Oks c r x.1) (he : x.2.Ok false 4) : gr (rtD x) = max x.2.lc (Row.lcs x.1) ∧ gok (rtD x) = true := by
  obtain ⟨a, b⟩ := gr_rows h
  obtain ⟨a2, b2⟩ := gr_ex he
  have := elc_ge he
  have := lcs_ge x.1
  refine ⟨?_, by rw [rtD, gok, goks, goks, goks, b, b2]; rfl⟩
  rw [rtD, gr]
  show max (gr (rwsD x.1)) (max (gr x.2.d) (-1)) = _
  rw [a, a2]
  omega
theorem cmp_eq0 {S : Sto} {qb : Bool → Prop} {xs : List D} (h : wD (.tup xs) < 10 ^ 9) (h2 : dD (.tup xs) ≤ 150) (k : qb xs.isEmpty) : CmpW .eq S (.tup xs) (.tup []) qb := ⟨_, eq_tup0 h h2, k⟩
theorem in_tupS {S : Sto} {qb : Bool → Prop} {xs : List D} {zs : List Str} (h : wD (.tup xs) < 10 ^ 9) (h2 : dD (.tup xs) ≤ 150) (hz : PyData.canLayAll0 (zs.map .str) = true) (k : qb false) : CmpW .in_ S (.tup xs) (.tup (zs.map .str)) qb := ⟨false, by
  rw [wD] at h
  obtain ⟨ps, h1, h3, _, h4⟩ := reps_le xs (by omega)
  show inF (.tup xs) (zs.map .str) = some false
  unfold inF
  rw [show flatD (.tup xs) = false from rfl, Bool.false_and, if_neg (by decide)]
  unfold inP
  have e0 : pd (.tup xs) = some (.tuple ps) := by simp only [pd, h1]
  have e1 : ∀ zs : List Str, pds (zs.map D.str) = some (zs.map .str) := fun zs => by
    induction zs with
    | nil => rfl
    | cons z zs ih => rw [List.map_cons, pds, ih]; rfl
  have e2 : decide ((PyData.tuple ps).depth ≤ 150) = true := decide_eq_true (by rw [dD] at h2; simp only [PyData.depth]; omega)
  have e3 : (PyData.tuple ps).canLay0 = true := by simp only [PyData.canLay0]; exact h3.2
  rw [e0, e1]
  dsimp only
  rw [e2, e3, hz, if_pos (by decide)]
  congr 1
  rw [List.any_map, List.any_eq_false]
  intro z _
  simp only [Function.comp_apply, PyData.eqv]
  decide, k⟩
/-! places of a fed program -/
theorem plxs_lenB {b : Nat} : ∀ {rs : List Rtn} {n : Nat}, (∀ r ∈ rs, (plcs (Row.pthss [] 0 r.1)).length ≤ b) → (plxs n rs).length ≤ b * rs.length
  | [], _, _ => by simp [plxs]
  | r :: rs, n, h => by
    have h2 := h r List.mem_cons_self
    have h3 := plxs_lenB (rs := rs) (n := n + 1) fun r hr => h r (List.mem_cons_of_mem _ hr)
    rw [plxs, List.length_append, plOf_len, List.length_cons, Nat.mul_add]
    omega
theorem PgC.len {p : Prog} (h : PgC p) : p.plx.length ≤ 4167 * p.rs.length := plxs_lenB fun r hr => by
  have := (h.w r hr).1
  have := pthss_cnt r.1 [] 0
  omega
theorem Pf.len {m : Nat} {p : Prog} (h : Pf m p) : p.plx.length ≤ 350 * p.rs.length := plxs_lenB fun r hr => Nat.le_trans (pthss_cn r.1 [] 0) (h.rws r hr).2.1
mutual
theorem pths_in {M : Nat} : ∀ (r : Row) (here : List Int), r.Hw → dD r.d ≤ M → ∀ x ∈ Row.pths here r, x.2.Hw ∧ dD x.2.d ≤ M
  | .whn e a b, here, h, d, x, hx => by
    rw [Row.Hw] at h
    rw [Row.d_whn, dD_4, dD_rws, dD_rws] at d
    rw [Row.pths] at hx
    rcases List.mem_append.mp hx with hx | hx
    · exact pthss_in a _ _ h.2.1 (by omega) x hx
    · exact pthss_in b _ _ h.2.2 (by omega) x hx
  | .wove w k rs, here, h, d, x, hx => by
    rw [Row.Hw] at h
    rw [Row.d_wove, dD_4, dD_rws] at d
    rw [Row.pths] at hx
    exact pthss_in rs _ _ h.2 (by omega) x hx
  | .put _ _, here, _, _, x, hx => by rw [Row.pths] at hx; cases hx
  | .read _ _, here, _, _, x, hx => by rw [Row.pths] at hx; cases hx
  | .write _ _, here, _, _, x, hx => by rw [Row.pths] at hx; cases hx
  | .call _ _ _, here, _, _, x, hx => by rw [Row.pths] at hx; cases hx
  | .tell _, here, _, _, x, hx => by rw [Row.pths] at hx; cases hx
  | .look _ _, here, _, _, x, hx => by rw [Row.pths] at hx; cases hx
  | .note _ _, here, _, _, x, hx => by rw [Row.pths] at hx; cases hx
  | .go _ _, here, _, _, x, hx => by rw [Row.pths] at hx; cases hx
theorem pthss_in {M : Nat} : ∀ (rs : List Row) (ahead : List Int) (n : Nat), Row.Hws rs → dDs (rs.map Row.d) ≤ M → ∀ x ∈ Row.pthss ahead n rs, x.2.Hw ∧ dD x.2.d ≤ M
  | [], _, _, _, _, x, hx => by rw [Row.pthss] at hx; cases hx
  | r :: rs, ahead, n, h, d, x, hx => by
    rw [Row.Hws] at h
    rw [List.map_cons, dDs] at d
    rw [Row.pthss] at hx
    rcases List.mem_cons.mp hx with rfl | hx
    · exact ⟨h.1, by show dD r.d ≤ M; omega⟩
    · rcases List.mem_append.mp hx with hx | hx
      · exact pths_in r _ h.1 (by omega) x hx
      · exact pthss_in rs ahead (n + 1) h.2 (by omega) x hx
end
def dueD (y : Plc) : D := .tup [plD y, y.2.2.d]
theorem Pf.pl {m : Nat} {p : Prog} (h : Pf m p) (hm : m ≤ 60) {y : Plc} (hy : y ∈ p.plx) : wD (plD y) ≤ 4000 ∧ dD (plD y) ≤ 3 ∧ wD y.2.2.d ≤ 1000 ∧ dD y.2.2.d ≤ 60 ∧ y.2.1.length ≤ 61 := by
  obtain ⟨rt, h1, h2, h3⟩ := p.plx_mem hy
  have hr := List.mem_of_getElem? h1
  have hl : y.1 < p.rs.length := (List.getElem?_eq_some_iff.mp h1).1
  have hn := h.n.2
  obtain ⟨a, b, _⟩ := h.rws rt hr
  obtain ⟨w, d⟩ := rgs_w a
  have pl := pthss_plen _ _ _ _ h2
  simp only [List.length_nil] at pl
  have sm := pthss_sm rt.1 [] 0 600000 (fun _ h => by cases h) (by push_cast; omega) (by decide) y.2 h2
  have e1 : wDs (y.2.1.map .int) = 64 * y.2.1.length := wDs_ints _ fun i hi => by have := sm i hi; omega
  have e2 : dDs (y.2.1.map .int) = 0 := dDs_ints _
  have e3 : wD (.int (y.1 : Int)) = 62 := wD_int (by omega)
  have a1 : wD (tns y.2.1) = 64 * y.2.1.length + 4 := by rw [tns, wD, e1]
  have a2 : dD (tns y.2.1) = 1 := by rw [tns, dD, e2]
  obtain ⟨i1, i2⟩ := pthss_in rt.1 [] 0 (rgs_h a) (Nat.le_trans d hm) y.2 h2
  refine ⟨by rw [plD, wD_2, a1, e3]; omega, by rw [plD]; simp only [dD, dDs]; omega, hw_place i1 h3, i2, by omega⟩
theorem Pf.lists {m : Nat} {p : Prog} (h : Pf m p) (hm : m ≤ 60) : (wD (.lst (p.plx.map plD)) ≤ 10 ^ 7 ∧ dD (.lst (p.plx.map plD)) ≤ 150) ∧ wD (.lst (p.plx.map fun y => y.2.2.d)) ≤ 10 ^ 7 ∧ dD (.lst (p.plx.map fun y => y.2.2.d)) ≤ 150 := by
  have hl := h.len
  have hn := h.n.2
  have hb := fun y hy => h.pl hm (y := y) hy
  have a := wDs_bd (m := 4000) (xs := p.plx.map plD) fun d hd => by obtain ⟨y, hy, rfl⟩ := List.mem_map.mp hd; exact (hb y hy).1
  have b := dDs_bd (m := 3) (xs := p.plx.map plD) fun d hd => by obtain ⟨y, hy, rfl⟩ := List.mem_map.mp hd; exact (hb y hy).2.1
  have c := wDs_bd (m := 1000) (xs := p.plx.map fun y => y.2.2.d) fun d hd => by obtain ⟨y, hy, rfl⟩ := List.mem_map.mp hd; exact (hb y hy).2.2.1
  have d := dDs_bd (m := 60) (xs := p.plx.map fun y => y.2.2.d) fun d hd => by obtain ⟨y, hy, rfl⟩ := List.mem_map.mp hd; exact (hb y hy).2.2.2.1
  rw [List.length_map] at a c
  have h4 : p.plx.length ≤ 1400 := by omega
  have := Nat.mul_le_mul_right 4002 h4
  have := Nat.mul_le_mul_right 1002 h4
  rw [wD, wD, dD, dD]
  omega
/-- the places among rows with their paths -/
def plr (xs : List (List Int × Row)) : List (List Int × Row) := xs.filter fun x => x.2.isPlace
theorem plr_app (a b : List (List Int × Row)) : plr (a ++ b) = plr a ++ plr b := by simp [plr]
theorem plr_one {x : List Int × Row} : plr [x] = if x.2.isPlace = true then [x] else [] := by cases h : x.2.isPlace <;> simp [plr, h]
theorem plr_len (xs : List (List Int × Row)) : (plr xs).length ≤ xs.length := List.length_filter_le _ _
theorem plOf_plr (n : Nat) (xs : List (List Int × Row)) : plOf n xs = (plr xs).map fun x => (n, x) := rfl
theorem foldl_max_ge : ∀ (L : List Int) (m : Int), m ≤ L.foldl max m
  | [], m => Int.le_refl _
  | x :: xs, m => by have := foldl_max_ge xs (max m x); rw [List.foldl_cons]; omega
theorem fold_maxs : ∀ (xss : List (List Row)) (m : Int), -1 ≤ m → ((xss.map fun xs => xs.map Row.lc).flatten).foldl max m = xss.foldl (fun m xs => max m (Row.lcs xs)) m
  | [], m, _ => rfl
  | xs :: xss, m, h => by
    rw [List.map_cons, List.flatten_cons, List.foldl_append, fold_max xs m h, List.foldl_cons, fold_maxs xss _ (by omega)]
def Row.l0 : Row → List Int
  | .put l e => [l, e.lc]
  | .read l _ => [l]
  | .write _ e => [e.lc]
  | .call l _ e => [l, e.lc]
  | .tell e => [e.lc]
  | .whn e _ _ => [e.lc]
  | .look l _ => [l]
  | .note _ e => [e.lc]
  | .wove _ k _ => k.map Row.lc
  | .go l e => [l, e.lc]
theorem lc_l0 {r : Row} (h : ∀ w k rs, r = .wove w k rs → k.length ≤ 1) : r.lc = r.inner.foldl (fun m xs => max m (Row.lcs xs)) (r.l0.foldl max (-1)) := by
  cases r with
  | wove w k rs =>
    match k, h w k rs rfl with
    | [], _ => rfl
    | [x], _ => simp only [Row.lc, Row.lcs, Row.l0, Row.inner, List.map_cons, List.map_nil, List.foldl_cons, List.foldl_nil]; have := lc_ge x; omega
    | _ :: _ :: _, h => exact absurd h (by simp)
  | _ => rfl
end Mi
set_option maxHeartbeats 1000000
/-! XN: steps for fed programs and k04. -/
namespace Mi
open PySem
theorem sIx_of {n d : Nat} {v : Int} (h : 0 ≤ v) : HT.sIx n d (some v) = min v.toNat n := by
  show (if v < 0 then (v + (n : Int)).toNat else min v.toNat n) = _
  rw [if_neg (by omega)]
theorem cut_2 {α : Type} (a b : α) (l : List α) : cutD (a :: b :: l) (some 2) none = l := by
  unfold cutD
  rw [sIx_of (by decide), show HT.sIx (a :: b :: l).length (a :: b :: l).length none = (a :: b :: l).length from rfl]
  have : min (2 : Int).toNat (a :: b :: l).length = 2 := by simp only [List.length_cons]; show min 2 _ = 2; omega
  rw [this]
  simp
theorem cut_f2 {α : Type} (a b : α) (l : List α) : cutD (a :: b :: l) none (some 2) = [a, b] := by
  unfold cutD
  rw [sIx_of (by decide), show HT.sIx (a :: b :: l).length 0 none = 0 from rfl]
  have : min (2 : Int).toNat (a :: b :: l).length = 2 := by simp only [List.length_cons]; show min 2 _ = 2; omega
  rw [this]
  simp
section
variable {S : Sto} {q : Q1} {a b : D} {l : List D}
theorem sl_t2 (k : q (.tup l) S) : SlW S (.tup (a :: b :: l)) ([(2 : Int)][0]?) (([] : List Int)[0]?) q := ⟨.tup (cutD (a :: b :: l) (some 2) none), rfl, by rw [cut_2]; exact k⟩
theorem sl_f2 (k : q (.tup [a, b]) S) : SlW S (.tup (a :: b :: l)) (([] : List Int)[0]?) ([(2 : Int)][0]?) q := ⟨.tup (cutD (a :: b :: l) none (some 2)), rfl, by rw [cut_f2]; exact k⟩
theorem sum_0 (k : q (.int 0) S) : BifW .sum S [.lst []] q := ⟨.int (([] : List Int).sum), rfl, by simpa using k⟩
theorem bin_addLoc {n : Nat} {xs ys : List D} (hS : S n = some (.lst xs)) (h : xs.length + ys.length ≤ sizeLine) (k : q (.lst (xs ++ ys)) S) : BinW .add S (.loc n) (.lst ys) q := ⟨.lst (xs ++ ys), by
  show (match lstD S (.loc n), lstD S (.lst ys) with
    | some a, some b => if a.length + b.length ≤ sizeLine then some (D.lst (a ++ b)) else none
    | _, _ => none) = some (D.lst (xs ++ ys))
  rw [lstD_loc hS]
  exact if_pos h, k⟩
end
theorem fold_gr : ∀ (xs : List D) (m : Int), -1 ≤ m → (xs.map gr).foldl max m = max m (grs xs)
  | [], m, h => by simp only [List.map_nil, List.foldl_nil, grs]; omega
  | x :: xs, m, h => by
    rw [List.map_cons, List.foldl_cons, fold_gr xs _ (by omega), grs]
    omega
theorem row_tup (x : Row) : ∃ us, x.d = .tup us := by cases x <;> exact ⟨_, rfl⟩
theorem row_word (x : Row) : ∃ us, x.d = .tup (.str x.word :: us) := by cases x <;> exact ⟨_, rfl⟩
theorem row_dp (x : Row) : 1 ≤ dD x.d := by
  obtain ⟨us, h⟩ := row_tup x
  rw [h, dD]; omega
theorem row_nn (x : Row) : x.d ≠ .non := by obtain ⟨us, h⟩ := row_tup x; rw [h]; exact fun z => by cases z
theorem flat_le {xss us ys : List (List Row)} {y : List Row} {b : Nat} (hu : xss = us ++ y :: ys) (h2 : xss.length ≤ 2) (h : ∀ xs ∈ xss, xs.length ≤ b) : ((us.map fun xs => xs.map Row.lc).flatten).length + y.length ≤ 2 * b := by
  subst hu
  have hy := h y (by simp)
  match us, h, h2 with
  | [], h, h2 => simp only [List.map_nil, List.flatten_nil, List.length_nil]; omega
  | [u], h, h2 =>
    have := h u (by simp)
    simp only [List.map_cons, List.map_nil, List.flatten_cons, List.flatten_nil, List.append_nil, List.length_map]
    omega
  | _ :: _ :: _, h, h2 => simp only [List.cons_append, List.length_cons, List.length_append] at h2; omega
theorem wd_len : ∀ xs : List D, xs.length ≤ wDs xs
  | [] => by simp
  | x :: xs => by have := wd_len xs; rw [wDs, List.length_cons]; omega
theorem Sub.no {S S' : Sto} {n : Nat} (s : Sub S S') (h : S' n = none) : S n = none := by
  cases e : S n with
  | none => rfl
  | some o => rw [s n o e] at h; cases h
theorem Sub.put {S S' : Sto} {n : Nat} {o : Ob} (s : Sub S S') (h : S n = none) : Sub S (put S' n o) := fun m u e => by
  have : m ≠ n := fun z => by subst z; rw [h] at e; cases e
  rw [put_ne this]; exact s m u e
theorem Sub.del {S S' : Sto} {n : Nat} (s : Sub S S') (h : S n = none) : Sub S (del S' n) := fun m u e => by
  have : m ≠ n := fun z => by subst z; rw [h] at e; cases e
  rw [del_ne this]; exact s m u e
theorem cmp_eqLoc0 {S : Sto} {qb : Bool → Prop} {n : Nat} (h : S n = some (.lst [])) (k : qb true) : CmpW .eq S (.loc n) (.lst []) qb := ⟨true, by
  show (if dicEq S (.loc n) (.lst []) = true then some true else eqD (frzD S (.loc n)) (frzD S (.lst []))) = some true
  rw [show dicEq S (.loc n) (.lst []) = false from rfl, if_neg (by decide), show frzD S (.loc n) = .lst [] by simp only [frzD, h]]
  exact eqD_ints [] [], k⟩
section
variable {A : List (List Int × Row)} {p : List Int} {r : Row}
theorem plr_pl (h : r.isPlace = true) : plr (A ++ [(p, r)] ++ Row.pths p r) = plr A ++ [(p, r)] := by
  have e : Row.pths p r = [] := by cases r <;> first | (cases h; done) | (rw [Row.pths])
  rw [e, List.append_nil, plr_app, plr_one, if_pos h]
theorem plr_no (h : r.isPlace = false) (h2 : r.inner = []) : plr (A ++ [(p, r)] ++ Row.pths p r) = plr A := by
  rw [pths_inn, h2, innP, List.append_nil, plr_app, plr_one, if_neg (by rw [h]; decide), List.append_nil]
theorem plr_whn {e : Ex} {a b : List Row} : plr (A ++ [(p, .whn e a b)] ++ Row.pths p (.whn e a b)) = plr A ++ plr (Row.pthss (p ++ [0]) 0 a) ++ plr (Row.pthss (p ++ [1]) 0 b) := by
  rw [Row.pths, plr_app, plr_app, plr_app, plr_one, if_neg (by show ¬ (false = true); decide), List.append_nil, List.append_assoc]
theorem plr_wove {w : Int} {kp rs : List Row} : plr (A ++ [(p, .wove w kp rs)] ++ Row.pths p (.wove w kp rs)) = plr A ++ plr (Row.pthss (p ++ [0]) 0 rs) := by
  rw [Row.pths, plr_app, plr_app, plr_one, if_neg (by show ¬ (false = true); decide), List.append_nil]
end
theorem elc_le {o : Bool} {m : Int} (h0 : 0 ≤ m) : ∀ {e : Ex}, e.Ok o m → e.lc ≤ m
  | .inn, _ => by simp only [Ex.lc]; omega
  | .out, _ => by simp only [Ex.lc]; omega
  | .at_ i, h => by have h : 0 ≤ i ∧ i < m := h; simp only [Ex.lc]; omega
  | .num _, _ => by simp only [Ex.lc]; omega
  | .op _ a b, h => by
    have := elc_le h0 (e := a) h.1
    have := elc_le h0 (e := b) h.2
    simp only [Ex.lc]; omega
mutual
theorem lc_le {c r : Nat} : ∀ {x : Row}, x.Ok c r → x.lc ≤ 100000
  | .put l e, h => by rw [Row.Ok] at h; have := elc_le (by decide) h.2; have := h.1.2; simp only [Row.lc]; omega
  | .read l k, h => by rw [Row.Ok] at h; have := h.1.2; simp only [Row.lc]; omega
  | .write k e, h => by rw [Row.Ok] at h; have := elc_le (by decide) h.2; simp only [Row.lc]; omega
  | .call l k e, h => by rw [Row.Ok] at h; have := elc_le (by decide) h.2.2; have := h.1.2; simp only [Row.lc]; omega
  | .tell e, h => by rw [Row.Ok] at h; have := elc_le (by decide) h; simp only [Row.lc]; omega
  | .whn e a b, h => by rw [Row.Ok] at h; have := elc_le (by decide) h.1; have := lcs_le h.2.1; have := lcs_le h.2.2; simp only [Row.lc]; omega
  | .look l k, h => by rw [Row.Ok] at h; have := h.1.2; simp only [Row.lc]; omega
  | .note k e, h => by rw [Row.Ok] at h; have := elc_le (by decide) h.2; simp only [Row.lc]; omega
  | .wove w kp rs, h => by rw [Row.Ok] at h; have := lcs_le h.2.1.2.1; have := lcs_le h.2.2; simp only [Row.lc]; omega
  | .go l e, h => by rw [Row.Ok] at h; exact h.elim
theorem lcs_le {c r : Nat} : ∀ {rs : List Row}, Row.Oks c r rs → Row.lcs rs ≤ 100000
  | [], _ => by simp only [Row.lcs]; omega
  | x :: xs, h => by rw [Row.Oks] at h; have := lc_le h.1; have := lcs_le h.2; simp only [Row.lcs]; omega
end
theorem lc_pureD {T : Tab} {G : GT} {xd : XD} {S : Sto} {chk : Sto → Prop} {bd : D → Option Env} {e : E} {q : List D → Sto → Prop} {α : Type} (f : α → D) (h : D → α) (ys : List D) (hl : ys.length < 1000000) (hc : chk S)
    (step : ∀ y ∈ ys, ∀ kt : Q1, kt (f (h y)) S → ∃ e1, bd y = some e1 ∧ wpE T G xd e e1 S kt) (fin : q ((ys.map h).map f) S) : LcN T G xd chk bd e ys [] S q := by
  have := lc_pure (q := q) id f h ys hl hc step fin
  rw [List.map_id] at this
  exact this
end Mi
set_option maxHeartbeats 1000000
/-! XU: what rows touch. -/
namespace Mi
open PySem
mutual
def Row.al : Row → List Row
  | .whn _ a b => Row.als a ++ Row.als b
  | .wove _ _ rs => Row.als rs
  | .put _ _ => [] | .read _ _ => [] | .write _ _ => [] | .call _ _ _ => [] | .tell _ => [] | .look _ _ => [] | .note _ _ => [] | .go _ _ => []
/-- all rows, in order -/
def Row.als : List Row → List Row
  | [] => []
  | r :: rs => r :: (Row.al r ++ Row.als rs)
end
theorem als_app : ∀ (a b : List Row), Row.als (a ++ b) = Row.als a ++ Row.als b
  | [], b => by simp [Row.als]
  | x :: a, b => by rw [List.cons_append, Row.als, als_app a b, Row.als]; simp
mutual
theorem al_len : ∀ r : Row, (Row.al r).length + 1 = r.cnt
  | .whn _ a b => by have := als_len a; have := als_len b; simp only [Row.al, Row.cnt, List.length_append]; omega
  | .wove _ _ rs => by have := als_len rs; simp only [Row.al, Row.cnt]; omega
  | .put _ _ => rfl | .read _ _ => rfl | .write _ _ => rfl | .call _ _ _ => rfl | .tell _ => rfl | .look _ _ => rfl | .note _ _ => rfl | .go _ _ => rfl
theorem als_len : ∀ rs : List Row, (Row.als rs).length = Row.cnts rs
  | [] => rfl
  | r :: rs => by have := al_len r; have := als_len rs; simp only [Row.als, Row.cnts, List.length_append, List.length_cons]; omega
end
theorem al_inner (r : Row) : Row.al r = (r.inner.map Row.als).flatten := by cases r <;> simp [Row.al, Row.inner]
mutual
/-- what rows name lies within: n how many routines -/
def Row.To (n : Nat) : Row → Prop
  | .read _ k => 0 ≤ k ∧ k ≤ 40
  | .write k _ => 0 ≤ k ∧ k ≤ 40
  | .look _ k => 0 ≤ k ∧ k ≤ 40
  | .note k _ => 0 ≤ k ∧ k ≤ 40
  | .call _ g _ => 0 ≤ g ∧ g < n
  | .whn _ a b => Row.Tos n a ∧ Row.Tos n b
  | .wove _ _ rs => Row.Tos n rs
  | .put _ _ => True | .tell _ => True | .go _ _ => True
def Row.Tos (n : Nat) : List Row → Prop
  | [] => True
  | r :: rs => r.To n ∧ Row.Tos n rs
end
theorem tos_mem {n : Nat} : ∀ {rs : List Row}, Row.Tos n rs ↔ ∀ x ∈ rs, x.To n
  | [] => by simp [Row.Tos]
  | x :: xs => by rw [Row.Tos, tos_mem (rs := xs)]; simp
mutual
theorem to_mono {n m : Nat} (h : n ≤ m) : ∀ {r : Row}, r.To n → r.To m
  | .read _ _, z => by rw [Row.To] at z ⊢; exact z
  | .write _ _, z => by rw [Row.To] at z ⊢; exact z
  | .look _ _, z => by rw [Row.To] at z ⊢; exact z
  | .note _ _, z => by rw [Row.To] at z ⊢; exact z
  | .call _ _ _, z => by rw [Row.To] at z ⊢; omega
  | .whn _ _ _, z => by rw [Row.To] at z ⊢; exact ⟨tos_mono h z.1, tos_mono h z.2⟩
  | .wove _ _ _, z => by rw [Row.To] at z ⊢; exact tos_mono h z
  | .put _ _, _ => by rw [Row.To]; trivial
  | .tell _, _ => by rw [Row.To]; trivial
  | .go _ _, _ => by rw [Row.To]; trivial
theorem tos_mono {n m : Nat} (h : n ≤ m) : ∀ {rs : List Row}, Row.Tos n rs → Row.Tos m rs
  | [], _ => by rw [Row.Tos]; trivial
  | x :: xs, z => by rw [Row.Tos] at z ⊢; exact ⟨to_mono h z.1, tos_mono h z.2⟩
end
mutual
theorem al_in {n : Nat} : ∀ {r : Row}, r.To n → ∀ x ∈ Row.al r, x.To n ∧ dD x.d + 2 ≤ dD r.d
  | .whn e a b, h, x, hx => by
    rw [Row.To] at h
    rw [Row.al] at hx
    rw [Row.d_whn, dD_4, dD_rws, dD_rws]
    rcases List.mem_append.mp hx with hx | hx
    · have := als_in h.1 x hx; exact ⟨this.1, by omega⟩
    · have := als_in h.2 x hx; exact ⟨this.1, by omega⟩
  | .wove w k rs, h, x, hx => by
    rw [Row.To] at h
    rw [Row.al] at hx
    rw [Row.d_wove, dD_4, dD_rws]
    have := als_in h x hx; exact ⟨this.1, by omega⟩
  | .put _ _, _, x, hx => by rw [Row.al] at hx; cases hx
  | .read _ _, _, x, hx => by rw [Row.al] at hx; cases hx
  | .write _ _, _, x, hx => by rw [Row.al] at hx; cases hx
  | .call _ _ _, _, x, hx => by rw [Row.al] at hx; cases hx
  | .tell _, _, x, hx => by rw [Row.al] at hx; cases hx
  | .look _ _, _, x, hx => by rw [Row.al] at hx; cases hx
  | .note _ _, _, x, hx => by rw [Row.al] at hx; cases hx
  | .go _ _, _, x, hx => by rw [Row.al] at hx; cases hx
theorem als_in {n : Nat} : ∀ {rs : List Row}, Row.Tos n rs → ∀ x ∈ Row.als rs, x.To n ∧ dD x.d ≤ dDs (rs.map Row.d)
  | [], _, x, hx => by rw [Row.als] at hx; cases hx
  | r :: rs, h, x, hx => by
    rw [Row.Tos] at h
    rw [Row.als] at hx
    rw [List.map_cons, dDs]
    rcases List.mem_cons.mp hx with rfl | hx
    · exact ⟨h.1, by omega⟩
    · rcases List.mem_append.mp hx with hx | hx
      · have := al_in h.1 x hx; exact ⟨this.1, by omega⟩
      · have := als_in h.2 x hx; exact ⟨this.1, by omega⟩
end
/-! overs -/
def W6.isO : W6 → Bool
  | .over => true
  | _ => false
def Ex.ov : Ex → Bool
  | .op w a b => w.isO || (a.ov || b.ov)
  | _ => false
def Row.exo : Row → Option Ex
  | .put _ e => some e
  | .write _ e => some e
  | .call _ _ e => some e
  | .tell e => some e
  | .whn e _ _ => some e
  | .note _ e => some e
  | .go _ e => some e
  | _ => none
def exov : Option Ex → Bool
  | some e => e.ov
  | none => false
def exD : Option Ex → D
  | some e => e.d
  | none => .non
theorem exo_dD {r : Row} {e : Ex} (h : r.exo = some e) : dD e.d + 1 ≤ dD r.d := by
  cases r <;> first
    | (cases h; done)
    | (simp only [Row.exo, Option.some.injEq] at h; subst h; first | (rw [Row.d_put]; simp only [dD, dDs]; omega) | (rw [Row.d_write]; simp only [dD, dDs]; omega) | (rw [Row.d_call]; simp only [dD, dDs]; omega) | (rw [Row.d_tell]; simp only [dD, dDs]; omega) | (rw [Row.d_whn, dD_4]; omega) | (rw [Row.d_note]; simp only [dD, dDs]; omega) | (rw [Row.d_go]; simp only [dD, dDs]; omega))
/-! touches -/
structure Tch where
  a : List Int
  b : List Int
  c : List Int
  e : List Int
  t : Bool
  s : Bool
def Tch.d (x : Tch) : D := .tup [tns x.a, tns x.b, tns x.c, tns x.e, .bl x.t, .bl x.s]
def rdO : Row → List Int
  | .read _ k => [k]
  | _ => []
def wrO : Row → List Int
  | .write k _ => [k]
  | _ => []
def lkO : Row → List Int
  | .look _ k => [k]
  | _ => []
def ntO : Row → List Int
  | .note k _ => [k]
  | _ => []
def clO : Row → List Int
  | .call _ g _ => [g]
  | _ => []
def Row.isTell : Row → Bool
  | .tell _ => true
  | _ => false
def Row.isCall : Row → Bool
  | .call _ _ _ => true
  | _ => false
def nums (f : Row → List Int) (xs : List Row) : List Int := (xs.map f).flatten
theorem nums_app (f : Row → List Int) (xs ys : List Row) : nums f (xs ++ ys) = nums f xs ++ nums f ys := by simp [nums]
theorem nums_one (f : Row → List Int) (x : Row) : nums f [x] = f x := by simp [nums]
theorem nums_mem {f : Row → List Int} {xs : List Row} {k : Int} : k ∈ nums f xs ↔ ∃ x ∈ xs, k ∈ f x := by
  unfold nums
  rw [List.mem_flatten]
  constructor
  · rintro ⟨l, h, z⟩
    obtain ⟨x, hx, rfl⟩ := List.mem_map.mp h
    exact ⟨x, hx, z⟩
  · rintro ⟨x, hx, h⟩
    exact ⟨_, List.mem_map_of_mem hx, h⟩
theorem nums_len {f : Row → List Int} (hf : ∀ x, (f x).length ≤ 1) : ∀ xs : List Row, (nums f xs).length ≤ xs.length
  | [] => by simp [nums]
  | x :: xs => by
    have := nums_len hf xs
    have := hf x
    rw [show x :: xs = [x] ++ xs from rfl, nums_app, nums_one, List.length_append, List.length_append]
    simp only [List.length_cons, List.length_nil]; omega
def called (rs : List Row) : List Int := nums clO (Row.als rs)
def own (rs : List Row) (o : Option Ex) : Tch := ⟨sortU (nums rdO (Row.als rs)), sortU (nums wrO (Row.als rs)), sortU (nums lkO (Row.als rs)), sortU (nums ntO (Row.als rs)), (Row.als rs).any Row.isTell, ((Row.als rs).any Row.isCall || (Row.als rs).any fun x => exov x.exo) || exov o⟩
def more (x y : Tch) : Tch := ⟨sortU (x.a ++ y.a), sortU (x.b ++ y.b), sortU (x.c ++ y.c), sortU (x.e ++ y.e), x.t || y.t, x.s || y.s⟩
def nilT : Tch := ⟨[], [], [], [], false, false⟩
def tabG (tab : List Tch) (i : Int) : Tch := tab.getD i.toNat nilT
def wantd (rs : List Row) (o : Option Ex) (tab : List Tch) : Tch := (called rs).foldl (fun f c => more f (tabG tab c)) (own rs o)
section
variable {T : Int → Tch}
theorem fold_ris {p : Tch → List Int} (hp : ∀ x y, p (more x y) = sortU (p x ++ p y)) : ∀ (cs : List Int) (f : Tch), (p f).Pairwise (· < ·) → (p (cs.foldl (fun f c => more f (T c)) f)).Pairwise (· < ·)
  | [], _, h => h
  | c :: cs, f, _ => fold_ris hp cs (more f (T c)) (by rw [hp]; exact sortU_ris _)
theorem fold_mem {p : Tch → List Int} (hp : ∀ x y, p (more x y) = sortU (p x ++ p y)) (k : Int) : ∀ (cs : List Int) (f : Tch), k ∈ p (cs.foldl (fun f c => more f (T c)) f) ↔ k ∈ p f ∨ ∃ c ∈ cs, k ∈ p (T c)
  | [], f => by simp
  | c :: cs, f => by
    rw [List.foldl_cons, fold_mem hp k cs, hp, sortU_mem, List.mem_append]
    simp [or_assoc]
theorem fold_bl {p : Tch → Bool} (hp : ∀ x y, p (more x y) = (p x || p y)) : ∀ (cs : List Int) (f : Tch), p (cs.foldl (fun f c => more f (T c)) f) = (p f || cs.any fun c => p (T c))
  | [], f => by simp
  | c :: cs, f => by
    rw [List.foldl_cons, fold_bl hp cs, hp, List.any_cons, Bool.or_assoc]
theorem any_sortU (g : Int → Bool) (cs : List Int) : (sortU cs).any g = cs.any g := by
  rw [Bool.eq_iff_iff, List.any_eq_true, List.any_eq_true]
  exact ⟨fun ⟨c, h, k⟩ => ⟨c, (sortU_mem cs).mp h, k⟩, fun ⟨c, h, k⟩ => ⟨c, (sortU_mem cs).mpr h, k⟩⟩
/-- it is sorted -/
structure Tch.Srt (x : Tch) : Prop where
  a : x.a.Pairwise (· < ·)
  b : x.b.Pairwise (· < ·)
  c : x.c.Pairwise (· < ·)
  e : x.e.Pairwise (· < ·)
theorem Tch.eq {x y : Tch} (hx : x.Srt) (hy : y.Srt) (a : ∀ k, k ∈ x.a ↔ k ∈ y.a) (b : ∀ k, k ∈ x.b ↔ k ∈ y.b) (c : ∀ k, k ∈ x.c ↔ k ∈ y.c) (e : ∀ k, k ∈ x.e ↔ k ∈ y.e) (t : x.t = y.t) (s : x.s = y.s) : x = y := by
  have h1 := ris_eq _ _ hx.a hy.a a
  have h2 := ris_eq _ _ hx.b hy.b b
  have h3 := ris_eq _ _ hx.c hy.c c
  have h4 := ris_eq _ _ hx.e hy.e e
  clear a b c e hx hy
  cases x; cases y; simp only at h1 h2 h3 h4 t s
  rw [h1, h2, h3, h4, t, s]
theorem own_srt (rs : List Row) (o : Option Ex) : (own rs o).Srt := ⟨sortU_ris _, sortU_ris _, sortU_ris _, sortU_ris _⟩
theorem more_srt (x y : Tch) : (more x y).Srt := ⟨sortU_ris _, sortU_ris _, sortU_ris _, sortU_ris _⟩
theorem fold_srt {cs : List Int} {f : Tch} (h : f.Srt) : (cs.foldl (fun f c => more f (T c)) f).Srt := ⟨fold_ris (p := Tch.a) (fun _ _ => rfl) cs f h.a, fold_ris (p := Tch.b) (fun _ _ => rfl) cs f h.b, fold_ris (p := Tch.c) (fun _ _ => rfl) cs f h.c, fold_ris (p := Tch.e) (fun _ _ => rfl) cs f h.e⟩
theorem fold_sort {cs : List Int} {f : Tch} (h : f.Srt) : (sortU cs).foldl (fun f c => more f (T c)) f = cs.foldl (fun f c => more f (T c)) f := by
  have me : ∀ (p : Tch → List Int), (∀ x y, p (more x y) = sortU (p x ++ p y)) → ∀ k, k ∈ p ((sortU cs).foldl (fun f c => more f (T c)) f) ↔ k ∈ p (cs.foldl (fun f c => more f (T c)) f) := fun p hp k => by
    rw [fold_mem hp k, fold_mem hp k]
    simp only [sortU_mem]
  refine Tch.eq (fold_srt h) (fold_srt h) (me Tch.a fun _ _ => rfl) (me Tch.b fun _ _ => rfl) (me Tch.c fun _ _ => rfl) (me Tch.e fun _ _ => rfl) ?_ ?_
  · rw [fold_bl (p := Tch.t) (fun _ _ => rfl), fold_bl (p := Tch.t) (fun _ _ => rfl), any_sortU]
  · rw [fold_bl (p := Tch.s) (fun _ _ => rfl), fold_bl (p := Tch.s) (fun _ _ => rfl), any_sortU]
end
/-! few numbers -/
def LL : List Int := (List.range 41).map (fun i : Nat => (i : Int)) ++ [999]
def LM (k : Int) : Prop := (0 ≤ k ∧ k ≤ 40) ∨ k = 999
theorem ll_of {k : Int} (h : LM k) : k ∈ LL := by
  rcases h with h | rfl
  · obtain ⟨n, rfl⟩ := Int.eq_ofNat_of_zero_le h.1
    exact List.mem_append_left _ (List.mem_map.mpr ⟨n, List.mem_range.mpr (by omega), rfl⟩)
  · exact List.mem_append_right _ List.mem_cons_self
theorem len_in : ∀ (l L : List Int), l.Pairwise (· < ·) → (∀ x ∈ l, x ∈ L) → l.length ≤ L.length
  | [], _, _, _ => Nat.zero_le _
  | x :: l, L, h, hm => by
    obtain ⟨h1, h2⟩ := List.pairwise_cons.mp h
    have hx := hm x List.mem_cons_self
    have := len_in l (L.erase x) h2 fun y hy => (List.mem_erase_of_ne (by have := h1 y hy; omega)).mpr (hm y (List.mem_cons_of_mem _ hy))
    rw [List.length_erase_of_mem hx] at this
    have := List.length_pos_of_mem hx
    rw [List.length_cons]; omega
theorem ll_len : LL.length = 42 := by decide +kernel
theorem few {l : List Int} (h : ∀ x ∈ l, LM x) : (sortU l).length ≤ 42 := by
  rw [← ll_len]
  exact len_in _ _ (sortU_ris l) fun x hx => ll_of (h x ((sortU_mem l).mp hx))
theorem fewR {l : List Int} (hr : l.Pairwise (· < ·)) (h : ∀ x ∈ l, LM x) : l.length ≤ 42 := by
  rw [← ll_len]
  exact len_in _ _ hr fun x hx => ll_of (h x hx)
structure Tch.Ok (x : Tch) : Prop where
  s : x.Srt
  a : ∀ k ∈ x.a, LM k
  b : ∀ k ∈ x.b, LM k
  c : ∀ k ∈ x.c, LM k
  e : ∀ k ∈ x.e, LM k
theorem nilT_ok : nilT.Ok := ⟨⟨.nil, .nil, .nil, .nil⟩, (fun _ h => by cases h), (fun _ h => by cases h), (fun _ h => by cases h), fun _ h => by cases h⟩
theorem Tch.Ok.len {x : Tch} (h : x.Ok) : x.a.length ≤ 42 ∧ x.b.length ≤ 42 ∧ x.c.length ≤ 42 ∧ x.e.length ≤ 42 := ⟨fewR h.s.a h.a, fewR h.s.b h.b, fewR h.s.c h.c, fewR h.s.e h.e⟩
theorem app_lm {a b : List Int} (ha : ∀ k ∈ a, LM k) (hb : ∀ k ∈ b, LM k) : ∀ k ∈ a ++ b, LM k := fun k hk => by
  rcases List.mem_append.mp hk with h | h
  · exact ha k h
  · exact hb k h
theorem more_ok {x y : Tch} (hx : x.Ok) (hy : y.Ok) : (more x y).Ok := ⟨more_srt x y, fun k hk => app_lm hx.a hy.a k ((sortU_mem _).mp hk), fun k hk => app_lm hx.b hy.b k ((sortU_mem _).mp hk), fun k hk => app_lm hx.c hy.c k ((sortU_mem _).mp hk), fun k hk => app_lm hx.e hy.e k ((sortU_mem _).mp hk)⟩
theorem nums_lm {n : Nat} {rs : List Row} (h : Row.Tos n rs) {f : Row → List Int} (hf : ∀ x, x.To n → ∀ k ∈ f x, LM k) : ∀ k ∈ nums f (Row.als rs), LM k := fun k hk => by
  obtain ⟨x, hx, hk⟩ := nums_mem.mp hk
  exact hf x (als_in h x hx).1 k hk
theorem rd_lm {n : Nat} : ∀ x : Row, x.To n → ∀ k ∈ rdO x, LM k := fun x h k hk => by
  cases x <;> first | (cases hk; done) | (rw [Row.To] at h; rw [List.mem_singleton.mp hk]; exact .inl h)
theorem wr_lm {n : Nat} : ∀ x : Row, x.To n → ∀ k ∈ wrO x, LM k := fun x h k hk => by
  cases x <;> first | (cases hk; done) | (rw [Row.To] at h; rw [List.mem_singleton.mp hk]; exact .inl h)
theorem lk_lm {n : Nat} : ∀ x : Row, x.To n → ∀ k ∈ lkO x, LM k := fun x h k hk => by
  cases x <;> first | (cases hk; done) | (rw [Row.To] at h; rw [List.mem_singleton.mp hk]; exact .inl h)
theorem nt_lm {n : Nat} : ∀ x : Row, x.To n → ∀ k ∈ ntO x, LM k := fun x h k hk => by
  cases x <;> first | (cases hk; done) | (rw [Row.To] at h; rw [List.mem_singleton.mp hk]; exact .inl h)
theorem cl_lm {n : Nat} : ∀ x : Row, x.To n → ∀ k ∈ clO x, 0 ≤ k ∧ k < n := fun x h k hk => by
  cases x <;> first | (cases hk; done) | (rw [Row.To] at h; rw [List.mem_singleton.mp hk]; exact h)
theorem called_lm {n : Nat} {rs : List Row} (h : Row.Tos n rs) : ∀ k ∈ called rs, 0 ≤ k ∧ k < n := fun k hk => by
  obtain ⟨x, hx, hk⟩ := nums_mem.mp hk
  exact cl_lm x (als_in h x hx).1 k hk
theorem own_ok {n : Nat} {rs : List Row} (h : Row.Tos n rs) (o : Option Ex) : (own rs o).Ok := ⟨own_srt rs o, fun k hk => nums_lm h rd_lm k ((sortU_mem _).mp hk), fun k hk => nums_lm h wr_lm k ((sortU_mem _).mp hk), fun k hk => nums_lm h lk_lm k ((sortU_mem _).mp hk), fun k hk => nums_lm h nt_lm k ((sortU_mem _).mp hk)⟩
theorem tabG_ok {tab : List Tch} (h : ∀ x ∈ tab, x.Ok) (i : Int) : (tabG tab i).Ok := by
  unfold tabG
  rw [List.getD_eq_getElem?_getD]
  cases e : tab[i.toNat]? with
  | none => exact nilT_ok
  | some x => exact h x (List.mem_of_getElem? e)
theorem fold_ok {tab : List Tch} (h : ∀ x ∈ tab, x.Ok) : ∀ (cs : List Int) (f : Tch), f.Ok → (cs.foldl (fun f c => more f (tabG tab c)) f).Ok
  | [], _, hf => hf
  | c :: cs, f, hf => fold_ok h cs _ (more_ok hf (tabG_ok h c))
theorem wantd_ok {n : Nat} {rs : List Row} (hr : Row.Tos n rs) {o : Option Ex} {tab : List Tch} (h : ∀ x ∈ tab, x.Ok) : (wantd rs o tab).Ok := fold_ok h _ _ (own_ok hr o)
theorem tns_w {l : List Int} (h : ∀ k ∈ l, LM k) : wD (tns l) = 64 * l.length + 4 ∧ dD (tns l) = 1 := by
  rw [tns, wD, dD, wDs_ints l fun k hk => by have := h k hk; unfold LM at this; omega, dDs_ints]
  omega
theorem Tch.Ok.w {x : Tch} (h : x.Ok) : wD x.d ≤ 12000 ∧ dD x.d ≤ 3 := by
  obtain ⟨a, b, c, e⟩ := h.len
  obtain ⟨w1, d1⟩ := tns_w h.a
  obtain ⟨w2, d2⟩ := tns_w h.b
  obtain ⟨w3, d3⟩ := tns_w h.c
  obtain ⟨w4, d4⟩ := tns_w h.e
  have e1 : ∀ b : Bool, wD (.bl b) ≤ 100 ∧ dD (.bl b) = 0 := by intro b; cases b <;> decide +kernel
  have := e1 x.t
  have := e1 x.s
  rw [Tch.d, wD, dD]
  simp only [wDs, dDs]
  omega
/-! steps -/
section
variable {S : Sto} {q : Q1} {qb : Bool → Prop}
end
end Mi
set_option maxHeartbeats 1000000
/-! XC: the running machine: what it is, how it steps, how it lies in a store. -/
namespace Mi
open PySem
/-! dicts -/
theorem lkC_map {k j : L2.Key} {v : D} : ∀ kvs : List (L2.Key × D), lkD (kvs.map fun p => if p.1 = k then (p.1, v) else p) j = if j = k then (lkD kvs j).map (fun _ => v) else lkD kvs j
  | [] => by simp [lkD]
  | (a, b) :: kvs => by
    have ih := lkC_map (k := k) (j := j) (v := v) kvs
    unfold lkD at ih ⊢
    rw [List.map_cons]
    by_cases h : a = j
    · subst h
      by_cases h2 : a = k
      · simp [h2]
      · simp [h2]
    · by_cases h2 : a = k
      · subst h2
        rw [if_pos rfl, List.find?_cons_of_neg (by simpa using h), List.find?_cons_of_neg (by simpa using h)]
        exact ih
      · rw [if_neg h2, List.find?_cons_of_neg (by simpa using h), List.find?_cons_of_neg (by simpa using h)]
        exact ih
theorem lkC_app {k j : L2.Key} {v : D} : ∀ kvs : List (L2.Key × D), lkD (kvs ++ [(k, v)]) j = match lkD kvs j with
    | some u => some u
    | none => if k = j then some v else none
  | [] => by
    by_cases h : k = j <;> simp [lkD, h]
  | (a, b) :: kvs => by
    have ih := lkC_app (k := k) (j := j) (v := v) kvs
    unfold lkD at ih ⊢
    by_cases h : a = j
    · simp [h]
    · rw [List.cons_append, List.find?_cons_of_neg (by simpa using h), List.find?_cons_of_neg (by simpa using h)]
      exact ih
theorem lkC_any {k : L2.Key} : ∀ kvs : List (L2.Key × D), kvs.any (fun p => decide (p.1 = k)) = (lkD kvs k).isSome
  | [] => rfl
  | (a, b) :: kvs => by
    have ih := lkC_any (k := k) kvs
    unfold lkD at ih ⊢
    by_cases h : a = k
    · simp [h]
    · rw [List.any_cons, List.find?_cons_of_neg (by simpa using h), ih]
      simp [h]
theorem lkC_put {kvs : List (L2.Key × D)} {k j : L2.Key} {v : D} : lkD (putD kvs k v) j = if j = k then some v else lkD kvs j := by
  unfold putD
  rw [lkC_any]
  cases e : lkD kvs k with
  | some u =>
    rw [if_pos (show (some u).isSome = true from rfl), lkC_map]
    by_cases h : j = k
    · subst h; rw [if_pos rfl, if_pos rfl, e]; rfl
    · rw [if_neg h, if_neg h]
  | none =>
    rw [if_neg (by simp), lkC_app]
    by_cases h : j = k
    · subst h; rw [e]
    · rw [if_neg h]
      cases e2 : lkD kvs j with
      | some u => rfl
      | none => exact if_neg fun z => h z.symm
theorem lenC_put {kvs : List (L2.Key × D)} {k : L2.Key} {v : D} : (putD kvs k v).length ≤ kvs.length + 1 := by
  unfold putD
  split <;> simp
def hf (kvs : List (L2.Key × D)) (i : Int) : Int := intOf ((lkD kvs (.inl i)).getD (.int 0))
/-- a dict of figures -/
def Dh (kvs : List (L2.Key × D)) : Prop := DH kvs (hf kvs)
theorem Dh.nil : Dh [] := fun i => ⟨rfl, by show (0 : Int) ≤ 0; decide, by show (0 : Int) ≤ 999999; decide⟩
theorem Dh.put {kvs : List (L2.Key × D)} (h : Dh kvs) {l v : Int} (hv : FI v) : Dh (putD kvs (.inl l) (.int v)) := fun i => by
  unfold hf
  rw [lkC_put]
  by_cases e : (.inl i : L2.Key) = .inl l
  · rw [if_pos e]; exact ⟨rfl, hv⟩
  · rw [if_neg e]; exact h i
/-! ### the machine -/
structure Fr where
  g : Int
  h : List (L2.Key × D)
inductive Pl where
  | row (r : Row) (f : Nat)
  | back (e : Ex) (c : Option Nat) (l : Int) (f : Nat)
inductive En1 where
  | run | gave (v : Int) | fault | dry
def En1.d : En1 → D
  | .run => .non
  | .gave v => .tup [.str "gave", .int v]
  | .fault => .tup [.str "fault"]
  | .dry => .tup [.str "dry"]
structure Ms where
  cells : List Int
  notes : List (L2.Key × D)
  told : List Int
  ticks : Int
  st : List Pl
  fr : List Fr
  en : En1
def Ms.frm (s : Ms) (f : Nat) : Fr := s.fr.getD f ⟨0, []⟩
def Ms.hold (s : Ms) (f : Nat) (l v : Int) : Ms := { s with fr := s.fr.set f ⟨(s.frm f).g, putD (s.frm f).h (.inl l) (.int v)⟩ }
def Ms.lay (s : Ms) (rs : List Row) (f : Nat) : Ms := { s with st := rs.map (fun x => .row x f) ++ s.st }
def Prog.rt (p : Prog) (r : Int) : Rtn := p.rs.getD r.toNat ([], .inn)
def Ms.begin (s : Ms) (p : Prog) (r v : Int) (c : Option Nat) (l : Int) : Ms :=
  if s.ticks = 0 then { s with en := .dry } else
  { s with ticks := s.ticks - 1, fr := s.fr ++ [⟨v, []⟩], st := (p.rt r).1.map (fun x => .row x s.fr.length) ++ .back (p.rt r).2 c l s.fr.length :: s.st }
def Ms.doRow (s : Ms) (p : Prog) (x : Row) (f : Nat) (v : Int) : Ms := match x with
  | .put l _ => s.hold f l v
  | .read l c => s.hold f l (s.cells.getD c.toNat 0)
  | .write c _ => { s with cells := s.cells.set c.toNat v }
  | .call l r _ => s.begin p r v (some f) l
  | .tell _ => { s with told := s.told ++ [v] }
  | .whn _ a b => s.lay (if v = 0 then b else a) f
  | .look l n => s.hold f l (hf s.notes n)
  | .note n _ => { s with notes := putD s.notes (.inl n) (.int v) }
  | .wove _ _ rs => s.lay rs f
  | .go _ _ => s
def Ms.giveBack (s : Ms) (c : Option Nat) (l v : Int) : Ms := match c with
  | none => { s with en := .gave v }
  | some j => s.hold j l v
def Ms.wth (s : Ms) (f : Nat) (e : Ex) : Option Int := e.val (s.frm f).g (hf (s.frm f).h)
def mstep (p : Prog) (s : Ms) : Ms := match s.st with
  | [] => s
  | .row x f :: st => match x.exo with
    | none => ({ s with st := st } : Ms).doRow p x f 0
    | some e => match s.wth f e with
      | none => { s with st := st, en := .fault }
      | some v => ({ s with st := st } : Ms).doRow p x f v
  | .back e c l f :: st => match s.wth f e with
    | none => { s with st := st, en := .fault }
    | some v => ({ s with st := st } : Ms).giveBack c l v
def mstart (p : Prog) (g t : Int) : Ms := (⟨p.cells, [], [], t, [], [], .run⟩ : Ms).begin p 0 g none 0
/-- so many steps to the end -/
def Stps (p : Prog) : Nat → Ms → Ms → Prop
  | 0, s, s' => s.en ≠ .run ∧ s' = s
  | n + 1, s, s' => s.en = .run ∧ Stps p n (mstep p s) s'
def Ms.out (s : Ms) : D := .tup [s.en.d, .tup (s.told.map .int), .tup (s.cells.map .int)]
theorem Stps.det {p : Prog} : ∀ {n m : Nat} {s a b : Ms}, Stps p n s a → Stps p m s b → a = b
  | 0, 0, s, a, b, h, k => h.2.trans k.2.symm
  | 0, m + 1, s, a, b, h, k => absurd k.1 h.1
  | n + 1, 0, s, a, b, h, k => absurd h.1 k.1
  | n + 1, m + 1, s, a, b, h, k => Stps.det h.2 k.2
/-! ### what stays right -/
def Pl.Ok (p : Prog) (n : Nat) : Pl → Prop
  | .row x f => x.Ok p.cells.length p.rs.length ∧ dD x.d ≤ 70 ∧ f < n
  | .back e c _ f => e.Ok false 100000 ∧ dD e.d ≤ 70 ∧ f < n ∧ ∀ j, c = some j → j < n
def Pl.bot : Pl → Bool
  | .back _ none _ _ => true
  | _ => false
def Pl.w : Pl → Nat
  | .row x _ => x.cnt
  | .back _ _ _ _ => 1
structure PW (p : Prog) : Prop where
  cells : ∀ x ∈ p.cells, FI x
  n : 1 ≤ p.rs.length
  rs : ∀ r ∈ p.rs, Row.Oks p.cells.length p.rs.length r.1 ∧ Row.cnts r.1 ≤ 350 ∧ (∀ x ∈ r.1, dD x.d ≤ 70) ∧ r.2.Ok false 100000 ∧ dD r.2.d ≤ 70
def wsum (st : List Pl) : Nat := (st.map Pl.w).sum
def Ms.mu (s : Ms) : Nat := wsum s.st + s.ticks.toNat * 352
structure Wf (p : Prog) (B : Nat) (s : Ms) : Prop where
  cells : s.cells.length = p.cells.length ∧ ∀ x ∈ s.cells, FI x
  notes : Dh s.notes
  told : ∀ x ∈ s.told, FI x
  ticks : 0 ≤ s.ticks
  st : ∀ x ∈ s.st, x.Ok p s.fr.length
  fr : ∀ f ∈ s.fr, FI f.g ∧ Dh f.h ∧ f.h.length + s.mu ≤ B
  b1 : s.told.length + s.mu ≤ B
  b2 : s.notes.length + s.mu ≤ B
  en : ∀ v, s.en = .gave v → FI v
  bot : s.en = .run → ∃ st' x, s.st = st' ++ [x] ∧ x.bot = true ∧ ∀ y ∈ st', y.bot = false
theorem Pl.w_pos : ∀ x : Pl, 1 ≤ x.w
  | .row x _ => cnt_pos x
  | .back _ _ _ _ => Nat.le_refl 1
theorem wsum_len : ∀ st : List Pl, st.length ≤ wsum st
  | [] => Nat.le_refl 0
  | x :: st => by have := wsum_len st; have := x.w_pos; unfold wsum at *; rw [List.map_cons, List.sum_cons, List.length_cons]; omega
theorem wsum_app (a b : List Pl) : wsum (a ++ b) = wsum a + wsum b := by unfold wsum; rw [List.map_append, List.sum_append]
theorem wsum_rows (f : Nat) : ∀ rs : List Row, wsum (rs.map fun x => .row x f) = Row.cnts rs
  | [] => rfl
  | x :: rs => by have := wsum_rows f rs; unfold wsum at *; rw [List.map_cons, List.map_cons, List.sum_cons, this]; rfl
theorem wsum_cons (x : Pl) (st : List Pl) : wsum (x :: st) = x.w + wsum st := by unfold wsum; rw [List.map_cons, List.sum_cons]
theorem Pl.Ok.mono {p : Prog} {n m : Nat} (h : n ≤ m) : ∀ {x : Pl}, x.Ok p n → x.Ok p m
  | .row _ _, o => ⟨o.1, o.2.1, Nat.lt_of_lt_of_le o.2.2 h⟩
  | .back _ _ _ _, o => ⟨o.1, o.2.1, Nat.lt_of_lt_of_le o.2.2.1 h, fun j e => Nat.lt_of_lt_of_le (o.2.2.2 j e) h⟩
theorem Ms.frm_mem {s : Ms} {f : Nat} (h : f < s.fr.length) : s.frm f ∈ s.fr ∧ s.fr[f]? = some (s.frm f) := by
  have e : s.fr[f]? = some (s.frm f) := by unfold Ms.frm; rw [List.getD_eq_getElem?_getD, List.getElem?_eq_getElem h]; rfl
  exact ⟨List.mem_of_getElem? e, e⟩
theorem rt_mem {p : Prog} {r : Int} (h0 : 0 ≤ r) (h1 : r < p.rs.length) : p.rt r ∈ p.rs ∧ p.rs[r.toNat]? = some (p.rt r) := by
  have h : r.toNat < p.rs.length := by omega
  have e : p.rs[r.toNat]? = some (p.rt r) := by unfold Prog.rt; rw [List.getD_eq_getElem?_getD, List.getElem?_eq_getElem h]; rfl
  exact ⟨List.mem_of_getElem? e, e⟩
section
variable {p : Prog} {B : Nat} {s : Ms}
/-- popped: what is left, with room -/
structure Wp (p : Prog) (B : Nat) (s : Ms) : Prop where
  cells : s.cells.length = p.cells.length ∧ ∀ x ∈ s.cells, FI x
  notes : Dh s.notes
  told : ∀ x ∈ s.told, FI x
  ticks : 0 ≤ s.ticks
  st : ∀ x ∈ s.st, x.Ok p s.fr.length
  fr : ∀ f ∈ s.fr, FI f.g ∧ Dh f.h ∧ f.h.length + s.mu < B
  b1 : s.told.length + s.mu < B
  b2 : s.notes.length + s.mu < B
theorem Wp.ended (h : Wp p B s) {e : En1} (he : e ≠ .run) (hv : ∀ v, e = .gave v → FI v) : Wf p B { s with en := e } :=
  ⟨h.cells, h.notes, h.told, h.ticks, h.st, fun f hf => let ⟨a, b, c⟩ := h.fr f hf; ⟨a, b, Nat.le_of_lt c⟩, Nat.le_of_lt h.b1, Nat.le_of_lt h.b2, hv, fun z => absurd z he⟩
theorem Wp.hold (h : Wp p B s) {f : Nat} {l v : Int} (hv : FI v) (hf : f < s.fr.length) (he : ∀ v, s.en = .gave v → FI v) (hb : s.en = .run → ∃ st' x, s.st = st' ++ [x] ∧ x.bot = true ∧ ∀ y ∈ st', y.bot = false) : Wf p B (s.hold f l v) := by
  refine ⟨h.cells, h.notes, h.told, h.ticks, fun x hx => ?_, fun x hx => ?_, Nat.le_of_lt h.b1, Nat.le_of_lt h.b2, he, hb⟩
  · show x.Ok p (s.fr.set _ _).length
    rw [List.length_set]; exact h.st x hx
  · obtain ⟨m1, _⟩ := Ms.frm_mem hf
    rcases List.mem_or_eq_of_mem_set hx with hx | rfl
    · obtain ⟨a, b, c⟩ := h.fr x hx; exact ⟨a, b, Nat.le_of_lt c⟩
    · obtain ⟨a, b, c⟩ := h.fr _ m1
      have := lenC_put (kvs := (s.frm f).h) (k := .inl l) (v := .int v)
      refine ⟨a, b.put hv, ?_⟩
      show (putD (s.frm f).h (.inl l) (.int v)).length + s.mu ≤ B
      omega
theorem Wp.lay (h : Wp p B s) {rs : List Row} {f : Nat} (hf : f < s.fr.length) (ho : Row.Oks p.cells.length p.rs.length rs) (hd : ∀ x ∈ rs, dD x.d ≤ 70) {k : Nat} (hk : Row.cnts rs + 1 ≤ k) (hB : ∀ f ∈ s.fr, f.h.length + s.mu + k ≤ B) (hB1 : s.told.length + s.mu + k ≤ B) (hB2 : s.notes.length + s.mu + k ≤ B)
    (he : ∀ v, s.en = .gave v → FI v) (hb : s.en = .run → ∃ st' x, s.st = st' ++ [x] ∧ x.bot = true ∧ ∀ y ∈ st', y.bot = false) : Wf p B (s.lay rs f) ∧ (s.lay rs f).mu < s.mu + k := by
  have em : (s.lay rs f).mu = Row.cnts rs + s.mu := by
    show wsum (_ ++ _) + s.ticks.toNat * 352 = _ + (wsum _ + _)
    rw [wsum_app, wsum_rows]; omega
  refine ⟨⟨h.cells, h.notes, h.told, h.ticks, fun x hx => ?_, fun x hx => ?_, ?_, ?_, he, fun z => ?_⟩, by rw [em]; omega⟩
  · rcases List.mem_append.mp hx with hx | hx
    · obtain ⟨y, hy, rfl⟩ := List.mem_map.mp hx
      exact ⟨Row.Oks_mem.mp ho y hy, hd y hy, hf⟩
    · exact h.st x hx
  · obtain ⟨a, b, c⟩ := h.fr x hx
    have := hB x hx
    exact ⟨a, b, by rw [em]; omega⟩
  · rw [em]; show s.told.length + _ ≤ B; omega
  · rw [em]; show s.notes.length + _ ≤ B; omega
  · obtain ⟨st', x, e1, e2, e3⟩ := hb z
    refine ⟨rs.map (fun x => .row x f) ++ st', x, by show _ ++ s.st = _; rw [e1, List.append_assoc], e2, fun y hy => ?_⟩
    rcases List.mem_append.mp hy with hy | hy
    · obtain ⟨z, _, rfl⟩ := List.mem_map.mp hy; rfl
    · exact e3 y hy
theorem wf_begin (hp : PW p) (hc : s.cells.length = p.cells.length ∧ ∀ x ∈ s.cells, FI x) (hn : Dh s.notes) (ht : ∀ x ∈ s.told, FI x) (htk : 0 ≤ s.ticks) (hst : ∀ x ∈ s.st, x.Ok p s.fr.length) (hfr : ∀ f ∈ s.fr, FI f.g ∧ Dh f.h ∧ f.h.length + s.mu ≤ B) (b1 : s.told.length + s.mu ≤ B) (b2 : s.notes.length + s.mu ≤ B)
    (hrun : s.en = .run) {r v l : Int} {c : Option Nat} (r0 : 0 ≤ r) (r1 : r < p.rs.length) (hv : FI v) (hcc : ∀ j, c = some j → j < s.fr.length) (hb : ∃ st' x, .back (p.rt r).2 c l s.fr.length :: s.st = st' ++ [x] ∧ x.bot = true ∧ ∀ y ∈ st', y.bot = false) :
    Wf p B (s.begin p r v c l) ∧ (s.begin p r v c l).mu ≤ s.mu := by
  unfold Ms.begin
  by_cases h0 : s.ticks = 0
  · rw [if_pos h0]
    exact ⟨⟨hc, hn, ht, htk, hst, hfr, b1, b2, (fun v z => by cases z), fun z => by cases z⟩, Nat.le_refl _⟩
  · rw [if_neg h0]
    obtain ⟨m1, _⟩ := rt_mem r0 r1
    obtain ⟨o1, o2, o3, o4, o5⟩ := hp.rs _ m1
    have em : Ms.mu { s with ticks := s.ticks - 1, fr := s.fr ++ [⟨v, []⟩], st := (p.rt r).1.map (fun x => .row x s.fr.length) ++ .back (p.rt r).2 c l s.fr.length :: s.st } + 1 ≤ s.mu := by
      show wsum (_ ++ _) + _ + 1 ≤ wsum s.st + s.ticks.toNat * 352
      rw [wsum_app, wsum_rows, wsum_cons]
      show _ + (1 + wsum s.st) + (s.ticks - 1).toNat * 352 + 1 ≤ _
      have : s.ticks.toNat = (s.ticks - 1).toNat + 1 := by omega
      rw [this]
      omega
    generalize hmu : Ms.mu { s with ticks := s.ticks - 1, fr := s.fr ++ [⟨v, []⟩], st := (p.rt r).1.map (fun x => .row x s.fr.length) ++ .back (p.rt r).2 c l s.fr.length :: s.st } = mu at em
    refine ⟨⟨hc, hn, ht, by show 0 ≤ s.ticks - 1; omega, fun x hx => ?_, fun x hx => ?_, ?_, ?_, fun v z => ?_, fun _ => ?_⟩, by omega⟩
    · show x.Ok p (s.fr ++ [_]).length
      rw [List.length_append]
      rcases List.mem_append.mp hx with hx | hx
      · obtain ⟨y, hy, rfl⟩ := List.mem_map.mp hx
        exact ⟨Row.Oks_mem.mp o1 y hy, o3 y hy, by simp⟩
      · rcases List.mem_cons.mp hx with rfl | hx
        · exact ⟨o4, o5, by simp, fun j e => Nat.lt_of_lt_of_le (hcc j e) (by simp)⟩
        · exact (hst x hx).mono (by simp)
    · rcases List.mem_append.mp hx with hx | hx
      · obtain ⟨a, b, d⟩ := hfr x hx
        exact ⟨a, b, by rw [hmu]; omega⟩
      · rw [List.mem_singleton.mp hx]
        exact ⟨hv, Dh.nil, by rw [hmu]; show 0 + mu ≤ B; omega⟩
    · rw [hmu]; show s.told.length + mu ≤ B; omega
    · rw [hmu]; show s.notes.length + mu ≤ B; omega
    · have : s.en = .gave v := z
      rw [hrun] at this; cases this
    · obtain ⟨st', x, e1, e2, e3⟩ := hb
      refine ⟨(p.rt r).1.map (fun x => .row x s.fr.length) ++ st', x, by show _ ++ _ :: s.st = _; rw [e1, List.append_assoc], e2, fun y hy => ?_⟩
      rcases List.mem_append.mp hy with hy | hy
      · obtain ⟨z, _, rfl⟩ := List.mem_map.mp hy; rfl
      · exact e3 y hy
/-- what is popped leaves room -/
theorem Wf.popped (h : Wf p B s) {x : Pl} {st : List Pl} (e : s.st = x :: st) : Wp p B { s with st := st } ∧ Ms.mu { s with st := st } + x.w = s.mu := by
  have em : Ms.mu { s with st := st } + x.w = s.mu := by
    show wsum st + s.ticks.toNat * 352 + x.w = wsum s.st + _
    rw [e, wsum_cons]; omega
  have hw := x.w_pos
  refine ⟨⟨h.cells, h.notes, h.told, h.ticks, fun y hy => h.st y (by rw [e]; exact List.mem_cons_of_mem _ hy), fun f hf => ?_, ?_, ?_⟩, em⟩
  · obtain ⟨a, b, c⟩ := h.fr f hf
    exact ⟨a, b, by omega⟩
  · have := h.b1; show s.told.length + _ < B; omega
  · have := h.b2; show s.notes.length + _ < B; omega
theorem wth_ok (h : Wf p B s) {f : Nat} {e : Ex} {v : Int} (hf : f < s.fr.length) (he : e.Ok false 100000) (hv : s.wth f e = some v) : FI v := by
  obtain ⟨m1, _⟩ := Ms.frm_mem hf
  obtain ⟨a, b, _⟩ := h.fr _ m1
  exact Ex.val_ok a (fun i => (b i).2) he hv
theorem cnts_ge : ∀ {xs : List Row} {x : Row}, x ∈ xs → x.cnt ≤ Row.cnts xs
  | y :: ys, x, h => by
    rw [Row.cnts]
    rcases List.mem_cons.mp h with rfl | h
    · omega
    · have := cnts_ge h; omega
theorem Wf.row (hp : PW p) (h : Wf p B s) (hr : s.en = .run) {x : Row} {f : Nat} {st : List Pl} (e : s.st = .row x f :: st) {v : Int} (hv : FI v) : Wf p B (({ s with st := st } : Ms).doRow p x f v) ∧ (({ s with st := st } : Ms).doRow p x f v).mu < s.mu := by
  obtain ⟨w, em⟩ := h.popped e
  have hw : (Pl.row x f).w = x.cnt := rfl
  have cp := cnt_pos x
  rw [hw] at em
  obtain ⟨o1, o2, o3⟩ := h.st (.row x f) (by rw [e]; exact List.mem_cons_self)
  have hb : ({ s with st := st } : Ms).en = .run → ∃ st' x, st = st' ++ [x] ∧ x.bot = true ∧ ∀ y ∈ st', y.bot = false := fun _ => by
    obtain ⟨st', y, e1, e2, e3⟩ := h.bot hr
    rw [e] at e1
    cases st' with
    | nil =>
      injection e1 with e4 e5
      subst e4
      cases e2
    | cons z st' =>
      injection e1 with e4 e5
      exact ⟨st', y, e5, e2, fun u hu => e3 u (List.mem_cons_of_mem _ hu)⟩
  have hen : ∀ v, ({ s with st := st } : Ms).en = .gave v → FI v := fun v z => h.en v z
  have mulow : Ms.mu { s with st := st } < s.mu := by omega
  have dd : ∀ {rs : List Row}, dD (rwsD rs) < dD x.d → ∀ y ∈ rs, dD y.d ≤ 70 := fun {rs} hd y hy => by
    rw [dD_rws] at hd
    have := dD_mem (List.mem_map_of_mem (f := Row.d) hy)
    omega
  have hlay : ∀ {rs : List Row}, Row.Oks p.cells.length p.rs.length rs → dD (rwsD rs) < dD x.d → Row.cnts rs + 1 ≤ x.cnt → Wf p B (({ s with st := st } : Ms).lay rs f) ∧ (({ s with st := st } : Ms).lay rs f).mu < s.mu := fun {rs} a b c => by
    have := w.lay (k := x.cnt) o3 a (dd b) c (fun f hf => by have := (h.fr f hf).2.2; omega) (by have := h.b1; show s.told.length + _ + _ ≤ B; omega) (by have := h.b2; show s.notes.length + _ + _ ≤ B; omega) hen hb
    rw [em] at this
    exact this
  cases x with
  | put l e => exact ⟨w.hold hv o3 hen hb, mulow⟩
  | read l c =>
    refine ⟨w.hold ?_ o3 hen hb, mulow⟩
    rw [Row.Ok] at o1
    have hc : c.toNat < s.cells.length := by rw [h.cells.1]; omega
    show FI (s.cells.getD c.toNat 0)
    rw [List.getD_eq_getElem?_getD, List.getElem?_eq_getElem hc]
    exact h.cells.2 _ (List.getElem_mem hc)
  | write c e =>
    refine ⟨⟨⟨by show (s.cells.set _ _).length = _; rw [List.length_set]; exact w.cells.1, fun y hy => ?_⟩, w.notes, w.told, w.ticks, w.st, fun f hf => ?_, Nat.le_of_lt w.b1, Nat.le_of_lt w.b2, hen, hb⟩, mulow⟩
    · rcases List.mem_or_eq_of_mem_set hy with hy | rfl
      · exact w.cells.2 y hy
      · exact hv
    · obtain ⟨a, b, c⟩ := w.fr f hf; exact ⟨a, b, Nat.le_of_lt c⟩
  | call l r e =>
    rw [Row.Ok] at o1
    obtain ⟨a, b⟩ := wf_begin (s := { s with st := st }) (l := l) (c := some f) hp w.cells w.notes w.told w.ticks w.st (fun f hf => let ⟨a, b, c⟩ := w.fr f hf; ⟨a, b, Nat.le_of_lt c⟩) (Nat.le_of_lt w.b1) (Nat.le_of_lt w.b2) hr o1.2.1.1 o1.2.1.2 hv (fun j z => by cases z; exact o3) (by
      obtain ⟨st', y, e1, e2, e3⟩ := hb hr
      refine ⟨_ :: st', y, by rw [show ({ s with st := st } : Ms).st = st from rfl, e1]; rfl, e2, fun z hz => ?_⟩
      rcases List.mem_cons.mp hz with rfl | hz
      · rfl
      · exact e3 z hz)
    exact ⟨a, Nat.lt_of_le_of_lt b mulow⟩
  | tell e =>
    refine ⟨⟨w.cells, w.notes, fun y hy => ?_, w.ticks, w.st, fun f hf => ?_, ?_, Nat.le_of_lt w.b2, hen, hb⟩, mulow⟩
    · rcases List.mem_append.mp hy with hy | hy
      · exact w.told y hy
      · rw [List.mem_singleton.mp hy]; exact hv
    · obtain ⟨a, b, c⟩ := w.fr f hf; exact ⟨a, b, Nat.le_of_lt c⟩
    · show (s.told ++ [v]).length + Ms.mu { s with st := st } ≤ B
      have := w.b1
      rw [List.length_append]
      show s.told.length + 1 + _ ≤ B
      have : s.told.length + Ms.mu { s with st := st } < B := w.b1
      omega
  | whn ee a b =>
    rw [Row.Ok] at o1
    have hd : dD (rwsD a) < dD (Row.whn ee a b).d ∧ dD (rwsD b) < dD (Row.whn ee a b).d := by rw [Row.d_whn, dD_4]; omega
    simp only [Row.cnt] at hlay
    show Wf p B (Ms.lay _ (if v = 0 then b else a) f) ∧ _
    by_cases h0 : v = 0
    · simp only [Ms.doRow, if_pos h0]; exact hlay o1.2.2 hd.2 (by omega)
    · simp only [Ms.doRow, if_neg h0]; exact hlay o1.2.1 hd.1 (by omega)
  | look l n =>
    refine ⟨w.hold ?_ o3 hen hb, mulow⟩
    exact (h.notes n).2
  | note n e =>
    refine ⟨⟨w.cells, w.notes.put hv, w.told, w.ticks, w.st, fun f hf => ?_, Nat.le_of_lt w.b1, ?_, hen, hb⟩, mulow⟩
    · obtain ⟨a, b, c⟩ := w.fr f hf; exact ⟨a, b, Nat.le_of_lt c⟩
    · show (putD s.notes (.inl n) (.int v)).length + Ms.mu { s with st := st } ≤ B
      have := lenC_put (kvs := s.notes) (k := .inl n) (v := .int v)
      have : s.notes.length + Ms.mu { s with st := st } < B := w.b2
      omega
  | wove k ks rs =>
    rw [Row.Ok] at o1
    have hd : dD (rwsD rs) < dD (Row.wove k ks rs).d := by rw [Row.d_wove, dD_4]; omega
    simp only [Row.cnt] at hlay
    exact hlay o1.2.2 hd (by omega)
  | go l e => rw [Row.Ok] at o1; exact o1.elim
theorem Wf.step (hp : PW p) (h : Wf p B s) (hr : s.en = .run) : Wf p B (mstep p s) ∧ (mstep p s).mu < s.mu := by
  obtain ⟨st', y, e1, e2, e3⟩ := h.bot hr
  cases es : s.st with
  | nil => rw [es] at e1; cases st' <;> cases e1
  | cons x st =>
    obtain ⟨w, em⟩ := h.popped es
    have hw := x.w_pos
    have fault : Wf p B { s with st := st, en := .fault } ∧ Ms.mu { s with st := st, en := .fault } < s.mu := ⟨w.ended (by simp) (fun v z => by cases z), by show Ms.mu { s with st := st } < _; omega⟩
    cases x with
    | row x f =>
      obtain ⟨o1, o2, o3⟩ := h.st (.row x f) (by rw [es]; exact List.mem_cons_self)
      unfold mstep
      rw [es]
      dsimp only
      cases ex : x.exo with
      | none => exact h.row hp hr es ⟨by decide, by decide⟩
      | some e =>
        dsimp only
        cases ev : s.wth f e with
        | none => exact fault
        | some v =>
          refine h.row hp hr es (wth_ok h o3 ?_ ev)
          cases x <;> first | (cases ex; done) | (simp only [Row.exo, Option.some.injEq] at ex; subst ex; rw [Row.Ok] at o1; first | exact o1 | exact o1.1 | exact o1.2 | exact o1.2.2 | exact o1.elim)
    | back e c l f =>
      obtain ⟨o1, o2, o3, o4⟩ := h.st (.back e c l f) (by rw [es]; exact List.mem_cons_self)
      unfold mstep
      rw [es]
      dsimp only
      cases ev : s.wth f e with
      | none => exact fault
      | some v =>
        have hv := wth_ok h o3 o1 ev
        dsimp only
        cases c with
        | none => exact ⟨w.ended (by simp) (fun u z => by cases z; exact hv), by show Ms.mu { s with st := st } < _; omega⟩
        | some j =>
          refine ⟨w.hold hv (o4 j rfl) (fun v z => h.en v z) (fun _ => ?_), by show Ms.mu { s with st := st } < _; omega⟩
          rw [es] at e1
          cases st' with
          | nil => injection e1 with e4 e5; subst e4; cases e2
          | cons z st' => injection e1 with e4 e5; exact ⟨st', y, e5, e2, fun u hu => e3 u (List.mem_cons_of_mem _ hu)⟩
/-- every run ends -/
theorem stps_ex (hp : PW p) : ∀ (m : Nat) {s : Ms}, s.mu ≤ m → Wf p B s → ∃ n s', Stps p n s s'
  | m, s, hm, h => by
    by_cases hr : s.en = .run
    · obtain ⟨a, b⟩ := h.step hp hr
      cases m with
      | zero => omega
      | succ m =>
        obtain ⟨n, s', hs⟩ := stps_ex hp m (by omega) a
        exact ⟨n + 1, s', hr, hs⟩
    · exact ⟨0, s, hr, rfl⟩
theorem stps_wf (hp : PW p) : ∀ {n : Nat} {s s' : Ms}, Wf p B s → Stps p n s s' → Wf p B s' ∧ s'.en ≠ .run
  | 0, s, s', h, hs => by obtain ⟨a, rfl⟩ := hs; exact ⟨h, a⟩
  | n + 1, s, s', h, hs => stps_wf hp (h.step hp hs.1).1 hs.2
theorem wf_start (hp : PW p) {g t : Int} (hg : FI g) (ht : 0 ≤ t) : Wf p (t.toNat * 352) (mstart p g t) := by
  refine (wf_begin (s := ⟨p.cells, [], [], t, [], [], .run⟩) hp ⟨rfl, hp.cells⟩ Dh.nil (fun _ z => by cases z) ht (fun _ z => by cases z) (fun _ z => by cases z) ?_ ?_ rfl (by decide) (by have := hp.n; omega) hg (fun _ z => by cases z) ⟨[], _, rfl, rfl, fun _ z => by cases z⟩).1
  · show 0 + (0 + t.toNat * 352) ≤ _; omega
  · show 0 + (0 + t.toNat * 352) ≤ _; omega
end
end Mi
set_option maxHeartbeats 1000000
/-! XB: how the machine lies in a store. -/
namespace Mi
open PySem
def mi (a b c d e f g : D) : List (Str × D) := [("routines", a), ("cells", b), ("notes", c), ("told", d), ("ticks_left", e), ("pile", f), ("ending", g)]
section
variable {a b c d e f g x : D}
theorem mi_a : (mi a b c d e f g).lookup ("routines" : Str) = some a := by kernel_rfl
theorem mi_b : (mi a b c d e f g).lookup ("cells" : Str) = some b := by kernel_rfl
theorem mi_c : (mi a b c d e f g).lookup ("notes" : Str) = some c := by kernel_rfl
theorem mi_d : (mi a b c d e f g).lookup ("told" : Str) = some d := by kernel_rfl
theorem mi_e : (mi a b c d e f g).lookup ("ticks_left" : Str) = some e := by kernel_rfl
theorem mi_f : (mi a b c d e f g).lookup ("pile" : Str) = some f := by kernel_rfl
theorem mi_g : (mi a b c d e f g).lookup ("ending" : Str) = some g := by kernel_rfl
theorem mi_pe : putFD "ticks_left" x (mi a b c d e f g) = mi a b c d x f g := by kernel_rfl
theorem mi_pg : putFD "ending" x (mi a b c d e f g) = mi a b c d e f x := by kernel_rfl
theorem mi_n : (mi a b c d e f g).length < 100 := by show 7 < 100; decide
end
def fi (g h : D) : List (Str × D) := [("went_in", g), ("held", h)]
theorem fi_g {g h : D} : (fi g h).lookup ("went_in" : Str) = some g := by kernel_rfl
theorem fi_h {g h : D} : (fi g h).lookup ("held" : Str) = some h := by kernel_rfl
def cD (L : Nat → Nat) : Option Nat → D
  | none => .non
  | some j => .loc (L (5 + 2 * j))
def Pl.d (L : Nat → Nat) : Pl → D
  | .row x f => .tup [x.d, .loc (L (5 + 2 * f))]
  | .back e c l f => .tup [.tup [.str "back", e.d, cD L c, .int l], .loc (L (5 + 2 * f))]
def Ms.fs (p : Prog) (L : Nat → Nat) (s : Ms) : List (Str × D) := mi (.tup (p.rs.map rtD)) (.loc (L 1)) (.loc (L 2)) (.loc (L 3)) (.int s.ticks) (.loc (L 4)) s.en.d
section
variable {p : Prog} {L : Nat → Nat} {s : Ms}
theorem mz_a : (s.fs p L).lookup ("routines" : Str) = some (.tup (p.rs.map rtD)) := mi_a
theorem mz_b : (s.fs p L).lookup ("cells" : Str) = some (.loc (L 1)) := mi_b
theorem mz_c : (s.fs p L).lookup ("notes" : Str) = some (.loc (L 2)) := mi_c
theorem mz_d : (s.fs p L).lookup ("told" : Str) = some (.loc (L 3)) := mi_d
theorem mz_e : (s.fs p L).lookup ("ticks_left" : Str) = some (.int s.ticks) := mi_e
theorem mz_f : (s.fs p L).lookup ("pile" : Str) = some (.loc (L 4)) := mi_f
theorem mz_g : (s.fs p L).lookup ("ending" : Str) = some s.en.d := mi_g
theorem mz_n : (s.fs p L).length < 100 := mi_n
theorem mz_pe {t : Int} : putFD "ticks_left" (.int t) (s.fs p L) = Ms.fs p L { s with ticks := t } := mi_pe
theorem mz_pg {e : En1} : putFD "ending" e.d (s.fs p L) = Ms.fs p L { s with en := e } := mi_pg
end
def Ms.live (s : Ms) : Nat := 5 + 2 * s.fr.length
structure MR (p : Prog) (S0 S : Sto) (L : Nat → Nat) (s : Ms) : Prop where
  inj : ∀ i j, i < s.live → j < s.live → L i = L j → i = j
  old : ∀ x o, S0 x = some o → S x = some o
  new : ∀ j, j < s.live → S0 (L j) = none
  m0 : S (L 0) = some (.ins 1 (s.fs p L))
  m1 : S (L 1) = some (.lst (s.cells.map .int))
  m2 : S (L 2) = some (.dic s.notes)
  m3 : S (L 3) = some (.lst (s.told.map .int))
  m4 : S (L 4) = some (.lst (s.st.map (Pl.d L)).reverse)
  fr : ∀ i f, s.fr[i]? = some f → S (L (5 + 2 * i)) = some (.ins 0 (fi (.int f.g) (.loc (L (6 + 2 * i))))) ∧ S (L (6 + 2 * i)) = some (.dic f.h)
section
variable {p : Prog} {S0 S : Sto} {L : Nat → Nat} {s : Ms}
theorem MR.l5 (s : Ms) : 5 ≤ s.live := by unfold Ms.live; omega
theorem MR.pne (h : MR p S0 S L s) {i j : Nat} (hi : i < s.live) (hj : j < s.live) (ne : i ≠ j) {o : Ob} : put S (L j) o (L i) = S (L i) := put_ne fun z => ne (h.inj i j hi hj z)
theorem MR.pold (h : MR p S0 S L s) {j : Nat} (hj : j < s.live) {o : Ob} : ∀ x u, S0 x = some u → put S (L j) o x = some u := fun x u hx => by
  rw [put_ne]
  · exact h.old x u hx
  · intro z
    rw [z, h.new j hj] at hx; cases hx
theorem MR.fl (h : MR p S0 S L s) {i : Nat} {f : Fr} (hf : s.fr[i]? = some f) : 5 + 2 * i < s.live ∧ 6 + 2 * i < s.live := by
  have := (List.getElem?_eq_some_iff.mp hf).1
  unfold Ms.live; omega
/-- one part is changed, no frame -/
theorem MR.chg (h : MR p S0 S L s) {j : Nat} (hj : j < 5) {o : Ob} {s' : Ms} (ef : s'.fr = s.fr)
    (a0 : if j = 0 then o = .ins 1 (s'.fs p L) else s'.fs p L = s.fs p L) (a1 : if j = 1 then o = .lst (s'.cells.map .int) else s'.cells = s.cells) (a2 : if j = 2 then o = .dic s'.notes else s'.notes = s.notes)
    (a3 : if j = 3 then o = .lst (s'.told.map .int) else s'.told = s.told) (a4 : if j = 4 then o = .lst (s'.st.map (Pl.d L)).reverse else s'.st = s.st) : MR p S0 (put S (L j) o) L s' := by
  have el : s'.live = s.live := by unfold Ms.live; rw [ef]
  have l5 := MR.l5 s
  refine ⟨fun i j a b => h.inj i j (el ▸ a) (el ▸ b), h.pold (by omega), fun i a => h.new i (el ▸ a), ?_, ?_, ?_, ?_, ?_, fun i f hf => ?_⟩
  · by_cases e : j = 0
    · subst e; rw [if_pos rfl] at a0; rw [put_same, a0]
    · rw [if_neg e] at a0; rw [h.pne (by omega) (by omega) (Ne.symm e), a0]; exact h.m0
  · by_cases e : j = 1
    · subst e; rw [if_pos rfl] at a1; rw [put_same, a1]
    · rw [if_neg e] at a1; rw [h.pne (by omega) (by omega) (Ne.symm e), a1]; exact h.m1
  · by_cases e : j = 2
    · subst e; rw [if_pos rfl] at a2; rw [put_same, a2]
    · rw [if_neg e] at a2; rw [h.pne (by omega) (by omega) (Ne.symm e), a2]; exact h.m2
  · by_cases e : j = 3
    · subst e; rw [if_pos rfl] at a3; rw [put_same, a3]
    · rw [if_neg e] at a3; rw [h.pne (by omega) (by omega) (Ne.symm e), a3]; exact h.m3
  · by_cases e : j = 4
    · subst e; rw [if_pos rfl] at a4; rw [put_same, a4]
    · rw [if_neg e] at a4; rw [h.pne (by omega) (by omega) (Ne.symm e), a4]; exact h.m4
  · rw [ef] at hf
    obtain ⟨l1, l2⟩ := h.fl hf
    rw [h.pne l1 (by omega) (by omega), h.pne l2 (by omega) (by omega)]
    exact h.fr i f hf
theorem MR.ticks (h : MR p S0 S L s) (t : Int) : MR p S0 (put S (L 0) (.ins 1 (Ms.fs p L { s with ticks := t }))) L { s with ticks := t } := h.chg (by decide) rfl rfl rfl rfl rfl rfl
theorem MR.ended (h : MR p S0 S L s) (e : En1) : MR p S0 (put S (L 0) (.ins 1 (Ms.fs p L { s with en := e }))) L { s with en := e } := h.chg (by decide) rfl rfl rfl rfl rfl rfl
theorem MR.write (h : MR p S0 S L s) (c : Nat) (v : Int) : MR p S0 (put S (L 1) (.lst ((s.cells.map D.int).set c (.int v)))) L { s with cells := s.cells.set c v } := h.chg (by decide) rfl rfl (by rw [if_pos rfl, List.map_set]) rfl rfl rfl
theorem MR.note (h : MR p S0 S L s) (n v : Int) : MR p S0 (put S (L 2) (.dic (putD s.notes (.inl n) (.int v)))) L { s with notes := putD s.notes (.inl n) (.int v) } := h.chg (by decide) rfl rfl rfl rfl rfl rfl
theorem MR.tell (h : MR p S0 S L s) (v : Int) : MR p S0 (put S (L 3) (.lst (s.told.map .int ++ [.int v]))) L { s with told := s.told ++ [v] } := h.chg (by decide) rfl rfl rfl rfl (by rw [if_pos rfl, List.map_append]; rfl) rfl
theorem MR.push (h : MR p S0 S L s) (x : Pl) : MR p S0 (put S (L 4) (.lst ((s.st.map (Pl.d L)).reverse ++ [x.d L]))) L { s with st := x :: s.st } := h.chg (by decide) rfl rfl rfl rfl rfl (by rw [if_pos rfl, List.map_cons, List.reverse_cons])
theorem MR.pop (h : MR p S0 S L s) {x : Pl} {st : List Pl} (e : s.st = x :: st) : (s.st.map (Pl.d L)).reverse[(s.st.map (Pl.d L)).reverse.length - 1]? = some (x.d L) ∧ MR p S0 (put S (L 4) (.lst (s.st.map (Pl.d L)).reverse.dropLast)) L { s with st := st } := by
  rw [e, List.map_cons, List.reverse_cons]
  refine ⟨by simp, ?_⟩
  rw [List.dropLast_concat]
  exact h.chg (by decide) rfl rfl rfl rfl rfl (by rw [if_pos rfl])
theorem MR.hold (h : MR p S0 S L s) {f : Nat} (hf : f < s.fr.length) (l v : Int) : S (L (6 + 2 * f)) = some (.dic (s.frm f).h) ∧ MR p S0 (put S (L (6 + 2 * f)) (.dic (putD (s.frm f).h (.inl l) (.int v)))) L (s.hold f l v) := by
  obtain ⟨_, e⟩ := Ms.frm_mem hf
  obtain ⟨l1, l2⟩ := h.fl e
  have el : (s.hold f l v).live = s.live := by unfold Ms.live Ms.hold; rw [List.length_set]
  have l5 := MR.l5 s
  refine ⟨(h.fr f _ e).2, ⟨fun i j a b => h.inj i j (el ▸ a) (el ▸ b), h.pold l2, fun i a => h.new i (el ▸ a), ?_, ?_, ?_, ?_, ?_, fun i x hx => ?_⟩⟩
  · rw [h.pne (by omega) l2 (by omega)]; exact h.m0
  · rw [h.pne (by omega) l2 (by omega)]; exact h.m1
  · rw [h.pne (by omega) l2 (by omega)]; exact h.m2
  · rw [h.pne (by omega) l2 (by omega)]; exact h.m3
  · rw [h.pne (by omega) l2 (by omega)]; exact h.m4
  · have hx : (s.fr.set f ⟨(s.frm f).g, putD (s.frm f).h (.inl l) (.int v)⟩)[i]? = some x := hx
    by_cases ei : f = i
    · subst ei
      rw [List.getElem?_set_self hf] at hx
      cases hx
      rw [h.pne l1 l2 (by omega), put_same]
      exact ⟨(h.fr f _ e).1, rfl⟩
    · rw [List.getElem?_set_ne ei] at hx
      obtain ⟨k1, k2⟩ := h.fl hx
      rw [h.pne k1 l2 (by omega), h.pne k2 l2 (by omega)]
      exact h.fr i x hx
/-- the places with a new frame's -/
def Lx (L : Nat → Nat) (n a b : Nat) : Nat → Nat := fun j => if j = n then a else if j = n + 1 then b else L j
theorem Lx_lt {n a b j : Nat} (h : j < n) : Lx L n a b j = L j := by unfold Lx; rw [if_neg (by omega), if_neg (by omega)]
theorem Pl.d_same {L L' : Nat → Nat} {n : Nat} (hL : ∀ j, j < 5 + 2 * n → L' j = L j) {x : Pl} (ho : x.Ok p n) : x.d L' = x.d L := by
  cases x with
  | row x f => obtain ⟨_, _, h⟩ := ho; simp only [Pl.d]; rw [hL _ (by omega)]
  | back e c l f =>
    obtain ⟨_, _, h, hc⟩ := ho
    simp only [Pl.d]; rw [hL _ (by omega)]
    cases c with
    | none => rfl
    | some j => have := hc j rfl; simp only [cD]; rw [hL _ (by omega)]
theorem MR.frame (h : MR p S0 S L s) (ho : ∀ x ∈ s.st, x.Ok p s.fr.length) {a b : Nat} {g : Int} {S' : Sto} (ha : S a = none) (hb : S b = none) (ne : b ≠ a) (ea : S' a = some (.ins 0 (fi (.int g) (.loc b)))) (eb : S' b = some (.dic [])) (es : ∀ x, x ≠ a → x ≠ b → S' x = S x) :
    MR p S0 S' (Lx L s.live a b) { s with fr := s.fr ++ [⟨g, []⟩] } := by
  have n0 : ∀ {x : Nat}, S x = none → S0 x = none := fun {x} hx => by
    cases e : S0 x with
    | none => rfl
    | some o => rw [h.old x o e] at hx; cases hx
  have there : ∀ i, i < s.live → S (L i) ≠ none := fun i hi => by
    unfold Ms.live at hi
    match i, hi with
    | 0, _ => rw [h.m0]; simp
    | 1, _ => rw [h.m1]; simp
    | 2, _ => rw [h.m2]; simp
    | 3, _ => rw [h.m3]; simp
    | 4, _ => rw [h.m4]; simp
    | i + 5, hi =>
      have hl : i / 2 < s.fr.length := by omega
      obtain ⟨_, e⟩ := Ms.frm_mem hl
      obtain ⟨k1, k2⟩ := h.fr _ _ e
      rcases Nat.mod_two_eq_zero_or_one i with hm | hm
      · rw [show i + 5 = 5 + 2 * (i / 2) by omega, k1]; simp
      · rw [show i + 5 = 6 + 2 * (i / 2) by omega, k2]; simp
  have na : ∀ i, i < s.live → L i ≠ a := fun i hi z => there i hi (z ▸ ha)
  have nb : ∀ i, i < s.live → L i ≠ b := fun i hi z => there i hi (z ▸ hb)
  have el : Ms.live { s with fr := s.fr ++ [⟨g, []⟩] } = s.live + 2 := by unfold Ms.live; rw [List.length_append]; simp; omega
  have keep : ∀ i, i < s.live → S' (Lx L s.live a b i) = S (L i) := fun i hi => by rw [Lx_lt hi]; exact es _ (na i hi) (nb i hi)
  have l5 := MR.l5 s
  have xa : Lx L s.live a b s.live = a := if_pos rfl
  have xb : Lx L s.live a b (s.live + 1) = b := by unfold Lx; rw [if_neg (by omega), if_pos rfl]
  have L1 : ∀ i, i < 5 → Lx L s.live a b i = L i := fun i hi => Lx_lt (by omega)
  refine ⟨fun i j hi hj e => ?_, fun x o hx => ?_, fun i hi => ?_, ?_, ?_, ?_, ?_, ?_, fun i f hf => ?_⟩
  · rw [el] at hi hj
    have c3 : ∀ i, i < s.live + 2 → i < s.live ∨ i = s.live ∨ i = s.live + 1 := fun i hi => by omega
    rcases c3 i hi with hi | rfl | rfl <;> rcases c3 j hj with hj | rfl | rfl
    · rw [Lx_lt hi, Lx_lt hj] at e; exact h.inj i j hi hj e
    · rw [Lx_lt hi, xa] at e; exact absurd e (na i hi)
    · rw [Lx_lt hi, xb] at e; exact absurd e (nb i hi)
    · rw [Lx_lt hj, xa] at e; exact absurd e.symm (na j hj)
    · rfl
    · rw [xa, xb] at e; exact absurd e.symm ne
    · rw [Lx_lt hj, xb] at e; exact absurd e.symm (nb j hj)
    · rw [xa, xb] at e; exact absurd e ne
    · rfl
  · have hx' := h.old x o hx
    rw [es x (fun z => by rw [z, ha] at hx'; cases hx') (fun z => by rw [z, hb] at hx'; cases hx')]
    exact hx'
  · rw [el] at hi
    rcases (show i < s.live ∨ i = s.live ∨ i = s.live + 1 by omega) with hi | rfl | rfl
    · rw [Lx_lt hi]; exact h.new i hi
    · rw [xa]; exact n0 ha
    · rw [xb]; exact n0 hb
  · rw [keep 0 (by omega), h.m0]
    unfold Ms.fs
    rw [L1 1 (by decide), L1 2 (by decide), L1 3 (by decide), L1 4 (by decide)]
  · rw [keep 1 (by omega)]; exact h.m1
  · rw [keep 2 (by omega)]; exact h.m2
  · rw [keep 3 (by omega)]; exact h.m3
  · rw [keep 4 (by omega), h.m4]
    have : s.st.map (Pl.d (Lx L s.live a b)) = s.st.map (Pl.d L) := List.map_congr_left fun x hx => Pl.d_same (fun j hj => Lx_lt hj) (ho x hx)
    rw [← this]
  · have hf : (s.fr ++ [⟨g, []⟩])[i]? = some f := hf
    by_cases hi : i < s.fr.length
    · rw [List.getElem?_append_left hi] at hf
      obtain ⟨k1, k2⟩ := h.fl hf
      rw [keep _ k1, keep _ k2, Lx_lt k2]
      exact h.fr i f hf
    · have hl := (List.getElem?_eq_some_iff.mp hf).1
      rw [List.length_append] at hl
      have ei : i = s.fr.length := by simp at hl; omega
      subst ei
      rw [List.getElem?_append_right (Nat.le_refl _), Nat.sub_self] at hf
      cases hf
      have e5 : 5 + 2 * s.fr.length = s.live := rfl
      have e6 : 6 + 2 * s.fr.length = s.live + 1 := by unfold Ms.live; omega
      rw [e6, e5, xa, xb]
      exact ⟨ea, eb⟩
end

def L5 (n c d e f : Nat) : Nat → Nat
  | 0 => n | 1 => c | 2 => d | 3 => e | _ => f
theorem MR.init {p : Prog} {S0 S : Sto} {n c d e f : Nat} {t : Int} (hn : S0 n = none) (hc : S0 c = none) (hd : S0 d = none) (he : S0 e = none) (hf : S0 f = none)
    (n1 : c ≠ n) (n2 : d ≠ n) (n3 : d ≠ c) (n4 : e ≠ n) (n5 : e ≠ c) (n6 : e ≠ d) (n7 : f ≠ n) (n8 : f ≠ c) (n9 : f ≠ d) (n10 : f ≠ e)
    (m0 : S n = some (.ins 1 (mi (.tup (p.rs.map rtD)) (.loc c) (.loc d) (.loc e) (.int t) (.loc f) .non))) (m1 : S c = some (.lst (p.cells.map .int))) (m2 : S d = some (.dic [])) (m3 : S e = some (.lst [])) (m4 : S f = some (.lst []))
    (old : ∀ x, x ≠ n → x ≠ c → x ≠ d → x ≠ e → x ≠ f → S x = S0 x) : MR p S0 S (L5 n c d e f) ⟨p.cells, [], [], t, [], [], .run⟩ := by
  have lv : Ms.live ⟨p.cells, [], [], t, [], [], .run⟩ = 5 := rfl
  refine ⟨fun i j hi hj z => ?_, fun x o hx => ?_, fun j hj => ?_, m0, m1, m2, m3, m4, fun i f hf => by cases hf⟩
  · rw [lv] at hi hj
    match i, j, hi, hj with
    | 0, 0, _, _ | 1, 1, _, _ | 2, 2, _, _ | 3, 3, _, _ | 4, 4, _, _ => rfl
    | 0, 1, _, _ => exact absurd z (Ne.symm n1)
    | 0, 2, _, _ => exact absurd z (Ne.symm n2)
    | 0, 3, _, _ => exact absurd z (Ne.symm n4)
    | 0, 4, _, _ => exact absurd z (Ne.symm n7)
    | 1, 0, _, _ => exact absurd z n1
    | 1, 2, _, _ => exact absurd z (Ne.symm n3)
    | 1, 3, _, _ => exact absurd z (Ne.symm n5)
    | 1, 4, _, _ => exact absurd z (Ne.symm n8)
    | 2, 0, _, _ => exact absurd z n2
    | 2, 1, _, _ => exact absurd z n3
    | 2, 3, _, _ => exact absurd z (Ne.symm n6)
    | 2, 4, _, _ => exact absurd z (Ne.symm n9)
    | 3, 0, _, _ => exact absurd z n4
    | 3, 1, _, _ => exact absurd z n5
    | 3, 2, _, _ => exact absurd z n6
    | 3, 4, _, _ => exact absurd z (Ne.symm n10)
    | 4, 0, _, _ => exact absurd z n7
    | 4, 1, _, _ => exact absurd z n8
    | 4, 2, _, _ => exact absurd z n9
    | 4, 3, _, _ => exact absurd z n10
  · have ne : ∀ y, S0 y = none → x ≠ y := fun y hy z => by rw [z, hy] at hx; cases hx
    rw [old x (ne n hn) (ne c hc) (ne d hd) (ne e he) (ne f hf)]; exact hx
  · rw [lv] at hj
    match j, hj with
    | 0, _ => exact hn
    | 1, _ => exact hc
    | 2, _ => exact hd
    | 3, _ => exact he
    | 4, _ => exact hf
/-! steps -/
theorem wh_stepB {c : Env → Sto → (Bool → Sto → Prop) → Prop} {body : En → Env → Sto → Prop} {nx bk ct : Env → Sto → Prop} {rt : Q1} {n : Nat} {env : Env} {S : Sto} (h : c env S fun b S1 => IteW b (body ⟨whL c body ⟨nx, rt, bk, ct⟩ n, rt, nx, whL c body ⟨nx, rt, bk, ct⟩ n⟩ env S1) (nx env S1)) : whL c body ⟨nx, rt, bk, ct⟩ (n + 1) env S := h
theorem w_tB {T : Tab} {G : GT} {xd : XD} {env : Env} {S : Sto} {e : E} {q : Bool → Sto → Prop} (h : wpE T G xd e env S fun x S1 => TruW S1 x fun k => q k S1) : wpT T G xd e env S q := h
/-- a new object, without the store's text -/
theorem newB {S : Sto} {o : Ob} {P : Nat → Sto → Prop} (h : ∀ n S', S n = none → S' n = some o → (∀ x, x ≠ n → S' x = S x) → P n S') : ∀ n, S n = none → P n (put S n o) := fun n hn => h n _ hn put_same fun x hx => put_ne hx
theorem setf_ab {T : Tab} {S : Sto} {n c : Nat} {fs gs : List (Str × D)} {f : Str} {v : D} {q : Sto → Prop} (h : S n = some (.ins c fs)) (h2 : T.fl.contains (c, f) = true) (h3 : fs.length < 100) (h4 : putFD f v fs = gs) (k : ∀ S', S' n = some (.ins c gs) → (∀ x, x ≠ n → S' x = S x) → q S') : SetFW T S (.loc n) f v q :=
  setf_at h h2 h3 h4 (k _ put_same fun x hx => put_ne hx)
theorem mt_popB {S : Sto} {q : Q1} {n : Nat} {xs : List D} {y : D} (h : S n = some (.lst xs)) (hy : xs[xs.length - 1]? = some y) (k : q y (put S n (.lst xs.dropLast))) : MtW .pop0 S (.loc n) [] q := ⟨(y, put S n (.lst xs.dropLast)), by simp only [mtD, h, hy, Option.map_some], k⟩
theorem tuple_locB {S : Sto} {q : Q1} {n : Nat} {xs : List D} (h : S n = some (.lst xs)) (k : q (.tup xs) S) : BifW .tuple S [.loc n] q := ⟨.tup xs, by
  show (seqD S (.loc n)).map D.tup = _
  simp only [seqD, h]; rfl, k⟩
theorem ixN_natB {j n : Nat} (h : j < n) : L2.ixN n (j : Int) = some j := by
  unfold L2.ixN
  first
    | exact seqI_nat h
    | (simp; omega)
theorem rowB_ix0 (r : Row) (S : Sto) : ixD S r.d (.int 0) = some (.str r.word) := by obtain ⟨us, h⟩ := row_word r; rw [h]; exact L2.atI_nat (j := 0) rfl
theorem exatB {r : Row} {e : Ex} (h : r.exo = some e) (ng : ∀ l e, r ≠ .go l e) : ∃ i : Int, ((["put", "write", "call", "tell", "when", "note", "back"] : List Str).zip [D.int 2, D.int 2, D.int 3, D.int 1, D.int 1, D.int 2, D.int 1]).lookup r.word = some (.int i) ∧ ∀ S, ixD S r.d (.int i) = some e.d := by
  cases r with
  | put l x => cases h; exact ⟨2, by kernel_rfl, fun S => by rw [Row.d_put]; exact L2.atI_nat (j := 2) rfl⟩
  | write l x => cases h; exact ⟨2, by kernel_rfl, fun S => by rw [Row.d_write]; exact L2.atI_nat (j := 2) rfl⟩
  | note l x => cases h; exact ⟨2, by kernel_rfl, fun S => by rw [Row.d_note]; exact L2.atI_nat (j := 2) rfl⟩
  | call l r x => cases h; exact ⟨3, by kernel_rfl, fun S => by rw [Row.d_call]; exact L2.atI_nat (j := 3) rfl⟩
  | tell x => cases h; exact ⟨1, by kernel_rfl, fun S => by rw [Row.d_tell]; exact L2.atI_nat (j := 1) rfl⟩
  | whn x a b => cases h; exact ⟨1, by kernel_rfl, fun S => by rw [Row.d_whn]; exact L2.atI_nat (j := 1) rfl⟩
  | go l x => exact absurd rfl (ng _ _)
  | read _ _ => cases h
  | look _ _ => cases h
  | wove _ _ _ => cases h
theorem exatN {r : Row} (h : r.exo = none) : (((["put", "write", "call", "tell", "when", "note", "back"] : List Str).zip [D.int 2, D.int 2, D.int 3, D.int 1, D.int 1, D.int 2, D.int 1]).lookup r.word).isSome = false := by
  cases r <;> first
    | (cases h; done)
    | kernel_rfl
def Pl.f : Pl → Nat
  | .row _ f => f
  | .back _ _ _ f => f
def Pl.rd (L : Nat → Nat) : Pl → D
  | .row x _ => x.d
  | .back e c l _ => .tup [.str "back", e.d, cD L c, .int l]
theorem Pl.d_eq (L : Nat → Nat) (x : Pl) : x.d L = .tup [x.rd L, .loc (L (5 + 2 * x.f))] := by cases x <;> rfl
def Ms.act (s : Ms) (p : Prog) (x : Pl) (v : Int) : Ms := match x with
  | .row r f => s.doRow p r f v
  | .back _ c l _ => s.giveBack c l v
end Mi
set_option maxHeartbeats 1000000
/-! XO: expressions that fault, the runs of law k06. -/
namespace Mi
open PySem
/-- an expression that faults, whatever goes in -/
structure Fx (n : Nat) (e : Ex) : Prop where
  ok : e.Ok false 4
  dep : e.dep ≤ n
  no : ∀ g h, e.val g h = none
theorem Fx.over {e : Ex} (o : e.Ok false 4) (d : e.dep ≤ 1) : Fx 2 (.op .over e (.num 0)) := ⟨⟨o, by decide, by decide⟩, by simp only [Ex.dep]; omega, fun g h => by
  simp only [Ex.val]
  cases e.val g h with
  | none => rfl
  | some x => rfl⟩
theorem Fx.l {n : Nat} {e : Ex} (w : W6) (h : Fx n e) {i : Int} (hi : FI i) : Fx (n + 1) (.op w e (.num i)) := ⟨⟨h.ok, hi⟩, by have := h.dep; simp only [Ex.dep]; omega, fun g k => by simp only [Ex.val, h.no]⟩
theorem Fx.r {n : Nat} {e : Ex} (w : W6) (h : Fx n e) {i : Int} (hi : FI i) : Fx (n + 1) (.op w (.num i) e) := ⟨⟨hi, h.ok⟩, by have := h.dep; simp only [Ex.dep]; omega, fun g k => by simp only [Ex.val, h.no]⟩
theorem Fx.mono {n m : Nat} {e : Ex} (h : Fx n e) (k : n ≤ m) : Fx m e := ⟨h.ok, Nat.le_trans h.dep k, h.no⟩
section
variable {p : Prog} {n : Nat} {s s' : Ms}
theorem Stps.go {s2 : Ms} (h : Stps p n s s') (hr : s.en = .run) (e : mstep p s = s2) : ∃ m, Stps p m s2 s' := by
  cases n with
  | zero => exact absurd hr h.1
  | succ n => exact ⟨n, e ▸ h.2⟩
theorem Stps.fin (h : Stps p n s s') (hr : s.en ≠ .run) : s' = s := by
  cases n with
  | zero => exact h.2
  | succ n => exact absurd h.1 hr
/-- a row that leads to a fault -/
def FltR (x : Row) : Prop := ∀ (p : Prog) (s s' : Ms) (f n : Nat) (st : List Pl), s.st = .row x f :: st → s.en = .run → Stps p n s s' → s'.en = .fault ∧ s'.told = s.told ∧ s'.cells = s.cells
theorem flt_ex {x : Row} {e : Ex} (hx : x.exo = some e) (he : ∀ g h, e.val g h = none) : FltR x := fun p s s' f n st hs hr h => by
  have e1 : mstep p s = { s with st := st, en := .fault } := by
    unfold mstep
    rw [hs]
    dsimp only
    rw [hx]
    dsimp only
    rw [show s.wth f e = none from he _ _]
  obtain ⟨m, h2⟩ := h.go hr e1
  rw [h2.fin (by simp)]
  exact ⟨rfl, rfl, rfl⟩
theorem flt_wove {w : Int} {k : List Row} {x : Row} (hx : FltR x) : FltR (.wove w k [x]) := fun p s s' f n st hs hr h => by
  have e1 : mstep p s = { s with st := .row x f :: st } := by
    unfold mstep
    rw [hs]
    rfl
  obtain ⟨m, h2⟩ := h.go hr e1
  exact hx p { s with st := .row x f :: st } s' f m st rfl hr h2
theorem flt_when {x : Row} {i : Int} (hi : i ≠ 0) (hx : FltR x) : FltR (.whn (.num i) [x] []) := fun p s s' f n st hs hr h => by
  have e1 : mstep p s = { s with st := .row x f :: st } := by
    unfold mstep
    rw [hs]
    show Ms.doRow _ p (.whn (.num i) [x] []) f i = _
    unfold Ms.doRow
    dsimp only
    rw [if_neg hi]
    rfl
  obtain ⟨m, h2⟩ := h.go hr e1
  exact hx p { s with st := .row x f :: st } s' f m st rfl hr h2
/-- tell 11, write 5, then what faults -/
theorem flt_ctx {x : Row} (hx : FltR x) {f : Nat} {st : List Pl} (hs : s.st = .row (.tell (.num 11)) f :: .row (.write 0 (.num 5)) f :: .row x f :: st) (hr : s.en = .run) (ht : s.told = []) (hc : s.cells = [8]) (h : Stps p n s s') :
    s'.en = .fault ∧ s'.told = [11] ∧ s'.cells = [5] := by
  have e1 : mstep p s = { s with st := .row (.write 0 (.num 5)) f :: .row x f :: st, told := s.told ++ [11] } := by
    unfold mstep; rw [hs]; rfl
  obtain ⟨m, h2⟩ := h.go hr e1
  obtain ⟨m, h3⟩ := h2.go hr (s2 := { s with st := .row x f :: st, told := s.told ++ [11], cells := s.cells.set 0 5 }) rfl
  obtain ⟨a, b, c⟩ := hx p { s with st := .row x f :: st, told := s.told ++ [11], cells := s.cells.set 0 5 } s' f m st rfl hr h3
  refine ⟨a, ?_, ?_⟩
  · rw [b, ht]; rfl
  · rw [c, hc]; rfl
end
def rwsF (x : Row) (e : Ex) : List Row := [.tell (.num 11), .write 0 (.num 5), x, .tell (.num 12), .write 0 e]
def pr1 (x : Row) (e : Ex) : Prog := ⟨[8], [(rwsF x e, .num 0), ([.tell (.num 20)], .num 3)]⟩
def pr2 (x : Row) (e : Ex) : Prog := ⟨[8], [([.call 0 1 .inn, .tell (.num 30)], .num 0), (rwsF x e, .num 0)]⟩
def pr3 (e : Ex) : Prog := ⟨[8], [([.wove 2 [.write 0 e] [.tell (.num 1)], .whn (.num 0) [.tell e] []], .inn), ([.tell e], e)]⟩
def pr4 (e : Ex) : Prog := ⟨[], [([.tell (.num 4)], e)]⟩
section
variable {x : Row} {e : Ex} {g t : Int} {n : Nat} {s : Ms}
theorem run_1 (hx : FltR x) (ht : 0 < t) (h : Stps (pr1 x e) n (mstart (pr1 x e) g t) s) : s.out = .tup [.tup [.str "fault"], .tup [.int 11], .tup [.int 5]] := by
  have e1 : mstart (pr1 x e) g t = ⟨[8], [], [], t - 1, (rwsF x e).map (fun x => .row x 0) ++ [.back (.num 0) none 0 0], [⟨g, []⟩], .run⟩ := by
    unfold mstart Ms.begin
    rw [if_neg (show ¬ t = 0 by omega)]
    rfl
  rw [e1] at h
  obtain ⟨a, b, c⟩ := flt_ctx hx rfl rfl rfl rfl h
  rw [Ms.out, a, b, c]
  rfl
theorem run_2 (hx : FltR x) (h : Stps (pr2 x e) n (mstart (pr2 x e) g 2) s) : s.out = .tup [.tup [.str "fault"], .tup [.int 11], .tup [.int 5]] := by
  obtain ⟨m, h⟩ := h.go (s2 := ⟨[8], [], [], 0, (rwsF x e).map (fun x => .row x 1) ++ [.back (.num 0) (some 0) 0 1, .row (.tell (.num 30)) 0, .back (.num 0) none 0 0], [⟨g, []⟩, ⟨g, []⟩], .run⟩) rfl rfl
  obtain ⟨a, b, c⟩ := flt_ctx hx rfl rfl rfl rfl h
  rw [Ms.out, a, b, c]
  rfl
theorem run_2d (h : Stps (pr2 x e) n (mstart (pr2 x e) g 1) s) : s.out = .tup [.tup [.str "dry"], .tup [], .tup [.int 8]] := by
  obtain ⟨m, h⟩ := h.go (s2 := ⟨[8], [], [], 0, [.row (.tell (.num 30)) 0, .back (.num 0) none 0 0], [⟨g, []⟩], .dry⟩) rfl rfl
  rw [h.fin (by simp)]
  rfl
theorem run_3 (h : Stps (pr3 e) n (mstart (pr3 e) g 1) s) : s.out = .tup [.tup [.str "gave", .int g], .tup [.int 1], .tup [.int 8]] := by
  obtain ⟨m, h⟩ := h.go (s2 := ⟨[8], [], [], 0, [.row (.tell (.num 1)) 0, .row (.whn (.num 0) [.tell e] []) 0, .back .inn none 0 0], [⟨g, []⟩], .run⟩) rfl rfl
  obtain ⟨m, h⟩ := h.go (s2 := ⟨[8], [], [1], 0, [.row (.whn (.num 0) [.tell e] []) 0, .back .inn none 0 0], [⟨g, []⟩], .run⟩) rfl rfl
  obtain ⟨m, h⟩ := h.go (s2 := ⟨[8], [], [1], 0, [.back .inn none 0 0], [⟨g, []⟩], .run⟩) rfl rfl
  obtain ⟨m, h⟩ := h.go (s2 := ⟨[8], [], [1], 0, [], [⟨g, []⟩], .gave g⟩) rfl rfl
  rw [h.fin (by simp)]
  rfl
theorem run_4 (he : ∀ g h, e.val g h = none) (h : Stps (pr4 e) n (mstart (pr4 e) g 1) s) : s.out = .tup [.tup [.str "fault"], .tup [.int 4], .tup []] := by
  obtain ⟨m, h⟩ := h.go (s2 := ⟨[], [], [4], 0, [.back e none 0 0], [⟨g, []⟩], .run⟩) rfl rfl
  obtain ⟨m, h⟩ := h.go (s2 := ⟨[], [], [4], 0, [], [⟨g, []⟩], .fault⟩) rfl (by unfold mstep; dsimp only; rw [show Ms.wth _ 0 e = none from he _ _])
  rw [h.fin (by simp)]
  rfl
end
section
variable {S : Sto} {qb : Bool → Prop}
theorem ne_r1 (k : qb false) : CmpW .ne S (.tup [.tup [.str "fault"], .tup [.int 11], .tup [.int 5]]) (.tup [.tup [.str "fault"], .tup [.int 11], .tup [.int 5]]) qb := cmp_of (by kernel_rfl) k
theorem ne_r2 (k : qb false) : CmpW .ne S (.tup [.tup [.str "dry"], .tup [], .tup [.int 8]]) (.tup [.tup [.str "dry"], .tup [], .tup [.int 8]]) qb := cmp_of (by kernel_rfl) k
theorem ne_r3 {g : Int} (k : qb false) : CmpW .ne S (.tup [.tup [.str "gave", .int g], .tup [.int 1], .tup [.int 8]]) (.tup [.tup [.str "gave", .int g], .tup [.int 1], .tup [.int 8]]) qb := cmp_of (by
  show (eqD (.tup [.tup [.str "gave", .int g], .tup [.int 1], .tup [.int 8]]) (.tup [.tup [.str "gave", .int g], .tup [.int 1], .tup [.int 8]])).map (!·) = _
  show (match pd (.tup [.tup [.str "gave", .int g], .tup [.int 1], .tup [.int 8]]), pd (.tup [.tup [.str "gave", .int g], .tup [.int 1], .tup [.int 8]]) with
    | some a, some b => if a.canLay0 && b.canLay0 && decide (a.depth ≤ 150) then some (PyData.eqv a b) else none
    | _, _ => none).map (!·) = some false
  have e : pd (.tup [.tup [.str "gave", .int g], .tup [.int 1], .tup [.int 8]]) = some (.tuple [.tuple [.str "gave", .int g], .tuple [.int 1], .tuple [.int 8]]) := rfl
  rw [e]
  dsimp only
  rw [if_pos (by kernel_rfl)]
  simp [PyData.eqv, PyData.eqvAll]) k
theorem ne_r4 (k : qb false) : CmpW .ne S (.tup [.tup [.str "fault"], .tup [.int 4], .tup []]) (.tup [.tup [.str "fault"], .tup [.int 4], .tup []]) qb := cmp_of (by kernel_rfl) k
end
/-- a row of the law -/
structure Rx (x : Row) : Prop where
  ok : x.Ok 1 2
  d : dD x.d ≤ 60
  c : x.cnt ≤ 10
  f : FltR x
section
variable {x : Row} {e : Ex}
theorem Fx.ok2 (h : Fx 5 e) : e.Ok false 100000 ∧ dD e.d ≤ 6 := ⟨h.ok.mono (by decide), by have := Ex.dD_le e; have := h.dep; omega⟩
theorem rwsF_ok (hx : Rx x) (he : Fx 5 e) : Row.Oks 1 2 (rwsF x e) ∧ Row.cnts (rwsF x e) ≤ 350 ∧ ∀ y ∈ rwsF x e, dD y.d ≤ 70 := by
  obtain ⟨e1, e2⟩ := he.ok2
  have h1 : (Row.tell (.num 11)).Ok 1 2 := by rw [Row.Ok]; exact ⟨by decide, by decide⟩
  have h2 : (Row.write 0 (.num 5)).Ok 1 2 := by rw [Row.Ok]; exact ⟨⟨by decide, by decide⟩, by decide, by decide⟩
  have h3 : (Row.tell (.num 12)).Ok 1 2 := by rw [Row.Ok]; exact ⟨by decide, by decide⟩
  have h4 : (Row.write 0 e).Ok 1 2 := by rw [Row.Ok]; exact ⟨⟨by decide, by decide⟩, e1⟩
  refine ⟨Row.Oks_mem.mpr fun y hy => ?_, ?_, fun y hy => ?_⟩
  · simp only [rwsF, List.mem_cons, List.not_mem_nil, or_false] at hy
    rcases hy with rfl | rfl | rfl | rfl | rfl
    · exact h1
    · exact h2
    · exact hx.ok
    · exact h3
    · exact h4
  · have := hx.c; simp only [rwsF, Row.cnts, Row.cnt]; omega
  · simp only [rwsF, List.mem_cons, List.not_mem_nil, or_false] at hy
    rcases hy with rfl | rfl | rfl | rfl | rfl
    · rw [Row.d_tell]; simp [Ex.d, dD, dDs]
    · rw [Row.d_write]; simp [Ex.d, dD, dDs]
    · have := hx.d; omega
    · rw [Row.d_tell]; simp [Ex.d, dD, dDs]
    · rw [Row.d_write]; simp only [dD, dDs]; omega
theorem tell_ok {c r : Nat} {i : Int} (hi : FI i) : Row.Oks c r [.tell (.num i)] ∧ Row.cnts [.tell (.num i)] ≤ 350 ∧ ∀ y ∈ ([.tell (.num i)] : List Row), dD y.d ≤ 70 := ⟨Row.Oks_mem.mpr fun y hy => by rw [List.mem_singleton.mp hy, Row.Ok]; exact hi, by simp [Row.cnts, Row.cnt], fun y hy => by rw [List.mem_singleton.mp hy, Row.d_tell]; simp [Ex.d, dD, dDs]⟩
theorem num_ok {i : Int} (hi : FI i) : (Ex.num i).Ok false 100000 ∧ dD (Ex.num i).d ≤ 70 := ⟨hi, by simp [Ex.d, dD, dDs]⟩
theorem pw1 (hx : Rx x) (he : Fx 5 e) : PW (pr1 x e) := ⟨fun y hy => by rw [List.mem_singleton.mp hy]; exact ⟨by decide, by decide⟩, by show 1 ≤ 2; decide, fun r hr => by
  obtain ⟨a, b, c⟩ := rwsF_ok hx he
  simp only [pr1, List.mem_cons, List.not_mem_nil, or_false] at hr
  rcases hr with rfl | rfl
  · obtain ⟨u, v⟩ := num_ok (i := 0) ⟨by decide, by decide⟩; exact ⟨a, b, c, u, v⟩
  · obtain ⟨u, v⟩ := num_ok (i := 3) ⟨by decide, by decide⟩; obtain ⟨a, b, c⟩ := tell_ok (c := 1) (r := 2) (i := 20) ⟨by decide, by decide⟩; exact ⟨a, b, c, u, v⟩⟩
theorem pw2 (hx : Rx x) (he : Fx 5 e) : PW (pr2 x e) := ⟨fun y hy => by rw [List.mem_singleton.mp hy]; exact ⟨by decide, by decide⟩, by show 1 ≤ 2; decide, fun r hr => by
  obtain ⟨a, b, c⟩ := rwsF_ok hx he
  obtain ⟨u, v⟩ := num_ok (i := 0) ⟨by decide, by decide⟩
  simp only [pr2, List.mem_cons, List.not_mem_nil, or_false] at hr
  rcases hr with rfl | rfl
  · refine ⟨Row.Oks_mem.mpr fun y hy => ?_, by simp [Row.cnts, Row.cnt], fun y hy => ?_, u, v⟩
    · simp only [List.mem_cons, List.not_mem_nil, or_false] at hy
      rcases hy with rfl | rfl
      · rw [Row.Ok]; exact ⟨⟨by decide, by decide⟩, ⟨by decide, by show (1 : Int) < 2; decide⟩, trivial⟩
      · rw [Row.Ok]; exact ⟨by decide, by decide⟩
    · simp only [List.mem_cons, List.not_mem_nil, or_false] at hy
      rcases hy with rfl | rfl
      · rw [Row.d_call]; simp [Ex.d, dD, dDs]
      · rw [Row.d_tell]; simp [Ex.d, dD, dDs]
  · exact ⟨a, b, c, u, v⟩⟩
theorem pw3 (he : Fx 5 e) : PW (pr3 e) := ⟨fun y hy => by rw [List.mem_singleton.mp hy]; exact ⟨by decide, by decide⟩, by show 1 ≤ 2; decide, fun r hr => by
  obtain ⟨e1, e2⟩ := he.ok2
  have t1 : (Row.tell (.num 1)).Ok 1 2 := by rw [Row.Ok]; exact ⟨by decide, by decide⟩
  have te : (Row.tell e).Ok 1 2 := by rw [Row.Ok]; exact e1
  have we : (Row.write 0 e).Ok 1 2 := by rw [Row.Ok]; exact ⟨⟨by decide, by decide⟩, e1⟩
  have dt : dD (Row.tell e).d ≤ 7 := by rw [Row.d_tell]; simp only [dD, dDs]; omega
  have dw : dD (Row.write 0 e).d ≤ 7 := by rw [Row.d_write]; simp only [dD, dDs]; omega
  simp only [pr3, List.mem_cons, List.not_mem_nil, or_false] at hr
  rcases hr with rfl | rfl
  · refine ⟨Row.Oks_mem.mpr fun y hy => ?_, by simp [Row.cnts, Row.cnt], fun y hy => ?_, trivial, by simp [Ex.d, dD, dDs]⟩
    · simp only [List.mem_cons, List.not_mem_nil, or_false] at hy
      rcases hy with rfl | rfl
      · rw [Row.Ok]
        exact ⟨⟨by decide, by decide⟩, ⟨Nat.le_refl 1, Row.Oks_mem.mpr fun z hz => by rw [List.mem_singleton.mp hz]; exact we, fun z hz => by rw [List.mem_singleton.mp hz]; rfl⟩, Row.Oks_mem.mpr fun z hz => by rw [List.mem_singleton.mp hz]; exact t1⟩
      · rw [Row.Ok]
        exact ⟨⟨by decide, by decide⟩, Row.Oks_mem.mpr fun z hz => by rw [List.mem_singleton.mp hz]; exact te, by rw [Row.Oks]; trivial⟩
    · simp only [List.mem_cons, List.not_mem_nil, or_false] at hy
      rcases hy with rfl | rfl
      · rw [Row.d_wove, dD_4, dD_rws]
        simp only [kpD, List.map_cons, List.map_nil, dDs, dD, Row.d_tell, Ex.d]
        omega
      · rw [Row.d_whn, dD_4, dD_rws, dD_rws]
        simp only [List.map_cons, List.map_nil, dDs, dD, Ex.d]
        omega
  · refine ⟨Row.Oks_mem.mpr fun y hy => by rw [List.mem_singleton.mp hy]; exact te, by simp [Row.cnts, Row.cnt], fun y hy => by rw [List.mem_singleton.mp hy]; omega, e1, by show dD e.d ≤ 70; omega⟩⟩
theorem pw4 (he : Fx 5 e) : PW (pr4 e) := ⟨(fun y hy => by cases hy), by show 1 ≤ 1; decide, fun r hr => by
  obtain ⟨e1, e2⟩ := he.ok2
  rw [List.mem_singleton.mp hr]
  obtain ⟨a, b, c⟩ := tell_ok (c := 0) (r := 1) (i := 4) ⟨by decide, by decide⟩
  exact ⟨a, b, c, e1, by show dD e.d ≤ 70; omega⟩⟩
theorem rx_some {l : Int} (h0 : 0 ≤ l) (h4 : l < 4) (he : Fx 5 e) : ∀ y ∈ [Row.put l e, .write 0 e, .call l 1 e, .tell e, .whn e [.tell (.num 1)] [.tell (.num 2)], .wove 1 [] [.note 3 e], .whn (.num 1) [.put 0 e] []], Rx y := by
  obtain ⟨e1, e2⟩ := he.ok2
  have lc : LcI l := ⟨h0, by omega⟩
  have l0 : LcI 0 := ⟨by decide, by decide⟩
  intro y hy
  simp only [List.mem_cons, List.not_mem_nil, or_false] at hy
  rcases hy with rfl | rfl | rfl | rfl | rfl | rfl | rfl
  · exact ⟨by rw [Row.Ok]; exact ⟨lc, e1⟩, by rw [Row.d_put]; simp only [dD, dDs]; omega, by simp [Row.cnt], flt_ex rfl he.no⟩
  · exact ⟨by rw [Row.Ok]; exact ⟨⟨by decide, by decide⟩, e1⟩, by rw [Row.d_write]; simp only [dD, dDs]; omega, by simp [Row.cnt], flt_ex rfl he.no⟩
  · exact ⟨by rw [Row.Ok]; exact ⟨lc, ⟨by decide, by decide⟩, e1⟩, by rw [Row.d_call]; simp only [dD, dDs]; omega, by simp [Row.cnt], flt_ex rfl he.no⟩
  · exact ⟨by rw [Row.Ok]; exact e1, by rw [Row.d_tell]; simp only [dD, dDs]; omega, by simp [Row.cnt], flt_ex rfl he.no⟩
  · refine ⟨?_, ?_, by simp [Row.cnt, Row.cnts], flt_ex rfl he.no⟩
    · rw [Row.Ok]
      exact ⟨e1, (tell_ok ⟨by decide, by decide⟩).1, (tell_ok ⟨by decide, by decide⟩).1⟩
    · rw [Row.d_whn, dD_4, dD_rws, dD_rws]
      simp only [List.map_cons, List.map_nil, dDs, dD, Row.d_tell, Ex.d]
      omega
  · refine ⟨?_, ?_, by simp [Row.cnt, Row.cnts], flt_wove (flt_ex rfl he.no)⟩
    · rw [Row.Ok]
      exact ⟨⟨by decide, by decide⟩, ⟨by decide, by rw [Row.Oks]; trivial, fun z hz => (by cases hz)⟩, Row.Oks_mem.mpr fun z hz => by rw [List.mem_singleton.mp hz, Row.Ok]; exact ⟨⟨by decide, by decide⟩, e1⟩⟩
    · rw [Row.d_wove, dD_4, dD_rws]
      simp only [kpD, List.map_cons, List.map_nil, dDs, dD, Row.d_note]
      omega
  · refine ⟨?_, ?_, by simp [Row.cnt, Row.cnts], flt_when (by decide) (flt_ex rfl he.no)⟩
    · rw [Row.Ok]
      exact ⟨⟨by decide, by decide⟩, Row.Oks_mem.mpr fun z hz => by rw [List.mem_singleton.mp hz, Row.Ok]; exact ⟨l0, e1⟩, by rw [Row.Oks]; trivial⟩
    · rw [Row.d_whn, dD_4, dD_rws, dD_rws]
      simp only [List.map_cons, List.map_nil, dDs, dD, Row.d_put, Ex.d]
      omega
end
end Mi
set_option maxHeartbeats 1000000

namespace K06
open PySem Mi
/-- joined -/
def sp0 : List D → Sto → Q1 → XD → Prop := fun ds S q _ => ∃ (w : W6) (i j : Int), ds = [.str w.s, .int i, .int j] ∧ FI i ∧ FI j ∧ q (od (w.jn i j)) S
def lv0 : List D → Nat := fun ds => 0
/-- worth_by -/
def sp1 : List D → Sto → Q1 → XD → Prop := fun ds S q _ => ∃ (e : Ex) (m g : Int) (n : Nat) (kvs : List (L2.Key × D)) (h : Int → Int), ds = [e.d, .int g, .loc n] ∧ e.Ok false m ∧ FI g ∧ S n = some (.dic kvs) ∧ DH kvs h ∧ q (od (e.val g h)) S
def lv1 : List D → Nat := fun ds => 1 + dD (ds.getD 0 .non)
/-- run -/
def sp2 : List D → Sto → Q1 → XD → Prop := fun ds S q _ => ∃ (p : Prog) (g t : Int), ds = [p.d, .int g, .int t] ∧ PW p ∧ FI g ∧ 0 ≤ t ∧ t ≤ 1000 ∧ ∀ n s', Stps p n (mstart p g t) s' → q s'.out S
def lv2 : List D → Nat := fun ds => 85
/-- _law_feed -/
def sp3 : List D → Sto → Q1 → XD → Prop := fun ds S q _ => ∃ ns, ds = [.scr ns] ∧ ∀ n S', S n = none → Same S S' n → Fd S' n 0 → q (.loc n) S'
def lv3 : List D → Nat := fun ds => 0
/-- _law_draw -/
def sp4 : List D → Sto → Q1 → XD → Prop := fun ds S q x => spDraw ds S q x
def lv4 : List D → Nat := fun ds => 0
/-- _law_figure -/
def sp5 : List D → Sto → Q1 → XD → Prop := fun ds S q _ => ∃ f t, ds = [.loc f] ∧ t + 3 < 2 ^ 60 ∧ Fd S f t ∧ ∀ i S', FI i → Same S S' f → Fd S' f (t + 3) → q (.int i) S'
def lv5 : List D → Nat := fun ds => 1
/-- _law_expression -/
def sp6 : List D → Sto → Q1 → XD → Prop := fun ds S q _ => ∃ (f n : Nat) (t : Int), ds = [.loc f, .int n] ∧ t + cF n < 2 ^ 60 ∧ Fd S f t ∧ ∀ (e : Ex) S', e.Ok false 4 → e.dep ≤ n → Same S S' f → Fd S' f (t + cF n) → q e.d S'
def lv6 : List D → Nat := fun ds => 2 + (intOf (ds.getD 1 .non)).toNat
/-- _law_faulty -/
def sp7 : List D → Sto → Q1 → XD → Prop := fun ds S q _ => ∃ (f n : Nat) (t : Int), ds = [.loc f, .int n] ∧ n ≤ 10 ∧ t + (4 + 3 * n) < 2 ^ 60 ∧ Fd S f t ∧ ∀ (e : Ex) S', Fx (n + 2) e → Same S S' f → Fd S' f (t + (4 + 3 * n)) → q e.d S'
def lv7 : List D → Nat := fun ds => 3 + (intOf (ds.getD 1 .non)).toNat
/-- _law_calm_one -/
def sp8 : List D → Sto → Q1 → XD → Prop := fun ds S q _ => ∃ (f : Nat) (t : Int), ds = [.loc f] ∧ t + 4 < 2 ^ 60 ∧ Fd S f t ∧ ∀ (e : Ex) S', e.Ok false 4 → e.dep ≤ 1 → Same S S' f → Fd S' f (t + 4) → q e.d S'
def lv8 : List D → Nat := fun ds => 2
/-- _law_rows_with -/
def sp9 : List D → Sto → Q1 → XD → Prop := fun ds S q _ => ∃ (x : Row) (e : Ex), ds = [x.d, e.d] ∧ q (rwsD (rwsF x e)) S
def lv9 : List D → Nat := fun ds => 0
/-- law -/
def sp10 : List D → Sto → Q1 → XD → Prop := fun ds S q _ => ∃ ns, ds = [.scr ns] ∧ ∀ S', q (.bl true) S'
def lv10 : List D → Nat := fun ds => 90
/-- Frame.__init__ -/
def sp11 : List D → Sto → Q1 → XD → Prop := fun ds S q _ => ∃ (n : Nat) (g : D), ds = [.loc n, g] ∧ S n = some (.ins 0 []) ∧ ∀ b S', S b = none → b ≠ n → S' n = some (.ins 0 (fi g (.loc b))) → S' b = some (.dic []) → (∀ x, x ≠ n → x ≠ b → S' x = S x) → q .non S'
def lv11 : List D → Nat := fun ds => 0
/-- Machine.__init__ -/
def sp12 : List D → Sto → Q1 → XD → Prop := fun ds S q _ => ∃ (n : Nat) (p : Prog) (t : Int) (S0 : Sto), ds = [.loc n, p.d, .int t] ∧ S = put S0 n (.ins 1 []) ∧ S0 n = none ∧ ∀ L S', L 0 = n → MR p S0 S' L ⟨p.cells, [], [], t, [], [], .run⟩ → q .non S'
def lv12 : List D → Nat := fun ds => 0
/-- Machine.lay -/
def sp13 : List D → Sto → Q1 → XD → Prop := fun ds S q _ => ∃ (p : Prog) (S0 : Sto) (L : Nat → Nat) (s : Ms) (rs : List Row) (f : Nat), ds = [.loc (L 0), rwsD rs, .loc (L (5 + 2 * f))] ∧ MR p S0 S L s ∧ s.st.length + rs.length < 1000000 ∧ ∀ S', MR p S0 S' L (s.lay rs f) → q .non S'
def lv13 : List D → Nat := fun ds => 0
/-- Machine.begin -/
def sp14 : List D → Sto → Q1 → XD → Prop := fun ds S q _ => ∃ (p : Prog) (S0 : Sto) (L : Nat → Nat) (s : Ms) (r v l : Int) (c : Option Nat), ds = [.loc (L 0), .int r, .int v, cD L c, .int l] ∧ MR p S0 S L s ∧ PW p ∧ (0 ≤ r ∧ r < p.rs.length) ∧ (∀ x ∈ s.st, x.Ok p s.fr.length) ∧ (∀ j, c = some j → j < s.fr.length) ∧ s.st.length ≤ 900000 ∧ ∀ L' S', (∀ j, j < s.live → L' j = L j) → MR p S0 S' L' (s.begin p r v c l) → q .non S'
def lv14 : List D → Nat := fun ds => 2
/-- Machine.give_back -/
def sp15 : List D → Sto → Q1 → XD → Prop := fun ds S q _ => ∃ (p : Prog) (S0 : Sto) (L : Nat → Nat) (s : Ms) (e : Ex) (c : Option Nat) (l v : Int), ds = [.loc (L 0), .tup [.str "back", e.d, cD L c, .int l], .int v] ∧ MR p S0 S L s ∧ (∀ j, c = some j → j < s.fr.length) ∧ (∀ f ∈ s.fr, f.h.length < 1000000) ∧ ∀ S', MR p S0 S' L (s.giveBack c l v) → q .non S'
def lv15 : List D → Nat := fun ds => 0
/-- Machine.do -/
def sp16 : List D → Sto → Q1 → XD → Prop := fun ds S q _ => ∃ (p : Prog) (S0 : Sto) (L : Nat → Nat) (s : Ms) (B : Nat) (x : Pl) (v : Int), ds = [.loc (L 0), x.rd L, .loc (L (5 + 2 * x.f)), .int v] ∧ MR p S0 S L s ∧ PW p ∧ Wp p B s ∧ B ≤ 500000 ∧ x.Ok p s.fr.length ∧ x.w ≤ 400000 ∧ (∀ f ∈ s.fr, f.h.length < 900000) ∧ ∀ L' S', (∀ j, j < s.live → L' j = L j) → MR p S0 S' L' (s.act p x v) → q .non S'
def lv16 : List D → Nat := fun ds => 4
/-- Machine.step -/
def sp17 : List D → Sto → Q1 → XD → Prop := fun ds S q _ => ∃ (p : Prog) (S0 : Sto) (L : Nat → Nat) (s : Ms) (B : Nat), ds = [.loc (L 0)] ∧ MR p S0 S L s ∧ PW p ∧ Wf p B s ∧ s.en = .run ∧ B ≤ 400000 ∧ ∀ L' S', L' 0 = L 0 → MR p S0 S' L' (mstep p s) → q .non S'
def lv17 : List D → Nat := fun ds => 80
/-- the maker of Frame -/
def sp18 : List D → Sto → Q1 → XD → Prop := sp11
def lv18 : List D → Nat := fun ds => lv11 ds + 1
/-- the maker of Machine -/
def sp19 : List D → Sto → Q1 → XD → Prop := sp12
def lv19 : List D → Nat := fun ds => lv12 ds + 1
def spl : List (List D → Sto → Q1 → XD → Prop) := [sp0, sp1, sp2, sp3, sp4, sp5, sp6, sp7, sp8, sp9, sp10, sp11, sp12, sp13, sp14, sp15, sp16, sp17, sp18, sp19]
def lvl : List (List D → Nat) := [lv0, lv1, lv2, lv3, lv4, lv5, lv6, lv7, lv8, lv9, lv10, lv11, lv12, lv13, lv14, lv15, lv16, lv17, lv18, lv19]
def sp (f : Nat) : List D → Sto → Q1 → XD → Prop := spl.getD f (fun _ _ _ _ => False)
def lv (f : Nat) : List D → Nat := lvl.getD f (fun _ => 0)
def Γ (k : Nat) : GT := fun f ds S q x => lv f ds < k ∧ sp f ds S q x
section
variable {k : Nat} {ds : List D} {S : Sto} {q : Q1}
theorem u0 {w : W6} {i j : Int} (hk : 0 < k) (hi : FI i) (hj : FI j) (h : q (od (w.jn i j)) S) : Γ k 0 [.str w.s, .int i, .int j] S q noX := ⟨hk, w, i, j, rfl, hi, hj, h⟩
theorem u1 {e : Ex} {m g : Int} {n : Nat} {kvs : List (L2.Key × D)} {h : Int → Int} (hk : 1 + dD e.d < k) (he : e.Ok false m) (hg : FI g) (hS : S n = some (.dic kvs)) (hh : DH kvs h) (hq : q (od (e.val g h)) S) : Γ k 1 [e.d, .int g, .loc n] S q noX := ⟨hk, e, m, g, n, kvs, h, rfl, he, hg, hS, hh, hq⟩
theorem u1N {e : Ex} {m g : Int} {n : Nat} {kvs : List (L2.Key × D)} {h : Int → Int} (hk : 1 + dD e.d < k) (he : e.Ok false m) (hg : FI g) (hS : S n = some (.dic kvs)) (hh : DH kvs h) (er : e.val g h = none) (hq : q .non S) : Γ k 1 [e.d, .int g, .loc n] S q noX := u1 hk he hg hS hh (by rw [er]; exact hq)
theorem u1I {e : Ex} {m g i : Int} {n : Nat} {kvs : List (L2.Key × D)} {h : Int → Int} (hk : 1 + dD e.d < k) (he : e.Ok false m) (hg : FI g) (hS : S n = some (.dic kvs)) (hh : DH kvs h) (er : e.val g h = some i) (hq : q (.int i) S) : Γ k 1 [e.d, .int g, .loc n] S q noX := u1 hk he hg hS hh (by rw [er]; exact hq)
theorem u2 {p : Prog} {g t : Int} (hk : 85 < k) (hp : PW p) (hg : FI g) (t0 : 0 ≤ t) (t1 : t ≤ 1000) (hq : ∀ n s', Stps p n (mstart p g t) s' → q s'.out S) : Γ k 2 [p.d, .int g, .int t] S q noX := ⟨hk, p, g, t, rfl, hp, hg, t0, t1, hq⟩
theorem u3 {ns : List Int} (hk : 0 < k) (h : ∀ n S', S n = none → Same S S' n → Fd S' n 0 → q (.loc n) S') : Γ k 3 [.scr ns] S q noX := ⟨hk, ns, rfl, h⟩
theorem u4 {f : Nat} {m : Int} (t : Int) (hk : 0 < k) (m0 : 0 < m) (m1 : m < 2 ^ 60) (ht : t < 2 ^ 60) (F : Fd S f t) (h : ∀ r S', 0 ≤ r → r < m → Same S S' f → Fd S' f (t + 1) → q (.int r) S') : Γ k 4 [.loc f, .int m] S q noX := ⟨hk, f, m, t, rfl, m0, m1, ht, F, h⟩
theorem u5 {f : Nat} (t : Int) (hk : 1 < k) (ht : t + 3 < 2 ^ 60) (F : Fd S f t) (h : ∀ i S', FI i → Same S S' f → Fd S' f (t + 3) → q (.int i) S') : Γ k 5 [.loc f] S q noX := ⟨hk, f, t, rfl, ht, F, h⟩
theorem u6 {f n : Nat} {i : Int} (t : Int) (hi : i = n) (hk : 2 + n < k) (ht : t + cF n < 2 ^ 60) (F : Fd S f t) (h : ∀ (e : Ex) S', e.Ok false 4 → e.dep ≤ n → Same S S' f → Fd S' f (t + cF n) → q e.d S') : Γ k 6 [.loc f, .int i] S q noX := by
  subst hi
  exact ⟨by show 2 + (n : Int).toNat < k; rw [Int.toNat_natCast]; exact hk, f, n, t, rfl, ht, F, h⟩
theorem u7 {f n : Nat} {i : Int} (t : Int) (hi : i = n) (hk : 3 + n < k) (hn : n ≤ 10) (ht : t + (4 + 3 * n) < 2 ^ 60) (F : Fd S f t) (h : ∀ (e : Ex) S', Fx (n + 2) e → Same S S' f → Fd S' f (t + (4 + 3 * n)) → q e.d S') : Γ k 7 [.loc f, .int i] S q noX := by
  subst hi
  exact ⟨by show 3 + (n : Int).toNat < k; rw [Int.toNat_natCast]; exact hk, f, n, t, rfl, hn, ht, F, h⟩
theorem u8 {f : Nat} (t : Int) (hk : 2 < k) (ht : t + 4 < 2 ^ 60) (F : Fd S f t) (h : ∀ (e : Ex) S', e.Ok false 4 → e.dep ≤ 1 → Same S S' f → Fd S' f (t + 4) → q e.d S') : Γ k 8 [.loc f] S q noX := ⟨hk, f, t, rfl, ht, F, h⟩
theorem u9 {x : Row} {e : Ex} (hk : 0 < k) (h : q (rwsD (rwsF x e)) S) : Γ k 9 [x.d, e.d] S q noX := ⟨hk, x, e, rfl, h⟩
theorem tf_f1 : T.fl.contains (0, ("went_in" : Str)) = true := by decide +kernel
theorem tf_f2 : T.fl.contains (0, ("held" : Str)) = true := by decide +kernel
theorem tf_a : T.fl.contains (1, ("routines" : Str)) = true := by decide +kernel
theorem tf_b : T.fl.contains (1, ("cells" : Str)) = true := by decide +kernel
theorem tf_c : T.fl.contains (1, ("notes" : Str)) = true := by decide +kernel
theorem tf_d : T.fl.contains (1, ("told" : Str)) = true := by decide +kernel
theorem tf_e : T.fl.contains (1, ("ticks_left" : Str)) = true := by decide +kernel
theorem tf_f : T.fl.contains (1, ("pile" : Str)) = true := by decide +kernel
theorem tf_g : T.fl.contains (1, ("ending" : Str)) = true := by decide +kernel
theorem u18 {n : Nat} {g : D} (hk : 1 < k) (hn : S n = none) (h : ∀ b S', S b = none → b ≠ n → S' n = some (.ins 0 (fi g (.loc b))) → S' b = some (.dic []) → (∀ x, x ≠ n → x ≠ b → S' x = S x) → q .non S') : Γ k 18 [.loc n, g] (put S n (.ins 0 [])) q noX :=
  ⟨hk, n, g, rfl, put_same, fun b S' hb ne h1 h2 h3 => h b S' (by rw [put_ne ne] at hb; exact hb) ne h1 h2 fun x x1 x2 => by rw [h3 x x1 x2, put_ne x1]⟩
theorem u19 {n : Nat} {p : Prog} {t : Int} (hk : 1 < k) (hn : S n = none) (h : ∀ L S', L 0 = n → MR p S S' L ⟨p.cells, [], [], t, [], [], .run⟩ → q .non S') : Γ k 19 [.loc n, p.d, .int t] (put S n (.ins 1 [])) q noX := ⟨hk, n, p, t, S, rfl, rfl, hn, h⟩
theorem u13 {p : Prog} {S0 : Sto} {L : Nat → Nat} {s : Ms} {rs : List Row} {f : Nat} (hk : 0 < k) (h : MR p S0 S L s) (hl : s.st.length + rs.length < 1000000) (hq : ∀ S', MR p S0 S' L (s.lay rs f) → q .non S') : Γ k 13 [.loc (L 0), rwsD rs, .loc (L (5 + 2 * f))] S q noX := ⟨hk, p, S0, L, s, rs, f, rfl, h, hl, hq⟩
theorem mt_lay : T.mt.lookup 13 = some (1, ("lay" : Str)) := by kernel_rfl
theorem no_lay {p : Prog} {L : Nat → Nat} {s : Ms} : (s.fs p L).lookup ("lay" : Str) = none := by unfold Ms.fs; kernel_rfl
theorem u14 {p : Prog} {S0 : Sto} {L : Nat → Nat} {s : Ms} {r v l : Int} {c : Option Nat} (hk : 2 < k) (h : MR p S0 S L s) (hp : PW p) (hr : 0 ≤ r ∧ r < p.rs.length) (hs : ∀ x ∈ s.st, x.Ok p s.fr.length) (hc : ∀ j, c = some j → j < s.fr.length) (hl : s.st.length ≤ 900000) (hq : ∀ L' S', (∀ j, j < s.live → L' j = L j) → MR p S0 S' L' (s.begin p r v c l) → q .non S') : Γ k 14 [.loc (L 0), .int r, .int v, cD L c, .int l] S q noX := ⟨hk, p, S0, L, s, r, v, l, c, rfl, h, hp, hr, hs, hc, hl, hq⟩
theorem mt_begin : T.mt.lookup 14 = some (1, ("begin" : Str)) := by kernel_rfl
theorem no_begin {p : Prog} {L : Nat → Nat} {s : Ms} : (s.fs p L).lookup ("begin" : Str) = none := by unfold Ms.fs; kernel_rfl
theorem u15 {p : Prog} {S0 : Sto} {L : Nat → Nat} {s : Ms} {e : Ex} {c : Option Nat} {l v : Int} (hk : 0 < k) (h : MR p S0 S L s) (hc : ∀ j, c = some j → j < s.fr.length) (hf : ∀ f ∈ s.fr, f.h.length < 1000000) (hq : ∀ S', MR p S0 S' L (s.giveBack c l v) → q .non S') : Γ k 15 [.loc (L 0), .tup [.str "back", e.d, cD L c, .int l], .int v] S q noX := ⟨hk, p, S0, L, s, e, c, l, v, rfl, h, hc, hf, hq⟩
theorem mt_give : T.mt.lookup 15 = some (1, ("give_back" : Str)) := by kernel_rfl
theorem no_give {p : Prog} {L : Nat → Nat} {s : Ms} : (s.fs p L).lookup ("give_back" : Str) = none := by unfold Ms.fs; kernel_rfl
theorem u16 {p : Prog} {S0 : Sto} {L : Nat → Nat} {s : Ms} {B : Nat} {x : Pl} {v : Int} (hk : 4 < k) (h : MR p S0 S L s) (hp : PW p) (hw : Wp p B s) (hB : B ≤ 500000) (hx : x.Ok p s.fr.length) (hxw : x.w ≤ 400000) (hl : ∀ f ∈ s.fr, f.h.length < 900000) (hq : ∀ L' S', (∀ j, j < s.live → L' j = L j) → MR p S0 S' L' (s.act p x v) → q .non S') : Γ k 16 [.loc (L 0), x.rd L, .loc (L (5 + 2 * x.f)), .int v] S q noX := ⟨hk, p, S0, L, s, B, x, v, rfl, h, hp, hw, hB, hx, hxw, hl, hq⟩
theorem mt_do : T.mt.lookup 16 = some (1, ("do" : Str)) := by kernel_rfl
theorem no_do {p : Prog} {L : Nat → Nat} {s : Ms} : (s.fs p L).lookup ("do" : Str) = none := by unfold Ms.fs; kernel_rfl
theorem u17 {p : Prog} {S0 : Sto} {L : Nat → Nat} {s : Ms} {B : Nat} (hk : 80 < k) (h : MR p S0 S L s) (hp : PW p) (hw : Wf p B s) (hr : s.en = .run) (hB : B ≤ 400000) (hq : ∀ L' S', L' 0 = L 0 → MR p S0 S' L' (mstep p s) → q .non S') : Γ k 17 [.loc (L 0)] S q noX := ⟨hk, p, S0, L, s, B, rfl, h, hp, hw, hr, hB, hq⟩
theorem mt_step : T.mt.lookup 17 = some (1, ("step" : Str)) := by kernel_rfl
theorem no_step {p : Prog} {L : Nat → Nat} {s : Ms} : (s.fs p L).lookup ("step" : Str) = none := by unfold Ms.fs; kernel_rfl
theorem len0 (h : sp0 ds S q noX) : ds.length = 3 := by first | (obtain ⟨rfl, _⟩ := h; rfl) | (obtain ⟨_, rfl, _⟩ := h; rfl) | (obtain ⟨_, _, rfl, _⟩ := h; rfl) | (obtain ⟨_, _, _, rfl, _⟩ := h; rfl) | (obtain ⟨_, _, _, _, rfl, _⟩ := h; rfl) | (obtain ⟨_, _, _, _, _, rfl, _⟩ := h; rfl) | (obtain ⟨_, _, _, _, _, _, rfl, _⟩ := h; rfl) | (obtain ⟨_, _, _, _, _, _, _, rfl, _⟩ := h; rfl) | (obtain ⟨_, _, _, _, _, _, _, _, rfl, _⟩ := h; rfl) | (obtain ⟨_, _, _, _, _, _, _, _, _, rfl, _⟩ := h; rfl) | (obtain ⟨_, _, _, _, _, _, _, _, _, _, rfl, _⟩ := h; rfl) | (obtain ⟨_, _, _, _, _, _, _, _, _, _, _, rfl, _⟩ := h; rfl) | (obtain ⟨_, _, _, _, _, _, _, _, _, _, _, _, rfl, _⟩ := h; rfl) | (obtain ⟨_, _, _, _, _, _, _, _, _, _, _, _, _, rfl, _⟩ := h; rfl) | (obtain ⟨_, _, _, _, _, _, _, _, _, _, _, _, _, _, rfl, _⟩ := h; rfl) | (obtain ⟨_, _, _, _, _, _, _, _, _, _, _, _, _, _, _, rfl, _⟩ := h; rfl) | exact h.elim
theorem len1 (h : sp1 ds S q noX) : ds.length = 3 := by first | (obtain ⟨rfl, _⟩ := h; rfl) | (obtain ⟨_, rfl, _⟩ := h; rfl) | (obtain ⟨_, _, rfl, _⟩ := h; rfl) | (obtain ⟨_, _, _, rfl, _⟩ := h; rfl) | (obtain ⟨_, _, _, _, rfl, _⟩ := h; rfl) | (obtain ⟨_, _, _, _, _, rfl, _⟩ := h; rfl) | (obtain ⟨_, _, _, _, _, _, rfl, _⟩ := h; rfl) | (obtain ⟨_, _, _, _, _, _, _, rfl, _⟩ := h; rfl) | (obtain ⟨_, _, _, _, _, _, _, _, rfl, _⟩ := h; rfl) | (obtain ⟨_, _, _, _, _, _, _, _, _, rfl, _⟩ := h; rfl) | (obtain ⟨_, _, _, _, _, _, _, _, _, _, rfl, _⟩ := h; rfl) | (obtain ⟨_, _, _, _, _, _, _, _, _, _, _, rfl, _⟩ := h; rfl) | (obtain ⟨_, _, _, _, _, _, _, _, _, _, _, _, rfl, _⟩ := h; rfl) | (obtain ⟨_, _, _, _, _, _, _, _, _, _, _, _, _, rfl, _⟩ := h; rfl) | (obtain ⟨_, _, _, _, _, _, _, _, _, _, _, _, _, _, rfl, _⟩ := h; rfl) | (obtain ⟨_, _, _, _, _, _, _, _, _, _, _, _, _, _, _, rfl, _⟩ := h; rfl) | exact h.elim
theorem len2 (h : sp2 ds S q noX) : ds.length = 3 := by first | (obtain ⟨rfl, _⟩ := h; rfl) | (obtain ⟨_, rfl, _⟩ := h; rfl) | (obtain ⟨_, _, rfl, _⟩ := h; rfl) | (obtain ⟨_, _, _, rfl, _⟩ := h; rfl) | (obtain ⟨_, _, _, _, rfl, _⟩ := h; rfl) | (obtain ⟨_, _, _, _, _, rfl, _⟩ := h; rfl) | (obtain ⟨_, _, _, _, _, _, rfl, _⟩ := h; rfl) | (obtain ⟨_, _, _, _, _, _, _, rfl, _⟩ := h; rfl) | (obtain ⟨_, _, _, _, _, _, _, _, rfl, _⟩ := h; rfl) | (obtain ⟨_, _, _, _, _, _, _, _, _, rfl, _⟩ := h; rfl) | (obtain ⟨_, _, _, _, _, _, _, _, _, _, rfl, _⟩ := h; rfl) | (obtain ⟨_, _, _, _, _, _, _, _, _, _, _, rfl, _⟩ := h; rfl) | (obtain ⟨_, _, _, _, _, _, _, _, _, _, _, _, rfl, _⟩ := h; rfl) | (obtain ⟨_, _, _, _, _, _, _, _, _, _, _, _, _, rfl, _⟩ := h; rfl) | (obtain ⟨_, _, _, _, _, _, _, _, _, _, _, _, _, _, rfl, _⟩ := h; rfl) | (obtain ⟨_, _, _, _, _, _, _, _, _, _, _, _, _, _, _, rfl, _⟩ := h; rfl) | exact h.elim
theorem len3 (h : sp3 ds S q noX) : ds.length = 1 := by first | (obtain ⟨rfl, _⟩ := h; rfl) | (obtain ⟨_, rfl, _⟩ := h; rfl) | (obtain ⟨_, _, rfl, _⟩ := h; rfl) | (obtain ⟨_, _, _, rfl, _⟩ := h; rfl) | (obtain ⟨_, _, _, _, rfl, _⟩ := h; rfl) | (obtain ⟨_, _, _, _, _, rfl, _⟩ := h; rfl) | (obtain ⟨_, _, _, _, _, _, rfl, _⟩ := h; rfl) | (obtain ⟨_, _, _, _, _, _, _, rfl, _⟩ := h; rfl) | (obtain ⟨_, _, _, _, _, _, _, _, rfl, _⟩ := h; rfl) | (obtain ⟨_, _, _, _, _, _, _, _, _, rfl, _⟩ := h; rfl) | (obtain ⟨_, _, _, _, _, _, _, _, _, _, rfl, _⟩ := h; rfl) | (obtain ⟨_, _, _, _, _, _, _, _, _, _, _, rfl, _⟩ := h; rfl) | (obtain ⟨_, _, _, _, _, _, _, _, _, _, _, _, rfl, _⟩ := h; rfl) | (obtain ⟨_, _, _, _, _, _, _, _, _, _, _, _, _, rfl, _⟩ := h; rfl) | (obtain ⟨_, _, _, _, _, _, _, _, _, _, _, _, _, _, rfl, _⟩ := h; rfl) | (obtain ⟨_, _, _, _, _, _, _, _, _, _, _, _, _, _, _, rfl, _⟩ := h; rfl) | exact h.elim
theorem len4 (h : sp4 ds S q noX) : ds.length = 2 := by first | (obtain ⟨rfl, _⟩ := h; rfl) | (obtain ⟨_, rfl, _⟩ := h; rfl) | (obtain ⟨_, _, rfl, _⟩ := h; rfl) | (obtain ⟨_, _, _, rfl, _⟩ := h; rfl) | (obtain ⟨_, _, _, _, rfl, _⟩ := h; rfl) | (obtain ⟨_, _, _, _, _, rfl, _⟩ := h; rfl) | (obtain ⟨_, _, _, _, _, _, rfl, _⟩ := h; rfl) | (obtain ⟨_, _, _, _, _, _, _, rfl, _⟩ := h; rfl) | (obtain ⟨_, _, _, _, _, _, _, _, rfl, _⟩ := h; rfl) | (obtain ⟨_, _, _, _, _, _, _, _, _, rfl, _⟩ := h; rfl) | (obtain ⟨_, _, _, _, _, _, _, _, _, _, rfl, _⟩ := h; rfl) | (obtain ⟨_, _, _, _, _, _, _, _, _, _, _, rfl, _⟩ := h; rfl) | (obtain ⟨_, _, _, _, _, _, _, _, _, _, _, _, rfl, _⟩ := h; rfl) | (obtain ⟨_, _, _, _, _, _, _, _, _, _, _, _, _, rfl, _⟩ := h; rfl) | (obtain ⟨_, _, _, _, _, _, _, _, _, _, _, _, _, _, rfl, _⟩ := h; rfl) | (obtain ⟨_, _, _, _, _, _, _, _, _, _, _, _, _, _, _, rfl, _⟩ := h; rfl) | exact h.elim
theorem len5 (h : sp5 ds S q noX) : ds.length = 1 := by first | (obtain ⟨rfl, _⟩ := h; rfl) | (obtain ⟨_, rfl, _⟩ := h; rfl) | (obtain ⟨_, _, rfl, _⟩ := h; rfl) | (obtain ⟨_, _, _, rfl, _⟩ := h; rfl) | (obtain ⟨_, _, _, _, rfl, _⟩ := h; rfl) | (obtain ⟨_, _, _, _, _, rfl, _⟩ := h; rfl) | (obtain ⟨_, _, _, _, _, _, rfl, _⟩ := h; rfl) | (obtain ⟨_, _, _, _, _, _, _, rfl, _⟩ := h; rfl) | (obtain ⟨_, _, _, _, _, _, _, _, rfl, _⟩ := h; rfl) | (obtain ⟨_, _, _, _, _, _, _, _, _, rfl, _⟩ := h; rfl) | (obtain ⟨_, _, _, _, _, _, _, _, _, _, rfl, _⟩ := h; rfl) | (obtain ⟨_, _, _, _, _, _, _, _, _, _, _, rfl, _⟩ := h; rfl) | (obtain ⟨_, _, _, _, _, _, _, _, _, _, _, _, rfl, _⟩ := h; rfl) | (obtain ⟨_, _, _, _, _, _, _, _, _, _, _, _, _, rfl, _⟩ := h; rfl) | (obtain ⟨_, _, _, _, _, _, _, _, _, _, _, _, _, _, rfl, _⟩ := h; rfl) | (obtain ⟨_, _, _, _, _, _, _, _, _, _, _, _, _, _, _, rfl, _⟩ := h; rfl) | exact h.elim
theorem len6 (h : sp6 ds S q noX) : ds.length = 2 := by first | (obtain ⟨rfl, _⟩ := h; rfl) | (obtain ⟨_, rfl, _⟩ := h; rfl) | (obtain ⟨_, _, rfl, _⟩ := h; rfl) | (obtain ⟨_, _, _, rfl, _⟩ := h; rfl) | (obtain ⟨_, _, _, _, rfl, _⟩ := h; rfl) | (obtain ⟨_, _, _, _, _, rfl, _⟩ := h; rfl) | (obtain ⟨_, _, _, _, _, _, rfl, _⟩ := h; rfl) | (obtain ⟨_, _, _, _, _, _, _, rfl, _⟩ := h; rfl) | (obtain ⟨_, _, _, _, _, _, _, _, rfl, _⟩ := h; rfl) | (obtain ⟨_, _, _, _, _, _, _, _, _, rfl, _⟩ := h; rfl) | (obtain ⟨_, _, _, _, _, _, _, _, _, _, rfl, _⟩ := h; rfl) | (obtain ⟨_, _, _, _, _, _, _, _, _, _, _, rfl, _⟩ := h; rfl) | (obtain ⟨_, _, _, _, _, _, _, _, _, _, _, _, rfl, _⟩ := h; rfl) | (obtain ⟨_, _, _, _, _, _, _, _, _, _, _, _, _, rfl, _⟩ := h; rfl) | (obtain ⟨_, _, _, _, _, _, _, _, _, _, _, _, _, _, rfl, _⟩ := h; rfl) | (obtain ⟨_, _, _, _, _, _, _, _, _, _, _, _, _, _, _, rfl, _⟩ := h; rfl) | exact h.elim
theorem len7 (h : sp7 ds S q noX) : ds.length = 2 := by first | (obtain ⟨rfl, _⟩ := h; rfl) | (obtain ⟨_, rfl, _⟩ := h; rfl) | (obtain ⟨_, _, rfl, _⟩ := h; rfl) | (obtain ⟨_, _, _, rfl, _⟩ := h; rfl) | (obtain ⟨_, _, _, _, rfl, _⟩ := h; rfl) | (obtain ⟨_, _, _, _, _, rfl, _⟩ := h; rfl) | (obtain ⟨_, _, _, _, _, _, rfl, _⟩ := h; rfl) | (obtain ⟨_, _, _, _, _, _, _, rfl, _⟩ := h; rfl) | (obtain ⟨_, _, _, _, _, _, _, _, rfl, _⟩ := h; rfl) | (obtain ⟨_, _, _, _, _, _, _, _, _, rfl, _⟩ := h; rfl) | (obtain ⟨_, _, _, _, _, _, _, _, _, _, rfl, _⟩ := h; rfl) | (obtain ⟨_, _, _, _, _, _, _, _, _, _, _, rfl, _⟩ := h; rfl) | (obtain ⟨_, _, _, _, _, _, _, _, _, _, _, _, rfl, _⟩ := h; rfl) | (obtain ⟨_, _, _, _, _, _, _, _, _, _, _, _, _, rfl, _⟩ := h; rfl) | (obtain ⟨_, _, _, _, _, _, _, _, _, _, _, _, _, _, rfl, _⟩ := h; rfl) | (obtain ⟨_, _, _, _, _, _, _, _, _, _, _, _, _, _, _, rfl, _⟩ := h; rfl) | exact h.elim
theorem len8 (h : sp8 ds S q noX) : ds.length = 1 := by first | (obtain ⟨rfl, _⟩ := h; rfl) | (obtain ⟨_, rfl, _⟩ := h; rfl) | (obtain ⟨_, _, rfl, _⟩ := h; rfl) | (obtain ⟨_, _, _, rfl, _⟩ := h; rfl) | (obtain ⟨_, _, _, _, rfl, _⟩ := h; rfl) | (obtain ⟨_, _, _, _, _, rfl, _⟩ := h; rfl) | (obtain ⟨_, _, _, _, _, _, rfl, _⟩ := h; rfl) | (obtain ⟨_, _, _, _, _, _, _, rfl, _⟩ := h; rfl) | (obtain ⟨_, _, _, _, _, _, _, _, rfl, _⟩ := h; rfl) | (obtain ⟨_, _, _, _, _, _, _, _, _, rfl, _⟩ := h; rfl) | (obtain ⟨_, _, _, _, _, _, _, _, _, _, rfl, _⟩ := h; rfl) | (obtain ⟨_, _, _, _, _, _, _, _, _, _, _, rfl, _⟩ := h; rfl) | (obtain ⟨_, _, _, _, _, _, _, _, _, _, _, _, rfl, _⟩ := h; rfl) | (obtain ⟨_, _, _, _, _, _, _, _, _, _, _, _, _, rfl, _⟩ := h; rfl) | (obtain ⟨_, _, _, _, _, _, _, _, _, _, _, _, _, _, rfl, _⟩ := h; rfl) | (obtain ⟨_, _, _, _, _, _, _, _, _, _, _, _, _, _, _, rfl, _⟩ := h; rfl) | exact h.elim
theorem len9 (h : sp9 ds S q noX) : ds.length = 2 := by first | (obtain ⟨rfl, _⟩ := h; rfl) | (obtain ⟨_, rfl, _⟩ := h; rfl) | (obtain ⟨_, _, rfl, _⟩ := h; rfl) | (obtain ⟨_, _, _, rfl, _⟩ := h; rfl) | (obtain ⟨_, _, _, _, rfl, _⟩ := h; rfl) | (obtain ⟨_, _, _, _, _, rfl, _⟩ := h; rfl) | (obtain ⟨_, _, _, _, _, _, rfl, _⟩ := h; rfl) | (obtain ⟨_, _, _, _, _, _, _, rfl, _⟩ := h; rfl) | (obtain ⟨_, _, _, _, _, _, _, _, rfl, _⟩ := h; rfl) | (obtain ⟨_, _, _, _, _, _, _, _, _, rfl, _⟩ := h; rfl) | (obtain ⟨_, _, _, _, _, _, _, _, _, _, rfl, _⟩ := h; rfl) | (obtain ⟨_, _, _, _, _, _, _, _, _, _, _, rfl, _⟩ := h; rfl) | (obtain ⟨_, _, _, _, _, _, _, _, _, _, _, _, rfl, _⟩ := h; rfl) | (obtain ⟨_, _, _, _, _, _, _, _, _, _, _, _, _, rfl, _⟩ := h; rfl) | (obtain ⟨_, _, _, _, _, _, _, _, _, _, _, _, _, _, rfl, _⟩ := h; rfl) | (obtain ⟨_, _, _, _, _, _, _, _, _, _, _, _, _, _, _, rfl, _⟩ := h; rfl) | exact h.elim
theorem len10 (h : sp10 ds S q noX) : ds.length = 1 := by first | (obtain ⟨rfl, _⟩ := h; rfl) | (obtain ⟨_, rfl, _⟩ := h; rfl) | (obtain ⟨_, _, rfl, _⟩ := h; rfl) | (obtain ⟨_, _, _, rfl, _⟩ := h; rfl) | (obtain ⟨_, _, _, _, rfl, _⟩ := h; rfl) | (obtain ⟨_, _, _, _, _, rfl, _⟩ := h; rfl) | (obtain ⟨_, _, _, _, _, _, rfl, _⟩ := h; rfl) | (obtain ⟨_, _, _, _, _, _, _, rfl, _⟩ := h; rfl) | (obtain ⟨_, _, _, _, _, _, _, _, rfl, _⟩ := h; rfl) | (obtain ⟨_, _, _, _, _, _, _, _, _, rfl, _⟩ := h; rfl) | (obtain ⟨_, _, _, _, _, _, _, _, _, _, rfl, _⟩ := h; rfl) | (obtain ⟨_, _, _, _, _, _, _, _, _, _, _, rfl, _⟩ := h; rfl) | (obtain ⟨_, _, _, _, _, _, _, _, _, _, _, _, rfl, _⟩ := h; rfl) | (obtain ⟨_, _, _, _, _, _, _, _, _, _, _, _, _, rfl, _⟩ := h; rfl) | (obtain ⟨_, _, _, _, _, _, _, _, _, _, _, _, _, _, rfl, _⟩ := h; rfl) | (obtain ⟨_, _, _, _, _, _, _, _, _, _, _, _, _, _, _, rfl, _⟩ := h; rfl) | exact h.elim
theorem len11 (h : sp11 ds S q noX) : ds.length = 2 := by first | (obtain ⟨rfl, _⟩ := h; rfl) | (obtain ⟨_, rfl, _⟩ := h; rfl) | (obtain ⟨_, _, rfl, _⟩ := h; rfl) | (obtain ⟨_, _, _, rfl, _⟩ := h; rfl) | (obtain ⟨_, _, _, _, rfl, _⟩ := h; rfl) | (obtain ⟨_, _, _, _, _, rfl, _⟩ := h; rfl) | (obtain ⟨_, _, _, _, _, _, rfl, _⟩ := h; rfl) | (obtain ⟨_, _, _, _, _, _, _, rfl, _⟩ := h; rfl) | (obtain ⟨_, _, _, _, _, _, _, _, rfl, _⟩ := h; rfl) | (obtain ⟨_, _, _, _, _, _, _, _, _, rfl, _⟩ := h; rfl) | (obtain ⟨_, _, _, _, _, _, _, _, _, _, rfl, _⟩ := h; rfl) | (obtain ⟨_, _, _, _, _, _, _, _, _, _, _, rfl, _⟩ := h; rfl) | (obtain ⟨_, _, _, _, _, _, _, _, _, _, _, _, rfl, _⟩ := h; rfl) | (obtain ⟨_, _, _, _, _, _, _, _, _, _, _, _, _, rfl, _⟩ := h; rfl) | (obtain ⟨_, _, _, _, _, _, _, _, _, _, _, _, _, _, rfl, _⟩ := h; rfl) | (obtain ⟨_, _, _, _, _, _, _, _, _, _, _, _, _, _, _, rfl, _⟩ := h; rfl) | exact h.elim
theorem len12 (h : sp12 ds S q noX) : ds.length = 3 := by first | (obtain ⟨rfl, _⟩ := h; rfl) | (obtain ⟨_, rfl, _⟩ := h; rfl) | (obtain ⟨_, _, rfl, _⟩ := h; rfl) | (obtain ⟨_, _, _, rfl, _⟩ := h; rfl) | (obtain ⟨_, _, _, _, rfl, _⟩ := h; rfl) | (obtain ⟨_, _, _, _, _, rfl, _⟩ := h; rfl) | (obtain ⟨_, _, _, _, _, _, rfl, _⟩ := h; rfl) | (obtain ⟨_, _, _, _, _, _, _, rfl, _⟩ := h; rfl) | (obtain ⟨_, _, _, _, _, _, _, _, rfl, _⟩ := h; rfl) | (obtain ⟨_, _, _, _, _, _, _, _, _, rfl, _⟩ := h; rfl) | (obtain ⟨_, _, _, _, _, _, _, _, _, _, rfl, _⟩ := h; rfl) | (obtain ⟨_, _, _, _, _, _, _, _, _, _, _, rfl, _⟩ := h; rfl) | (obtain ⟨_, _, _, _, _, _, _, _, _, _, _, _, rfl, _⟩ := h; rfl) | (obtain ⟨_, _, _, _, _, _, _, _, _, _, _, _, _, rfl, _⟩ := h; rfl) | (obtain ⟨_, _, _, _, _, _, _, _, _, _, _, _, _, _, rfl, _⟩ := h; rfl) | (obtain ⟨_, _, _, _, _, _, _, _, _, _, _, _, _, _, _, rfl, _⟩ := h; rfl) | exact h.elim
theorem len13 (h : sp13 ds S q noX) : ds.length = 3 := by first | (obtain ⟨rfl, _⟩ := h; rfl) | (obtain ⟨_, rfl, _⟩ := h; rfl) | (obtain ⟨_, _, rfl, _⟩ := h; rfl) | (obtain ⟨_, _, _, rfl, _⟩ := h; rfl) | (obtain ⟨_, _, _, _, rfl, _⟩ := h; rfl) | (obtain ⟨_, _, _, _, _, rfl, _⟩ := h; rfl) | (obtain ⟨_, _, _, _, _, _, rfl, _⟩ := h; rfl) | (obtain ⟨_, _, _, _, _, _, _, rfl, _⟩ := h; rfl) | (obtain ⟨_, _, _, _, _, _, _, _, rfl, _⟩ := h; rfl) | (obtain ⟨_, _, _, _, _, _, _, _, _, rfl, _⟩ := h; rfl) | (obtain ⟨_, _, _, _, _, _, _, _, _, _, rfl, _⟩ := h; rfl) | (obtain ⟨_, _, _, _, _, _, _, _, _, _, _, rfl, _⟩ := h; rfl) | (obtain ⟨_, _, _, _, _, _, _, _, _, _, _, _, rfl, _⟩ := h; rfl) | (obtain ⟨_, _, _, _, _, _, _, _, _, _, _, _, _, rfl, _⟩ := h; rfl) | (obtain ⟨_, _, _, _, _, _, _, _, _, _, _, _, _, _, rfl, _⟩ := h; rfl) | (obtain ⟨_, _, _, _, _, _, _, _, _, _, _, _, _, _, _, rfl, _⟩ := h; rfl) | exact h.elim
theorem len14 (h : sp14 ds S q noX) : ds.length = 5 := by first | (obtain ⟨rfl, _⟩ := h; rfl) | (obtain ⟨_, rfl, _⟩ := h; rfl) | (obtain ⟨_, _, rfl, _⟩ := h; rfl) | (obtain ⟨_, _, _, rfl, _⟩ := h; rfl) | (obtain ⟨_, _, _, _, rfl, _⟩ := h; rfl) | (obtain ⟨_, _, _, _, _, rfl, _⟩ := h; rfl) | (obtain ⟨_, _, _, _, _, _, rfl, _⟩ := h; rfl) | (obtain ⟨_, _, _, _, _, _, _, rfl, _⟩ := h; rfl) | (obtain ⟨_, _, _, _, _, _, _, _, rfl, _⟩ := h; rfl) | (obtain ⟨_, _, _, _, _, _, _, _, _, rfl, _⟩ := h; rfl) | (obtain ⟨_, _, _, _, _, _, _, _, _, _, rfl, _⟩ := h; rfl) | (obtain ⟨_, _, _, _, _, _, _, _, _, _, _, rfl, _⟩ := h; rfl) | (obtain ⟨_, _, _, _, _, _, _, _, _, _, _, _, rfl, _⟩ := h; rfl) | (obtain ⟨_, _, _, _, _, _, _, _, _, _, _, _, _, rfl, _⟩ := h; rfl) | (obtain ⟨_, _, _, _, _, _, _, _, _, _, _, _, _, _, rfl, _⟩ := h; rfl) | (obtain ⟨_, _, _, _, _, _, _, _, _, _, _, _, _, _, _, rfl, _⟩ := h; rfl) | exact h.elim
theorem len15 (h : sp15 ds S q noX) : ds.length = 3 := by first | (obtain ⟨rfl, _⟩ := h; rfl) | (obtain ⟨_, rfl, _⟩ := h; rfl) | (obtain ⟨_, _, rfl, _⟩ := h; rfl) | (obtain ⟨_, _, _, rfl, _⟩ := h; rfl) | (obtain ⟨_, _, _, _, rfl, _⟩ := h; rfl) | (obtain ⟨_, _, _, _, _, rfl, _⟩ := h; rfl) | (obtain ⟨_, _, _, _, _, _, rfl, _⟩ := h; rfl) | (obtain ⟨_, _, _, _, _, _, _, rfl, _⟩ := h; rfl) | (obtain ⟨_, _, _, _, _, _, _, _, rfl, _⟩ := h; rfl) | (obtain ⟨_, _, _, _, _, _, _, _, _, rfl, _⟩ := h; rfl) | (obtain ⟨_, _, _, _, _, _, _, _, _, _, rfl, _⟩ := h; rfl) | (obtain ⟨_, _, _, _, _, _, _, _, _, _, _, rfl, _⟩ := h; rfl) | (obtain ⟨_, _, _, _, _, _, _, _, _, _, _, _, rfl, _⟩ := h; rfl) | (obtain ⟨_, _, _, _, _, _, _, _, _, _, _, _, _, rfl, _⟩ := h; rfl) | (obtain ⟨_, _, _, _, _, _, _, _, _, _, _, _, _, _, rfl, _⟩ := h; rfl) | (obtain ⟨_, _, _, _, _, _, _, _, _, _, _, _, _, _, _, rfl, _⟩ := h; rfl) | exact h.elim
theorem len16 (h : sp16 ds S q noX) : ds.length = 4 := by first | (obtain ⟨rfl, _⟩ := h; rfl) | (obtain ⟨_, rfl, _⟩ := h; rfl) | (obtain ⟨_, _, rfl, _⟩ := h; rfl) | (obtain ⟨_, _, _, rfl, _⟩ := h; rfl) | (obtain ⟨_, _, _, _, rfl, _⟩ := h; rfl) | (obtain ⟨_, _, _, _, _, rfl, _⟩ := h; rfl) | (obtain ⟨_, _, _, _, _, _, rfl, _⟩ := h; rfl) | (obtain ⟨_, _, _, _, _, _, _, rfl, _⟩ := h; rfl) | (obtain ⟨_, _, _, _, _, _, _, _, rfl, _⟩ := h; rfl) | (obtain ⟨_, _, _, _, _, _, _, _, _, rfl, _⟩ := h; rfl) | (obtain ⟨_, _, _, _, _, _, _, _, _, _, rfl, _⟩ := h; rfl) | (obtain ⟨_, _, _, _, _, _, _, _, _, _, _, rfl, _⟩ := h; rfl) | (obtain ⟨_, _, _, _, _, _, _, _, _, _, _, _, rfl, _⟩ := h; rfl) | (obtain ⟨_, _, _, _, _, _, _, _, _, _, _, _, _, rfl, _⟩ := h; rfl) | (obtain ⟨_, _, _, _, _, _, _, _, _, _, _, _, _, _, rfl, _⟩ := h; rfl) | (obtain ⟨_, _, _, _, _, _, _, _, _, _, _, _, _, _, _, rfl, _⟩ := h; rfl) | exact h.elim
theorem len17 (h : sp17 ds S q noX) : ds.length = 1 := by first | (obtain ⟨rfl, _⟩ := h; rfl) | (obtain ⟨_, rfl, _⟩ := h; rfl) | (obtain ⟨_, _, rfl, _⟩ := h; rfl) | (obtain ⟨_, _, _, rfl, _⟩ := h; rfl) | (obtain ⟨_, _, _, _, rfl, _⟩ := h; rfl) | (obtain ⟨_, _, _, _, _, rfl, _⟩ := h; rfl) | (obtain ⟨_, _, _, _, _, _, rfl, _⟩ := h; rfl) | (obtain ⟨_, _, _, _, _, _, _, rfl, _⟩ := h; rfl) | (obtain ⟨_, _, _, _, _, _, _, _, rfl, _⟩ := h; rfl) | (obtain ⟨_, _, _, _, _, _, _, _, _, rfl, _⟩ := h; rfl) | (obtain ⟨_, _, _, _, _, _, _, _, _, _, rfl, _⟩ := h; rfl) | (obtain ⟨_, _, _, _, _, _, _, _, _, _, _, rfl, _⟩ := h; rfl) | (obtain ⟨_, _, _, _, _, _, _, _, _, _, _, _, rfl, _⟩ := h; rfl) | (obtain ⟨_, _, _, _, _, _, _, _, _, _, _, _, _, rfl, _⟩ := h; rfl) | (obtain ⟨_, _, _, _, _, _, _, _, _, _, _, _, _, _, rfl, _⟩ := h; rfl) | (obtain ⟨_, _, _, _, _, _, _, _, _, _, _, _, _, _, _, rfl, _⟩ := h; rfl) | exact h.elim
end
end K06
set_option maxHeartbeats 2000000

namespace K06
open PySem Mi
section
variable {k : Nat} {ds : List D} {S : Sto} {q : Q1}

theorem ok0 (h0 : lv0 ds ≤ k) (h : sp0 ds S q noX) : wpSs T (Γ k) noX b0 (bodyEn q) (startD N0 ds) S := by
  obtain ⟨w, i, j, rfl, ⟨i0, i1⟩, ⟨j0, j1⟩, hq⟩ := h
  show wpSs T (Γ k) noX b0 (bodyEn q) [_, _, _] S
  refine w_body ?_
  unfold b0
  cases w with
  | plus =>
    simp only [W6.s]
    repeat' (first | tb_start | with_reducible refine bin_mod (by decide) ?_ | tb_rel)
    exact sub_end hq
  | less =>
    simp only [W6.s]
    repeat' (first | tb_start | with_reducible refine bin_mod (by decide) ?_ | tb_rel)
    exact sub_end hq
  | times =>
    simp only [W6.s]
    repeat' (first | tb_start | with_reducible refine bin_mul (.inl (by omega)) ?_ | with_reducible refine bin_mod (by decide) ?_ | tb_rel)
    exact sub_end hq
  | over =>
    simp only [W6.s, W6.jn] at hq ⊢
    repeat' (first | tb_start  | tb_rel)
    refine ite_dec (fun h1 => ?_) fun h1 => ?_
    · repeat' (first | tb_start  | tb_rel)
      rw [if_pos h1] at hq
      exact sub_end hq
    · repeat' (first | tb_start | with_reducible refine bin_fdiv (by omega) ?_ | tb_rel)
      rw [if_neg h1] at hq
      exact sub_end hq
  | below =>
    simp only [W6.s]
    repeat' (first | tb_start  | tb_rel)
    exact sub_end (by simpa [W6.jn] using hq)
  | like =>
    simp only [W6.s]
    repeat' (first | tb_start  | tb_rel)
    exact sub_end (by simpa [W6.jn] using hq)
end
end K06
set_option maxHeartbeats 2000000

namespace K06
open PySem Mi
section
variable {k : Nat} {ds : List D} {S : Sto} {q : Q1}

theorem ok1 (h0 : lv1 ds ≤ k) (h : sp1 ds S q noX) : wpSs T (Γ k) noX b1 (bodyEn q) (startD N1 ds) S := by
  obtain ⟨e, m, g, n, kvs, hm, rfl, he, hg, hS, hh, hq⟩ := h
  have h0 : 1 + dD e.d ≤ k := h0
  have hv := fun {e : Ex} {r : Int} (o : e.Ok false m) => Ex.val_ok (r := r) hg (fun i => (hh i).2) o
  show wpSs T (Γ k) noX b1 (bodyEn q) [_, _, _, none, none, none] S
  refine w_body ?_
  unfold b1
  cases e with
  | inn =>
    simp only [Ex.d]
    repeat' (first | tb_start  | tb_rel)
    exact sub_end hq
  | out => cases he
  | at_ i =>
    simp only [Ex.d]
    repeat' (first | tb_start | with_reducible refine kind_get2 hS ?_ | with_reducible refine mt_get2i hS ?_ | tb_rel)
    refine sub_end ?_
    rw [(hh i).1]
    exact hq
  | num i =>
    simp only [Ex.d]
    repeat' (first | tb_start  | tb_rel)
    exact sub_end hq
  | op w a b =>
    obtain ⟨he1, he2⟩ := he
    have d1 := @Ex.dD_op1 w a b
    have d2 := @Ex.dD_op2 w a b
    obtain ⟨ra, ea⟩ : ∃ r, a.val g hm = r := ⟨_, rfl⟩
    obtain ⟨rb, eb⟩ : ∃ r, b.val g hm = r := ⟨_, rfl⟩
    simp only [Ex.val, ea, eb] at hq
    simp only [Ex.d]
    have n1 : ¬ w.s = "num" := by cases w <;> decide
    have n2 : ¬ w.s = "in" := by cases w <;> decide
    have n3 : ¬ w.s = "at" := by cases w <;> decide
    cases ra with
    | none =>
      cases rb with
      | none =>
        repeat' (first | tb_start | with_reducible refine u1N (by omega) he1 hg hS hh ea ?_ | with_reducible refine u1N (by omega) he2 hg hS hh eb ?_ | tb_rel)
        exact sub_end hq
      | some j =>
        repeat' (first | tb_start | with_reducible refine u1N (by omega) he1 hg hS hh ea ?_ | with_reducible refine u1I (by omega) he2 hg hS hh eb ?_ | tb_rel)
        exact sub_end hq
    | some i =>
      have hi := hv he1 ea
      cases rb with
      | none =>
        repeat' (first | tb_start | with_reducible refine u1I (by omega) he1 hg hS hh ea ?_ | with_reducible refine u1N (by omega) he2 hg hS hh eb ?_ | tb_rel)
        exact sub_end hq
      | some j =>
        have hj := hv he2 eb
        repeat' (first | tb_start | with_reducible refine u1I (by omega) he1 hg hS hh ea ?_ | with_reducible refine u1I (by omega) he2 hg hS hh eb ?_ | with_reducible refine u0 (by omega) hi hj ?_ | tb_rel)
        exact sub_end hq
end
end K06
set_option maxHeartbeats 2000000

namespace K06
open PySem Mi
section
variable {k : Nat} {ds : List D} {S : Sto} {q : Q1}

theorem ok2 (h0 : lv2 ds ≤ k) (h : sp2 ds S q noX) : wpSs T (Γ k) noX b2 (bodyEn q) (startD N2 ds) S := by
  obtain ⟨p, g, t, rfl, hp, hg, t0, t1, hq⟩ := h
  have h0 : 85 ≤ k := h0
  have wf := wf_start hp hg t0
  obtain ⟨n, s', hs⟩ := stps_ex hp _ (Nat.le_refl _) wf
  have hq := hq n s' hs
  have hB : t.toNat * 352 ≤ 400000 := by omega
  show wpSs T (Γ k) noX b2 (bodyEn q) [_, _, _, none] S
  refine w_body ?_
  unfold b2
  repeat' (first | tb_start  | tb_rel)
  intro m hm
  refine u19 (by omega) hm fun L S1 e0 h1 => ⟨rfl, ?_⟩
  subst e0
  repeat' (first | tb_start  | tb_rel)
  refine mth_at h1.m0 mt_begin no_begin ?_
  repeat' (first | tb_start  | tb_rel)
  refine u14 (c := none) (by omega) h1 hp ⟨by decide, by have := hp.n; omega⟩ (fun _ z => by cases z) (fun _ z => by cases z) (by show 0 ≤ 900000; decide) fun L2 S2 hL h2 => ?_
  have main : ∀ (n : Nat) (s : Ms) (m : Nat) (L3 : Nat → Nat) (S3 : Sto) (nx bk ct : Mi.Env → Sto → Prop) (rt : Q1), Stps p n s s' → Wf p (t.toNat * 352) s → MR p S S3 L3 s → L3 0 = m → (∀ L4 S4, L4 0 = m → MR p S S4 L4 s' → nx [some p.d, some (.int g), some (.int t), some (.loc m)] S4) →
      whL (wpT T (Γ k) noX (.cmp .is_ (.fld (.var 3) "ending") .non)) (wpSs T (Γ k) noX [.ex (.mth 17 (.var 3) .nil)]) ⟨nx, rt, bk, ct⟩ (n + 1) [some p.d, some (.int g), some (.int t), some (.loc m)] S3 := by
    intro n
    induction n with
    | zero =>
      intro s m L3 S3 nx bk ct rt hs hw h eL hn
      obtain ⟨h1, rfl⟩ := hs
      have hn := hn L3 S3 eL h
      rw [← eL] at hn ⊢
      refine wh_stepB (w_tB ?_)
      repeat' (first | tb_start | with_reducible refine fld_at h.m0 tf_g mz_g ?_ | tb_rel)
      refine cmp_isN (by cases e : s'.en <;> first | exact absurd e h1 | (rw [En1.d]; simp)) (tru_bl (ite_f hn))
    | succ n ih =>
      intro s m L3 S3 nx bk ct rt hs hw h eL hn
      have hr := hs.1
      refine wh_stepB (w_tB ?_)
      have ih := fun L4 S4 (e4 : L4 0 = m) h4 => ih (mstep p s) m L4 S4 nx bk ct rt hs.2 (hw.step hp hr).1 h4 e4 hn
      rw [← eL] at ih ⊢
      repeat' (first | tb_start | with_reducible refine fld_at h.m0 tf_g mz_g ?_ | tb_rel)
      rw [hr]
      refine cmp_isNN (tru_bl (ite_t ?_))
      repeat' (first | tb_start  | tb_rel)
      refine mth_at h.m0 mt_step no_step ?_
      repeat' (first | tb_start  | tb_rel)
      refine u17 (by omega) h hp hw hr hB fun L4 S4 e4 h4 => ?_
      exact w_end (ih L4 S4 e4 h4)
  have h2 : MR p S S2 L2 (mstart p g t) := h2
  have e2 : L2 0 = L 0 := hL 0 (by show 0 < 5; decide)
  repeat' (first | tb_start  | tb_rel)
  refine ⟨n + 1, ?_⟩
  refine main n _ _ L2 S2 _ _ _ _ hs wf h2 e2 fun L3 S3 e3 h3 => ?_
  rw [← e3]
  repeat' (first | tb_start | with_reducible refine fld_at h3.m0 tf_g mz_g ?_ | with_reducible refine fld_at h3.m0 tf_d mz_d ?_ | with_reducible refine fld_at h3.m0 tf_b mz_b ?_ | with_reducible refine tuple_locB h3.m3 ?_ | with_reducible refine tuple_locB h3.m1 ?_ | tb_rel)
  exact ⟨S, fun x o hx => h3.old x o hx, hq⟩
end
end K06
set_option maxHeartbeats 2000000

namespace K06
open PySem Mi
section
variable {k : Nat} {ds : List D} {S : Sto} {q : Q1}

theorem ok3 (h0 : lv3 ds ≤ k) (h : sp3 ds S q noX) : wpSs T (Γ k) noX b3 (bodyEn q) (startD N3 ds) S := by
  obtain ⟨ns, rfl, hq⟩ := h
  show wpSs T (Γ k) noX b3 (bodyEn q) [_] S
  refine w_body ?_
  unfold b3
  repeat' (first | tb_start  | tb_rel)
  intro n hn
  refine sub_end (hq n _ hn (fun m e => put_ne e) ⟨cutD ns none (some 63), 0, 0, 0, put_same, by omega, by omega, by omega, by omega, ?_⟩)
  unfold cutD
  rw [List.length_take]
  have : HT.sIx ns.length ns.length (some 63) ≤ 63 := by
    show (if (63 : Int) < 0 then ((63 : Int) + (ns.length : Int)).toNat else min (63 : Int).toNat ns.length) ≤ 63
    rw [if_neg (by omega)]
    exact Nat.min_le_left _ _
  omega
end
end K06
set_option maxHeartbeats 2000000

namespace K06
open PySem Mi
section
variable {k : Nat} {ds : List D} {S : Sto} {q : Q1}

theorem ok4 (h0 : lv4 ds ≤ k) (h : sp4 ds S q noX) : wpSs T (Γ k) noX b4 (bodyEn q) (startD N4 ds) S := by
  exact draw_ok h
end
end K06
set_option maxHeartbeats 2000000

namespace K06
open PySem Mi
section
variable {k : Nat} {ds : List D} {S : Sto} {q : Q1}

theorem ok5 (h0 : lv5 ds ≤ k) (h : sp5 ds S q noX) : wpSs T (Γ k) noX b5 (bodyEn q) (startD N5 ds) S := by
  obtain ⟨f, t, rfl, ht, F, hq⟩ := h
  have h0 : 1 ≤ k := h0
  show wpSs T (Γ k) noX b5 (bodyEn q) [_, none] S
  refine w_body ?_
  unfold b5
  repeat' (first | tb_start  | tb_rel)
  refine u4 t (by omega) (by omega) (by omega) (by omega) F fun r1 S1 a1 b1 s1 F1 => ?_
  repeat' (first | tb_start  | tb_rel)
  refine u4 (t + 1) (by omega) (by omega) (by omega) (by omega) F1 fun r2 S2 a2 b2 s2 F2 => ?_
  repeat' (first | tb_start  | tb_rel)
  refine u4 (t + 1 + 1) (by omega) (by omega) (by omega) (by omega) F2 fun r3 S3 a3 b3 s3 F3 => ?_
  refine ix_any a3 (by simpa using b3) fun x hx => ?_
  refine sub_end ?_
  have hs := (s1.trans s2).trans s3
  have F' : Fd S3 f (t + 3) := F3.mono (by omega)
  simp only [List.mem_cons, List.not_mem_nil, or_false] at hx
  rcases hx with rfl | rfl | rfl | rfl | rfl | rfl | rfl | rfl | rfl | rfl | rfl | rfl <;> exact hq _ _ ⟨by omega, by omega⟩ hs F'
end
end K06
set_option maxHeartbeats 2000000

namespace K06
open PySem Mi
section
variable {k : Nat} {ds : List D} {S : Sto} {q : Q1}
theorem ok6 (h0 : lv6 ds ≤ k) (h : sp6 ds S q noX) : wpSs T (Γ k) noX b6 (bodyEn q) (startD N6 ds) S := by
  obtain ⟨f, n, t, rfl, ht, F, hq⟩ := h
  have h0 : 2 + (n : Int).toNat ≤ k := h0
  rw [Int.toNat_natCast] at h0
  have cp := cF_pos n
  show wpSs T (Γ k) noX b6 (bodyEn q) [_, _, none, none, none, none] S
  refine w_body ?_
  unfold b6
  cases n with
  | zero =>
    repeat' (first | tb_start  | tb_rel)
    refine u4 t (by omega) (by omega) (by omega) (by omega) F fun r2 S2 a2 b2 s2 F2 => ?_
    repeat' (first | tb_start  | tb_rel)
    refine ite_dec (fun g1 => ?_) fun g1 => ?_
    · repeat' (first | tb_start  | tb_rel)
      exact sub_end (hq .inn _ trivial (Nat.zero_le _) ((Same.refl S f).trans s2) (F2.mono (by omega)))
    · repeat' (first | tb_start  | tb_rel)
      refine ite_dec (fun g2 => ?_) fun g2 => ?_
      · repeat' (first | tb_start  | tb_rel)
        refine u4 (t + 1) (by omega) (by omega) (by omega) (by omega) F2 fun r3 S3 a3 b3 s3 F3 => ?_
        repeat' (first | tb_start  | tb_rel)
        exact sub_end (hq (.at_ r3) _ ⟨a3, b3⟩ (Nat.zero_le _) (((Same.refl S f).trans s2).trans s3) (F3.mono (by omega)))
      · repeat' (first | tb_start  | tb_rel)
        refine u5 (t + 1) (by omega) (by omega) F2 fun r3 S3 c3 s3 F3 => ?_
        repeat' (first | tb_start  | tb_rel)
        exact sub_end (hq (.num r3) _ c3 (Nat.zero_le _) (((Same.refl S f).trans s2).trans s3) (F3.mono (by omega)))
  | succ n =>
    rw [cF] at ht hq cp
    have cp2 := cF_pos n
    repeat' (first | tb_start  | tb_rel)
    refine u4 t (by omega) (by omega) (by omega) (by omega) F fun r0 S0 a0 b0 s0 F0 => ?_
    repeat' (first | tb_start  | tb_rel)
    refine ite_dec (fun h1 => ?_) fun h1 => ?_
    · repeat' (first | tb_start  | tb_rel)
      refine u4 (t + 1) (by omega) (by omega) (by omega) (by omega) F0 fun r2 S2 a2 b2 s2 F2 => ?_
      repeat' (first | tb_start  | tb_rel)
      refine ite_dec (fun g1 => ?_) fun g1 => ?_
      · repeat' (first | tb_start  | tb_rel)
        exact sub_end (hq .inn _ trivial (Nat.zero_le _) (s0.trans s2) (F2.mono (by omega)))
      · repeat' (first | tb_start  | tb_rel)
        refine ite_dec (fun g2 => ?_) fun g2 => ?_
        · repeat' (first | tb_start  | tb_rel)
          refine u4 ((t + 1) + 1) (by omega) (by omega) (by omega) (by omega) F2 fun r3 S3 a3 b3 s3 F3 => ?_
          repeat' (first | tb_start  | tb_rel)
          exact sub_end (hq (.at_ r3) _ ⟨a3, b3⟩ (Nat.zero_le _) ((s0.trans s2).trans s3) (F3.mono (by omega)))
        · repeat' (first | tb_start  | tb_rel)
          refine u5 ((t + 1) + 1) (by omega) (by omega) F2 fun r3 S3 c3 s3 F3 => ?_
          repeat' (first | tb_start  | tb_rel)
          exact sub_end (hq (.num r3) _ c3 (Nat.zero_le _) ((s0.trans s2).trans s3) (F3.mono (by omega)))
    · repeat' (first | tb_start  | tb_rel)
      refine u4 (t + 1) (by omega) (by omega) (by omega) (by omega) F0 fun r1 S1 a1 b1 s1 F1 => ?_
      refine ix_any a1 (by simpa using b1) fun w hw => ?_
      obtain ⟨w', rfl⟩ : ∃ w' : W6, w = .str w'.s := by
        simp only [List.mem_cons, List.not_mem_nil, or_false] at hw
        rcases hw with rfl | rfl | rfl | rfl | rfl | rfl | rfl | rfl
        · exact ⟨.plus, rfl⟩
        · exact ⟨.less, rfl⟩
        · exact ⟨.times, rfl⟩
        · exact ⟨.over, rfl⟩
        · exact ⟨.below, rfl⟩
        · exact ⟨.like, rfl⟩
        · exact ⟨.plus, rfl⟩
        · exact ⟨.less, rfl⟩
      repeat' (first | tb_start  | tb_rel)
      refine u6 (n := n) (t + 1 + 1) (by push_cast; omega) (by omega) (by omega) F1 fun ea S2 ga da s2 F2 => ?_
      repeat' (first | tb_start  | tb_rel)
      refine u6 (n := n) (t + 1 + 1 + cF n) (by push_cast; omega) (by omega) (by omega) F2 fun eb S3 gb db s3 F3 => ?_
      repeat' (first | tb_start  | tb_rel)
      refine sub_end (hq (.op w' ea eb) _ ⟨ga, gb⟩ ?_ (((s0.trans s1).trans s2).trans s3) (F3.mono (by omega)))
      simp only [Ex.dep]
      omega
end
end K06
set_option maxHeartbeats 2000000

namespace K06
open PySem Mi
section
variable {k : Nat} {ds : List D} {S : Sto} {q : Q1}

theorem ok7 (h0 : lv7 ds ≤ k) (h : sp7 ds S q noX) : wpSs T (Γ k) noX b7 (bodyEn q) (startD N7 ds) S := by
  obtain ⟨f, n, t, rfl, hn, ht, F, hq⟩ := h
  have h0 : 3 + (n : Int).toNat ≤ k := h0
  rw [Int.toNat_natCast] at h0
  show wpSs T (Γ k) noX b7 (bodyEn q) [_, _, none, none, none] S
  refine w_body ?_
  unfold b7
  cases n with
  | zero =>
    repeat' (first | tb_start  | tb_rel)
    refine u8 t (by omega) (by omega) F fun e S1 he hd s1 F1 => ?_
    repeat' (first | tb_start  | tb_rel)
    exact sub_end (hq (.op .over e (.num 0)) _ (Fx.over he hd) s1 (F1.mono (by omega)))
  | succ n =>
    repeat' (first | tb_start  | tb_rel)
    refine u4 t (by omega) (by omega) (by omega) (by omega) F fun r1 S1 a1 b1 s1 F1 => ?_
    refine ix_any a1 (by simpa using b1) fun w hw => ?_
    obtain ⟨w', rfl⟩ : ∃ w' : W6, w = .str w'.s := by
      simp only [List.mem_cons, List.not_mem_nil, or_false] at hw
      rcases hw with rfl | rfl | rfl | rfl | rfl | rfl
      · exact ⟨.plus, rfl⟩
      · exact ⟨.less, rfl⟩
      · exact ⟨.times, rfl⟩
      · exact ⟨.below, rfl⟩
      · exact ⟨.like, rfl⟩
      · exact ⟨.over, rfl⟩
    repeat' (first | tb_start  | tb_rel)
    refine u7 (n := n) (t + 1) (by push_cast; omega) (by omega) (by omega) (by push_cast at ht; omega) F1 fun e S2 he s2 F2 => ?_
    repeat' (first | tb_start  | tb_rel)
    refine u4 (t + 1 + (4 + 3 * n)) (by omega) (by omega) (by omega) (by push_cast at ht; omega) F2 fun r2 S3 a3 b3 s3 F3 => ?_
    repeat' (first | tb_start  | tb_rel)
    refine u4 (t + 1 + (4 + 3 * n) + 1) (by omega) (by omega) (by omega) (by push_cast at ht; omega) F3 fun r3 S4 a4 b4 s4 F4 => ?_
    refine ix_any a4 (by simpa using b4) fun x hx => ?_
    refine sub_end ?_
    have ss := ((s1.trans s2).trans s3).trans s4
    have F5 : Fd S4 f (t + (4 + 3 * ((n + 1 : Nat) : Int))) := F4.mono (by push_cast; omega)
    have hi : FI (1 + r2) := ⟨by omega, by omega⟩
    simp only [List.mem_cons, List.not_mem_nil, or_false] at hx
    rcases hx with rfl | rfl
    · exact hq (.op w' e (.num (1 + r2))) _ (he.l w' hi) ss F5
    · exact hq (.op w' (.num (1 + r2)) e) _ (he.r w' hi) ss F5
end
end K06
set_option maxHeartbeats 2000000

namespace K06
open PySem Mi
section
variable {k : Nat} {ds : List D} {S : Sto} {q : Q1}

theorem ok8 (h0 : lv8 ds ≤ k) (h : sp8 ds S q noX) : wpSs T (Γ k) noX b8 (bodyEn q) (startD N8 ds) S := by
  obtain ⟨f, t, rfl, ht, F, hq⟩ := h
  have h0 : 2 ≤ k := h0
  show wpSs T (Γ k) noX b8 (bodyEn q) [_] S
  refine w_body ?_
  unfold b8
  repeat' (first | tb_start  | tb_rel)
  refine u5 t (by omega) (by omega) F fun i S1 hi s1 F1 => ?_
  repeat' (first | tb_start  | tb_rel)
  refine u4 (t + 3) (by omega) (by omega) (by omega) (by omega) F1 fun r S2 a2 b2 s2 F2 => ?_
  refine ix_any a2 (by simpa using b2) fun x hx => ?_
  refine sub_end ?_
  have ss := s1.trans s2
  have F4 : Fd S2 f (t + 4) := F2.mono (by omega)
  simp only [List.mem_cons, List.not_mem_nil, or_false] at hx
  rcases hx with rfl | rfl | rfl
  · exact hq .inn _ trivial (by decide) ss F4
  · exact hq (.num i) _ hi (Nat.zero_le _) ss F4
  · exact hq (.op .plus .inn (.num 1)) _ ⟨trivial, by decide, by decide⟩ (by decide) ss F4
end
end K06
set_option maxHeartbeats 2000000

namespace K06
open PySem Mi
section
variable {k : Nat} {ds : List D} {S : Sto} {q : Q1}

theorem ok9 (h0 : lv9 ds ≤ k) (h : sp9 ds S q noX) : wpSs T (Γ k) noX b9 (bodyEn q) (startD N9 ds) S := by
  obtain ⟨x, e, rfl, hq⟩ := h
  show wpSs T (Γ k) noX b9 (bodyEn q) [_, _, none] S
  refine w_body ?_
  unfold b9
  repeat' (first | tb_start | with_reducible refine bin_addT (by simp [sizeLine_eq]) ?_ | tb_rel)
  exact sub_end hq
end
end K06
set_option maxHeartbeats 2000000

namespace K06
open PySem Mi
section
variable {k : Nat} {ds : List D} {S : Sto} {q : Q1}

theorem ok10 (h0 : lv10 ds ≤ k) (h : sp10 ds S q noX) : wpSs T (Γ k) noX b10 (bodyEn q) (startD N10 ds) S := by
  obtain ⟨ns, rfl, hq⟩ := h
  have h0 : 90 ≤ k := h0
  show wpSs T (Γ k) noX b10 (bodyEn q) [_, none, none, none, none, none, none, none, none, none, none, none] S
  refine w_body ?_
  unfold b10
  repeat' (first | tb_start  | tb_rel)
  refine u3 (by omega) fun f S1 hf s1 F1 => ?_
  repeat' (first | tb_start | with_reducible refine rng_1 (by omega) (by omega) ?_ | tb_rel)
  refine for_rng 10 0 (fun i e S' => ∃ (o2 o3 o4 o5 o6 o7 o8 o9 o10 o11 : Option D), e = [some (.scr ns), some (.loc f), o2, o3, o4, o5, o6, o7, o8, o9, o10, o11] ∧ Fd S' f ((i : Int) * 50)) ?_ ?_ _ _ ⟨_, _, _, _, _, _, _, _, _, _, rfl, F1.mono (by omega)⟩
  · rintro i e S2 hi ⟨o2, o3, o4, o5, o6, o7, o8, o9, o10, o11, rfl, F2⟩ nx' hn'
    refine ⟨_, rfl, ?_⟩
    repeat' (first | tb_start  | tb_rel)
    refine u4 ((i : Int) * 50) (by omega) (by omega) (by omega) (by omega) F2 fun d S3 a3 b3 s3 F3 => ?_
    obtain ⟨d', rfl⟩ := Int.eq_ofNat_of_zero_le a3
    repeat' (first | tb_start  | tb_rel)
    refine u7 (n := d') ((i : Int) * 50 + 1) rfl (by omega) (by omega) (by omega) F3 fun e S4 he s4 F4 => ?_
    have he := he.mono (show d' + 2 ≤ 5 by omega)
    repeat' (first | tb_start  | tb_rel)
    refine u4 ((i : Int) * 50 + 1 + (4 + 3 * d')) (by omega) (by omega) (by omega) (by omega) F4 fun l S5 a5 b5 s5 F5 => ?_
    repeat' (first | tb_start | with_reducible refine bin_addL (by simp [sizeLine_eq]) ?_ | tb_rel)
    refine u5 ((i : Int) * 50 + 1 + (4 + 3 * d') + 1) (by omega) (by omega) F5 fun g S6 hg s6 F6 => ?_
    repeat' (first | tb_start  | tb_rel)
    refine ⟨_, rfl, ?_⟩
    refine for_map Row.d (fun ys e' S' => S' = S6 ∧ (∀ y ∈ ys, Rx y) ∧ ∃ (o5 o7 o8 o9 o10 o11 : Option D), e' = [some (.scr ns), some (.loc f), some (.int (0 + (i : Int))), some e.d, some (.int l), o5, some (.int g), o7, o8, o9, o10, o11]) (fun _ _ _ _ => trivial) ?_ ?_ [Row.put l e, .write 0 e, .call l 1 e, .tell e, .whn e [.tell (.num 1)] [.tell (.num 2)], .wove 1 [] [.note 3 e], .whn (.num 1) [.put 0 e] []] _ _ ⟨rfl, rx_some a5 b5 he, _, _, _, _, _, _, rfl⟩
    · rintro x ys e' S7 ⟨rfl, hy, o5, o7, o8, o9, o10, o11, rfl⟩ nx2 hn2
      have hx := hy x List.mem_cons_self
      refine ⟨_, rfl, ?_⟩
      repeat' (first | tb_start  | tb_rel)
      refine u9 (by omega) ?_
      repeat' (first | tb_start  | tb_rel)
      refine ⟨_, rfl, ?_⟩
      refine for_map D.int (fun zs e2 S' => S' = S7 ∧ (∀ z ∈ zs, (0 : Int) < z ∧ z ≤ 9) ∧ ∃ (o10 : Option D), e2 = [some (.scr ns), some (.loc f), some (.int (0 + (i : Int))), some e.d, some (.int l), o5, some (.int g), some x.d, some (rwsD (rwsF x e)), some (rtD ([.tell (.num 20)], .num 3)), o10, o11]) (fun _ _ _ _ => trivial) ?_ ?_ [1, 2, 9] _ _ ⟨rfl, by decide, _, rfl⟩
      · rintro z zs e2 S8 ⟨rfl, hz, o10, rfl⟩ nx3 hn3
        obtain ⟨z0, z1⟩ := hz z List.mem_cons_self
        refine ⟨_, rfl, ?_⟩
        repeat' (first | tb_start  | tb_rel)
        refine u2 (p := pr1 x e) (by omega) (pw1 hx he) hg (by omega) (by omega) fun n s' hs => ?_
        rw [run_1 hx.f z0 hs]
        repeat' (first | tb_start  | tb_rel)
        refine ne_r1 ?_
        repeat' (first | tb_start  | tb_rel)
        exact hn3 _ _ ⟨rfl, fun u hu => hz u (List.mem_cons_of_mem _ hu), _, rfl⟩
      · rintro e2 S8 ⟨rfl, _, o10, rfl⟩
        repeat' (first | tb_start  | tb_rel)
        refine u2 (p := pr2 x e) (by omega) (pw2 hx he) hg (by decide) (by decide) fun n s' hs => ?_
        rw [run_2 hx.f hs]
        repeat' (first | tb_start  | tb_rel)
        refine ne_r1 ?_
        repeat' (first | tb_start  | tb_rel)
        refine u2 (p := pr2 x e) (by omega) (pw2 hx he) hg (by decide) (by decide) fun n s' hs => ?_
        rw [run_2d hs]
        repeat' (first | tb_start  | tb_rel)
        refine ne_r2 ?_
        repeat' (first | tb_start  | tb_rel)
        exact hn2 _ _ ⟨rfl, fun u hu => hy u (List.mem_cons_of_mem _ hu), _, _, _, _, _, _, rfl⟩
    · rintro e' S7 ⟨rfl, _, o5, o7, o8, o9, o10, o11, rfl⟩
      repeat' (first | tb_start  | tb_rel)
      refine u2 (p := pr3 e) (by omega) (pw3 he) hg (by decide) (by decide) fun n s' hs => ?_
      rw [run_3 hs]
      repeat' (first | tb_start  | tb_rel)
      refine ne_r3 ?_
      repeat' (first | tb_start  | tb_rel)
      refine u2 (p := pr4 e) (by omega) (pw4 he) hg (by decide) (by decide) fun n s' hs => ?_
      rw [run_4 he.no hs]
      repeat' (first | tb_start  | tb_rel)
      refine ne_r4 ?_
      repeat' (first | tb_start  | tb_rel)
      exact hn' _ _ ⟨_, _, _, _, _, _, _, _, _, _, rfl, F6.mono (by push_cast; omega)⟩
  · rintro e S2 ⟨o2, o3, o4, o5, o6, o7, o8, o9, o10, o11, rfl, F2⟩
    repeat' (first | tb_start  | tb_rel)
    exact sub_end (hq _)
end
end K06
set_option maxHeartbeats 2000000

namespace K06
open PySem Mi
section
variable {k : Nat} {ds : List D} {S : Sto} {q : Q1}

theorem ok11 (h0 : lv11 ds ≤ k) (h : sp11 ds S q noX) : wpSs T (Γ k) noX b11 (bodyEn q) (startD N11 ds) S := by
  obtain ⟨n, g, rfl, hS, hq⟩ := h
  show wpSs T (Γ k) noX b11 (bodyEn q) [_, _] S
  refine w_body ?_
  unfold b11
  repeat' (first | tb_start  | tb_rel)
  refine setf_ab (gs := [("went_in", g)]) hS tf_f1 (by decide) (by kernel_rfl) ?_
  intro S1 a1 b1
  repeat' (first | tb_start  | tb_rel)
  intro b hb
  have nb : b ≠ n := fun z => by rw [z, a1] at hb; cases hb
  have hn : put S1 b (.dic []) n = some (.ins 0 [("went_in", g)]) := by rw [put_ne (Ne.symm nb)]; exact a1
  repeat' (first | tb_start  | tb_rel)
  refine setf_ab (gs := fi g (.loc b)) hn tf_f2 (by show 1 < 100; decide) (by kernel_rfl) ?_
  intro S2 a2 b2
  refine w_end ⟨S2, Sub.refl S2, ?_⟩
  rw [b1 b nb] at hb
  refine hq b S2 hb nb ?_ ?_ fun x x1 x2 => ?_
  · exact a2
  · rw [b2 b nb, put_same]; rfl
  · rw [b2 x x1, put_ne x2, b1 x x1]
end
end K06
set_option maxHeartbeats 2000000

namespace K06
open PySem Mi
section
variable {k : Nat} {ds : List D} {S : Sto} {q : Q1}

theorem ok12 (h0 : lv12 ds ≤ k) (h : sp12 ds S q noX) : wpSs T (Γ k) noX b12 (bodyEn q) (startD N12 ds) S := by
  obtain ⟨n, p, t, S0, rfl, hS, hn0, hq⟩ := h
  have hS1 : S n = some (.ins 1 []) := by rw [hS, put_same]
  have hS2 : ∀ x, x ≠ n → S x = S0 x := fun x hx => by rw [hS, put_ne hx]
  clear hS
  show wpSs T (Γ k) noX b12 (bodyEn q) [_, _, _] S
  refine w_body ?_
  unfold b12
  rw [Prog.d]
  repeat' (first | tb_start  | tb_rel)
  refine setf_ab (gs := [("routines", .tup (p.rs.map rtD))]) hS1 tf_a (by decide) (by kernel_rfl) ?_
  intro S1 a1 b1
  repeat' (first | tb_start  | tb_rel)
  refine ⟨_, rfl, fun c hc => ?_⟩
  have c1 : c ≠ n := fun z => by rw [z, a1] at hc; cases hc
  have c0 : S0 c = none := by rw [← hS2 c c1, ← b1 c c1]; exact hc
  have g1 : put S1 c (.lst (p.cells.map .int)) n = some (.ins 1 [("routines", .tup (p.rs.map rtD))]) := by rw [put_ne (Ne.symm c1)]; exact a1
  repeat' (first | tb_start  | tb_rel)
  refine setf_ab (gs := [("routines", .tup (p.rs.map rtD)), ("cells", .loc c)]) g1 tf_b (by show 1 < 100; decide) (by kernel_rfl) ?_
  intro S2 a2 b2
  have p2 : S2 c = some (.lst (p.cells.map .int)) := by rw [b2 c c1, put_same]
  have o2 : ∀ x, x ≠ n → x ≠ c → S2 x = S0 x := fun x x1 x2 => by rw [b2 x x1, put_ne x2, b1 x x1, hS2 x x1]
  clear b2 g1 b1 a1 hc
  repeat' (first | tb_start  | tb_rel)
  intro d hd
  have d1 : d ≠ n := fun z => by rw [z, a2] at hd; cases hd
  have d2 : d ≠ c := fun z => by rw [z, p2] at hd; cases hd
  have d0 : S0 d = none := by rw [← o2 d d1 d2]; exact hd
  have g1 : put S2 d (.dic []) n = some (.ins 1 [("routines", .tup (p.rs.map rtD)), ("cells", .loc c)]) := by rw [put_ne (Ne.symm d1)]; exact a2
  repeat' (first | tb_start  | tb_rel)
  refine setf_ab (gs := [("routines", .tup (p.rs.map rtD)), ("cells", .loc c), ("notes", .loc d)]) g1 tf_c (by show 2 < 100; decide) (by kernel_rfl) ?_
  intro S3 a3 b3
  have q2 : S3 c = some (.lst (p.cells.map .int)) := by rw [b3 c c1, put_ne (Ne.symm d2)]; exact p2
  have q3 : S3 d = some (.dic []) := by rw [b3 d d1, put_same]; rfl
  have o3 : ∀ x, x ≠ n → x ≠ c → x ≠ d → S3 x = S0 x := fun x x1 x2 x3 => by rw [b3 x x1, put_ne x3, o2 x x1 x2]
  clear b3 g1 a2 hd p2 o2
  repeat' (first | tb_start  | tb_rel)
  intro e he
  have e1 : e ≠ n := fun z => by rw [z, a3] at he; cases he
  have e2 : e ≠ c := fun z => by rw [z, q2] at he; cases he
  have e3 : e ≠ d := fun z => by rw [z, q3] at he; cases he
  have e0 : S0 e = none := by rw [← o3 e e1 e2 e3]; exact he
  have g1 : put S3 e (.lst []) n = some (.ins 1 [("routines", .tup (p.rs.map rtD)), ("cells", .loc c), ("notes", .loc d)]) := by rw [put_ne (Ne.symm e1)]; exact a3
  repeat' (first | tb_start  | tb_rel)
  refine setf_ab (gs := [("routines", .tup (p.rs.map rtD)), ("cells", .loc c), ("notes", .loc d), ("told", .loc e)]) g1 tf_d (by show 3 < 100; decide) (by kernel_rfl) ?_
  intro S4 a4 b4
  have r2 : S4 c = some (.lst (p.cells.map .int)) := by rw [b4 c c1, put_ne (Ne.symm e2)]; exact q2
  have r3 : S4 d = some (.dic []) := by rw [b4 d d1, put_ne (Ne.symm e3)]; exact q3
  have r4 : S4 e = some (.lst []) := by rw [b4 e e1, put_same]
  have o4 : ∀ x, x ≠ n → x ≠ c → x ≠ d → x ≠ e → S4 x = S0 x := fun x x1 x2 x3 x4 => by rw [b4 x x1, put_ne x4, o3 x x1 x2 x3]
  clear b4 g1 a3 he q2 q3 o3
  repeat' (first | tb_start  | tb_rel)
  refine setf_ab (gs := [("routines", .tup (p.rs.map rtD)), ("cells", .loc c), ("notes", .loc d), ("told", .loc e), ("ticks_left", .int t)]) a4 tf_e (by show 4 < 100; decide) (by kernel_rfl) ?_
  intro S5 a5 b5
  repeat' (first | tb_start  | tb_rel)
  intro f hf
  have s2 : S5 c = some (.lst (p.cells.map .int)) := by rw [b5 c c1]; exact r2
  have s3 : S5 d = some (.dic []) := by rw [b5 d d1]; exact r3
  have s4 : S5 e = some (.lst []) := by rw [b5 e e1]; exact r4
  have f1 : f ≠ n := fun z => by rw [z, a5] at hf; cases hf
  have f2 : f ≠ c := fun z => by rw [z, s2] at hf; cases hf
  have f3 : f ≠ d := fun z => by rw [z, s3] at hf; cases hf
  have f4 : f ≠ e := fun z => by rw [z, s4] at hf; cases hf
  have f0 : S0 f = none := by rw [← o4 f f1 f2 f3 f4, ← b5 f f1]; exact hf
  have g1 : put S5 f (.lst []) n = some (.ins 1 [("routines", .tup (p.rs.map rtD)), ("cells", .loc c), ("notes", .loc d), ("told", .loc e), ("ticks_left", .int t)]) := by rw [put_ne (Ne.symm f1)]; exact a5
  repeat' (first | tb_start  | tb_rel)
  refine setf_ab (gs := [("routines", .tup (p.rs.map rtD)), ("cells", .loc c), ("notes", .loc d), ("told", .loc e), ("ticks_left", .int t), ("pile", .loc f)]) g1 tf_f (by show 5 < 100; decide) (by kernel_rfl) ?_
  intro S6 a6 b6
  repeat' (first | tb_start  | tb_rel)
  refine setf_ab (gs := [("routines", .tup (p.rs.map rtD)), ("cells", .loc c), ("notes", .loc d), ("told", .loc e), ("ticks_left", .int t), ("pile", .loc f), ("ending", .non)]) a6 tf_g (by show 6 < 100; decide) (by kernel_rfl) ?_
  intro S7 a7 b7
  refine w_end ⟨S7, Sub.refl S7, hq (L5 n c d e f) S7 rfl (MR.init hn0 c0 d0 e0 f0 c1 d1 d2 e1 e2 e3 f1 f2 f3 f4 ?_ ?_ ?_ ?_ ?_ fun x x1 x2 x3 x4 x5 => ?_)⟩
  · exact a7
  · rw [b7 c c1, b6 c c1, put_ne (Ne.symm f2)]; exact s2
  · rw [b7 d d1, b6 d d1, put_ne (Ne.symm f3)]; exact s3
  · rw [b7 e e1, b6 e e1, put_ne (Ne.symm f4)]; exact s4
  · rw [b7 f f1, b6 f f1, put_same]
  · rw [b7 x x1, b6 x x1, put_ne x5, b5 x x1, o4 x x1 x2 x3 x4]
end
end K06
set_option maxHeartbeats 2000000

namespace K06
open PySem Mi
section
variable {k : Nat} {ds : List D} {S : Sto} {q : Q1}

theorem ok13 (h0 : lv13 ds ≤ k) (h : sp13 ds S q noX) : wpSs T (Γ k) noX b13 (bodyEn q) (startD N13 ds) S := by
  obtain ⟨p, S0, L, s, rs, f, rfl, h, hl, hq⟩ := h
  show wpSs T (Γ k) noX b13 (bodyEn q) [_, _, _, none] S
  refine w_body ?_
  unfold b13
  repeat' (first | tb_start  | tb_rel)
  refine ⟨_, rfl, ?_⟩
  rw [← List.map_reverse]
  refine for_map Row.d (fun ys e S' => ∃ (done : List Row) (o3 : Option D), rs.reverse = done ++ ys ∧ e = [some (.loc (L 0)), some (rwsD rs), some (.loc (L (5 + 2 * f))), o3] ∧ MR p S0 S' L { s with st := done.reverse.map (fun x => .row x f) ++ s.st }) (fun _ _ _ _ => trivial) ?_ ?_ _ _ _ ⟨[], _, rfl, rfl, h⟩
  · rintro x ys e S1 ⟨done, o3, hu, rfl, h1⟩ nx' hn'
    refine ⟨_, rfl, ?_⟩
    have hlen : done.length ≤ rs.length := by have := congrArg List.length hu; rw [List.length_reverse, List.length_append] at this; omega
    repeat' (first | tb_start | with_reducible refine fld_at h1.m0 tf_f mz_f ?_ | with_reducible refine kind_app h1.m4 ?_ | with_reducible refine mt_app h1.m4 (by rw [List.length_reverse, List.length_map, List.length_append, List.length_map, List.length_reverse]; omega) ?_ | tb_rel)
    refine hn' _ _ ⟨done ++ [x], _, by rw [hu]; simp, rfl, ?_⟩
    have := h1.push (.row x f)
    rw [List.reverse_append]
    exact this
  · rintro e S1 ⟨done, o3, hu, rfl, h1⟩
    rw [List.append_nil] at hu
    have : done.reverse = rs := by rw [← hu, List.reverse_reverse]
    rw [this] at h1
    repeat' (first | tb_start  | tb_rel)
    exact ⟨S1, Sub.refl S1, hq S1 h1⟩
end
end K06
set_option maxHeartbeats 2000000

namespace K06
open PySem Mi
section
variable {k : Nat} {ds : List D} {S : Sto} {q : Q1}

theorem ok14 (h0 : lv14 ds ≤ k) (h : sp14 ds S q noX) : wpSs T (Γ k) noX b14 (bodyEn q) (startD N14 ds) S := by
  obtain ⟨p, S0, L, s, r, v, l, c, rfl, h, hp, hr, hs, hc, hl, hq⟩ := h
  have h0 : 2 ≤ k := h0
  unfold Ms.begin at hq
  obtain ⟨rm, re⟩ := rt_mem hr.1 hr.2
  obtain ⟨o1, o2, o3, o4, o5⟩ := hp.rs _ rm
  show wpSs T (Γ k) noX b14 (bodyEn q) [_, _, _, _, _, none, none, none] S
  refine w_body ?_
  unfold b14
  repeat' (first | tb_start | with_reducible refine fld_at h.m0 tf_e mz_e ?_ | tb_rel)
  refine ite_dec (fun h1 => ?_) fun h1 => ?_
  · rw [if_pos h1] at hq
    repeat' (first | tb_start  | tb_rel)
    refine setf_at (gs := Ms.fs p L { s with en := .dry }) h.m0 tf_g mz_n (mz_pg (e := .dry)) ?_
    repeat' (first | tb_start  | tb_rel)
    exact ⟨_, Sub.refl _, hq L _ (fun _ _ => rfl) (h.ended .dry)⟩
  · rw [if_neg h1] at hq
    obtain ⟨r0, rfl⟩ := Int.eq_ofNat_of_zero_le hr.1
    rw [Int.toNat_natCast] at re
    have e2 : (p.rs.map rtD)[r0]? = some (rtD (p.rt (r0 : Int))) := by rw [List.getElem?_map, re]; rfl
    repeat' (first | tb_start | with_reducible refine fld_at h.m0 tf_e mz_e ?_ | with_reducible refine setf_at h.m0 tf_e mz_n mz_pe ?_ | tb_rel)
    have h1 := h.ticks (s.ticks - 1)
    generalize put S (L 0) _ = S1 at *
    intro a ha
    refine u18 (by omega) ha fun b S2 hb ne f1 f2 f3 => ⟨rfl, ?_⟩
    have hL : ∀ j, j < s.live → Lx L s.live a b j = L j := fun j hj => Lx_lt hj
    have xa : Lx L s.live a b (5 + 2 * s.fr.length) = a := if_pos rfl
    have h2 : MR p S0 S2 (Lx L s.live a b) { s with ticks := s.ticks - 1, fr := s.fr ++ [⟨v, []⟩] } := h1.frame hs ha hb ne f1 f2 f3
    have l5 := MR.l5 s
    have ec : cD (Lx L s.live a b) c = cD L c := by
      cases c with
      | none => rfl
      | some j => simp only [cD]; rw [hL _ (by have := hc j rfl; unfold Ms.live; omega)]
    rw [← hL 0 (by omega), ← ec]
    generalize Lx L s.live a b = L' at *
    subst xa
    repeat' (first | tb_start | with_reducible refine fld_at h2.m0 tf_a mz_a ?_ | with_reducible refine ix_tup (L2.atI_nat (j := r0) e2) ?_ | tb_rel)
    refine ⟨_, rfl, ?_⟩
    repeat' (first | tb_start | with_reducible refine fld_at h2.m0 tf_f mz_f ?_ | with_reducible refine kind_app h2.m4 ?_ | with_reducible refine mt_app h2.m4 (by rw [List.length_reverse, List.length_map]; show s.st.length < _; omega) ?_ | tb_rel)
    have h3 := h2.push (.back (p.rt (r0 : Int)).2 c l s.fr.length)
    refine mth_at h3.m0 mt_lay no_lay ?_
    repeat' (first | tb_start  | tb_rel)
    refine u13 (by omega) h3 (by have := cnts_len (p.rt (r0 : Int)).1; show (s.st.length + 1) + _ < _; omega) fun S4 h4 => ?_
    refine w_end ?_
    exact ⟨S4, Sub.refl _, hq L' S4 hL h4⟩
end
end K06
set_option maxHeartbeats 2000000

namespace K06
open PySem Mi
section
variable {k : Nat} {ds : List D} {S : Sto} {q : Q1}

theorem ok15 (h0 : lv15 ds ≤ k) (h : sp15 ds S q noX) : wpSs T (Γ k) noX b15 (bodyEn q) (startD N15 ds) S := by
  obtain ⟨p, S0, L, s, e, c, l, v, rfl, h, hc, hf, hq⟩ := h
  show wpSs T (Γ k) noX b15 (bodyEn q) [_, _, _, none, none] S
  refine w_body ?_
  unfold b15
  repeat' (first | tb_start | with_reducible refine sl_t2 ?_ | tb_rel)
  refine ⟨_, rfl, ?_⟩
  cases c with
  | none =>
    simp only [cD]
    repeat' (first | tb_start  | tb_rel)
    refine setf_at (gs := Ms.fs p L { s with en := .gave v }) h.m0 tf_g mz_n (mz_pg (e := .gave v)) ?_
    repeat' (first | tb_start  | tb_rel)
    exact ⟨_, Sub.refl _, hq _ (h.ended (.gave v))⟩
  | some j =>
    simp only [cD]
    have hj := hc j rfl
    obtain ⟨jm, je⟩ := Ms.frm_mem hj
    obtain ⟨h2, h3⟩ := h.hold hj l v
    repeat' (first | tb_start | with_reducible refine fld_at (h.fr j _ je).1 tf_f2 fi_h ?_ | with_reducible refine set_dicI h2 (hf _ jm) ?_ | tb_rel)
    exact ⟨_, Sub.refl _, hq _ h3⟩
end
end K06
set_option maxHeartbeats 2000000

namespace K06
open PySem Mi
section
variable {k : Nat} {ds : List D} {S : Sto} {q : Q1}
theorem ok16 (h0 : lv16 ds ≤ k) (h : sp16 ds S q noX) : wpSs T (Γ k) noX b16 (bodyEn q) (startD N16 ds) S := by
  obtain ⟨p, S0, L, s, B, x, v, rfl, h, hp, hw, hB, hx, hxw, hl, hq⟩ := h
  have h0 : 4 ≤ k := h0
  have stl : s.st.length < B := by have := wsum_len s.st; have := hw.b1; unfold Ms.mu at this; omega
  show wpSs T (Γ k) noX b16 (bodyEn q) [_, _, _, _, none] S
  refine w_body ?_
  unfold b16
  cases x with
  | back e c l f =>
    simp only [Pl.rd, Pl.f]
    repeat' (first | tb_start  | tb_rel)
    refine mth_at h.m0 mt_give no_give ?_
    repeat' (first | tb_start  | tb_rel)
    refine u15 (by omega) h hx.2.2.2 (fun f hf => Nat.lt_trans (hl f hf) (by decide)) fun S' h' => ?_
    refine w_end ?_
    exact ⟨S', Sub.refl _, hq L S' (fun _ _ => rfl) h'⟩
  | row r f =>
    obtain ⟨ho, hd, hf⟩ := hx
    obtain ⟨fm, fe⟩ := Ms.frm_mem hf
    have hfl := Nat.lt_trans (hl _ fm) (show 900000 < 1000000 by decide)
    have hfr := (h.fr f _ fe).1
    simp only [Pl.rd, Pl.f]
    cases r with
    | put l e =>
      rw [Row.d_put]
      obtain ⟨h2, h3⟩ := h.hold hf l v
      repeat' (first | tb_start | with_reducible refine fld_at hfr tf_f2 fi_h ?_ | with_reducible refine set_dicI h2 hfl ?_ | tb_rel)
      exact ⟨_, Sub.refl _, hq L _ (fun _ _ => rfl) h3⟩
    | read l c =>
      rw [Row.d_read]
      rw [Row.Ok] at ho
      obtain ⟨c0, rfl⟩ := Int.eq_ofNat_of_zero_le ho.2.1
      have hc : c0 < s.cells.length := by rw [hw.cells.1]; have := ho.2.2; omega
      obtain ⟨h2, h3⟩ := h.hold hf l (s.cells.getD c0 0)
      have e3 : (s.cells.map D.int)[c0]? = some (.int (s.cells.getD c0 0)) := by rw [List.getElem?_map, List.getD_eq_getElem?_getD, List.getElem?_eq_getElem hc]; rfl
      repeat' (first | tb_start | with_reducible refine fld_at hfr tf_f2 fi_h ?_ | with_reducible refine fld_at h.m0 tf_b mz_b ?_ | with_reducible refine ix_mls h.m1 (L2.atI_nat (j := c0) e3) ?_ | tb_rel)
      refine set_dicI h2 hfl ?_
      exact ⟨_, Sub.refl _, hq L _ (fun _ _ => rfl) h3⟩
    | write c e =>
      rw [Row.d_write]
      rw [Row.Ok] at ho
      obtain ⟨c0, rfl⟩ := Int.eq_ofNat_of_zero_le ho.1.1
      have hc : c0 < s.cells.length := by rw [hw.cells.1]; have := ho.1.2; omega
      repeat' (first | tb_start | with_reducible refine fld_at h.m0 tf_b mz_b ?_ | tb_rel)
      refine set_mls (j := c0) h.m1 (ixN_natB (by rw [List.length_map]; exact hc)) ?_
      exact ⟨_, Sub.refl _, hq L _ (fun _ _ => rfl) (h.write c0 v)⟩
    | call l r e =>
      rw [Row.d_call]
      rw [Row.Ok] at ho
      repeat' (first | tb_start  | tb_rel)
      refine mth_at h.m0 mt_begin no_begin ?_
      repeat' (first | tb_start  | tb_rel)
      refine u14 (c := some f) (by omega) h hp ho.2.1 hw.st (fun j e => by cases e; exact hf) (by omega) fun L' S' hL h' => ?_
      refine w_end ?_
      exact ⟨S', Sub.refl _, hq L' S' hL h'⟩
    | tell e =>
      rw [Row.d_tell]
      repeat' (first | tb_start | with_reducible refine fld_at h.m0 tf_d mz_d ?_ | with_reducible refine kind_app h.m3 ?_ | with_reducible refine mt_app h.m3 (by rw [List.length_map]; have := hw.b1; omega) ?_ | tb_rel)
      exact ⟨_, Sub.refl _, hq L _ (fun _ _ => rfl) (h.tell v)⟩
    | whn e a b =>
      rw [Row.d_whn] at hd ⊢
      rw [Row.Ok] at ho
      have la := cnts_len a
      have lb := cnts_len b
      simp only [Pl.w, Row.cnt] at hxw
      repeat' (first | tb_start  | tb_rel)
      refine mth_at h.m0 mt_lay no_lay ?_
      repeat' (first | tb_start  | tb_rel)
      refine ite_dec (fun h1 => ?_) fun h1 => ?_
      · repeat' (first | tb_start  | tb_rel)
        refine u13 (by omega) h (by omega) fun S' h' => ?_
        refine w_end ?_
        refine ⟨S', Sub.refl _, hq L S' (fun _ _ => rfl) ?_⟩
        show MR p S0 S' L (s.lay (if v = 0 then b else a) f)
        rw [if_pos h1]; exact h'
      · repeat' (first | tb_start  | tb_rel)
        refine u13 (by omega) h (by omega) fun S' h' => ?_
        refine w_end ?_
        refine ⟨S', Sub.refl _, hq L S' (fun _ _ => rfl) ?_⟩
        show MR p S0 S' L (s.lay (if v = 0 then b else a) f)
        rw [if_neg h1]; exact h'
    | look l n =>
      rw [Row.d_look]
      obtain ⟨h2, h3⟩ := h.hold hf l (Mi.hf s.notes n)
      repeat' (first | tb_start | with_reducible refine fld_at hfr tf_f2 fi_h ?_ | with_reducible refine fld_at h.m0 tf_c mz_c ?_ | with_reducible refine kind_get2 h.m2 ?_ | with_reducible refine mt_get2i h.m2 ?_ | tb_rel)
      rw [(hw.notes n).1]
      refine set_dicI h2 hfl ?_
      exact ⟨_, Sub.refl _, hq L _ (fun _ _ => rfl) h3⟩
    | note n e =>
      rw [Row.d_note]
      repeat' (first | tb_start | with_reducible refine fld_at h.m0 tf_c mz_c ?_ | with_reducible refine set_dicI h.m2 (by have := hw.b2; omega) ?_ | tb_rel)
      exact ⟨_, Sub.refl _, hq L _ (fun _ _ => rfl) (h.note n v)⟩
    | wove w ks rs =>
      rw [Row.d_wove]
      have lr := cnts_len rs
      simp only [Pl.w, Row.cnt] at hxw
      repeat' (first | tb_start  | tb_rel)
      refine mth_at h.m0 mt_lay no_lay ?_
      repeat' (first | tb_start  | tb_rel)
      refine u13 (by omega) h (by omega) fun S' h' => ?_
      refine w_end ?_
      exact ⟨S', Sub.refl _, hq L S' (fun _ _ => rfl) h'⟩
    | go l e => rw [Row.Ok] at ho; exact ho.elim
end
end K06
set_option maxHeartbeats 2000000

namespace K06
open PySem Mi
section
variable {k : Nat} {ds : List D} {S : Sto} {q : Q1}

theorem ok17 (h0 : lv17 ds ≤ k) (h : sp17 ds S q noX) : wpSs T (Γ k) noX b17 (bodyEn q) (startD N17 ds) S := by
  obtain ⟨p, S0, L, s, B, rfl, h, hp, hw, hr, hB, hq⟩ := h
  have h0 : 80 ≤ k := h0
  obtain ⟨st', y, ey, _⟩ := hw.bot hr
  obtain ⟨x, st, es⟩ : ∃ x st, s.st = x :: st := by cases hs : s.st with
    | nil => rw [hs] at ey; cases st' <;> cases ey
    | cons x st => exact ⟨x, st, rfl⟩
  obtain ⟨hy, h1⟩ := h.pop es
  obtain ⟨w1, em⟩ := hw.popped es
  have xo := hw.st x (by rw [es]; exact List.mem_cons_self)
  have l5 := MR.l5 s
  have xf : x.f < s.fr.length := by cases x <;> first | exact xo.2.2 | exact xo.2.2.1
  have xw : x.w ≤ 400000 := by have := hw.b1; omega
  have fl : ∀ f ∈ s.fr, f.h.length < 900000 := fun f hf => by have := (hw.fr f hf).2.2; omega
  obtain ⟨fm, fe⟩ := Ms.frm_mem xf
  obtain ⟨fr1, fr2⟩ := h1.fr x.f _ fe
  obtain ⟨gi, dh, _⟩ := hw.fr _ fm
  rw [Pl.d_eq] at hy
  show wpSs T (Γ k) noX b17 (bodyEn q) [_, none, none, none] S
  refine w_body ?_
  unfold b17
  repeat' (first | tb_start | with_reducible refine fld_at h.m0 tf_f mz_f ?_ | with_reducible refine kind_pop h.m4 ?_ | with_reducible refine mt_popB h.m4 hy ?_ | tb_rel)
  refine ⟨_, rfl, ?_⟩
  generalize put S (L 4) _ = S1 at *
  have fin : ∀ v, mstep p s = ({ s with st := st } : Ms).act p x v → ∀ (env : Mi.Env) (nx : Mi.Env → Sto → Prop), (∀ S', (∃ S'', Mi.Sub S'' S' ∧ q .non S'') → nx env S') → Γ k 16 [.loc (L 0), x.rd L, .loc (L (5 + 2 * x.f)), .int v] S1 (fun _ S' => nx env S') noX := fun v hm env nx hn =>
    u16 (x := x) (by omega) h1 hp w1 (by omega) xo xw fl fun L' S' hL h' => hn S' ⟨S', Sub.refl _, hq L' S' (hL 0 (by show 0 < s.live; omega)) (by rw [hm]; exact h')⟩
  have m1 := h1.m0
  cases x with
  | row r f =>
    obtain ⟨o1, o2, o3⟩ := xo
    simp only [Pl.rd, Pl.f] at *
    cases ex : r.exo with
    | none =>
      have hm : mstep p s = ({ s with st := st } : Ms).act p (.row r f) 0 := by unfold mstep; rw [es]; dsimp only; rw [ex]; rfl
      repeat' (first | tb_start | with_reducible refine ixw_of (rowB_ix0 _ _) ?_ | with_reducible refine in_kd (exatN ex) ?_ | tb_rel)
      refine mth_at m1 mt_do no_do ?_
      repeat' (first | tb_start  | tb_rel)
      exact fin 0 hm _ _ fun S' h => w_end h
    | some e =>
      obtain ⟨i, hi, he⟩ := exatB ex (fun l e z => by subst z; rw [Row.Ok] at o1; exact o1)
      have hs : (((["put", "write", "call", "tell", "when", "note", "back"] : List Str).zip [D.int 2, D.int 2, D.int 3, D.int 1, D.int 1, D.int 2, D.int 1]).lookup r.word).isSome = true := by rw [hi]; rfl
      have eo : e.Ok false 100000 := by cases r <;> first | (cases ex; done) | (simp only [Row.exo, Option.some.injEq] at ex; subst ex; rw [Row.Ok] at o1; first | exact o1 | exact o1.1 | exact o1.2 | exact o1.2.2 | exact o1.elim)
      have ed := exo_dD ex
      repeat' (first | tb_start | with_reducible refine ixw_of (rowB_ix0 _ _) ?_ | with_reducible refine in_kd hs ?_ | with_reducible refine ix_kd hi ?_ | with_reducible refine ixw_of (he _) ?_ | with_reducible refine fld_at fr1 tf_f1 fi_g ?_ | with_reducible refine fld_at fr1 tf_f2 fi_h ?_ | tb_rel)
      cases ev : s.wth f e with
      | none =>
        have hm : mstep p s = { s with st := st, en := .fault } := by unfold mstep; rw [es]; dsimp only; rw [ex]; dsimp only; rw [ev]
        refine u1N (m := 100000) (by omega) eo gi fr2 dh ev ?_
        repeat' (first | tb_start  | tb_rel)
        refine setf_at (gs := Ms.fs p L { s with st := st, en := .fault }) m1 tf_g mz_n (mz_pg (e := .fault)) ?_
        refine w_end ?_
        exact ⟨_, Sub.refl _, hq L _ rfl (by rw [hm]; exact h1.ended .fault)⟩
      | some v =>
        have hm : mstep p s = ({ s with st := st } : Ms).act p (.row r f) v := by unfold mstep; rw [es]; dsimp only; rw [ex]; dsimp only; rw [ev]; rfl
        refine u1I (m := 100000) (by omega) eo gi fr2 dh ev ?_
        repeat' (first | tb_start  | tb_rel)
        refine mth_at m1 mt_do no_do ?_
        repeat' (first | tb_start  | tb_rel)
        exact fin v hm _ _ fun S' h => w_end h
  | back e c l f =>
    obtain ⟨eo, ed, o3, o4⟩ := xo
    simp only [Pl.rd, Pl.f] at *
    repeat' (first | tb_start | with_reducible refine fld_at fr1 tf_f1 fi_g ?_ | with_reducible refine fld_at fr1 tf_f2 fi_h ?_ | tb_rel)
    cases ev : s.wth f e with
    | none =>
      have hm : mstep p s = { s with st := st, en := .fault } := by unfold mstep; rw [es]; dsimp only;  rw [ev]
      refine u1N (m := 100000) (by omega) eo gi fr2 dh ev ?_
      repeat' (first | tb_start  | tb_rel)
      refine setf_at (gs := Ms.fs p L { s with st := st, en := .fault }) m1 tf_g mz_n (mz_pg (e := .fault)) ?_
      refine w_end ?_
      exact ⟨_, Sub.refl _, hq L _ rfl (by rw [hm]; exact h1.ended .fault)⟩
    | some v =>
      have hm : mstep p s = ({ s with st := st } : Ms).act p (.back e c l f) v := by unfold mstep; rw [es]; dsimp only;  rw [ev]; rfl
      refine u1I (m := 100000) (by omega) eo gi fr2 dh ev ?_
      repeat' (first | tb_start  | tb_rel)
      refine mth_at m1 mt_do no_do ?_
      repeat' (first | tb_start  | tb_rel)
      exact fin v hm _ _ fun S' h => w_end h
end
end K06
set_option maxHeartbeats 4000000
namespace K06
open PySem Mi
theorem lawOk (ns : List Int) (hl : ns.length ≤ 63) : Γ 91 10 [.scr ns] (fun _ => none) (fun d _ => d = .bl true) noX := ⟨(show 90 < 91 by omega), by first | exact ⟨ns, rfl, hl, fun _ => rfl⟩ | exact ⟨ns, rfl, fun _ => rfl⟩⟩
end K06
namespace K06
open PySem PySem.Spec PyProof.Rows L2 Mi
section
theorem bd0 : Bod T Γ 0 d0 ["word", "one", "other"] := ⟨⟨rfl, rfl⟩, fun _ _ _ _ _ _ us hl => match us, hl with | [_, _, _], _ => rfl, ⟨c0, b0, sc0, rfl, rfl, ck0, fun k ds S q h => ok0 (Nat.lt_succ_iff.mp h.1) h.2⟩, fun k ds S q h => len0 (S := S) (q := q) h.2, fun ds S q h => absurd h.1 (Nat.not_lt_zero _)⟩
theorem bd1 : Bod T Γ 1 d1 ["expression", "given", "held"] := ⟨⟨rfl, rfl⟩, fun _ _ _ _ _ _ us hl => match us, hl with | [_, _, _], _ => rfl, ⟨c1, b1, sc1, rfl, rfl, ck1, fun k ds S q h => ok1 (Nat.lt_succ_iff.mp h.1) h.2⟩, fun k ds S q h => len1 (S := S) (q := q) h.2, fun ds S q h => absurd h.1 (Nat.not_lt_zero _)⟩
theorem bd2 : Bod T Γ 2 d2 ["program", "given", "ticks"] := ⟨⟨rfl, rfl⟩, fun _ _ _ _ _ _ us hl => match us, hl with | [_, _, _], _ => rfl, ⟨c2, b2, sc2, rfl, rfl, ck2, fun k ds S q h => ok2 (Nat.lt_succ_iff.mp h.1) h.2⟩, fun k ds S q h => len2 (S := S) (q := q) h.2, fun ds S q h => absurd h.1 (Nat.not_lt_zero _)⟩
theorem bd3 : Bod T Γ 3 d3 ["_law_script"] := ⟨⟨rfl, rfl⟩, fun _ _ _ _ _ _ us hl => match us, hl with | [_], _ => rfl, ⟨c3, b3, sc3, rfl, rfl, ck3, fun k ds S q h => ok3 (Nat.lt_succ_iff.mp h.1) h.2⟩, fun k ds S q h => len3 (S := S) (q := q) h.2, fun ds S q h => absurd h.1 (Nat.not_lt_zero _)⟩
theorem bd4 : Bod T Γ 4 d4 ["_law_feed_here", "_law_many"] := ⟨⟨rfl, rfl⟩, fun _ _ _ _ _ _ us hl => match us, hl with | [_, _], _ => rfl, ⟨c4, b4, sc4, rfl, rfl, ck4, fun k ds S q h => ok4 (Nat.lt_succ_iff.mp h.1) h.2⟩, fun k ds S q h => len4 (S := S) (q := q) h.2, fun ds S q h => absurd h.1 (Nat.not_lt_zero _)⟩
theorem bd5 : Bod T Γ 5 d5 ["_law_feed_here"] := ⟨⟨rfl, rfl⟩, fun _ _ _ _ _ _ us hl => match us, hl with | [_], _ => rfl, ⟨c5, b5, sc5, rfl, rfl, ck5, fun k ds S q h => ok5 (Nat.lt_succ_iff.mp h.1) h.2⟩, fun k ds S q h => len5 (S := S) (q := q) h.2, fun ds S q h => absurd h.1 (Nat.not_lt_zero _)⟩
theorem bd6 : Bod T Γ 6 d6 ["_law_feed_here", "_law_deep"] := ⟨⟨rfl, rfl⟩, fun _ _ _ _ _ _ us hl => match us, hl with | [_, _], _ => rfl, ⟨c6, b6, sc6, rfl, rfl, ck6, fun k ds S q h => ok6 (Nat.lt_succ_iff.mp h.1) h.2⟩, fun k ds S q h => len6 (S := S) (q := q) h.2, fun ds S q h => absurd h.1 (Nat.not_lt_zero _)⟩
theorem bd7 : Bod T Γ 7 d7 ["_law_feed_here", "_law_deep"] := ⟨⟨rfl, rfl⟩, fun _ _ _ _ _ _ us hl => match us, hl with | [_, _], _ => rfl, ⟨c7, b7, sc7, rfl, rfl, ck7, fun k ds S q h => ok7 (Nat.lt_succ_iff.mp h.1) h.2⟩, fun k ds S q h => len7 (S := S) (q := q) h.2, fun ds S q h => absurd h.1 (Nat.not_lt_zero _)⟩
theorem bd8 : Bod T Γ 8 d8 ["_law_feed_here"] := ⟨⟨rfl, rfl⟩, fun _ _ _ _ _ _ us hl => match us, hl with | [_], _ => rfl, ⟨c8, b8, sc8, rfl, rfl, ck8, fun k ds S q h => ok8 (Nat.lt_succ_iff.mp h.1) h.2⟩, fun k ds S q h => len8 (S := S) (q := q) h.2, fun ds S q h => absurd h.1 (Nat.not_lt_zero _)⟩
theorem bd9 : Bod T Γ 9 d9 ["_law_row", "_law_fault"] := ⟨⟨rfl, rfl⟩, fun _ _ _ _ _ _ us hl => match us, hl with | [_, _], _ => rfl, ⟨c9, b9, sc9, rfl, rfl, ck9, fun k ds S q h => ok9 (Nat.lt_succ_iff.mp h.1) h.2⟩, fun k ds S q h => len9 (S := S) (q := q) h.2, fun ds S q h => absurd h.1 (Nat.not_lt_zero _)⟩
theorem bd10 : Bod T Γ 10 d10 ["_law_script"] := ⟨⟨rfl, rfl⟩, fun _ _ _ _ _ _ us hl => match us, hl with | [_], _ => rfl, ⟨c10, b10, sc10, rfl, rfl, ck10, fun k ds S q h => ok10 (Nat.lt_succ_iff.mp h.1) h.2⟩, fun k ds S q h => len10 (S := S) (q := q) h.2, fun ds S q h => absurd h.1 (Nat.not_lt_zero _)⟩
theorem bd11 : Bod T Γ 11 d11 ["self", "given"] := ⟨⟨rfl, rfl⟩, fun _ _ _ _ _ _ us hl => match us, hl with | [_, _], _ => rfl, ⟨c11, b11, sc11, rfl, rfl, ck11, fun k ds S q h => ok11 (Nat.lt_succ_iff.mp h.1) h.2⟩, fun k ds S q h => len11 (S := S) (q := q) h.2, fun ds S q h => absurd h.1 (Nat.not_lt_zero _)⟩
theorem bd12 : Bod T Γ 12 d12 ["self", "program", "ticks"] := ⟨⟨rfl, rfl⟩, fun _ _ _ _ _ _ us hl => match us, hl with | [_, _, _], _ => rfl, ⟨c12, b12, sc12, rfl, rfl, ck12, fun k ds S q h => ok12 (Nat.lt_succ_iff.mp h.1) h.2⟩, fun k ds S q h => len12 (S := S) (q := q) h.2, fun ds S q h => absurd h.1 (Nat.not_lt_zero _)⟩
theorem bd13 : Bod T Γ 13 d13 ["self", "rows", "frame"] := ⟨⟨rfl, rfl⟩, fun _ _ _ _ _ _ us hl => match us, hl with | [_, _, _], _ => rfl, ⟨c13, b13, sc13, rfl, rfl, ck13, fun k ds S q h => ok13 (Nat.lt_succ_iff.mp h.1) h.2⟩, fun k ds S q h => len13 (S := S) (q := q) h.2, fun ds S q h => absurd h.1 (Nat.not_lt_zero _)⟩
theorem bd14 : Bod T Γ 14 d14 ["self", "r", "given", "caller", "local"] := ⟨⟨rfl, rfl⟩, fun _ _ _ _ _ _ us hl => match us, hl with | [_, _, _, _, _], _ => rfl, ⟨c14, b14, sc14, rfl, rfl, ck14, fun k ds S q h => ok14 (Nat.lt_succ_iff.mp h.1) h.2⟩, fun k ds S q h => len14 (S := S) (q := q) h.2, fun ds S q h => absurd h.1 (Nat.not_lt_zero _)⟩
theorem bd15 : Bod T Γ 15 d15 ["self", "row", "number"] := ⟨⟨rfl, rfl⟩, fun _ _ _ _ _ _ us hl => match us, hl with | [_, _, _], _ => rfl, ⟨c15, b15, sc15, rfl, rfl, ck15, fun k ds S q h => ok15 (Nat.lt_succ_iff.mp h.1) h.2⟩, fun k ds S q h => len15 (S := S) (q := q) h.2, fun ds S q h => absurd h.1 (Nat.not_lt_zero _)⟩
theorem bd16 : Bod T Γ 16 d16 ["self", "row", "frame", "number"] := ⟨⟨rfl, rfl⟩, fun _ _ _ _ _ _ us hl => match us, hl with | [_, _, _, _], _ => rfl, ⟨c16, b16, sc16, rfl, rfl, ck16, fun k ds S q h => ok16 (Nat.lt_succ_iff.mp h.1) h.2⟩, fun k ds S q h => len16 (S := S) (q := q) h.2, fun ds S q h => absurd h.1 (Nat.not_lt_zero _)⟩
theorem bd17 : Bod T Γ 17 d17 ["self"] := ⟨⟨rfl, rfl⟩, fun _ _ _ _ _ _ us hl => match us, hl with | [_], _ => rfl, ⟨c17, b17, sc17, rfl, rfl, ck17, fun k ds S q h => ok17 (Nat.lt_succ_iff.mp h.1) h.2⟩, fun k ds S q h => len17 (S := S) (q := q) h.2, fun ds S q h => absurd h.1 (Nat.not_lt_zero _)⟩
theorem tab (f : Nat) (x : Str) (h : T.fn[f]? = some x) : ∃ d ps, d ∈ fns ∧ d.at_ = (x, none) ∧ Bod T Γ f d ps := by
  match f, h with
  | 0, h => cases h; exact ⟨d0, _, by simp [fns], rfl, bd0⟩
  | 1, h => cases h; exact ⟨d1, _, by simp [fns], rfl, bd1⟩
  | 2, h => cases h; exact ⟨d2, _, by simp [fns], rfl, bd2⟩
  | 3, h => cases h; exact ⟨d3, _, by simp [fns], rfl, bd3⟩
  | 4, h => cases h; exact ⟨d4, _, by simp [fns], rfl, bd4⟩
  | 5, h => cases h; exact ⟨d5, _, by simp [fns], rfl, bd5⟩
  | 6, h => cases h; exact ⟨d6, _, by simp [fns], rfl, bd6⟩
  | 7, h => cases h; exact ⟨d7, _, by simp [fns], rfl, bd7⟩
  | 8, h => cases h; exact ⟨d8, _, by simp [fns], rfl, bd8⟩
  | 9, h => cases h; exact ⟨d9, _, by simp [fns], rfl, bd9⟩
  | 10, h => cases h; exact ⟨d10, _, by simp [fns], rfl, bd10⟩
  | m + 11, h =>
    rw [List.getElem?_eq_none (by show 11 ≤ m + 11; omega)] at h
    cases h
theorem tabm (m i : Nat) (nm : Str) (h : T.mt.lookup m = some (i, nm)) : ∃ d ps, d ∈ fns ∧ d.at_ = (clN T i, some nm) ∧ Bod T Γ m d ps := by
  have hm := lookup_memN h
  have hm2 : (m = 11 ∧ i = 0 ∧ nm = "__init__") ∨ (m = 12 ∧ i = 1 ∧ nm = "__init__") ∨ (m = 13 ∧ i = 1 ∧ nm = "lay") ∨ (m = 14 ∧ i = 1 ∧ nm = "begin") ∨ (m = 15 ∧ i = 1 ∧ nm = "give_back") ∨ (m = 16 ∧ i = 1 ∧ nm = "do") ∨ (m = 17 ∧ i = 1 ∧ nm = "step") := by simpa [T] using hm
  rcases hm2 with ⟨rfl, rfl, rfl⟩ | ⟨rfl, rfl, rfl⟩ | ⟨rfl, rfl, rfl⟩ | ⟨rfl, rfl, rfl⟩ | ⟨rfl, rfl, rfl⟩ | ⟨rfl, rfl, rfl⟩ | ⟨rfl, rfl, rfl⟩
  · exact ⟨d11, _, by simp [fns], rfl, bd11⟩
  · exact ⟨d12, _, by simp [fns], rfl, bd12⟩
  · exact ⟨d13, _, by simp [fns], rfl, bd13⟩
  · exact ⟨d14, _, by simp [fns], rfl, bd14⟩
  · exact ⟨d15, _, by simp [fns], rfl, bd15⟩
  · exact ⟨d16, _, by simp [fns], rfl, bd16⟩
  · exact ⟨d17, _, by simp [fns], rfl, bd17⟩
theorem tabc (i : Nat) (p : Str × Nat) (h : T.cl[i]? = some p) : ∃ j d ps, d ∈ fns ∧ d.at_ = (p.1, some ("__init__" : Str)) ∧ Bod T Γ j d ps ∧ (∀ k ds S q, Γ (k + 1) p.2 ds S q noX → Γ k j ds S q noX) ∧ ∀ ds S q, ¬ Γ 0 p.2 ds S q noX := by
  match i, h with
  | 0, h => cases h; exact ⟨11, d11, _, by simp [fns], rfl, bd11, fun k ds S q h => ⟨Nat.lt_of_succ_lt_succ (show lv11 ds + 1 < k + 1 from h.1), h.2⟩, fun ds S q h => absurd h.1 (Nat.not_lt_zero _)⟩
  | 1, h => cases h; exact ⟨12, d12, _, by simp [fns], rfl, bd12, fun k ds S q h => ⟨Nat.lt_of_succ_lt_succ (show lv12 ds + 1 < k + 1 from h.1), h.2⟩, fun ds S q h => absurd h.1 (Nat.not_lt_zero _)⟩
  | m + 2, h =>
    rw [List.getElem?_eq_none (by show 2 ≤ m + 2; omega)] at h
    cases h
theorem fact {P : Program} {w : World} {K : PySem.W.Frag} {h : Heap} {mg : Str → Option Value} {f : Addr} (X : K.In h) (G : h.Ns mainGlobals mg) (hf : mg ("law" : Str) = some (.ref f)) (c : He.SaysD fas fns K) (ex : exs K = true) (et : Mi.tabO (kds T.cst) K = Mi.tabV (kds T.cst) w) (base : Heap) : FnD P w ⟨K, clsK T K, w⟩ mg base 91 f (Γ 91 10) := by
  have F := (fns_cls (P := P) (w := w) (K := K) (base := base) (Γ := Γ) X G c (mcx_of (P := P) (w := w) (K := ⟨K, clsK T K, w⟩) rfl X G c (fasT_free T) ex et) tab tabm tabc 91).1 10 "law" rfl
  obtain ⟨a, ha, F⟩ := F
  have e := ha.symm.trans hf
  cases e
  exact F
end
end K06
open PySem PySem.W PySem.Calls PyProof.Rows
theorem PySem.Challenge.cw_wovenrows_k06_faults_and_where_holds : PySem.Challenge.rw_wovenrows_k06_faults_and_where.Holds := by
  w_on; o_law
  refine HandSHeadRun.head_any (r := OpenLaw.row PySem.Challenge.rw_wovenrows_k06_faults_and_where) (q := view (OpenLaw.row PySem.Challenge.rw_wovenrows_k06_faults_and_where).prog [17]) (H := K06.hk) (ob := K06.ob) (M := 1480) (loose := K06.loose) (d := HandSHeadRun.topDef (OpenLaw.row PySem.Challenge.rw_wovenrows_k06_faults_and_where).prog 17) (kwd := []) K06.ob_eq
    (by kernel_rfl) (fun s => by kernel_rfl) K06.run (by kernel_rfl) (by kernel_rfl) (by kernel_rfl) (by rfl) (by first | assumption | decide +kernel) (by decide +kernel) ⟨rfl, rfl, rfl, rfl, rfl, by decide +kernel⟩ ?hw ?hc
  case hw => w_witness2
  case hc =>
    refine Mi.walk_ofD (l := PySem.Challenge.rw_wovenrows_k06_faults_and_where) (n := 63) (k := 91) rfl (by decide) (by kernel_rfl) ⟨rfl, by decide, by decide⟩ ?F
    intro w mg fa h Y G hmg0
    obtain ⟨K, KX, c, ex, et⟩ := Y
    have hmg : mg ("law" : PySem.Str) = some (.ref fa) := by
      have e : (HandSHeadRun.topDef (OpenLaw.row PySem.Challenge.rw_wovenrows_k06_faults_and_where).prog 17).name = ("law" : PySem.Str) := by kernel_rfl
      rw [← e]
      exact hmg0
    exact ⟨⟨K, Mi.clsK K06.T K, w⟩, K06.Γ 91 10, KX, fun ns hl => K06.lawOk ns hl, fun base _ _ => K06.fact (P := (PySem.Challenge.rw_wovenrows_k06_faults_and_where).prog) (w := w) KX G hmg c ex et base⟩
