import PyProof.Rows.All
import Wide.All
import OpenK.AllK
import Wide.FinOn
import HandS.ForMost
import HandS.Deep
import HandS.Flow
import HandS.Style
import HandS.TupAny
import HandS.IsInst
import KE.SortData
import KE.DataMinMax
import HandS.SortInts
import HandS.DictComp
import KE.GoesMore
import PySem.Challenge.RW_shareworth_k60_whole_goods
set_option Elab.async false
set_option linter.all false
set_option maxRecDepth 100000
/-! DV: values with content, a store, what a piece of Python computes over them; each rule of HandS as one about these. -/
namespace DV
open PySem PySem.Spec PyProof.Rows L2

/-- a value by its content; lists that are never changed are content, others are places of the store -/
inductive D where
  | non
  | bl (b : Bool)
  | int (i : Int)
  | str (x : Str)
  | tup (xs : List D)
  | lst (xs : List D)
  | ref (i : Nat)
  /-- a list that is only read (the script) -/
  | fr (xs : List D)
  | rng (lo hi : Int)

mutual
def D.beq : D → D → Bool
  | .non, .non => true
  | .bl a, .bl b => a == b
  | .int a, .int b => a == b
  | .str a, .str b => decide (a = b)
  | .tup a, .tup b => D.beqL a b
  | .lst a, .lst b => D.beqL a b
  | .ref a, .ref b => a == b
  | .fr a, .fr b => D.beqL a b
  | .rng a b, .rng c d => a == c && b == d
  | _, _ => false
def D.beqL : List D → List D → Bool
  | [], [] => true
  | a :: as, b :: bs => D.beq a b && D.beqL as bs
  | _, _ => false
end
mutual
theorem D.beq_iff : ∀ a b : D, D.beq a b = true ↔ a = b
  | .non, b => by cases b <;> simp [D.beq]
  | .bl _, b => by cases b <;> simp [D.beq]
  | .int _, b => by cases b <;> simp [D.beq]
  | .str _, b => by cases b <;> simp [D.beq]
  | .tup as, b => by
    cases b with
    | tup bs => simp [D.beq, D.beqL_iff as bs]
    | _ => simp [D.beq]
  | .lst as, b => by
    cases b with
    | lst bs => simp [D.beq, D.beqL_iff as bs]
    | _ => simp [D.beq]
  | .ref _, b => by cases b <;> simp [D.beq]
  | .fr as, b => by
    cases b with
    | fr bs => simp [D.beq, D.beqL_iff as bs]
    | _ => simp [D.beq]
  | .rng _ _, b => by cases b <;> simp [D.beq]
theorem D.beqL_iff : ∀ a b : List D, D.beqL a b = true ↔ a = b
  | [], b => by cases b <;> simp [D.beqL]
  | a :: as, b => by
    cases b with
    | nil => simp [D.beqL]
    | cons b bs => simp [D.beqL, D.beq_iff a b, D.beqL_iff as bs]
end
instance : DecidableEq D := fun a b => decidable_of_iff _ (D.beq_iff a b)

/-- what stands at a place of the store -/
inductive Ob where
  | lst (xs : List D)
  | dct (kvs : List (D × D))
  | dtt (kvs : List (D × D))
  | ins (C : Addr) (fs : List (Str × D))
  deriving DecidableEq
abbrev Store := List Ob
abbrev Ev := List (Option D)

/-! ### how content lies in the abstract heap -/
/-- the places' addresses; addresses that are hidden -/
structure Wd where
  rho : List Addr
  B : Addr → Prop
def Out (w : Wd) (a : Addr) : Prop := a ∉ w.rho ∧ ¬ w.B a

mutual
inductive Rp (K : PySem.W.Frag) (w : Wd) (H : Hp) : D → V → Prop
  | non : Rp K w H .non .non
  | bl (b : Bool) : Rp K w H (.bl b) (.bl b)
  | int (i : Int) : Rp K w H (.int i) (.int i)
  | str (x : Str) : Rp K w H (.str x) (.str x)
  | tup {a : Addr} {vs : List V} {ds : List D} : Out w a → Rd H a (.tup vs) → RpL K w H ds vs → Rp K w H (.tup ds) (.ref a)
  | tupK {a : Addr} {vs : List V} {ds : List D} : SqT K (fun _ => none) a vs → RpL K w H ds vs → Rp K w H (.tup ds) (.ref a)
  | lst {a : Addr} {vs : List V} {ds : List D} : Out w a → H a = some (.lst vs) → RpL K w H ds vs → Rp K w H (.lst ds) (.ref a)
  | fr {a : Addr} {vs : List V} {ds : List D} : Out w a → Rd H a (.lst vs) → RpL K w H ds vs → Rp K w H (.fr ds) (.ref a)
  | frK {a : Addr} {vs : List V} {ds : List D} : SqL K (fun _ => none) a vs → RpL K w H ds vs → Rp K w H (.fr ds) (.ref a)
  | ref {i : Nat} {a : Addr} : w.rho[i]? = some a → Rp K w H (.ref i) (.ref a)
  | rng {a : Addr} {lo hi : Int} : Out w a → H a = some (.rng lo hi) → Rp K w H (.rng lo hi) (.ref a)
inductive RpL (K : PySem.W.Frag) (w : Wd) (H : Hp) : List D → List V → Prop
  | nil : RpL K w H [] []
  | cons {d : D} {v : V} {ds : List D} {vs : List V} : Rp K w H d v → RpL K w H ds vs → RpL K w H (d :: ds) (v :: vs)
end

section
variable {K : PySem.W.Frag} {w w' w'' : Wd} {H H' H'' : Hp} {d : D} {v : V} {ds : List D} {vs : List V}
theorem RpL.length : ∀ {ds : List D} {vs : List V}, RpL K w H ds vs → ds.length = vs.length
  | _, _, .nil => rfl
  | _, _, .cons _ t => by simp [RpL.length t]
theorem RpL.get : ∀ {ds : List D} {vs : List V} {i : Nat} {d : D}, RpL K w H ds vs → ds[i]? = some d → ∃ v, vs[i]? = some v ∧ Rp K w H d v
  | _, _, _, _, .nil, e => by simp at e
  | _, _, 0, _, .cons r _, e => by simp at e; subst e; exact ⟨_, rfl, r⟩
  | _, _, i + 1, d, .cons _ t, e => by
    obtain ⟨u, h1, h2⟩ := RpL.get (i := i) (d := d) t (by simpa using e)
    exact ⟨u, by simpa using h1, h2⟩
theorem RpL.get' : ∀ {ds : List D} {vs : List V} {i : Nat} {v : V}, RpL K w H ds vs → vs[i]? = some v → ∃ d, ds[i]? = some d ∧ Rp K w H d v
  | _, _, _, _, .nil, e => by simp at e
  | _, _, 0, _, .cons r _, e => by simp at e; subst e; exact ⟨_, rfl, r⟩
  | _, _, i + 1, d, .cons _ t, e => by
    obtain ⟨u, h1, h2⟩ := RpL.get' (i := i) (v := d) t (by simpa using e)
    exact ⟨u, by simpa using h1, h2⟩
theorem RpL.append : ∀ {ds es : List D} {vs us : List V}, RpL K w H ds vs → RpL K w H es us → RpL K w H (ds ++ es) (vs ++ us)
  | _, _, _, _, .nil, s => s
  | _, _, _, _, .cons r t, s => .cons r (RpL.append t s)
theorem RpL.take : ∀ {ds : List D} {vs : List V} (n : Nat), RpL K w H ds vs → RpL K w H (ds.take n) (vs.take n)
  | _, _, 0, _ => .nil
  | _, _, _ + 1, .nil => .nil
  | _, _, n + 1, .cons r t => .cons r (RpL.take n t)
theorem RpL.drop : ∀ {ds : List D} {vs : List V} (n : Nat), RpL K w H ds vs → RpL K w H (ds.drop n) (vs.drop n)
  | _, _, 0, r => r
  | _, _, _ + 1, .nil => .nil
  | _, _, n + 1, .cons _ t => RpL.drop n t
theorem RpL.set {d : D} {v : V} (r : Rp K w H d v) : ∀ {ds : List D} {vs : List V} (i : Nat), RpL K w H ds vs → RpL K w H (ds.set i d) (vs.set i v)
  | _, _, _, .nil => .nil
  | _, _, 0, .cons _ t => .cons r t
  | _, _, i + 1, .cons q t => .cons q (RpL.set r i t)
theorem RpL.dropLast : ∀ {ds : List D} {vs : List V}, RpL K w H ds vs → RpL K w H ds.dropLast vs.dropLast := fun {ds vs} h => by
  rw [List.dropLast_eq_take, List.dropLast_eq_take, h.length]; exact h.take _
theorem RpL.eraseIdx : ∀ {ds : List D} {vs : List V} (i : Nat), RpL K w H ds vs → RpL K w H (ds.eraseIdx i) (vs.eraseIdx i)
  | _, _, _, .nil => .nil
  | _, _, 0, .cons _ t => t
  | _, _, i + 1, .cons q t => .cons q (RpL.eraseIdx i t)
theorem RpL.reverse : ∀ {ds : List D} {vs : List V}, RpL K w H ds vs → RpL K w H ds.reverse vs.reverse
  | _, _, .nil => .nil
  | _, _, .cons r t => by
    rw [List.reverse_cons, List.reverse_cons]
    exact (RpL.reverse t).append (.cons r .nil)
theorem RpL.rep (h : RpL K w H ds vs) : ∀ k : Nat, RpL K w H (List.replicate k ds).flatten (List.replicate k vs).flatten
  | 0 => .nil
  | k + 1 => by rw [List.replicate_succ, List.replicate_succ, List.flatten_cons, List.flatten_cons]; exact h.append (RpL.rep h k)
theorem RpL.map_int {ns : List Int} : RpL K w H (ns.map D.int) (ns.map V.int) := by
  induction ns with
  | nil => exact .nil
  | cons n r ih => exact .cons (.int n) ih

theorem SqT.none_mono {a : Addr} (h : SqT K (fun _ => none) a vs) : SqT K H a vs := by
  rcases h with h | h
  · rcases h with h | ⟨_, h⟩ <;> cases h
  · exact .inr h
theorem Rp.tup_inv (r : Rp K w H (.tup ds) v) : ∃ a vs, v = .ref a ∧ SqT K H a vs ∧ RpL K w H ds vs := by
  cases r with
  | tup _ h l => exact ⟨_, _, rfl, .inl h, l⟩
  | tupK h l => exact ⟨_, _, rfl, SqT.none_mono h, l⟩
theorem Rp.lst_inv (r : Rp K w H (.lst ds) v) : ∃ a vs, v = .ref a ∧ Out w a ∧ H a = some (.lst vs) ∧ RpL K w H ds vs := by
  cases r with
  | lst o h l => exact ⟨_, _, rfl, o, h, l⟩
theorem SqL.none_mono {a : Addr} (h : SqL K (fun _ => none) a vs) : SqL K H a vs := by
  rcases h with h | h
  · rcases h with h | ⟨_, h⟩ <;> cases h
  · exact .inr h
theorem Rp.fr_inv (r : Rp K w H (.fr ds) v) : ∃ a vs, v = .ref a ∧ SqL K H a vs ∧ RpL K w H ds vs := by
  cases r with
  | fr o h l => exact ⟨_, _, rfl, .inl h, l⟩
  | frK h l => exact ⟨_, _, rfl, SqL.none_mono h, l⟩
theorem Rp.of_SqL {a : Addr} (o : ∀ u, H a = some u → Out w a) (h : SqL K H a vs) (l : RpL K w H ds vs) : Rp K w H (.fr ds) (.ref a) := by
  rcases h with h | h
  · refine .fr ?_ h l
    rcases h with h | ⟨u, h⟩
    · exact o _ h
    · exact o _ h
  · exact .frK (.inr h) l
theorem Rp.ref_inv {i : Nat} (r : Rp K w H (.ref i) v) : ∃ a, v = .ref a ∧ w.rho[i]? = some a := by
  cases r with
  | ref h => exact ⟨_, rfl, h⟩
theorem Rp.rng_inv {lo hi : Int} (r : Rp K w H (.rng lo hi) v) : ∃ a, v = .ref a ∧ H a = some (.rng lo hi) := by
  cases r with
  | rng o h => exact ⟨_, rfl, h⟩
theorem Rp.int_inv {i : Int} (r : Rp K w H (.int i) v) : v = .int i := by cases r; rfl
theorem Rp.bl_inv {b : Bool} (r : Rp K w H (.bl b) v) : v = .bl b := by cases r; rfl
theorem Rp.non_inv (r : Rp K w H .non v) : v = .non := by cases r; rfl
theorem Rp.str_inv {x : Str} (r : Rp K w H (.str x) v) : v = .str x := by cases r; rfl
theorem RpL.ints : ∀ {ns : List Int} {vs : List V}, RpL K w H (ns.map D.int) vs → vs = ns.map V.int
  | [], _, h => by cases h; rfl
  | n :: ns, _, h => by
    cases h with
    | cons r t => rw [r.int_inv, RpL.ints t]; rfl

/-- a step from one heap to a later one -/
structure Stp (w : Wd) (H : Hp) (w' : Wd) (H' : Hp) : Prop where
  B : ∀ b o, H b = some o → b ∉ w.rho → (w'.B b ↔ w.B b)
  pre : ∃ more, w'.rho = w.rho ++ more
  keep : ∀ b o, H b = some o → b ∉ w.rho → H' b = some o ∧ b ∉ w'.rho
theorem Stp.refl : Stp w H w H := ⟨fun _ _ _ _ => Iff.rfl, ⟨[], by simp⟩, fun _ _ h n => ⟨h, n⟩⟩
theorem Stp.trans (a : Stp w H w' H') (b : Stp w' H' w'' H'') : Stp w H w'' H'' :=
  ⟨fun x o h n => by obtain ⟨h1, n1⟩ := a.keep x o h n; exact (b.B x o h1 n1).trans (a.B x o h n), by obtain ⟨m1, e1⟩ := a.pre; obtain ⟨m2, e2⟩ := b.pre; exact ⟨m1 ++ m2, by rw [e2, e1, List.append_assoc]⟩,
    fun x o h n => by obtain ⟨h1, n1⟩ := a.keep x o h n; exact b.keep x o h1 n1⟩
theorem Stp.out (s : Stp w H w' H') {a : Addr} {o : HO} (h : H a = some o) (n : Out w a) : Out w' a := ⟨(s.keep a o h n.1).2, fun z => n.2 ((s.B a o h n.1).mp z)⟩
theorem Stp.rd (s : Stp w H w' H') {a : Addr} {o : HO} (h : Rd H a o) (n : Out w a) : Rd H' a o ∧ Out w' a := by
  rcases h with h | ⟨u, h⟩
  · exact ⟨.inl (s.keep _ _ h n.1).1, s.out h n⟩
  · exact ⟨.inr ⟨u, (s.keep _ _ h n.1).1⟩, s.out h n⟩
/-- the same where what is hidden may change -/
structure Wst (w : Wd) (H : Hp) (w' : Wd) (H' : Hp) : Prop where
  pre : ∃ more, w'.rho = w.rho ++ more
  back : ∀ b o, H b = some o → b ∉ w.rho → w'.B b → w.B b
  keep : ∀ b o, H b = some o → b ∉ w.rho → ¬ w.B b → H' b = some o ∧ b ∉ w'.rho
theorem Stp.toW (s : Stp w H w' H') : Wst w H w' H' := ⟨s.pre, fun b o h n => (s.B b o h n).mp, fun b o h n _ => s.keep b o h n⟩
theorem Wst.trans (a : Wst w H w' H') (b : Wst w' H' w'' H'') : Wst w H w'' H'' :=
  ⟨by obtain ⟨m1, e1⟩ := a.pre; obtain ⟨m2, e2⟩ := b.pre; exact ⟨m1 ++ m2, by rw [e2, e1, List.append_assoc]⟩,
    fun x o h n z => Classical.byContradiction fun hn => by
      obtain ⟨h1, n1⟩ := a.keep x o h n hn
      exact hn (a.back x o h n (b.back x o h1 n1 z)),
    fun x o h n hn => by
      obtain ⟨h1, n1⟩ := a.keep x o h n hn
      exact b.keep x o h1 n1 fun z => hn (a.back x o h n z)⟩
theorem Wst.out (s : Wst w H w' H') {a : Addr} {o : HO} (h : H a = some o) (n : Out w a) : Out w' a := ⟨(s.keep a o h n.1 n.2).2, fun z => n.2 (s.back a o h n.1 z)⟩
theorem Wst.rd (s : Wst w H w' H') {a : Addr} {o : HO} (h : Rd H a o) (n : Out w a) : Rd H' a o ∧ Out w' a := by
  rcases h with h | ⟨u, h⟩
  · exact ⟨.inl (s.keep _ _ h n.1 n.2).1, s.out h n⟩
  · exact ⟨.inr ⟨u, (s.keep _ _ h n.1 n.2).1⟩, s.out h n⟩
mutual
theorem Rp.monoW (s : Wst w H w' H') : ∀ {d : D} {v : V}, Rp K w H d v → Rp K w' H' d v
  | _, _, .non => .non
  | _, _, .bl b => .bl b
  | _, _, .int i => .int i
  | _, _, .str x => .str x
  | _, _, .tup o h l => .tup (s.rd h o).2 (s.rd h o).1 (RpL.monoW s l)
  | _, _, .tupK h l => .tupK h (RpL.monoW s l)
  | _, _, .lst o h l => .lst (s.out h o) (s.keep _ _ h o.1 o.2).1 (RpL.monoW s l)
  | _, _, .fr o h l => .fr (s.rd h o).2 (s.rd h o).1 (RpL.monoW s l)
  | _, _, .frK h l => .frK h (RpL.monoW s l)
  | _, _, .rng o h => .rng (s.out h o) (s.keep _ _ h o.1 o.2).1
  | _, _, .ref h => .ref (by obtain ⟨m, e⟩ := s.pre; rw [e, List.getElem?_append_left (List.getElem?_eq_some_iff.mp h).1]; exact h)
theorem RpL.monoW (s : Wst w H w' H') : ∀ {ds : List D} {vs : List V}, RpL K w H ds vs → RpL K w' H' ds vs
  | _, _, .nil => .nil
  | _, _, .cons r t => .cons (Rp.monoW s r) (RpL.monoW s t)
end
theorem Rp.mono (s : Stp w H w' H') {d : D} {v : V} (r : Rp K w H d v) : Rp K w' H' d v := r.monoW s.toW
theorem RpL.mono (s : Stp w H w' H') {ds : List D} {vs : List V} (r : RpL K w H ds vs) : RpL K w' H' ds vs := r.monoW s.toW

/-- a key of a dict -/
inductive RKey : D → Key → Prop
  | int (i : Int) : RKey (.int i) (.inl i)
  | str (x : Str) : RKey (.str x) (.inr x)
inductive RKeys : List D → List Key → Prop
  | nil : RKeys [] []
  | cons {d : D} {k : Key} {ds : List D} {ks : List Key} : RKey d k → RKeys ds ks → RKeys (d :: ds) (k :: ks)
inductive RDk (K : PySem.W.Frag) (w : Wd) (H : Hp) : List (D × D) → List (Key × V) → Prop
  | nil : RDk K w H [] []
  | cons {d e : D} {k : Key} {v : V} {ds : List (D × D)} {ks : List (Key × V)} : RKey d k → Rp K w H e v → RDk K w H ds ks → RDk K w H ((d, e) :: ds) ((k, v) :: ks)
inductive RDt (K : PySem.W.Frag) (w : Wd) (H : Hp) : List (D × D) → List (List Key × V) → Prop
  | nil : RDt K w H [] []
  | cons {t : List D} {e : D} {k : List Key} {v : V} {ds : List (D × D)} {ks : List (List Key × V)} : RKeys t k → Rp K w H e v → RDt K w H ds ks → RDt K w H ((.tup t, e) :: ds) ((k, v) :: ks)
inductive RFs (K : PySem.W.Frag) (w : Wd) (H : Hp) : List (Str × D) → List (Str × V) → Prop
  | nil : RFs K w H [] []
  | cons {f : Str} {d : D} {v : V} {ds : List (Str × D)} {vs : List (Str × V)} : Rp K w H d v → RFs K w H ds vs → RFs K w H ((f, d) :: ds) ((f, v) :: vs)
inductive RpO (K : PySem.W.Frag) (w : Wd) (H : Hp) : Ob → HO → Prop
  | lst {ds : List D} {vs : List V} : RpL K w H ds vs → RpO K w H (.lst ds) (.lst vs)
  | dK {kvs : List (D × D)} {ks : List (Key × V)} : RDk K w H kvs ks → RpO K w H (.dct kvs) (.dK ks)
  | dT {kvs : List (D × D)} {ks : List (List Key × V)} : RDt K w H kvs ks → RpO K w H (.dtt kvs) (.dT ks)
  | ins {C dx : Addr} {fs : List (Str × D)} {vs : List (Str × V)} : RFs K w H fs vs → RpO K w H (.ins C fs) (.ins C dx vs)
theorem RDk.mono (s : Stp w H w' H') : ∀ {ds : List (D × D)} {vs : List (Key × V)}, RDk K w H ds vs → RDk K w' H' ds vs
  | _, _, .nil => .nil
  | _, _, .cons k r t => .cons k (r.mono s) (RDk.mono s t)
theorem RDt.mono (s : Stp w H w' H') : ∀ {ds : List (D × D)} {vs : List (List Key × V)}, RDt K w H ds vs → RDt K w' H' ds vs
  | _, _, .nil => .nil
  | _, _, .cons k r t => .cons k (r.mono s) (RDt.mono s t)
theorem RFs.mono (s : Stp w H w' H') : ∀ {ds : List (Str × D)} {vs : List (Str × V)}, RFs K w H ds vs → RFs K w' H' ds vs
  | _, _, .nil => .nil
  | _, _, .cons r t => .cons (r.mono s) (RFs.mono s t)
theorem RpO.mono (s : Stp w H w' H') {o : Ob} {h : HO} (r : RpO K w H o h) : RpO K w' H' o h := by
  cases r with
  | lst r => exact .lst (r.mono s)
  | dK r => exact .dK (r.mono s)
  | dT r => exact .dT (r.mono s)
  | ins r => exact .ins (r.mono s)

/-- the store lies in the heap -/
structure Ok (K : PySem.W.Frag) (w : Wd) (S : Store) (H : Hp) : Prop where
  len : w.rho.length = S.length
  nd : w.rho.Nodup
  ob : ∀ (i : Nat) (a : Addr) (o : Ob), w.rho[i]? = some a → S[i]? = some o → ∃ h, H a = some h ∧ RpO K w H o h
  nb : ∀ a ∈ w.rho, ¬ w.B a
  bt : ∀ a, w.B a → ∃ o, H a = some o
variable {S S' S'' : Store}
theorem Ok.at (k : Ok K w S H) {i : Nat} {a : Addr} (h : w.rho[i]? = some a) : ∃ o h, S[i]? = some o ∧ H a = some h ∧ RpO K w H o h := by
  have hl := (List.getElem?_eq_some_iff.mp h).1
  rw [k.len] at hl
  obtain ⟨x, h1, h2⟩ := k.ob i a _ h (List.getElem?_eq_getElem hl)
  exact ⟨_, x, List.getElem?_eq_getElem hl, h1, h2⟩
theorem Ok.new (k : Ok K w S H) {p : Addr} (h : H p = none) : Out w p := by
  refine ⟨fun z => ?_, fun z => ?_⟩
  · obtain ⟨i, hi, e⟩ := List.getElem_of_mem z
    obtain ⟨o, x, _, h1, _⟩ := k.at (i := i) (a := p) (by rw [List.getElem?_eq_getElem hi, e])
    rw [h] at h1; cases h1
  · obtain ⟨o, e⟩ := k.bt p z
    rw [h] at e; cases e
/-- a new thing outside the store -/
theorem Stp.new {p : Addr} {o : HO} (h : H p = none) : Stp w H w (upd H p o) :=
  ⟨fun _ _ _ _ => Iff.rfl, ⟨[], by simp⟩, fun b u e n => ⟨by rw [upd_ne (ne_of_none e h)]; exact e, n⟩⟩
theorem Ok.laid (k : Ok K w S H) {p : Addr} {o : HO} (h : H p = none) : Ok K w S (upd H p o) where
  len := k.len
  nd := k.nd
  ob := fun i a x h1 h2 => by
    obtain ⟨u, e, r⟩ := k.ob i a x h1 h2
    exact ⟨u, by rw [upd_ne (ne_of_none e h)]; exact e, r.mono (Stp.new h)⟩
  nb := k.nb
  bt := fun a z => by
    obtain ⟨u, e⟩ := k.bt a z
    exact ⟨u, by rw [upd_ne (ne_of_none e h)]; exact e⟩
/-- a new thing in the store -/
def Wd.add (w : Wd) (p : Addr) : Wd := ⟨w.rho ++ [p], w.B⟩
theorem Stp.add {p : Addr} {o : HO} (h : H p = none) : Stp w H (w.add p) (upd H p o) :=
  ⟨fun _ _ _ _ => Iff.rfl, ⟨[p], rfl⟩, fun b u e n => ⟨by rw [upd_ne (ne_of_none e h)]; exact e, by
    show b ∉ w.rho ++ [p]
    simp only [List.mem_append, List.mem_singleton, not_or]
    exact ⟨n, ne_of_none e h⟩⟩⟩
theorem Ok.add (k : Ok K w S H) {p : Addr} {o : HO} {x : Ob} (h : H p = none) (r : RpO K w H x o) : Ok K (w.add p) (S ++ [x]) (upd H p o) where
  len := by simp [Wd.add, k.len]
  nd := by
    show (w.rho ++ [p]).Nodup
    rw [List.nodup_append]
    exact ⟨k.nd, by simp, fun a ha b hb => by
      simp only [List.mem_singleton] at hb
      subst hb
      intro e
      subst e
      exact (k.new h).1 ha⟩
  ob := fun i a y h1 h2 => by
    have h1 : (w.rho ++ [p])[i]? = some a := h1
    by_cases hi : i < S.length
    · rw [List.getElem?_append_left (by rw [k.len]; exact hi)] at h1
      rw [List.getElem?_append_left hi] at h2
      obtain ⟨u, e, q⟩ := k.ob i a y h1 h2
      exact ⟨u, by rw [upd_ne (ne_of_none e h)]; exact e, q.mono (Stp.add h)⟩
    · rw [List.getElem?_append_right (by omega)] at h2
      rw [List.getElem?_append_right (by rw [k.len]; omega)] at h1
      have e : i = S.length := by
        have := (List.getElem?_eq_some_iff.mp h2).1
        simp at this
        omega
      subst e
      simp [k.len] at h1 h2
      subst h1
      subst h2
      exact ⟨o, upd_same, r.mono (Stp.add h)⟩
  nb := fun a ha => by
    have ha : a ∈ w.rho ++ [p] := ha
    rcases List.mem_append.mp ha with z | z
    · exact k.nb a z
    · have e : a = p := by simpa using z
      subst e
      exact (k.new h).2
  bt := fun a z => by
    obtain ⟨u, e⟩ := k.bt a z
    exact ⟨u, by rw [upd_ne (ne_of_none e h)]; exact e⟩
/-- a thing of the store is changed -/
theorem Stp.put {a : Addr} {o : HO} (ha : a ∈ w.rho) : Stp w H w (upd H a o) :=
  ⟨fun _ _ _ _ => Iff.rfl, ⟨[], by simp⟩, fun b u e n => ⟨by rw [upd_ne (fun z => n (by rw [z]; exact ha))]; exact e, n⟩⟩
theorem Ok.put (k : Ok K w S H) {i : Nat} {a : Addr} {o : HO} {x : Ob} (h : w.rho[i]? = some a) (r : RpO K w H x o) : Ok K w (S.set i x) (upd H a o) where
  len := by simp [k.len]
  nd := k.nd
  ob := fun j b y h1 h2 => by
    have hm : a ∈ w.rho := List.mem_of_getElem? h
    by_cases hj : i = j
    · subst hj
      rw [h] at h1
      cases h1
      have hl := (List.getElem?_eq_some_iff.mp h).1
      rw [List.getElem?_set_self (by rw [← k.len]; exact hl)] at h2
      cases h2
      exact ⟨o, upd_same, r.mono (Stp.put hm)⟩
    · rw [List.getElem?_set_ne hj] at h2
      obtain ⟨u, e, q⟩ := k.ob j b y h1 h2
      have hba : b ≠ a := fun z => hj (by
        subst z
        obtain ⟨l1, e1⟩ := List.getElem?_eq_some_iff.mp h
        obtain ⟨l2, e2⟩ := List.getElem?_eq_some_iff.mp h1
        exact (List.getElem_inj k.nd).mp (e1.trans e2.symm))
      exact ⟨u, by rw [upd_ne hba]; exact e, q.mono (Stp.put hm)⟩
  nb := k.nb
  bt := fun b z => by
    obtain ⟨u, e⟩ := k.bt b z
    have hba : b ≠ a := fun q => k.nb a (List.mem_of_getElem? h) (q ▸ z)
    exact ⟨u, by rw [upd_ne hba]; exact e⟩

/-- the slots -/
def RpE (K : PySem.W.Frag) (w : Wd) (H : Hp) (e : Ev) (σ : L2.St) : Prop := e.length = σ.length ∧ ∀ (i : Nat) (d : D), e[i]? = some (some d) → ∃ v, σ[i]? = some (some v) ∧ Rp K w H d v
variable {e : Ev} {σ : L2.St}
theorem RpE.mono (s : Stp w H w' H') (r : RpE K w H e σ) : RpE K w' H' e σ := ⟨r.1, fun i d h => by
  obtain ⟨v, h1, h2⟩ := r.2 i d h
  exact ⟨v, h1, h2.mono s⟩⟩
theorem RpE.set {i : Nat} (r : RpE K w H e σ) (q : Rp K w H d v) : RpE K w H (e.set i (some d)) (σ.set i (some v)) := ⟨by simp [r.1], fun j x h => by
  by_cases hj : i = j
  · subst hj
    by_cases hl : i < e.length
    · rw [List.getElem?_set_self hl] at h
      cases h
      exact ⟨v, by rw [List.getElem?_set_self (by rw [← r.1]; exact hl)], q⟩
    · rw [List.getElem?_eq_none (by simpa using hl)] at h; cases h
  · rw [List.getElem?_set_ne hj] at h
    rw [List.getElem?_set_ne hj]
    exact r.2 j x h⟩
theorem RpE.forget {i : Nat} (r : RpE K w H e σ) : RpE K w H (e.set i none) (σ.set i none) := ⟨by simp [r.1], fun j x h => by
  by_cases hj : i = j
  · subst hj
    by_cases hl : i < e.length
    · rw [List.getElem?_set_self hl] at h
      cases h
    · rw [List.getElem?_eq_none (by simpa using hl)] at h; cases h
  · rw [List.getElem?_set_ne hj] at h
    rw [List.getElem?_set_ne hj]
    exact r.2 j x h⟩
end

/-! ### the judgements -/
abbrev ME := Ev → Store → Option (D × Store)
abbrev MT := Ev → Store → Option (Bool × Store)
abbrev ML := Ev → Store → Option (List D × Store)
def tD (K : PySem.W.Frag) (m : ME) : TE := fun σ H Q => ∃ w e S d S', RpE K w H e σ ∧ Ok K w S H ∧ m e S = some (d, S') ∧ ∀ w' H' v, Stp w H w' H' → Ok K w' S' H' → Rp K w' H' d v → Q v H'
def tB (K : PySem.W.Frag) (m : MT) : TT := fun σ H Q => ∃ w e S b S', RpE K w H e σ ∧ Ok K w S H ∧ m e S = some (b, S') ∧ ∀ w' H', Stp w H w' H' → Ok K w' S' H' → Q b H'
def tL (K : PySem.W.Frag) (m : ML) : TA := fun σ H Q => ∃ w e S ds S', RpE K w H e σ ∧ Ok K w S H ∧ m e S = some (ds, S') ∧ ∀ w' H' vs, Stp w H w' H' → Ok K w' S' H' → RpL K w' H' ds vs → Q vs H'
/-- a new list that nobody else holds -/
def tF (K : PySem.W.Frag) (m : ML) : TE := fun σ H Q => ∃ w e S ds S', RpE K w H e σ ∧ Ok K w S H ∧ m e S = some (ds, S') ∧ ∀ w' H' p vs, Stp w H w' H' → Ok K w' S' H' → H' p = none → RpL K w' H' ds vs → Q (.ref p) (upd H' p (.lst vs))
abbrev AE (X : Cx) (e : Expr) (m : ME) : Prop := PE X e (tD X.K m)
abbrev AT (X : Cx) (e : Expr) (m : MT) : Prop := PT X e (tB X.K m)
abbrev AW (X : Cx) (e : Expr) (m : MT) : Prop := PW X e (tB X.K m)
abbrev AA (X : Cx) (es : List Expr) (m : ML) : Prop := PA X es (tL X.K m)
abbrev AF (X : Cx) (e : Expr) (m : ML) : Prop := PE X e (tF X.K m)

inductive Fl where
  | nx (e : Ev)
  | rt (d : D)
  | bk (e : Ev)
  | ct (e : Ev)
abbrev MS := Ev → Store → Option (Fl × Store)
def FlOk (K : PySem.W.Frag) (D : Ends) (w : Wd) (H : Hp) : Fl → Prop
  | .nx e => ∀ σ, RpE K w H e σ → D.nx σ H
  | .rt d => ∀ v, Rp K w H d v → D.rt v H
  | .bk e => ∀ σ, RpE K w H e σ → D.bk σ H
  | .ct e => ∀ σ, RpE K w H e σ → D.ct σ H
def tS (K : PySem.W.Frag) (m : MS) : TS := fun D σ H => ∃ w e S f S', RpE K w H e σ ∧ Ok K w S H ∧ m e S = some (f, S') ∧ ∀ w' H', Stp w H w' H' → Ok K w' S' H' → FlOk K D w' H' f
abbrev AS (X : Cx) (st : Stmt) (m : MS) : Prop := PS X st (tS X.K m)
abbrev ASs (X : Cx) (st : List Stmt) (m : MS) : Prop := PSs X st (tS X.K m)

theorem PE.imp {X : Cx} {e : Expr} {t t' : TE} (h : PE X e t) (i : ∀ σ H Q, t' σ H Q → t σ H Q) : PE X e t' := ⟨fun pins s σ H Q I q => h.run pins s σ H Q I (i σ H Q q)⟩
theorem PT.imp {X : Cx} {e : Expr} {t t' : TT} (h : PT X e t) (i : ∀ σ H Q, t' σ H Q → t σ H Q) : PT X e t' := ⟨fun pins s σ H Q I q => h.run pins s σ H Q I (i σ H Q q)⟩
theorem PW.imp {X : Cx} {e : Expr} {t t' : TT} (h : PW X e t) (i : ∀ σ H Q, t' σ H Q → t σ H Q) : PW X e t' := ⟨fun u pins s σ H Q I q => h.run u pins s σ H Q I (i σ H Q q)⟩
theorem PA.imp {X : Cx} {e : List Expr} {t t' : TA} (h : PA X e t) (i : ∀ σ H Q, t' σ H Q → t σ H Q) : PA X e t' := ⟨fun u pins s σ H Q I q => h.run u pins s σ H Q I (i σ H Q q)⟩
theorem PS.imp {X : Cx} {st : Stmt} {t t' : TS} (h : PS X st t) (i : ∀ D σ H, t' D σ H → t D σ H) : PS X st t' := ⟨fun pins s σ H D I q => h.run pins s σ H D I (i D σ H q)⟩
theorem PSs.imp {X : Cx} {st : List Stmt} {t t' : TS} (h : PSs X st t) (i : ∀ D σ H, t' D σ H → t D σ H) : PSs X st t' := ⟨fun pins s σ H D I q => h.run pins s σ H D I (i D σ H q)⟩
theorem PI.imp {X : Cx} {tg it : Expr} {t t' : TI} (h : PI X tg it t) (i : ∀ σ H R, t' σ H R → t σ H R) : PI X tg it t' := ⟨fun pins s σ H R I q => h.run pins s σ H R I (i σ H R q)⟩

/-! ### expressions -/
section
variable {X : Cx} {pos : Pos}
def mV (i : Nat) : ME := fun e S => match e[i]? with
  | some (some d) => some (d, S)
  | _ => none
def mC (d : D) : ME := fun _ S => some (d, S)
theorem ae_var {i : Nat} {x : Str} (h : PE X (.Name x pos) (tVar i)) : AE X (.Name x pos) (mV i) := PE.imp h fun σ H Q ⟨w, e, S, d, S', r, k, hm, q⟩ => by
  unfold mV at hm
  split at hm
  · rename_i d' he
    cases hm
    obtain ⟨v, h1, h2⟩ := r.2 i d he
    exact ⟨v, h1, q w H v .refl k h2⟩
  · cases hm
theorem av (i : Nat) {x : Str} (hN : X.N[i]? = some x := by rfl) (hv : Vis X.env.scope x := by first | exact Or.inl rfl | exact Or.inr (Or.inl rfl) | exact Or.inr (Or.inr rfl)) (hd : (x == ("__debug__" : Str)) = false := by decide)
    (hcd : (x == ("__classdict__" : Str)) = false := by decide) : AE X (.Name x pos) (mV i) := ae_var (pe_var hN hv hd hcd)
theorem ae_const {e : Expr} {d : D} {v : V} (h : PE X e (tC v)) (r : ∀ w H, Rp X.K w H d v) : AE X e (mC d) := PE.imp h fun σ H Q ⟨w, e, S, d', S', _, k, hm, q⟩ => by
  cases hm
  exact q w H v .refl k (r w H)
theorem ae_int {i j} : AE X (.Constant (.int i) j pos) (mC (.int i)) := ae_const pe_int fun _ _ => .int i
theorem ae_bl {b j} : AE X (.Constant (.bool b) j pos) (mC (.bl b)) := ae_const pe_bl fun _ _ => .bl b
theorem ae_non {j} : AE X (.Constant .none j pos) (mC .non) := ae_const pe_non fun _ _ => .non
theorem ae_str {x j} : AE X (.Constant (.str x) j pos) (mC (.str x)) := ae_const pe_str fun _ _ => .str x

/-- two in a row -/
def mBin (f : D → D → Store → Option (D × Store)) (ma mb : ME) : ME := fun e S => (ma e S).bind fun (a, S1) => (mb e S1).bind fun (b, S2) => f a b S2
/-- an operator by values does what f says -/
def OpS (K : PySem.W.Frag) (r : R2) (f : D → D → Store → Option (D × Store)) : Prop := ∀ (w : Wd) (S : Store) (H : Hp) (a b d : D) (x y : V) (S' : Store) (Q : VK), Ok K w S H → Rp K w H a x → Rp K w H b y → f a b S = some (d, S') →
  (∀ w' H' v, Stp w H w' H' → Ok K w' S' H' → Rp K w' H' d v → Q v H') → r x y H Q
theorem bin_imp {K : PySem.W.Frag} {r : R2} {f : D → D → Store → Option (D × Store)} {ma mb : ME} (h : OpS K r f) {σ : L2.St} {H : Hp} {Q : VK} (q : tD K (mBin f ma mb) σ H Q) : tOp r (tD K ma) (tD K mb) σ H Q := by
  obtain ⟨w, e, S, d, S', re, k, hm, q⟩ := q
  unfold mBin at hm
  obtain ⟨⟨a, S1⟩, h1, hm⟩ := Option.bind_eq_some_iff.mp hm
  obtain ⟨⟨b, S2⟩, h2, hm⟩ := Option.bind_eq_some_iff.mp hm
  refine ⟨w, e, S, a, S1, re, k, h1, fun w1 H1 x s1 k1 ra => ⟨w1, e, S1, b, S2, re.mono s1, k1, h2, fun w2 H2 y s2 k2 rb => ?_⟩⟩
  exact h w2 S2 H2 a b d x y S' Q k2 (ra.mono s2) rb hm fun w' H' v s3 k3 rd => q w' H' v ((s1.trans s2).trans s3) k3 rd
theorem ae_op {a b : Expr} {op : Operator} {r : R2} {f : D → D → Store → Option (D × Store)} {ma mb : ME} (ho : OpR X (binaryOp op) r) (h : OpS X.K r f) (ha : AE X a ma) (hb : AE X b mb) : AE X (.BinOp a op b pos) (mBin f ma mb) :=
  PE.imp (pe_op ho ha hb) fun _ _ _ => bin_imp h
theorem ae_cmp {a b : Expr} {op : CmpOp} {r : R2} {f : D → D → Store → Option (D × Store)} {ma mb : ME} (ho : OpR X (compareOp op) r) (h : OpS X.K r f) (ha : AE X a ma) (hb : AE X b mb) (hm : behindInMarks op b = false) : AE X (.Compare a [op] [b] pos) (mBin f ma mb) :=
  PE.imp (pe_cmpR ho ha hb hm) fun _ _ _ => bin_imp h
theorem ae_ix {a b : Expr} {r : R2} {f : D → D → Store → Option (D × Store)} {ma mb : ME} (ho : IxR X r) (h : OpS X.K r f) (ha : AE X a ma) (hb : AE X b mb) (hs : PlainIx b) : AE X (.Subscript a b pos) (mBin f ma mb) :=
  PE.imp (pe_ix ho ha hb hs) fun _ _ _ => bin_imp h
theorem OpS.or {K : PySem.W.Frag} {r r' : R2} {f g : D → D → Store → Option (D × Store)} (h : OpS K r f) (h' : OpS K r' g) : OpS K (fun x y H Q => r x y H Q ∨ r' x y H Q) fun a b S => (f a b S).or (g a b S) := fun w S H a b d x y S' Q k ra rb hm q => by
  have hm : (f a b S).or (g a b S) = some (d, S') := hm
  cases hf : f a b S with
  | some z =>
    rw [hf] at hm
    have hm : z = (d, S') := by simpa using hm
    exact .inl (h w S H a b d x y S' Q k ra rb (hf.trans (congrArg some hm)) q)
  | none =>
    rw [hf] at hm
    exact .inr (h' w S H a b d x y S' Q k ra rb (by simpa using hm) q)
/-- a value as a test -/
def mTV (m : ME) : MT := fun e S => (m e S).bind fun (d, S1) => match d with
  | .bl b => some (b, S1)
  | _ => none
theorem at_val {e : Expr} {m : ME} (h : AE X e m) (he : ∀ whole, isTrue e X.env whole = (do let v ← whole; standAt e.pos; holding [v] (truthy v)) := by intro _; rfl) : AT X e (mTV m) :=
  PT.imp (pt_val h he) fun σ H Q ⟨w, e, S, b, S', re, k, hm, q⟩ => by
    unfold mTV at hm
    obtain ⟨⟨d, S1⟩, h1, hm⟩ := Option.bind_eq_some_iff.mp hm
    simp only at hm
    split at hm
    · cases hm
      exact ⟨w, e, S, _, _, re, k, h1, fun w' H' v s' k' r' => ⟨_, r'.bl_inv, q w' H' s' k'⟩⟩
    · cases hm
theorem tTest_imp {K : PySem.W.Frag} {m : ME} {σ : L2.St} {H : Hp} {Q : Bool → Hp → Prop} (h : tB K (mTV m) σ H Q) : tTest (tD K m) σ H Q := by
  obtain ⟨w, e, S, b, S', re, k, hm, q⟩ := h
  unfold mTV at hm
  obtain ⟨⟨d, S1⟩, h1, hm⟩ := Option.bind_eq_some_iff.mp hm
  simp only at hm
  split at hm
  · cases hm
    exact ⟨w, e, S, _, _, re, k, h1, fun w' H' v s' k' r' => ⟨_, r'.bl_inv, q w' H' s' k'⟩⟩
  · cases hm
theorem at_cmp {a b : Expr} {op : CmpOp} {r : R2} {f : D → D → Store → Option (D × Store)} {ma mb : ME} (ho : OpR X (compareOp op) r) (h : OpS X.K r f) (ha : AE X a ma) (hb : AE X b mb) (hm : behindInMarks op b = false) : AT X (.Compare a [op] [b] pos) (mTV (mBin f ma mb)) :=
  PT.imp (pt_cmpR ho ha hb hm) fun σ H Q q => by
    obtain ⟨w, e, S, b, S', re, k, hm, q⟩ := tTest_imp (K := X.K) q
    exact bin_imp h ⟨w, e, S, b, S', re, k, hm, q⟩
end
end DV

namespace DV
open PySem PySem.Spec PyProof.Rows L2

abbrev LIM : Nat := 16777216
theorem lim_eq : sizeLine = LIM := sizeLine_eq
/-- the items of a list or tuple -/
def seqOf : D → Store → Option (List D)
  | .tup xs, _ => some xs
  | .lst xs, _ => some xs
  | .fr xs, _ => some xs
  | .ref i, S => match S[i]? with
    | some (.lst xs) => some xs
    | _ => none
  | _, _ => none
section
variable {K : PySem.W.Frag} {w w' : Wd} {H H' : Hp} {S S' : Store} {d : D} {v : V} {ds : List D}
theorem Ok.lst (k : Ok K w S H) {i : Nat} {a : Addr} {ds : List D} (h : w.rho[i]? = some a) (hs : S[i]? = some (.lst ds)) : ∃ vs, H a = some (.lst vs) ∧ RpL K w H ds vs := by
  obtain ⟨x, h1, h2⟩ := k.ob i a _ h hs
  cases h2 with
  | lst r => exact ⟨_, h1, r⟩
theorem seq_rd (k : Ok K w S H) (r : Rp K w H d v) (h : seqOf d S = some ds) : ∃ a vs, v = .ref a ∧ (SqL K H a vs ∨ SqT K H a vs) ∧ RpL K w H ds vs := by
  unfold seqOf at h
  split at h
  · cases h
    obtain ⟨a, vs, e, h1, h2⟩ := r.tup_inv
    exact ⟨a, vs, e, .inr h1, h2⟩
  · cases h
    obtain ⟨a, vs, e, _, h1, h2⟩ := r.lst_inv
    exact ⟨a, vs, e, .inl (.of h1), h2⟩
  · cases h
    obtain ⟨a, vs, e, h1, h2⟩ := r.fr_inv
    exact ⟨a, vs, e, .inl h1, h2⟩
  · split at h
    · cases h
      obtain ⟨a, e, h1⟩ := r.ref_inv
      obtain ⟨vs, h2, h3⟩ := k.lst h1 (by assumption)
      exact ⟨a, vs, e, .inl (.of h2), h3⟩
    · cases h
  · cases h
/-- lists alone -/
def lstOf : D → Store → Option (List D)
  | .lst xs, _ => some xs
  | .fr xs, _ => some xs
  | .ref i, S => match S[i]? with
    | some (.lst xs) => some xs
    | _ => none
  | _, _ => none
theorem lst_rd (k : Ok K w S H) (r : Rp K w H d v) (h : lstOf d S = some ds) : ∃ a vs, v = .ref a ∧ SqL K H a vs ∧ RpL K w H ds vs := by
  unfold lstOf at h
  split at h
  · cases h
    obtain ⟨a, vs, e, _, h1, h2⟩ := r.lst_inv
    exact ⟨a, vs, e, .of h1, h2⟩
  · cases h
    obtain ⟨a, vs, e, h1, h2⟩ := r.fr_inv
    exact ⟨a, vs, e, h1, h2⟩
  · split at h
    · cases h
      obtain ⟨a, e, h1⟩ := r.ref_inv
      obtain ⟨vs, h2, h3⟩ := k.lst h1 (by assumption)
      exact ⟨a, vs, e, .of h2, h3⟩
    · cases h
  · cases h
/-- .. tracked ones -/
def lstTr : D → Store → Option (List D)
  | .lst xs, _ => some xs
  | .ref i, S => match S[i]? with
    | some (.lst xs) => some xs
    | _ => none
  | _, _ => none
theorem lst_tr (k : Ok K w S H) (r : Rp K w H d v) (h : lstTr d S = some ds) : ∃ a vs, v = .ref a ∧ H a = some (.lst vs) ∧ RpL K w H ds vs := by
  unfold lstTr at h
  split at h
  · cases h
    obtain ⟨a, vs, e, _, h1, h2⟩ := r.lst_inv
    exact ⟨a, vs, e, h1, h2⟩
  · split at h
    · cases h
      obtain ⟨a, e, h1⟩ := r.ref_inv
      obtain ⟨vs, h2, h3⟩ := k.lst h1 (by assumption)
      exact ⟨a, vs, e, h2, h3⟩
    · cases h
  · cases h
/-- the same value goes on -/
def Post (K : PySem.W.Frag) (w : Wd) (H : Hp) (S' : Store) (d : D) (Q : VK) : Prop := ∀ w' H' v, Stp w H w' H' → Ok K w' S' H' → Rp K w' H' d v → Q v H'
theorem Post.here {Q : VK} (q : Post K w H S d Q) (k : Ok K w S H) (r : Rp K w H d v) : Q v H := q w H v .refl k r
theorem Post.newT {Q : VK} {ds : List D} (q : Post K w H S (.tup ds) Q) (k : Ok K w S H) {p : Addr} {vs : List V} (hp : H p = none) (r : RpL K w H ds vs) : Q (.ref p) (upd H p (.tup vs)) :=
  q w _ _ (.new hp) (k.laid hp) (.tup (k.new hp) (.inl upd_same) (r.mono (.new hp)))
theorem Post.newL {Q : VK} {ds : List D} (q : Post K w H S (.lst ds) Q) (k : Ok K w S H) {p : Addr} {vs : List V} (hp : H p = none) (r : RpL K w H ds vs) : Q (.ref p) (upd H p (.lst vs)) :=
  q w _ _ (.new hp) (k.laid hp) (.lst (k.new hp) upd_same (r.mono (.new hp)))
theorem Post.addL {Q : VK} {ds : List D} (q : Post K w H (S ++ [.lst ds]) (.ref S.length) Q) (k : Ok K w S H) {p : Addr} {vs : List V} (hp : H p = none) (r : RpL K w H ds vs) : Q (.ref p) (upd H p (.lst vs)) :=
  q _ _ _ (.add hp) (k.add hp (.lst r)) (.ref (by
    show (w.rho ++ [p])[S.length]? = some p
    rw [← k.len, List.getElem?_append_right (Nat.le_refl _)]
    simp))
end

/-! ### operators -/
section
variable {X : Cx} {K : PySem.W.Frag}
def fAdd : D → D → Store → Option (D × Store)
  | .int i, .int j, S => some (.int (i + j), S)
  | .tup a, .tup b, S => if a.length + b.length ≤ LIM then some (.tup (a ++ b), S) else none
  | .str a, .str b, S => if a.length + b.length ≤ LIM then some (.str (a ++ b), S) else none
  | a, b, S => (lstTr a S).bind fun xs => (lstTr b S).bind fun ys => if xs.length + ys.length ≤ LIM then some (.lst (xs ++ ys), S) else none
theorem opS_add : ∃ r, OpR X (binaryOp .Add) r ∧ OpS X.K r fAdd := by
  refine ⟨_, op_add.or (op_catA.or (op_add_str.or op_cat)), ?_⟩
  intro w S H a b d x y S' Q k ra rb hm q
  unfold fAdd at hm
  split at hm
  · cases hm
    exact .inl ⟨_, _, ra.int_inv, rb.int_inv, q w H _ .refl k (.int _)⟩
  · split at hm
    · cases hm
      rename_i hz
      obtain ⟨p, vs, e1, h1, r1⟩ := ra.tup_inv
      obtain ⟨p2, us, e2, h2, r2⟩ := rb.tup_inv
      subst e1 e2
      refine .inr (.inl ⟨p, p2, vs, us, rfl, rfl, h1, h2, by rw [lim_eq, ← r1.length, ← r2.length]; exact hz, fun e => ?_, fun _ e => ?_, fun _ _ z hz => ?_⟩)
      · subst e
        cases r1
        exact q w H _ .refl k rb
      · subst e
        cases r2
        rw [List.append_nil] at q
        exact q w H _ .refl k ra
      · exact Post.newT q k hz (r1.append r2)
    · cases hm
  · split at hm
    · cases hm
      rename_i hz
      exact .inr (.inr (.inl ⟨_, _, ra.str_inv, rb.str_inv, by rw [lim_eq]; exact hz, q w H _ .refl k (.str _)⟩))
    · cases hm
  · obtain ⟨xs, h1, hm⟩ := Option.bind_eq_some_iff.mp hm
    obtain ⟨ys, h2, hm⟩ := Option.bind_eq_some_iff.mp hm
    split at hm
    · cases hm
      rename_i hz
      obtain ⟨p, vs, e1, h1, r1⟩ := lst_tr k ra h1
      obtain ⟨p2, us, e2, h2, r2⟩ := lst_tr k rb h2
      refine .inr (.inr (.inr ⟨p, p2, vs, us, e1, e2, h1, h2, by rw [lim_eq, ← r1.length, ← r2.length]; assumption, fun z hz => ?_⟩))
      exact Post.newL q k hz (r1.append r2)
    · cases hm
def fSub : D → D → Store → Option (D × Store)
  | .int i, .int j, S => some (.int (i - j), S)
  | _, _, _ => none
theorem opS_sub : ∃ r, OpR X (binaryOp .Sub) r ∧ OpS X.K r fSub := ⟨_, op_sub, by
  intro w S H a b d x y S' Q k ra rb hm q
  unfold fSub at hm
  split at hm
  · cases hm
    exact ⟨_, _, ra.int_inv, rb.int_inv, q w H _ .refl k (.int _)⟩
  · cases hm⟩
abbrev I64 (i : Int) : Prop := -(2 ^ 64) < i ∧ i < 2 ^ 64
def fMul : D → D → Store → Option (D × Store)
  | .int i, .int j, S => if I64 i ∨ I64 j then some (.int (i * j), S) else none
  | a, .int j, S => (lstTr a S).bind fun xs => if -(2 ^ 63) ≤ j ∧ j < 2 ^ 63 ∧ xs.length * j.toNat ≤ LIM then some (.lst (List.replicate j.toNat xs).flatten, S) else none
  | _, _, _ => none
theorem opS_mul : ∃ r, OpR X (binaryOp .Mult) r ∧ OpS X.K r fMul := by
  refine ⟨_, op_mul.or op_rep, ?_⟩
  intro w S H a b d x y S' Q k ra rb hm q
  unfold fMul at hm
  split at hm
  · split at hm
    · cases hm
      rename_i hz
      exact .inl ⟨_, _, ra.int_inv, rb.int_inv, hz, q w H _ .refl k (.int _)⟩
    · cases hm
  · obtain ⟨xs, h1, hm⟩ := Option.bind_eq_some_iff.mp hm
    split at hm
    · cases hm
      rename_i hz
      obtain ⟨p, vs, e1, h1, r1⟩ := lst_tr k ra h1
      refine .inr ⟨p, _, vs, e1, rb.int_inv, h1, hz.1, hz.2.1, by rw [lim_eq, ← r1.length]; exact hz.2.2, fun z hz => ?_⟩
      exact Post.newL q k hz (r1.rep _)
    · cases hm
  · cases hm
def fMod : D → D → Store → Option (D × Store)
  | .int i, .int j, S => if 0 < j then some (.int (i % j), S) else none
  | _, _, _ => none
theorem opS_mod : ∃ r, OpR X (binaryOp .Mod) r ∧ OpS X.K r fMod := ⟨_, op_mod, by
  intro w S H a b d x y S' Q k ra rb hm q
  unfold fMod at hm
  split at hm
  · split at hm
    · cases hm
      exact ⟨_, _, ra.int_inv, rb.int_inv, by assumption, q w H _ .refl k (.int _)⟩
    · cases hm
  · cases hm⟩
def fDiv : D → D → Store → Option (D × Store)
  | .int i, .int j, S => if 0 < j ∧ j < 1073741824 then some (.int (i / j), S) else none
  | _, _, _ => none
theorem opS_div : ∃ r, OpR X (binaryOp .FloorDiv) r ∧ OpS X.K r fDiv := ⟨_, op_fdiv, by
  intro w S H a b d x y S' Q k ra rb hm q
  unfold fDiv at hm
  split at hm
  · split at hm
    · cases hm
      exact ⟨_, _, ra.int_inv, rb.int_inv, by assumption, q w H _ .refl k (.int _)⟩
    · cases hm
  · cases hm⟩
def fPow : D → D → Store → Option (D × Store)
  | .int i, .int j, S => if 0 ≤ j ∧ j ≤ 1000000 ∧ i.natAbs < 2 ^ 64 then some (.int (i ^ j.toNat), S) else none
  | _, _, _ => none
theorem opS_pow : ∃ r, OpR X (binaryOp .Pow) r ∧ OpS X.K r fPow := ⟨_, op_pow, by
  intro w S H a b d x y S' Q k ra rb hm q
  unfold fPow at hm
  split at hm
  · split at hm
    · cases hm
      exact ⟨_, _, ra.int_inv, rb.int_inv, by assumption, q w H _ .refl k (.int _)⟩
    · cases hm
  · cases hm⟩
/-- an operator of two ints that gives a bool -/
def fII (p : Int → Int → Bool) : D → D → Store → Option (D × Store)
  | .int i, .int j, S => some (.bl (p i j), S)
  | _, _, _ => none
theorem fII_s (p : Int → Int → Bool) : OpS K (rI0 fun i j => .bl (p i j)) (fII p) := by
  intro w S H a b d x y S' Q k ra rb hm q
  unfold fII at hm
  split at hm
  · cases hm
    exact ⟨_, _, ra.int_inv, rb.int_inv, q w H _ .refl k (.bl _)⟩
  · cases hm
abbrev fLt := fII fun i j => decide (i < j)
abbrev fLe := fII fun i j => decide (i ≤ j)
abbrev fGt := fII fun i j => decide (j < i)
abbrev fGe := fII fun i j => decide (j ≤ i)
/-- x is None -/
def fIsN : D → D → Store → Option (D × Store)
  | .non, .non, S => some (.bl true, S)
  | .bl _, .non, S | .int _, .non, S | .str _, .non, S | .tup _, .non, S | .lst _, .non, S | .ref _, .non, S => some (.bl false, S)
  | .bl a, .bl b, S => some (.bl (decide (a = b)), S)
  | _, _, _ => none
theorem isN_aux {w : Wd} {H : Hp} {a : D} {x : V} (r : Rp K w H a x) (h : a ≠ .non) : decide (x = V.non) = false := by
  apply decide_eq_false
  rintro rfl
  cases r
  exact h rfl
theorem fIsN_s : OpS K (fun x y H Q => (y = .non ∧ Q (.bl (decide (x = .non))) H) ∨ rIsB x y H Q) fIsN := by
  intro w S H a b d x y S' Q k ra rb hm q
  unfold fIsN at hm
  split at hm
  all_goals first
    | cases hm; done
    | (cases hm; rw [rb.non_inv]; refine .inl ⟨rfl, ?_⟩; first | (rw [isN_aux ra (by simp)]; exact q w H _ .refl k (.bl _)) | (rw [ra.non_inv]; exact q w H _ .refl k (.bl _)))
    | (cases hm; exact .inr ⟨_, _, ra.bl_inv, rb.bl_inv, q w H _ .refl k (.bl _)⟩)
def fNotN : D → D → Store → Option (D × Store) := fun a b S => (fIsN a b S).bind fun (d, S) => match d with
  | .bl k => some (.bl (!k), S)
  | _ => none
theorem fNotN_s : OpS K (fun x y H Q => (y = .non ∧ Q (.bl (!decide (x = .non))) H) ∨ rNotB x y H Q) fNotN := by
  intro w S H a b d x y S' Q k ra rb hm q
  unfold fNotN at hm
  obtain ⟨⟨d1, S1⟩, h1, hm⟩ := Option.bind_eq_some_iff.mp hm
  simp only at hm
  split at hm
  · cases hm
    unfold fIsN at h1
    split at h1
    all_goals first
      | cases h1; done
      | (cases h1; rw [rb.non_inv]; refine .inl ⟨rfl, ?_⟩; first | (rw [isN_aux ra (by simp)]; exact q w H _ .refl k (.bl _)) | (rw [ra.non_inv]; exact q w H _ .refl k (.bl _)))
      | (cases h1; exact .inr ⟨_, _, ra.bl_inv, rb.bl_inv, q w H _ .refl k (.bl _)⟩)
  · cases hm
end
end DV

namespace DV
open PySem PySem.Spec PyProof.Rows L2

/-! ### content as data; equality -/
mutual
def D.py : D → PyData
  | .non => .none
  | .bl b => .bool b
  | .int i => .int i
  | .str x => .str x
  | .tup xs => .tuple (D.pyL xs)
  | .lst xs => .list (D.pyL xs)
  | _ => .none
def D.pyL : List D → List PyData
  | [] => []
  | x :: xs => D.py x :: D.pyL xs
end
theorem D.pyL_map : ∀ xs : List D, D.pyL xs = xs.map D.py
  | [] => by simp [D.pyL]
  | x :: xs => by simp [D.pyL, D.pyL_map xs]
mutual
/-- plain content, not too deep -/
def D.fit (n : Nat) : D → Bool
  | .non => true
  | .bl _ => true
  | .int _ => true
  | .str x => PyData.strOk x
  | .tup xs => match n with
    | 0 => false
    | n + 1 => D.fitL n xs
  | .lst xs => match n with
    | 0 => false
    | n + 1 => D.fitL n xs
  | _ => false
def D.fitL (n : Nat) : List D → Bool
  | [] => true
  | x :: xs => D.fit n x && D.fitL n xs
end
theorem D.fitL_all {n : Nat} : ∀ xs : List D, D.fitL n xs = xs.all (D.fit n)
  | [] => by simp [D.fitL]
  | x :: xs => by simp [D.fitL, D.fitL_all xs]
mutual
theorem D.fit_lay : ∀ (d : D) (n : Nat), D.fit n d = true → d.py.canLay0 = true ∧ d.py.depth ≤ n
  | .non, n, _ => by simp [D.py, PyData.canLay0, PyData.depth]
  | .bl _, n, _ => by simp [D.py, PyData.canLay0, PyData.depth]
  | .int _, n, _ => by simp [D.py, PyData.canLay0, PyData.depth]
  | .str x, n, h => by
    simp only [D.fit] at h
    simp [D.py, PyData.canLay0, PyData.depth, h]
  | .tup xs, 0, h => by simp [D.fit] at h
  | .tup xs, n + 1, h => by
    simp only [D.fit] at h
    have := D.fitL_lay xs n h
    simp only [D.py, PyData.canLay0, PyData.depth]
    exact ⟨this.1, by omega⟩
  | .lst xs, 0, h => by simp [D.fit] at h
  | .lst xs, n + 1, h => by
    simp only [D.fit] at h
    have := D.fitL_lay xs n h
    simp only [D.py, PyData.canLay0, PyData.depth]
    exact ⟨this.1, by omega⟩
  | .ref _, n, h => by simp [D.fit] at h
  | .fr _, n, h => by simp [D.fit] at h
  | .rng _ _, n, h => by simp [D.fit] at h
theorem D.fitL_lay : ∀ (ds : List D) (n : Nat), D.fitL n ds = true → PyData.canLayAll0 (D.pyL ds) = true ∧ PyData.depthAll (D.pyL ds) ≤ n
  | [], n, _ => by simp [D.pyL, PyData.canLayAll0, PyData.depthAll]
  | d :: ds, n, h => by
    simp only [D.fitL, Bool.and_eq_true] at h
    have h1 := D.fit_lay d n h.1
    have h2 := D.fitL_lay ds n h.2
    simp only [D.pyL, PyData.canLayAll0, PyData.depthAll, Bool.and_eq_true]
    exact ⟨⟨h1.1, h2.1⟩, by omega⟩
end
theorem D.fit_shaped {d : D} {n : Nat} (h : D.fit n d = true) (hn : n ≤ 64 := by decide) : SeqAt.shaped d.py = true := by
  have := D.fit_lay d n h
  show (d.py.canLay0 && decide (d.py.depth ≤ 64)) = true
  rw [Bool.and_eq_true]
  exact ⟨this.1, decide_eq_true (by omega)⟩
theorem D.fitL_shaped {ds : List D} {n : Nat} (h : D.fitL n ds = true) (hn : n < 64 := by decide) : SeqAt.shaped (.list (D.pyL ds)) = true ∧ SeqAt.shaped (.tuple (D.pyL ds)) = true := by
  have := D.fitL_lay ds n h
  constructor
  · show (PyData.canLayAll0 (D.pyL ds) && decide (PyData.depthAll (D.pyL ds) + 1 ≤ 64)) = true
    rw [Bool.and_eq_true]
    exact ⟨this.1, decide_eq_true (by omega)⟩
  · show (PyData.canLayAll0 (D.pyL ds) && decide (PyData.depthAll (D.pyL ds) + 1 ≤ 64)) = true
    rw [Bool.and_eq_true]
    exact ⟨this.1, decide_eq_true (by omega)⟩
section
variable {K : PySem.W.Frag} {w w' : Wd} {H H' : Hp} {S S' : Store}
mutual
theorem Rp.dp : ∀ (d : D) (n : Nat) (v : V), Rp K w H d v → D.fit n d = true → Dp K H v d.py
  | .non, _, _, r, _ => by rw [r.non_inv]; simp only [D.py]; exact .non
  | .bl b, _, _, r, _ => by rw [r.bl_inv]; simp only [D.py]; exact .bl b
  | .int b, _, _, r, _ => by rw [r.int_inv]; simp only [D.py]; exact .int b
  | .str b, _, _, r, _ => by rw [r.str_inv]; simp only [D.py]; exact .str b
  | .tup xs, 0, _, r, h => by simp [D.fit] at h
  | .tup xs, n + 1, _, r, h => by
    obtain ⟨a, vs, rfl, h1, h2⟩ := r.tup_inv
    simp only [D.fit] at h
    simp only [D.py]
    exact .tup h1 (RpL.dp xs n vs h2 h)
  | .lst xs, 0, _, r, h => by simp [D.fit] at h
  | .lst xs, n + 1, _, r, h => by
    obtain ⟨a, vs, rfl, _, h1, h2⟩ := r.lst_inv
    simp only [D.fit] at h
    simp only [D.py]
    exact .lst (.of h1) (RpL.dp xs n vs h2 h)
  | .ref _, n, _, _, h => by simp [D.fit] at h
  | .fr _, n, _, _, h => by simp [D.fit] at h
  | .rng _ _, n, _, _, h => by simp [D.fit] at h
theorem RpL.dp : ∀ (ds : List D) (n : Nat) (vs : List V), RpL K w H ds vs → D.fitL n ds = true → DpAll K H vs (D.pyL ds)
  | [], _, _, r, _ => by cases r; simp only [D.pyL]; exact .nil
  | d :: ds, n, _, r, h => by
    cases r with
    | cons r t =>
      simp only [D.fitL, Bool.and_eq_true] at h
      simp only [D.pyL]
      exact .cons (Rp.dp d n _ r h.1) (RpL.dp ds n _ t h.2)
end
end
/-- Python's == of content -/
def deq (a b : D) : Bool := PyData.eqv a.py b.py
def deqL (a b : List D) : Bool := PyData.eqvAll (D.pyL a) (D.pyL b)
/-- lists of the store are read one level deep -/
def readTop : D → Store → D
  | .ref i, S => match S[i]? with
    | some (.lst xs) => .lst xs
    | _ => .ref i
  | .fr xs, _ => .lst xs
  | d, _ => d
section
variable {K : PySem.W.Frag} {w w' : Wd} {H H' : Hp} {S S' : Store}
theorem Rp.dpTop {d : D} {v : V} {n : Nat} (k : Ok K w S H) (r : Rp K w H d v) (h : D.fit n (readTop d S) = true) : Dp K H v (readTop d S).py := by
  unfold readTop at h ⊢
  split at h
  · rename_i i
    split at h
    · rename_i xs hs
      obtain ⟨a, rfl, h1⟩ := r.ref_inv
      obtain ⟨vs, h2, h3⟩ := k.lst h1 hs
      cases n with
      | zero => simp [D.fit] at h
      | succ n =>
        simp only [D.fit] at h
        simp only [hs, D.py]
        exact .lst (.of h2) (RpL.dp xs n vs h3 h)
    · simp [D.fit] at h
  · rename_i xs
    obtain ⟨a, vs, rfl, h1, h2⟩ := r.fr_inv
    cases n with
    | zero => simp [D.fit] at h
    | succ n =>
      simp only [D.fit] at h
      simp only [D.py]
      exact .lst h1 (RpL.dp xs n vs h2 h)
  · exact Rp.dp _ n _ r h
end
def fEq : D → D → Store → Option (D × Store) := fun a b S => if D.fit 32 (readTop a S) ∧ D.fit 32 (readTop b S) then some (.bl (deq (readTop a S) (readTop b S)), S) else none
def fNe : D → D → Store → Option (D × Store) := fun a b S => if D.fit 32 (readTop a S) ∧ D.fit 32 (readTop b S) then some (.bl (!deq (readTop a S) (readTop b S)), S) else none
section
variable {X : Cx} {K : PySem.W.Frag}
theorem fEq_s : OpS K (rEqD K) fEq := by
  intro w S H a b d x y S' Q k ra rb hm q
  unfold fEq at hm
  split at hm
  · rename_i hf
    cases hm
    exact ⟨_, _, ra.dpTop k hf.1, rb.dpTop k hf.2, D.fit_shaped hf.1, D.fit_shaped hf.2, q w H _ .refl k (.bl _)⟩
  · cases hm
theorem fNe_s : OpS K (rNeD K) fNe := by
  intro w S H a b d x y S' Q k ra rb hm q
  unfold fNe at hm
  split at hm
  · rename_i hf
    cases hm
    exact ⟨_, _, ra.dpTop k hf.1, rb.dpTop k hf.2, D.fit_shaped hf.1, D.fit_shaped hf.2, q w H _ .refl k (.bl _)⟩
  · cases hm
/-- x in a list or tuple; in a dict of ints and texts -/
def rInA (K : PySem.W.Frag) (neg : Bool) : R2 := fun x y H Q => ∃ d ds, Dp K H x d ∧ (Dp K H y (.list ds) ∨ Dp K H y (.tuple ds)) ∧ SeqAt.shaped d = true ∧ SeqAt.shaped (.list ds) = true ∧ Q (.bl (if neg then !(ds.any fun z => PyData.eqv z d) else ds.any fun z => PyData.eqv z d)) H
theorem op_inA (hu : X.A.units + 65 < cLine) : OpR X (compareOp .In) (rInA X.K false) := by
  intro pins s σ H x y v u Q I rx ry h
  obtain ⟨d, ds, hd, he, sd, se, q⟩ := h
  obtain ⟨as, r1⟩ := Dp.reads I d x v hd rx
  have hl : PyData.canLayAll0 ds = true := SeqAt.canLay_of_shaped se
  rcases he with he | he
  · obtain ⟨bs, r2⟩ := Dp.reads I (.list ds) y u he ry
    exact SeqAt.in_list_reads r2 r1 hl (SeqAt.canLay_of_shaped sd) (room_in_shaped sd hu) ⟨.bl _, H, I, rfl, q⟩
  · obtain ⟨bs, r2⟩ := Dp.reads I (.tuple ds) y u he ry
    exact SeqAt.in_tuple_reads r2 r1 hl (SeqAt.canLay_of_shaped sd) (room_in_shaped sd hu) ⟨.bl _, H, I, rfl, q⟩
theorem op_notInA (hu : X.A.units + 65 < cLine) : OpR X (compareOp .NotIn) (rInA X.K true) := by
  intro pins s σ H x y v u Q I rx ry h
  obtain ⟨d, ds, hd, he, sd, se, q⟩ := h
  obtain ⟨as, r1⟩ := Dp.reads I d x v hd rx
  have hl : PyData.canLayAll0 ds = true := SeqAt.canLay_of_shaped se
  rcases he with he | he
  · obtain ⟨bs, r2⟩ := Dp.reads I (.list ds) y u he ry
    exact SeqAt.notIn_list_reads r2 r1 hl (SeqAt.canLay_of_shaped sd) (room_in_shaped sd hu) ⟨.bl _, H, I, rfl, q⟩
  · obtain ⟨bs, r2⟩ := Dp.reads I (.tuple ds) y u he ry
    exact SeqAt.notIn_tuple_reads r2 r1 hl (SeqAt.canLay_of_shaped sd) (room_in_shaped sd hu) ⟨.bl _, H, I, rfl, q⟩
def fInB (neg : Bool) : D → D → Store → Option (D × Store) := fun a b S => (seqOf b S).bind fun xs => if D.fit 32 a ∧ D.fitL 32 xs then some (.bl (if neg then !(xs.any fun z => deq z a) else xs.any fun z => deq z a), S) else none
abbrev fIn := fInB false
abbrev fNotIn := fInB true
theorem fInB_s (neg : Bool) : OpS K (rInA K neg) (fInB neg) := by
  intro w S H a b d x y S' Q k ra rb hm q
  unfold fInB at hm
  obtain ⟨xs, h1, hm⟩ := Option.bind_eq_some_iff.mp hm
  split at hm
  · rename_i hf
    cases hm
    obtain ⟨p, vs, rfl, h2, h3⟩ := seq_rd k rb h1
    have hd : Dp K H x a.py := Rp.dp a 32 x ra hf.1
    have hl : DpAll K H vs (D.pyL xs) := RpL.dp xs 32 vs h3 hf.2
    refine ⟨a.py, D.pyL xs, hd, ?_, D.fit_shaped hf.1, (D.fitL_shaped hf.2).1, ?_⟩
    · rcases h2 with h2 | h2
      · exact .inl (.lst h2 hl)
      · exact .inr (.tup h2 hl)
    · have e : ((D.pyL xs).any fun z => PyData.eqv z a.py) = xs.any fun z => deq z a := by
        rw [D.pyL_map, List.any_map]; rfl
      rw [e]
      exact q w H _ .refl k (.bl _)
  · cases hm

/-! ### places and slices -/
def fIx : D → D → Store → Option (D × Store)
  | .str z, .int i, S => if z.length ≤ LIM then (atI z.cps.toList i).bind fun c => some (.str ⟨#[c]⟩, S) else none
  | a, .int i, S => (seqOf a S).bind fun xs => (atI xs i).bind fun d => some (d, S)
  | _, _, _ => none
theorem atI_rp {w : Wd} {H : Hp} {ds : List D} {vs : List V} {i : Int} {d : D} (r : RpL K w H ds vs) (h : atI ds i = some d) : ∃ v, atI vs i = some v ∧ Rp K w H d v := by
  unfold atI at h ⊢
  obtain ⟨j, h1, h2⟩ := Option.bind_eq_some_iff.mp h
  obtain ⟨v, h3, h4⟩ := r.get h2
  exact ⟨v, by rw [← r.length, h1]; exact h3, h4⟩
theorem fIx_s : OpS K (rIx K) fIx := by
  intro w S H a b d x y S' Q k ra rb hm q
  unfold fIx at hm
  split at hm
  · split at hm
    · obtain ⟨c, h1, hm⟩ := Option.bind_eq_some_iff.mp hm
      cases hm
      exact .inr (.inr ⟨_, _, _, ra.str_inv, rb.int_inv, by rw [lim_eq]; assumption, h1, q w H _ .refl k (.str _)⟩)
    · cases hm
  · obtain ⟨xs, h1, hm⟩ := Option.bind_eq_some_iff.mp hm
    obtain ⟨d', h2, hm⟩ := Option.bind_eq_some_iff.mp hm
    cases hm
    obtain ⟨p, vs, rfl, h3, h4⟩ := seq_rd k ra h1
    obtain ⟨v, h5, h6⟩ := atI_rp h4 h2
    rcases h3 with h3 | h3
    · exact .inl ⟨p, vs, _, v, rfl, rb.int_inv, h3, h5, q w H _ .refl k h6⟩
    · exact .inr (.inl ⟨p, vs, _, v, rfl, rb.int_inv, h3, h5, q w H _ .refl k h6⟩)
  · cases hm
/-- the items of xs[lo:hi] -/
def cutD (xs : List D) (lo hi : Option Int) : List D := (xs.drop (HT.sIx xs.length 0 lo)).take (HT.sIx xs.length xs.length hi - HT.sIx xs.length 0 lo)
theorem cut_rp {w : Wd} {H : Hp} {ds : List D} {vs : List V} {lo hi : Option Int} (r : RpL K w H ds vs) : RpL K w H (cutD ds lo hi) (cutV vs lo hi) := by
  unfold cutD cutV
  rw [r.length]
  exact (r.drop _).take _
abbrev MO := Ev → Store → Option (Option Int × Store)
def tO (K : PySem.W.Frag) (m : MO) : TO := fun σ H Q => ∃ w e S o S', RpE K w H e σ ∧ Ok K w S H ∧ m e S = some (o, S') ∧ ∀ w' H', Stp w H w' H' → Ok K w' S' H' → Q o H'
theorem PO.imp {X : Cx} {e : Option Expr} {t t' : TO} (h : PO X e t) (i : ∀ σ H Q, t' σ H Q → t σ H Q) : PO X e t' := ⟨fun pins s σ H Q I q => h.run pins s σ H Q I (i σ H Q q)⟩
abbrev AO (X : Cx) (e : Option Expr) (m : MO) : Prop := PO X e (tO X.K m)
def mO0 : MO := fun _ S => some (none, S)
def mO1 (m : ME) : MO := fun e S => (m e S).bind fun (d, S1) => match d with
  | .int i => some (some i, S1)
  | _ => none
theorem ao_none : AO X none mO0 := PO.imp po_none fun σ H Q ⟨w, e, S, o, S', re, k, hm, q⟩ => by
  cases hm
  exact q w H .refl k
theorem ao_some {e : Expr} {m : ME} (h : AE X e m) : AO X (some e) (mO1 m) := PO.imp (po_some h) fun σ H Q ⟨w, e, S, o, S', re, k, hm, q⟩ => by
  unfold mO1 at hm
  obtain ⟨⟨d, S1⟩, h1, hm⟩ := Option.bind_eq_some_iff.mp hm
  simp only at hm
  split at hm
  · cases hm
    exact ⟨w, e, S, _, _, re, k, h1, fun w' H' v s' k' r' => ⟨_, r'.int_inv, q w' H' s' k'⟩⟩
  · cases hm
/-- a tuple's slice -/
def fSlT : D → Option Int → Option Int → Option D
  | .tup xs, lo, hi => some (.tup (cutD xs lo hi))
  | _, _, _ => none
def mSl (f : D → Option Int → Option Int → Option D) (m : ME) (ml mh : MO) : ME := fun e S => (m e S).bind fun (d, S1) => (ml e S1).bind fun (lo, S2) => (mh e S2).bind fun (hi, S3) => (f d lo hi).bind fun r => some (r, S3)
theorem cut_whole {xs : List D} {lo hi : Option Int} (h : HT.sIx xs.length 0 lo = 0 ∧ HT.sIx xs.length xs.length hi = xs.length) : cutD xs lo hi = xs := by
  unfold cutD
  rw [h.1, h.2, Nat.sub_zero, List.drop_zero, List.take_length]
theorem ae_slT {a : Expr} {lo hi : Option Expr} {m : ME} {ml mh : MO} {p2 pos : Pos} (ha : AE X a m) (hl : AO X lo ml) (hh : AO X hi mh) : AE X (.Subscript a (.Slice lo hi none p2) pos) (mSl fSlT m ml mh) :=
  PE.imp (pe_slice sl_tupA ha hl hh) fun σ H Q ⟨w, e, S, d, S', re, k, hm, q⟩ => by
    unfold mSl at hm
    obtain ⟨⟨d1, S1⟩, h1, hm⟩ := Option.bind_eq_some_iff.mp hm
    obtain ⟨⟨o1, S2⟩, h2, hm⟩ := Option.bind_eq_some_iff.mp hm
    obtain ⟨⟨o2, S3⟩, h3, hm⟩ := Option.bind_eq_some_iff.mp hm
    obtain ⟨r, h4, hm⟩ := Option.bind_eq_some_iff.mp hm
    cases hm
    refine ⟨w, e, S, d1, S1, re, k, h1, fun w1 H1 x s1 k1 r1 => ⟨w1, e, S1, o1, S2, re.mono s1, k1, h2, fun w2 H2 s2 k2 => ⟨w2, e, S2, o2, _, (re.mono s1).mono s2, k2, h3, fun w3 H3 s3 k3 => ?_⟩⟩⟩
    unfold fSlT at h4
    split at h4
    · cases h4
      have r3 := (r1.mono s2).mono s3
      obtain ⟨a, vs, rfl, h5, h6⟩ := r3.tup_inv
      refine ⟨a, vs, rfl, h5, fun hw => ?_, fun hw p hp => ?_⟩
      · rw [← h6.length] at hw
        rw [cut_whole hw] at q
        exact q w3 H3 _ ((s1.trans s2).trans s3) k3 r3
      · exact Post.newT (fun w' H' v s k r => q w' H' v (((s1.trans s2).trans s3).trans s) k r) k3 hp (cut_rp h6)
    · cases h4
/-- a list's slice: a new list -/
def mSlL (m : ME) (ml mh : MO) : ML := fun e S => (m e S).bind fun (d, S1) => (ml e S1).bind fun (lo, S2) => (mh e S2).bind fun (hi, S3) => (lstOf d S3).bind fun xs => some (cutD xs lo hi, S3)
theorem af_slL {a : Expr} {lo hi : Option Expr} {m : ME} {ml mh : MO} {p2 pos : Pos} (ha : AE X a m) (hl : AO X lo ml) (hh : AO X hi mh) : AF X (.Subscript a (.Slice lo hi none p2) pos) (mSlL m ml mh) :=
  PE.imp (pe_slice sl_list ha hl hh) fun σ H Q ⟨w, e, S, d, S', re, k, hm, q⟩ => by
    unfold mSlL at hm
    obtain ⟨⟨d1, S1⟩, h1, hm⟩ := Option.bind_eq_some_iff.mp hm
    obtain ⟨⟨o1, S2⟩, h2, hm⟩ := Option.bind_eq_some_iff.mp hm
    obtain ⟨⟨o2, S3⟩, h3, hm⟩ := Option.bind_eq_some_iff.mp hm
    obtain ⟨r, h4, hm⟩ := Option.bind_eq_some_iff.mp hm
    cases hm
    refine ⟨w, e, S, d1, S1, re, k, h1, fun w1 H1 x s1 k1 r1 => ⟨w1, e, S1, o1, S2, re.mono s1, k1, h2, fun w2 H2 s2 k2 => ⟨w2, e, S2, o2, _, (re.mono s1).mono s2, k2, h3, fun w3 H3 s3 k3 => ?_⟩⟩⟩
    have r3 := (r1.mono s2).mono s3
    obtain ⟨a, vs, rfl, h5, h6⟩ := lst_rd k3 r3 h4
    exact ⟨a, vs, rfl, h5, fun p hp => q w3 H3 p _ ((s1.trans s2).trans s3) k3 hp (cut_rp h6)⟩
/-- a new list as content, or in the store -/
def mVal (m : ML) : ME := fun e S => (m e S).bind fun (ds, S1) => some (.lst ds, S1)
def mSto (m : ML) : ME := fun e S => (m e S).bind fun (ds, S1) => some (.ref S1.length, S1 ++ [.lst ds])
theorem ae_val {e : Expr} {m : ML} (h : AF X e m) : AE X e (mVal m) := PE.imp h fun σ H Q ⟨w, e, S, d, S', re, k, hm, q⟩ => by
  unfold mVal at hm
  obtain ⟨⟨ds, S1⟩, h1, hm⟩ := Option.bind_eq_some_iff.mp hm
  cases hm
  exact ⟨w, e, S, ds, _, re, k, h1, fun w' H' p vs s' k' hp r => Post.newL (fun w2 H2 v s2 k2 r2 => q w2 H2 v (s'.trans s2) k2 r2) k' hp r⟩
theorem ae_sto {e : Expr} {m : ML} (h : AF X e m) : AE X e (mSto m) := PE.imp h fun σ H Q ⟨w, e, S, d, S', re, k, hm, q⟩ => by
  unfold mSto at hm
  obtain ⟨⟨ds, S1⟩, h1, hm⟩ := Option.bind_eq_some_iff.mp hm
  cases hm
  exact ⟨w, e, S, ds, _, re, k, h1, fun w' H' p vs s' k' hp r => Post.addL (fun w2 H2 v s2 k2 r2 => q w2 H2 v (s'.trans s2) k2 r2) k' hp r⟩

/-! ### argument lists, displays -/
def mNil : ML := fun _ S => some ([], S)
def mCons (m : ME) (ms : ML) : ML := fun e S => (m e S).bind fun (d, S1) => (ms e S1).bind fun (ds, S2) => some (d :: ds, S2)
theorem aa_nil : AA X [] mNil := PA.imp pa_nil fun σ H Q ⟨w, e, S, d, S', re, k, hm, q⟩ => by
  cases hm
  exact q w H [] .refl k .nil
theorem aa_cons {e : Expr} {es : List Expr} {m : ME} {ms : ML} (h : AE X e m) (hr : AA X es ms) (hs : starEach (e :: es) X.env = (false, eval e X.env) :: starEach es X.env := by rfl) : AA X (e :: es) (mCons m ms) :=
  PA.imp (pa_cons h hr hs) fun σ H Q ⟨w, e, S, d, S', re, k, hm, q⟩ => by
    unfold mCons at hm
    obtain ⟨⟨d1, S1⟩, h1, hm⟩ := Option.bind_eq_some_iff.mp hm
    obtain ⟨⟨ds, S2⟩, h2, hm⟩ := Option.bind_eq_some_iff.mp hm
    cases hm
    exact ⟨w, e, S, d1, S1, re, k, h1, fun w1 H1 x s1 k1 r1 => ⟨w1, e, S1, ds, _, re.mono s1, k1, h2, fun w2 H2 vs s2 k2 r2 => q w2 H2 _ (s1.trans s2) k2 (.cons (r1.mono s2) r2)⟩⟩
def mTup (ms : ML) : ME := fun e S => (ms e S).bind fun (ds, S1) => if ds.length ≤ LIM then some (.tup ds, S1) else none
theorem ae_tup {es : List Expr} {ms : ML} {x1} {pos : Pos} (h : AA X es ms) : AE X (.Tuple es x1 pos) (mTup ms) := PE.imp (pe_tup h) fun σ H Q ⟨w, e, S, d, S', re, k, hm, q⟩ => by
  unfold mTup at hm
  obtain ⟨⟨ds, S1⟩, h1, hm⟩ := Option.bind_eq_some_iff.mp hm
  simp only at hm
  split at hm
  · cases hm
    rename_i hz
    exact ⟨w, e, S, ds, _, re, k, h1, fun w1 H1 vs s1 k1 r1 => ⟨by rw [lim_eq, ← r1.length]; exact hz, fun p hp => Post.newT (fun w2 H2 v s2 k2 r2 => q w2 H2 v (s1.trans s2) k2 r2) k1 hp r1⟩⟩
  · cases hm
def mLst (ms : ML) : ML := fun e S => (ms e S).bind fun (ds, S1) => if ds.length ≤ LIM then some (ds, S1) else none
theorem af_lst {es : List Expr} {ms : ML} {pos : Pos} (h : AA X es ms) : AF X (.List es pos) (mLst ms) := PE.imp (pe_lst h) fun σ H Q ⟨w, e, S, d, S', re, k, hm, q⟩ => by
  unfold mLst at hm
  obtain ⟨⟨ds, S1⟩, h1, hm⟩ := Option.bind_eq_some_iff.mp hm
  simp only at hm
  split at hm
  · cases hm
    rename_i hz
    exact ⟨w, e, S, _, _, re, k, h1, fun w1 H1 vs s1 k1 r1 => ⟨by rw [lim_eq, ← r1.length]; exact hz, fun p hp => q w1 H1 p vs s1 k1 hp r1⟩⟩
  · cases hm
end
end DV

namespace DV
open PySem PySem.Spec PyProof.Rows L2
section
variable {X : Cx} {K : PySem.W.Frag}
/-! ### tests -/
def truth : D → Store → Option Bool
  | .non, _ => some false
  | .bl b, _ => some b
  | .int i, _ => some (i != 0)
  | .str y, _ => if y.length ≤ LIM then some ((y.length : Int) != 0) else none
  | .ref i, S => match S[i]? with
    | some (.lst xs) => some !xs.isEmpty
    | some (.dct kvs) => some !kvs.isEmpty
    | _ => none
  | .tup xs, _ => some !xs.isEmpty
  | .lst xs, _ => some !xs.isEmpty
  | .fr xs, _ => some !xs.isEmpty
  | .rng _ _, _ => none
theorem empty_rp {w : Wd} {H : Hp} {ds : List D} {vs : List V} (r : RpL K w H ds vs) : (!ds.isEmpty) = !vs.isEmpty := by cases r <;> rfl
theorem empty_rk {w : Wd} {H : Hp} {ds : List (D × D)} {vs : List (Key × V)} (r : RDk K w H ds vs) : (!ds.isEmpty) = !vs.isEmpty := by cases r <;> rfl
theorem truth_ok {w : Wd} {S : Store} {H : Hp} {d : D} {v : V} {b : Bool} (k : Ok K w S H) (r : Rp K w H d v) (h : truth d S = some b) (hd : ∀ i kvs, d = .ref i → S[i]? = some (.dct kvs) → ∃ a ks, w.rho[i]? = some a ∧ H a = some (.dK ks)) : TruV K v H b := by
  unfold truth at h
  split at h
  · cases h; rw [r.non_inv]; rfl
  · cases h; rw [r.bl_inv]; rfl
  · cases h; rw [r.int_inv]; rfl
  · split at h
    · cases h; rw [r.str_inv]; exact ⟨by rw [lim_eq]; assumption, rfl⟩
    · cases h
  · split at h
    · cases h
      obtain ⟨a, rfl, h1⟩ := r.ref_inv
      obtain ⟨vs, h2, h3⟩ := k.lst h1 (by assumption)
      exact .inl ⟨vs, .of h2, empty_rp h3⟩
    · cases h
      obtain ⟨a, rfl, h1⟩ := r.ref_inv
      obtain ⟨a', ks, h2, h3⟩ := hd _ _ rfl (by assumption)
      rw [h1] at h2; cases h2
      obtain ⟨x, h4, h5⟩ := k.ob _ _ _ h1 (by assumption)
      rw [h3] at h4; cases h4
      cases h5 with
      | dK q => exact .inr (.inr ⟨ks, h3, empty_rk q⟩)
    · cases h
  · cases h
    obtain ⟨a, vs, rfl, h1, h2⟩ := r.tup_inv
    exact .inr (.inl ⟨vs, h1, empty_rp h2⟩)
  · cases h
    obtain ⟨a, vs, rfl, _, h1, h2⟩ := r.lst_inv
    exact .inl ⟨vs, .of h1, empty_rp h2⟩
  · cases h
    obtain ⟨a, vs, rfl, h1, h2⟩ := r.fr_inv
    exact .inl ⟨vs, h1, empty_rp h2⟩
  · cases h
/-- without dicts -/
def truth' (d : D) (S : Store) : Option Bool := match d with
  | .ref i => match S[i]? with
    | some (.lst xs) => some !xs.isEmpty
    | _ => none
  | d => truth d S
theorem truth'_ok {w : Wd} {S : Store} {H : Hp} {d : D} {v : V} {b : Bool} (k : Ok K w S H) (r : Rp K w H d v) (h : truth' d S = some b) : TruV K v H b := by
  unfold truth' at h
  split at h
  · rename_i i
    split at h
    · rename_i xs hs
      refine truth_ok k r (show (match S[i]? with | some (.lst xs) => some !xs.isEmpty | some (.dct kvs) => some !kvs.isEmpty | _ => none) = some b by rw [hs]; exact h) fun j kvs e h2 => ?_
      cases e
      rw [hs] at h2; cases h2
    · cases h
  · rename_i hne
    exact truth_ok k r h fun j kvs e h2 => absurd e (hne j)
def mTru (m : ME) : MT := fun e S => (m e S).bind fun (d, S1) => (truth' d S1).bind fun b => some (b, S1)
theorem at_truth {a : Expr} {m : ME} (ha : AE X a m) (he : ∀ whole, isTrue a X.env whole = (do let v ← whole; standAt a.pos; holding [v] (truthy v)) := by intro _; rfl) : AT X a (mTru m) :=
  PT.imp (pt_truth ha he) fun σ H Q ⟨w, e, S, b, S', re, k, hm, q⟩ => by
    unfold mTru at hm
    obtain ⟨⟨d, S1⟩, h1, hm⟩ := Option.bind_eq_some_iff.mp hm
    obtain ⟨b1, h2, hm⟩ := Option.bind_eq_some_iff.mp hm
    cases hm
    exact ⟨w, e, S, d, _, re, k, h1, fun w' H' v s' k' r' => ⟨_, truth'_ok k' r' h2, q w' H' s' k'⟩⟩
def mAnd (a b : MT) : MT := fun e S => (a e S).bind fun (c, S1) => if c then b e S1 else some (false, S1)
def mOr (a b : MT) : MT := fun e S => (a e S).bind fun (c, S1) => if c then some (true, S1) else b e S1
def mNot (a : MT) : MT := fun e S => (a e S).bind fun (c, S1) => some (!c, S1)
section
variable {a b : Expr} {rest : List Expr} {pos : Pos} {ma mb : MT}
theorem aw_and1 (ha : AT X a ma) : AW X (.BoolOp .And [a] pos) ma := pw_and1 ha
theorem aw_or1 (ha : AT X a ma) : AW X (.BoolOp .Or [a] pos) ma := pw_or1 ha
theorem aw_and (ha : AT X a ma) (hb : AW X (.BoolOp .And (b :: rest) pos) mb) : AW X (.BoolOp .And (a :: b :: rest) pos) (mAnd ma mb) :=
  PW.imp (pw_and ha hb) fun σ H Q ⟨w, e, S, c, S', re, k, hm, q⟩ => by
    unfold mAnd at hm
    obtain ⟨⟨d, S1⟩, h1, hm⟩ := Option.bind_eq_some_iff.mp hm
    refine ⟨w, e, S, d, S1, re, k, h1, fun w1 H1 s1 k1 => ?_⟩
    cases d with
    | true => exact ⟨w1, e, S1, c, S', re.mono s1, k1, hm, fun w2 H2 s2 k2 => q w2 H2 (s1.trans s2) k2⟩
    | false => cases hm; exact q w1 H1 s1 k1
theorem aw_or (ha : AT X a ma) (hb : AW X (.BoolOp .Or (b :: rest) pos) mb) : AW X (.BoolOp .Or (a :: b :: rest) pos) (mOr ma mb) :=
  PW.imp (pw_or ha hb) fun σ H Q ⟨w, e, S, c, S', re, k, hm, q⟩ => by
    unfold mOr at hm
    obtain ⟨⟨d, S1⟩, h1, hm⟩ := Option.bind_eq_some_iff.mp hm
    refine ⟨w, e, S, d, S1, re, k, h1, fun w1 H1 s1 k1 => ?_⟩
    cases d with
    | false => exact ⟨w1, e, S1, c, S', re.mono s1, k1, hm, fun w2 H2 s2 k2 => q w2 H2 (s1.trans s2) k2⟩
    | true => cases hm; exact q w1 H1 s1 k1
theorem at_not (ha : AT X a ma) : AT X (.UnaryOp .Not a pos) (mNot ma) :=
  PT.imp (pt_not ha) fun σ H Q ⟨w, e, S, c, S', re, k, hm, q⟩ => by
    unfold mNot at hm
    obtain ⟨⟨d, S1⟩, h1, hm⟩ := Option.bind_eq_some_iff.mp hm
    cases hm
    exact ⟨w, e, S, d, _, re, k, h1, fun w1 H1 s1 k1 => q w1 H1 s1 k1⟩
end
/-- x and y, x or y, not x as values, by truth -/
def mAndV (a b : ME) : ME := fun e S => (a e S).bind fun (d, S1) => (truth' d S1).bind fun c => if c then b e S1 else some (d, S1)
def mOrV (a b : ME) : ME := fun e S => (a e S).bind fun (d, S1) => (truth' d S1).bind fun c => if c then some (d, S1) else b e S1
def mNotV (a : ME) : ME := fun e S => (a e S).bind fun (d, S1) => (truth' d S1).bind fun c => some (.bl (!c), S1)
section
variable {a b : Expr} {rest : List Expr} {pos : Pos} {ma mb : ME}
theorem ae_one {op} {m : ME} (h : AE X a m) : AE X (.BoolOp op [a] pos) m := pe_one h
theorem ae_and (ha : AE X a ma) (hb : AE X (.BoolOp .And (b :: rest) pos) mb) : AE X (.BoolOp .And (a :: b :: rest) pos) (mAndV ma mb) :=
  PE.imp (pe_andT ha hb) fun σ H Q ⟨w, e, S, c, S', re, k, hm, q⟩ => by
    unfold mAndV at hm
    obtain ⟨⟨d, S1⟩, h1, hm⟩ := Option.bind_eq_some_iff.mp hm
    obtain ⟨t, h2, hm⟩ := Option.bind_eq_some_iff.mp hm
    refine ⟨w, e, S, d, S1, re, k, h1, fun w1 H1 v s1 k1 r1 => ⟨t, truth'_ok k1 r1 h2, ?_⟩⟩
    cases t with
    | true => exact ⟨w1, e, S1, c, S', re.mono s1, k1, hm, fun w2 H2 v s2 k2 r2 => q w2 H2 v (s1.trans s2) k2 r2⟩
    | false => cases hm; exact q w1 H1 v s1 k1 r1
theorem ae_or (ha : AE X a ma) (hb : AE X (.BoolOp .Or (b :: rest) pos) mb) : AE X (.BoolOp .Or (a :: b :: rest) pos) (mOrV ma mb) :=
  PE.imp (pe_orT ha hb) fun σ H Q ⟨w, e, S, c, S', re, k, hm, q⟩ => by
    unfold mOrV at hm
    obtain ⟨⟨d, S1⟩, h1, hm⟩ := Option.bind_eq_some_iff.mp hm
    obtain ⟨t, h2, hm⟩ := Option.bind_eq_some_iff.mp hm
    refine ⟨w, e, S, d, S1, re, k, h1, fun w1 H1 v s1 k1 r1 => ⟨t, truth'_ok k1 r1 h2, ?_⟩⟩
    cases t with
    | false => exact ⟨w1, e, S1, c, S', re.mono s1, k1, hm, fun w2 H2 v s2 k2 r2 => q w2 H2 v (s1.trans s2) k2 r2⟩
    | true => cases hm; exact q w1 H1 v s1 k1 r1
theorem ae_not (ha : AE X a ma) : AE X (.UnaryOp .Not a pos) (mNotV ma) :=
  PE.imp (pe_notT ha) fun σ H Q ⟨w, e, S, c, S', re, k, hm, q⟩ => by
    unfold mNotV at hm
    obtain ⟨⟨d, S1⟩, h1, hm⟩ := Option.bind_eq_some_iff.mp hm
    obtain ⟨t, h2, hm⟩ := Option.bind_eq_some_iff.mp hm
    cases hm
    exact ⟨w, e, S, d, _, re, k, h1, fun w1 H1 v s1 k1 r1 => ⟨t, truth'_ok k1 r1 h2, q w1 H1 _ s1 k1 (.bl _)⟩⟩
def mIf (c : MT) (a b : ME) : ME := fun e S => (c e S).bind fun (t, S1) => if t then a e S1 else b e S1
theorem ae_if {c : Expr} {mc : MT} (hc : AT X c mc) (ha : AE X a ma) (hb : AE X b mb) : AE X (.IfExp c a b pos) (mIf mc ma mb) :=
  PE.imp (pe_ifExp hc ha hb) fun σ H Q ⟨w, e, S, d, S', re, k, hm, q⟩ => by
    unfold mIf at hm
    obtain ⟨⟨t, S1⟩, h1, hm⟩ := Option.bind_eq_some_iff.mp hm
    refine ⟨w, e, S, t, S1, re, k, h1, fun w1 H1 s1 k1 => ?_⟩
    cases t with
    | true => exact ⟨w1, e, S1, d, S', re.mono s1, k1, hm, fun w2 H2 v s2 k2 r2 => q w2 H2 v (s1.trans s2) k2 r2⟩
    | false => exact ⟨w1, e, S1, d, S', re.mono s1, k1, hm, fun w2 H2 v s2 k2 r2 => q w2 H2 v (s1.trans s2) k2 r2⟩
def fNeg : D → Option D
  | .int i => some (.int (-i))
  | _ => none
def mUn (f : D → Option D) (a : ME) : ME := fun e S => (a e S).bind fun (d, S1) => (f d).bind fun r => some (r, S1)
theorem ae_neg (ha : AE X a ma) : AE X (.UnaryOp .USub a pos) (mUn fNeg ma) :=
  PE.imp (pe_un un_neg ha) fun σ H Q ⟨w, e, S, c, S', re, k, hm, q⟩ => by
    unfold mUn at hm
    obtain ⟨⟨d, S1⟩, h1, hm⟩ := Option.bind_eq_some_iff.mp hm
    obtain ⟨t, h2, hm⟩ := Option.bind_eq_some_iff.mp hm
    cases hm
    unfold fNeg at h2
    split at h2
    · cases h2
      exact ⟨w, e, S, _, _, re, k, h1, fun w1 H1 v s1 k1 r1 => ⟨_, r1.int_inv, q w1 H1 _ s1 k1 (.int _)⟩⟩
    · cases h2
/-- a < b < c -/
def mChain (f g : D → D → Store → Option (D × Store)) (ma mb mc : ME) : ME := fun e S => (ma e S).bind fun (a, S1) => (mb e S1).bind fun (b, S2) => (f a b S2).bind fun (z, S3) => match z with
  | .bl true => (mc e S3).bind fun (c, S4) => g b c S4
  | .bl false => some (.bl false, S3)
  | _ => none
end
/-! ### calls of built-ins -/
def mCB (f : List D → Store → Option (D × Store)) (ms : ML) : ME := fun e S => (ms e S).bind fun (ds, S1) => f ds S1
def CallS (K : PySem.W.Frag) (r : List V → Hp → VK → Prop) (f : List D → Store → Option (D × Store)) : Prop := ∀ (w : Wd) (S : Store) (H : Hp) (ds : List D) (vs : List V) (d : D) (S' : Store) (Q : VK), Ok K w S H → RpL K w H ds vs → f ds S = some (d, S') → Post K w H S' d Q → r vs H Q
theorem cb_imp {K : PySem.W.Frag} {r : List V → Hp → VK → Prop} {f : List D → Store → Option (D × Store)} {ms : ML} (h : CallS K r f) {σ : L2.St} {H : Hp} {Q : VK} (q : tD K (mCB f ms) σ H Q) : tCB r (tL K ms) σ H Q := by
  obtain ⟨w, e, S, d, S', re, k, hm, q⟩ := q
  unfold mCB at hm
  obtain ⟨⟨ds, S1⟩, h1, hm⟩ := Option.bind_eq_some_iff.mp hm
  exact ⟨w, e, S, ds, S1, re, k, h1, fun w1 H1 vs s1 k1 r1 => h w1 S1 H1 ds vs d S' Q k1 r1 hm fun w2 H2 v s2 k2 r2 => q w2 H2 v (s1.trans s2) k2 r2⟩
section
variable {x : Str} {p pos : Pos} {e : Expr} {es : List Expr} {ms : ML} {id T : String} {r : List V → Hp → VK → Prop} {f : List D → Store → Option (D × Store)}
theorem ae_callB (hc : CallR X (.builtin id) r) (h : CallS X.K r f) (hm : X.mg x = none) (ha : AA X (e :: es) ms) (hg : Gl X x := by rfl) (hv : bootBuiltins x = some (.builtin id) := by decide +kernel) (hn : x ≠ "__name__" := by decide) (hdb : (x == ("__debug__" : Str)) = false := by decide)
    (he : starEach (e :: es) X.env = (false, eval e X.env) :: starEach es X.env := by rfl) (hpl : (backTo pos (starEach es X.env)).any (·.1) = false := by rfl) : AE X (.Call (.Name x p) (e :: es) [] pos) (mCB f ms) :=
  PE.imp (pe_callB hc hg hm hv ha hn hdb he hpl) fun _ _ _ => cb_imp h
theorem ae_callTy (hc : CallR X (.type T) r) (h : CallS X.K r f) (hm : X.mg x = none) (ha : AA X (e :: es) ms) (hg : Gl X x := by rfl) (hv : bootBuiltins x = some (.type T) := by decide +kernel) (hn : x ≠ "__name__" := by decide) (hdb : (x == ("__debug__" : Str)) = false := by decide)
    (he : starEach (e :: es) X.env = (false, eval e X.env) :: starEach es X.env := by rfl) (hpl : (backTo pos (starEach es X.env)).any (·.1) = false := by rfl) : AE X (.Call (.Name x p) (e :: es) [] pos) (mCB f ms) :=
  PE.imp (pe_callTy hc hg hm hv ha hn hdb he hpl) fun _ _ _ => cb_imp h
end
theorem RpL.one_inv {w : Wd} {H : Hp} {d : D} {vs : List V} (r : RpL K w H [d] vs) : ∃ v, vs = [v] ∧ Rp K w H d v := by
  cases r with
  | cons r t => cases t; exact ⟨_, rfl, r⟩
theorem RpL.two_inv {w : Wd} {H : Hp} {d1 d2 : D} {vs : List V} (r : RpL K w H [d1, d2] vs) : ∃ v1 v2, vs = [v1, v2] ∧ Rp K w H d1 v1 ∧ Rp K w H d2 v2 := by
  cases r with
  | cons r t => obtain ⟨v, e, q⟩ := t.one_inv; exact ⟨_, _, by rw [e], r, q⟩
def fLen : List D → Store → Option (D × Store)
  | [.str y], S => if y.length ≤ LIM then some (.int y.length, S) else none
  | [d], S => (seqOf d S).bind fun xs => some (.int xs.length, S)
  | _, _ => none
theorem fLen_s : CallS K (fun xs H Q => ∃ x n, xs = [x] ∧ LenV K x H n ∧ Q (.int n) H) fLen := by
  intro w S H ds vs d S' Q k r hm q
  unfold fLen at hm
  split at hm
  · split at hm
    · cases hm
      obtain ⟨v, rfl, r1⟩ := r.one_inv
      rw [r1.str_inv]
      exact ⟨_, _, rfl, ⟨by rw [lim_eq]; assumption, rfl⟩, q w H _ .refl k (.int _)⟩
    · cases hm
  · obtain ⟨xs, h1, hm⟩ := Option.bind_eq_some_iff.mp hm
    cases hm
    obtain ⟨v, rfl, r1⟩ := r.one_inv
    obtain ⟨a, us, rfl, h2, h3⟩ := seq_rd k r1 h1
    refine ⟨_, us.length, rfl, ?_, ?_⟩
    · rcases h2 with h2 | h2
      · exact .inl ⟨us, h2, rfl⟩
      · exact .inr ⟨us, h2, rfl⟩
    · rw [← h3.length]
      exact q w H _ .refl k (.int _)
  · cases hm
def fInt : List D → Store → Option (D × Store)
  | [.int i], S => some (.int i, S)
  | [.bl b], S => some (.int (if b then 1 else 0), S)
  | _, _ => none
theorem fInt_s : CallS K (fun xs H Q => (∃ i, xs = [.int i] ∧ Q (.int i) H) ∨ ∃ k, xs = [.bl k] ∧ Q (.int (if k then 1 else 0)) H) fInt := by
  intro w S H ds vs d S' Q k r hm q
  unfold fInt at hm
  split at hm
  · cases hm
    obtain ⟨v, rfl, r1⟩ := r.one_inv
    exact .inl ⟨_, by rw [r1.int_inv], q w H _ .refl k (.int _)⟩
  · cases hm
    obtain ⟨v, rfl, r1⟩ := r.one_inv
    exact .inr ⟨_, by rw [r1.bl_inv], q w H _ .refl k (.int _)⟩
  · cases hm
def fAbs : List D → Store → Option (D × Store)
  | [.int i], S => some (.int (if i < 0 then -i else i), S)
  | _, _ => none
theorem fAbs_s : CallS K (fun xs H Q => ∃ i, xs = [.int i] ∧ Q (.int (if i < 0 then -i else i)) H) fAbs := by
  intro w S H ds vs d S' Q k r hm q
  unfold fAbs at hm
  split at hm
  · cases hm
    obtain ⟨v, rfl, r1⟩ := r.one_inv
    exact ⟨_, by rw [r1.int_inv], q w H _ .refl k (.int _)⟩
  · cases hm
/-- all ints -/
def intsOf : List D → Option (List Int)
  | [] => some []
  | .int i :: r => (intsOf r).bind fun ns => some (i :: ns)
  | _ => none
theorem intsOf_map : ∀ ns : List Int, intsOf (ns.map D.int) = some ns
  | [] => rfl
  | n :: ns => by simp [intsOf, intsOf_map ns]
theorem intsOf_iff : ∀ {ds : List D} {ns : List Int}, intsOf ds = some ns → ds = ns.map D.int
  | [], _, h => by cases h; rfl
  | d :: ds, ns, h => by
    unfold intsOf at h
    split at h
    · rename_i e; cases e
    · rename_i i r e
      cases e
      obtain ⟨ms, h1, h2⟩ := Option.bind_eq_some_iff.mp h
      cases h2
      rw [intsOf_iff h1]; rfl
    · cases h
def blsOf : List D → Option (List Bool)
  | [] => some []
  | .bl i :: r => (blsOf r).bind fun ns => some (i :: ns)
  | _ => none
theorem blsOf_map : ∀ ns : List Bool, blsOf (ns.map D.bl) = some ns
  | [] => rfl
  | n :: ns => by simp [blsOf, blsOf_map ns]
theorem blsOf_iff : ∀ {ds : List D} {ns : List Bool}, blsOf ds = some ns → ds = ns.map D.bl
  | [], _, h => by cases h; rfl
  | d :: ds, ns, h => by
    unfold blsOf at h
    split at h
    · rename_i e; cases e
    · rename_i i r e
      cases e
      obtain ⟨ms, h1, h2⟩ := Option.bind_eq_some_iff.mp h
      cases h2
      rw [blsOf_iff h1]; rfl
    · cases h
theorem RpL.bls : ∀ {w : Wd} {H : Hp} {ns : List Bool} {vs : List V}, RpL K w H (ns.map D.bl) vs → vs = ns.map V.bl
  | _, _, [], _, h => by cases h; rfl
  | _, _, n :: ns, _, h => by
    cases h with
    | cons r t => rw [r.bl_inv, RpL.bls t]; rfl
def fSum : List D → Store → Option (D × Store)
  | [d], S => (lstOf d S).bind fun xs => (intsOf xs).bind fun ns => some (.int ns.sum, S)
  | _, _ => none
theorem fSum_s : CallS K (rSum K) fSum := by
  intro w S H ds vs d S' Q k r hm q
  unfold fSum at hm
  split at hm
  · obtain ⟨xs, h1, hm⟩ := Option.bind_eq_some_iff.mp hm
    obtain ⟨ns, h2, hm⟩ := Option.bind_eq_some_iff.mp hm
    cases hm
    obtain ⟨v, rfl, r1⟩ := r.one_inv
    obtain ⟨a, us, rfl, h3, h4⟩ := lst_rd k r1 h1
    rw [intsOf_iff h2] at h4
    rw [h4.ints] at h3
    exact ⟨a, ns, rfl, h3, q w H _ .refl k (.int _)⟩
  · cases hm
def maxI : Int → List Int → Int := fun m l => l.foldl max m
def minI : Int → List Int → Int := fun m l => l.foldl min m
theorem maxI_eq : ∀ (l : List Int) (a m : Int), m ∈ a :: l → (∀ y ∈ a :: l, y ≤ m) → m = maxI a l
  | [], a, m, h, _ => by simpa [maxI] using h
  | b :: l, a, m, h, g => by
    show m = maxI (max a b) l
    refine maxI_eq l (max a b) m ?_ fun y hy => ?_
    · have g1 := g a (by simp)
      have g2 := g b (by simp)
      simp only [List.mem_cons] at h ⊢
      rcases h with h | h | h
      · left; omega
      · left; omega
      · right; exact h
    · simp only [List.mem_cons] at hy
      rcases hy with rfl | hy
      · have g1 := g a (by simp)
        have g2 := g b (by simp)
        omega
      · exact g y (by simp [hy])
theorem minI_eq : ∀ (l : List Int) (a m : Int), m ∈ a :: l → (∀ y ∈ a :: l, m ≤ y) → m = minI a l
  | [], a, m, h, _ => by simpa [minI] using h
  | b :: l, a, m, h, g => by
    show m = minI (min a b) l
    refine minI_eq l (min a b) m ?_ fun y hy => ?_
    · have g1 := g a (by simp)
      have g2 := g b (by simp)
      simp only [List.mem_cons] at h ⊢
      rcases h with h | h | h
      · left; omega
      · left; omega
      · right; exact h
    · simp only [List.mem_cons] at hy
      rcases hy with rfl | hy
      · have g1 := g a (by simp)
        have g2 := g b (by simp)
        omega
      · exact g y (by simp [hy])
def fMax : List D → Store → Option (D × Store)
  | [.int i, .int j], S => some (.int (if j > i then j else i), S)
  | [d], S => (lstOf d S).bind fun xs => (intsOf xs).bind fun ns => match ns with
    | [] => none
    | n :: ns => some (.int (maxI n ns), S)
  | _, _ => none
theorem fMax_s : CallS K (fun xs H Q => (∃ i j, xs = [.int i, .int j] ∧ Q (.int (if j > i then j else i)) H) ∨ rMax K xs H Q) fMax := by
  intro w S H ds vs d S' Q k r hm q
  unfold fMax at hm
  split at hm
  · cases hm
    obtain ⟨v1, v2, rfl, r1, r2⟩ := r.two_inv
    exact .inl ⟨_, _, by rw [r1.int_inv, r2.int_inv], q w H _ .refl k (.int _)⟩
  · obtain ⟨xs, h1, hm⟩ := Option.bind_eq_some_iff.mp hm
    obtain ⟨ns, h2, hm⟩ := Option.bind_eq_some_iff.mp hm
    obtain ⟨v, rfl, r1⟩ := r.one_inv
    obtain ⟨a, us, rfl, h3, h4⟩ := lst_rd k r1 h1
    rw [intsOf_iff h2] at h4
    rw [h4.ints] at h3
    split at hm
    · cases hm
    · cases hm
      refine .inr ⟨a, _, rfl, h3, by simp, fun m h5 h6 => ?_⟩
      rw [maxI_eq _ _ m h5 h6]
      exact q w H _ .refl k (.int _)
  · cases hm
def fMin : List D → Store → Option (D × Store)
  | [.int i, .int j], S => some (.int (if j < i then j else i), S)
  | [d], S => (lstOf d S).bind fun xs => (intsOf xs).bind fun ns => match ns with
    | [] => none
    | n :: ns => some (.int (minI n ns), S)
  | _, _ => none
theorem fMin_s : CallS K (fun xs H Q => (∃ i j, xs = [.int i, .int j] ∧ Q (.int (if j < i then j else i)) H) ∨ rMin K xs H Q) fMin := by
  intro w S H ds vs d S' Q k r hm q
  unfold fMin at hm
  split at hm
  · cases hm
    obtain ⟨v1, v2, rfl, r1, r2⟩ := r.two_inv
    exact .inl ⟨_, _, by rw [r1.int_inv, r2.int_inv], q w H _ .refl k (.int _)⟩
  · obtain ⟨xs, h1, hm⟩ := Option.bind_eq_some_iff.mp hm
    obtain ⟨ns, h2, hm⟩ := Option.bind_eq_some_iff.mp hm
    obtain ⟨v, rfl, r1⟩ := r.one_inv
    obtain ⟨a, us, rfl, h3, h4⟩ := lst_rd k r1 h1
    rw [intsOf_iff h2] at h4
    rw [h4.ints] at h3
    split at hm
    · cases hm
    · cases hm
      refine .inr ⟨a, _, rfl, h3, by simp, fun m h5 h6 => ?_⟩
      rw [minI_eq _ _ m h5 h6]
      exact q w H _ .refl k (.int _)
  · cases hm
def fAny : List D → Store → Option (D × Store)
  | [d], S => (lstOf d S).bind fun xs => (blsOf xs).bind fun bs => some (.bl (bs.any id), S)
  | _, _ => none
def fAll : List D → Store → Option (D × Store)
  | [d], S => (lstOf d S).bind fun xs => (blsOf xs).bind fun bs => some (.bl (bs.all id), S)
  | _, _ => none
theorem fAny_s : CallS K (rAny K) fAny := by
  intro w S H ds vs d S' Q k r hm q
  unfold fAny at hm
  split at hm
  · obtain ⟨xs, h1, hm⟩ := Option.bind_eq_some_iff.mp hm
    obtain ⟨ns, h2, hm⟩ := Option.bind_eq_some_iff.mp hm
    cases hm
    obtain ⟨v, rfl, r1⟩ := r.one_inv
    obtain ⟨a, us, rfl, h3, h4⟩ := lst_rd k r1 h1
    rw [blsOf_iff h2] at h4
    rw [h4.bls] at h3
    exact ⟨a, ns, rfl, h3, q w H _ .refl k (.bl _)⟩
  · cases hm
theorem fAll_s : CallS K (rAll K) fAll := by
  intro w S H ds vs d S' Q k r hm q
  unfold fAll at hm
  split at hm
  · obtain ⟨xs, h1, hm⟩ := Option.bind_eq_some_iff.mp hm
    obtain ⟨ns, h2, hm⟩ := Option.bind_eq_some_iff.mp hm
    cases hm
    obtain ⟨v, rfl, r1⟩ := r.one_inv
    obtain ⟨a, us, rfl, h3, h4⟩ := lst_rd k r1 h1
    rw [blsOf_iff h2] at h4
    rw [h4.bls] at h3
    exact ⟨a, ns, rfl, h3, q w H _ .refl k (.bl _)⟩
  · cases hm
def fTuple : List D → Store → Option (D × Store)
  | [d], S => (seqOf d S).bind fun xs => some (.tup xs, S)
  | _, _ => none
theorem fTuple_s : CallS K (fun xs H Q => ∃ p ys, xs = [.ref p] ∧ ((SqL K H p ys ∧ ∀ l, H l = none → Q (.ref l) (upd H l (.tup ys))) ∨ (SqT K H p ys ∧ Q (.ref p) H))) fTuple := by
  intro w S H ds vs d S' Q k r hm q
  unfold fTuple at hm
  split at hm
  · obtain ⟨xs, h1, hm⟩ := Option.bind_eq_some_iff.mp hm
    cases hm
    obtain ⟨v, rfl, r1⟩ := r.one_inv
    rename_i dd
    cases dd with
    | tup ys =>
      obtain ⟨a, us, rfl, h3, h4⟩ := r1.tup_inv
      cases h1
      exact ⟨a, us, rfl, .inr ⟨h3, q w H _ .refl k r1⟩⟩
    | lst ys =>
      obtain ⟨a, us, rfl, h3, h4⟩ := lst_rd k r1 (show lstOf _ S = some xs from h1)
      exact ⟨a, us, rfl, .inl ⟨h3, fun p hp => Post.newT q k hp h4⟩⟩
    | fr ys =>
      obtain ⟨a, us, rfl, h3, h4⟩ := lst_rd k r1 (show lstOf _ S = some xs from h1)
      exact ⟨a, us, rfl, .inl ⟨h3, fun p hp => Post.newT q k hp h4⟩⟩
    | ref ys =>
      obtain ⟨a, us, rfl, h3, h4⟩ := lst_rd k r1 (show lstOf _ S = some xs from h1)
      exact ⟨a, us, rfl, .inl ⟨h3, fun p hp => Post.newT q k hp h4⟩⟩
    | _ => cases h1
  · cases hm
/-- list(x): a new list -/
def mListOf (m : ME) : ML := fun e S => (m e S).bind fun (d, S1) => (seqOf d S1).bind fun xs => some (xs, S1)
theorem af_list {x : Str} {p pos : Pos} {a : Expr} {m : ME} (hm : X.mg x = none) (ha : AE X a m) (hg : Gl X x := by rfl) (hv : bootBuiltins x = some (.type "list") := by decide +kernel) (hn : x ≠ "__name__" := by decide) (hdb : (x == ("__debug__" : Str)) = false := by decide)
    (he : starEach [a] X.env = (false, eval a X.env) :: starEach [] X.env := by rfl) (hpl : (backTo pos (starEach [] X.env)).any (·.1) = false := by rfl) : AF X (.Call (.Name x p) [a] [] pos) (mListOf m) :=
  PE.imp (pe_callTy call_list_of hg hm hv (pa_cons ha pa_nil he) hn hdb he hpl) fun σ H Q ⟨w, e, S, d, S', re, k, hm, q⟩ => by
    unfold mListOf at hm
    obtain ⟨⟨d1, S1⟩, h1, hm⟩ := Option.bind_eq_some_iff.mp hm
    obtain ⟨xs, h2, hm⟩ := Option.bind_eq_some_iff.mp hm
    cases hm
    refine ⟨w, e, S, d1, _, re, k, h1, fun w1 H1 v s1 k1 r1 => ?_⟩
    obtain ⟨a, us, rfl, h3, h4⟩ := seq_rd k1 r1 h2
    exact ⟨a, us, rfl, h3, fun p hp => q w1 H1 p us s1 k1 hp h4⟩
/-- range(a, b) as a value -/
def fRng2 : List D → Store → Option (D × Store)
  | [.int a, .int b], S => some (.rng a b, S)
  | _, _ => none
theorem fRng2_s : CallS K (fun vs H Q => ∃ i j, vs = [V.int i, V.int j] ∧ ∀ p, H p = none → Q (.ref p) (upd H p (.rng i j))) fRng2 := by
  intro w S H ds vs d S' Q k r hm q
  unfold fRng2 at hm
  split at hm
  · cases hm
    obtain ⟨v1, v2, rfl, r1, r2⟩ := r.two_inv
    exact ⟨_, _, by rw [r1.int_inv, r2.int_inv], fun p hp => q w _ _ (.new hp) (k.laid hp) (.rng (k.new hp) upd_same)⟩
  · cases hm
theorem cr_range1 : CallR X (.type "range") (fun vs H Q => ∃ j, vs = [V.int j] ∧ ∀ p, H p = none → Q (.ref p) (upd H p (.rng 0 j))) := by
  intro pins s σ H vs us Q I r h
  obtain ⟨j, rfl, q⟩ := h
  obtain ⟨u2, rfl, rj⟩ := vals1 r
  obtain ⟨u, rfl⟩ := rj
  refine call_range_1 ⟨.ref s.heap.objs.size, upd H s.heap.objs.size (.rng 0 j), I.laid (fun b o e => Heap.get?_push_of_some _ e) (Nat.le_refl _) ?_, rfl, q _ (I.hok.fresh (Nat.le_refl _))⟩
  exact ⟨_, _, _, Heap.get?_push_size _ rfl⟩
def fRng1 : List D → Store → Option (D × Store)
  | [.int b], S => some (.rng 0 b, S)
  | _, _ => none
theorem fRng1_s : CallS K (fun vs H Q => ∃ j, vs = [V.int j] ∧ ∀ p, H p = none → Q (.ref p) (upd H p (.rng 0 j))) fRng1 := by
  intro w S H ds vs d S' Q k r hm q
  unfold fRng1 at hm
  split at hm
  · cases hm
    obtain ⟨v1, rfl, r1⟩ := r.one_inv
    exact ⟨_, by rw [r1.int_inv], fun p hp => q w _ _ (.new hp) (k.laid hp) (.rng (k.new hp) upd_same)⟩
  · cases hm
/-! ### isinstance -/
def tyOf : D → Store → Option String
  | .non, _ => some "NoneType"
  | .bl _, _ => some "bool"
  | .int _, _ => some "int"
  | .str _, _ => some "str"
  | .tup _, _ => some "tuple"
  | .lst _, _ => some "list"
  | .fr _, _ => some "list"
  | .ref i, S => match S[i]? with
    | some (.lst _) => some "list"
    | _ => none
  | .rng _ _, _ => none
theorem tyOf_ok {w : Wd} {S : Store} {H : Hp} {d : D} {v : V} {t : String} (k : Ok K w S H) (r : Rp K w H d v) (h : tyOf d S = some t) : TyX K H v (.type t) := by
  unfold tyOf at h
  split at h
  · cases h; rw [r.non_inv]; exact .base .non
  · cases h; rw [r.bl_inv]; exact .base (.bl _)
  · cases h; rw [r.int_inv]; exact .base (.int _)
  · cases h; rw [r.str_inv]; exact .base (.str _)
  · cases h
    obtain ⟨a, vs, rfl, h1, h2⟩ := r.tup_inv
    rcases h1 with (h1 | ⟨o, h1⟩) | ⟨o, its, n, h1, h3, _⟩
    · exact .base (.tup h1)
    · exact .fTuple h1
    · exact .kTuple h1 h3
  · cases h
    obtain ⟨a, vs, rfl, _, h1, h2⟩ := r.lst_inv
    exact .base (.lst h1)
  · cases h
    obtain ⟨a, vs, rfl, h1, h2⟩ := r.fr_inv
    rcases h1 with (h1 | ⟨o, h1⟩) | ⟨o, its, n, h1, h3, _⟩
    · exact .base (.lst h1)
    · exact .base (.frz h1)
    · exact .kList h1 h3
  · split at h
    · cases h
      obtain ⟨a, rfl, h1⟩ := r.ref_inv
      obtain ⟨vs, h2, h3⟩ := k.lst h1 (by assumption)
      exact .base (.lst h2)
    · cases h
  · cases h
def isT (t T : String) : Bool := t == T || (t == "bool" && T == "int")
def tyNames : List String := ["NoneType", "bool", "int", "str", "tuple", "list"]
def tyAsk : List String := ["bool", "int", "str", "tuple", "list"]
theorem isT_ok : ∀ t ∈ tyNames, ∀ T ∈ tyAsk, kitB t T = some (isT t T) := by decide +kernel
theorem tyOf_mem {d : D} {S : Store} {t : String} (h : tyOf d S = some t) : t ∈ tyNames := by
  unfold tyOf at h
  split at h
  all_goals first
    | (cases h; decide; done)
    | (split at h <;> first | (cases h; decide; done) | cases h)
    | cases h
def mIsi (T : String) (m : ME) : ME := fun e S => (m e S).bind fun (d, S1) => (tyOf d S1).bind fun t => some (.bl (isT t T), S1)
theorem ae_isi {x : Str} {T : String} {a : Expr} {m : ME} {p p2 pos : Pos} (hmi : X.mg "isinstance" = none) (hmT : X.mg x = none) (ha : AE X a m) (hT : T ∈ tyAsk := by decide) (hgi : Gl X "isinstance" := by rfl) (hgT : Gl X x := by rfl) (hv : bootBuiltins x = some (.type T) := by decide +kernel)
    (hn : x ≠ "__name__" := by decide) (hdb : (x == ("__debug__" : Str)) = false := by decide) (hvi : bootBuiltins "isinstance" = some (.builtin "isinstance") := by decide +kernel)
    (he : starEach [a, .Name x p2] X.env = (false, eval a X.env) :: starEach [.Name x p2] X.env := by rfl) (he2 : starEach [.Name x p2] X.env = (false, eval (.Name x p2) X.env) :: starEach [] X.env := by rfl) (hpl : (backTo pos (starEach [.Name x p2] X.env)).any (·.1) = false := by rfl) :
    AE X (.Call (.Name "isinstance" p) [a, .Name x p2] [] pos) (mIsi T m) :=
  PE.imp (pe_callB call_isi hgi hmi hvi (pa_cons ha (pa_cons (pe_bltn (v := .ty T) hgT hmT hv rfl hn hdb) pa_nil he2) he) (by decide) (by decide) he hpl) fun σ H Q ⟨w, e, S, d, S', re, k, hm, q⟩ => by
    unfold mIsi at hm
    obtain ⟨⟨d1, S1⟩, h1, hm⟩ := Option.bind_eq_some_iff.mp hm
    obtain ⟨t, h2, hm⟩ := Option.bind_eq_some_iff.mp hm
    cases hm
    refine ⟨w, e, S, d1, _, re, k, h1, fun w1 H1 v s1 k1 r1 => ?_⟩
    exact ⟨v, .ty T, .type t, .type T, _, rfl, .ty T, tyOf_ok k1 r1 h2, kit_ty (isT_ok t (tyOf_mem h2) T hT), q w1 H1 _ s1 k1 (.bl _)⟩
/-- isinstance(x, (T1, T2)) -/
def mIsi2 (T1 T2 : String) (m : ME) : ME := fun e S => (m e S).bind fun (d, S1) => (tyOf d S1).bind fun t => some (.bl (isT t T1 || isT t T2), S1)
theorem ae_isi2 {x y : Str} {T1 T2 : String} {a : Expr} {m : ME} {p p2 p3 pt pos : Pos} {kk} (hmi : X.mg "isinstance" = none) (hmT : X.mg x = none) (hmT2 : X.mg y = none) (ha : AE X a m) (hT : T1 ∈ tyAsk := by decide) (hT2 : T2 ∈ tyAsk := by decide) (hgi : Gl X "isinstance" := by rfl) (hgT : Gl X x := by rfl) (hgT2 : Gl X y := by rfl)
    (hv : bootBuiltins x = some (.type T1) := by decide +kernel) (hv2 : bootBuiltins y = some (.type T2) := by decide +kernel)
    (hn : x ≠ "__name__" := by decide) (hdb : (x == ("__debug__" : Str)) = false := by decide) (hn2 : y ≠ "__name__" := by decide) (hdb2 : (y == ("__debug__" : Str)) = false := by decide) (hvi : bootBuiltins "isinstance" = some (.builtin "isinstance") := by decide +kernel)
    (he : starEach [a, .Tuple [.Name x p2, .Name y p3] kk pt] X.env = (false, eval a X.env) :: starEach [.Tuple [.Name x p2, .Name y p3] kk pt] X.env := by rfl) (he2 : starEach [.Tuple [.Name x p2, .Name y p3] kk pt] X.env = (false, eval (.Tuple [.Name x p2, .Name y p3] kk pt) X.env) :: starEach [] X.env := by rfl)
    (he3 : starEach [.Name x p2, .Name y p3] X.env = (false, eval (.Name x p2) X.env) :: starEach [.Name y p3] X.env := by rfl) (he4 : starEach [.Name y p3] X.env = (false, eval (.Name y p3) X.env) :: starEach [] X.env := by rfl)
    (hpl : (backTo pos (starEach [.Tuple [.Name x p2, .Name y p3] kk pt] X.env)).any (·.1) = false := by rfl) :
    AE X (.Call (.Name "isinstance" p) [a, .Tuple [.Name x p2, .Name y p3] kk pt] [] pos) (mIsi2 T1 T2 m) :=
  PE.imp (pe_callB call_isiT hgi hmi hvi (pa_cons ha (pa_cons (pe_tup (pa_cons (pe_bltn (v := .ty T1) hgT hmT hv rfl hn hdb) (pa_cons (pe_bltn (v := .ty T2) hgT2 hmT2 hv2 rfl hn2 hdb2) pa_nil he4) he3)) pa_nil he2) he) (by decide) (by decide) he hpl) fun σ H Q ⟨w, e, S, d, S', re, k, hm, q⟩ => by
    unfold mIsi2 at hm
    obtain ⟨⟨d1, S1⟩, h1, hm⟩ := Option.bind_eq_some_iff.mp hm
    obtain ⟨t, h2, hm⟩ := Option.bind_eq_some_iff.mp hm
    cases hm
    refine ⟨w, e, S, d1, _, re, k, h1, fun w1 H1 v s1 k1 r1 => ?_⟩
    refine ⟨by rw [lim_eq]; show 2 ≤ LIM; decide, fun tp htp => ?_⟩
    have k2 := k1.laid (o := .tup [.ty T1, .ty T2]) htp
    have s2 : Stp w1 H1 w1 (upd H1 tp (.tup [.ty T1, .ty T2])) := .new htp
    refine ⟨v, tp, [.ty T1, .ty T2], .type t, [.type T1, .type T2], _, rfl, upd_same, .cons (.ty T1) (.cons (.ty T2) .nil), tyOf_ok k2 (r1.mono s2) h2, ?_, q w1 _ _ (s1.trans s2) k2 (.bl _)⟩
    have a1 := kit_ty (K := X.K) (isT_ok t (tyOf_mem h2) T1 hT)
    have a2 := kit_ty (K := X.K) (isT_ok t (tyOf_mem h2) T2 hT2)
    refine kitAny_cons a1 (fun e => ?_) (fun e => by rw [e]; rfl)
    refine kitAny_cons a2 (fun e2 => ?_) (fun e2 => by rw [e, e2]; rfl)
    rw [e, e2]; rfl
end
end DV

namespace DV
open PySem PySem.Spec PyProof.Rows L2
section
variable {X : Cx} {K : PySem.W.Frag}
/-! ### statements -/
def mSkip : MS := fun e S => some (.nx e, S)
def mSeq (a b : MS) : MS := fun e S => (a e S).bind fun (f, S1) => match f with
  | .nx e1 => b e1 S1
  | f => some (f, S1)
theorem ass_nil : ASs X [] mSkip := PSs.imp pss_nil fun D σ H ⟨w, e, S, f, S', re, k, hm, q⟩ => by
  cases hm
  exact q w H .refl k σ re
theorem tS_seq {ma mb : MS} {D : Ends} {σ : L2.St} {H : Hp} (h : tS K (mSeq ma mb) D σ H) : tSeq (tS K ma) (tS K mb) D σ H := by
  obtain ⟨w, e, S, f, S', re, k, hm, q⟩ := h
  unfold mSeq at hm
  obtain ⟨⟨f1, S1⟩, h1, hm⟩ := Option.bind_eq_some_iff.mp hm
  refine ⟨w, e, S, f1, S1, re, k, h1, fun w1 H1 s1 k1 => ?_⟩
  cases f1 with
  | nx e1 => exact fun σ1 re1 => ⟨w1, e1, S1, f, S', re1, k1, hm, fun w2 H2 s2 k2 => q w2 H2 (s1.trans s2) k2⟩
  | rt d => cases hm; exact q w1 H1 s1 k1
  | bk e1 => cases hm; exact q w1 H1 s1 k1
  | ct e1 => cases hm; exact q w1 H1 s1 k1
theorem ass_cons {st : Stmt} {rest : List Stmt} {ma mb : MS} (ha : AS X st ma) (hb : ASs X rest mb) : ASs X (st :: rest) (mSeq ma mb) := PSs.imp (pss_cons ha hb) fun _ _ _ => tS_seq
theorem ass_one {st : Stmt} {ma : MS} (ha : AS X st ma) : ASs X [st] ma := pss_one ha
section
variable {pos : Pos} {e : Expr} {m : ME}
theorem as_pass : AS X (.Pass pos) mSkip := PS.imp ps_pass fun D σ H ⟨w, e, S, f, S', re, k, hm, q⟩ => by
  cases hm
  exact q w H .refl k σ re
def mBk : MS := fun e S => some (.bk e, S)
def mCt : MS := fun e S => some (.ct e, S)
theorem as_break : AS X (.Break pos) mBk := PS.imp ps_break fun D σ H ⟨w, e, S, f, S', re, k, hm, q⟩ => by
  cases hm
  exact q w H .refl k σ re
theorem as_continue : AS X (.Continue pos) mCt := PS.imp ps_continue fun D σ H ⟨w, e, S, f, S', re, k, hm, q⟩ => by
  cases hm
  exact q w H .refl k σ re
def mRet (m : ME) : MS := fun e S => (m e S).bind fun (d, S1) => some (.rt d, S1)
theorem as_ret (h : AE X e m) : AS X (.Return (some e) pos) (mRet m) := PS.imp (ps_ret h) fun D σ H ⟨w, e, S, f, S', re, k, hm, q⟩ => by
  unfold mRet at hm
  obtain ⟨⟨d, S1⟩, h1, hm⟩ := Option.bind_eq_some_iff.mp hm
  cases hm
  exact ⟨w, e, S, d, _, re, k, h1, fun w1 H1 v s1 k1 r1 => q w1 H1 s1 k1 v r1⟩
theorem as_retN : AS X (.Return none pos) (mRet (mC .non)) := PS.imp ps_retN fun D σ H ⟨w, e, S, f, S', re, k, hm, q⟩ => by
  cases hm
  exact q w H .refl k _ .non
def mDrop (m : ME) : MS := fun e S => (m e S).bind fun (d, S1) => some (.nx e, S1)
theorem as_expr (h : AE X e m) (hs : swapsWith e none pos.line X.env = pure false := by rfl) : AS X (.Expr e pos) (mDrop m) := PS.imp (ps_expr h hs) fun D σ H ⟨w, e, S, f, S', re, k, hm, q⟩ => by
  unfold mDrop at hm
  obtain ⟨⟨d, S1⟩, h1, hm⟩ := Option.bind_eq_some_iff.mp hm
  cases hm
  exact ⟨w, e, S, d, _, re, k, h1, fun w1 H1 v s1 k1 r1 => q w1 H1 s1 k1 σ (re.mono s1)⟩
def mIfS (c : MT) (a b : MS) : MS := fun e S => (c e S).bind fun (t, S1) => if t then a e S1 else b e S1
theorem as_if {c : Expr} {sa sb : List Stmt} {mc : MT} {ma mb : MS} (hc : AT X c mc) (ha : ASs X sa ma) (hb : ASs X sb mb) : AS X (.If c sa sb pos) (mIfS mc ma mb) := PS.imp (ps_if hc ha hb) fun D σ H ⟨w, e, S, f, S', re, k, hm, q⟩ => by
  unfold mIfS at hm
  obtain ⟨⟨t, S1⟩, h1, hm⟩ := Option.bind_eq_some_iff.mp hm
  refine ⟨w, e, S, t, S1, re, k, h1, fun w1 H1 s1 k1 => ?_⟩
  cases t with
  | true => exact ⟨w1, e, S1, f, S', re.mono s1, k1, hm, fun w2 H2 s2 k2 => q w2 H2 (s1.trans s2) k2⟩
  | false => exact ⟨w1, e, S1, f, S', re.mono s1, k1, hm, fun w2 H2 s2 k2 => q w2 H2 (s1.trans s2) k2⟩
/-- targets -/
inductive Tg where
  | nm (i : Nat)
  | tp (is : List Nat)
def gNames : List Nat → TGs
  | [] => gNil
  | i :: is => gCons (gName i) (gNames is)
def Tg.g (K : PySem.W.Frag) : Tg → TG
  | .nm i => gName i
  | .tp is => gTup K is.length (gNames is)
def setAll : List Nat → List D → Ev → Ev
  | i :: is, d :: ds, e => setAll is ds (e.set i (some d))
  | _, _, e => e
def Tg.f : Tg → D → Ev → Option Ev
  | .nm i, d, e => some (e.set i (some d))
  | .tp is, .tup ds, e => if ds.length = is.length then some (setAll is ds e) else none
  | .tp _, _, _ => none
def Tg.slots : Tg → List Nat
  | .nm i => [i]
  | .tp is => is
theorem wipe_set {σ : L2.St} {i : Nat} {o : Option V} : ∀ {vs : List Nat}, i ∈ vs → wipe (σ.set i o) vs = wipe σ vs
  | [], h => by simp at h
  | v :: vs, h => by
    unfold wipe
    by_cases hv : i = v
    · subst hv
      by_cases hm : i ∈ vs
      · rw [wipe_set hm]
      · have comm : ∀ (l : List Nat) (τ : L2.St), i ∉ l → wipe (τ.set i o) l = (wipe τ l).set i o := by
          intro l
          induction l with
          | nil => intro τ _; rfl
          | cons x xs ih =>
            intro τ hx
            simp only [List.mem_cons, not_or] at hx
            unfold wipe
            rw [ih τ hx.2, List.set_comm _ _ hx.1]
        rw [comm vs σ hm, List.set_set]
    · have hm : i ∈ vs := by
        rcases List.mem_cons.mp h with z | z
        · exact absurd z hv
        · exact z
      rw [wipe_set hm]
theorem gNames_ok {w : Wd} {H : Hp} : ∀ (is : List Nat) (ds : List D) (vs : List V) (e : Ev) (σ : L2.St) (Q : L2.St → Hp → Prop), ds.length = is.length → RpE K w H e σ → RpL K w H ds vs →
    (∀ σ', RpE K w H (setAll is ds e) σ' → (∀ us, (∀ t ∈ is, t ∈ us) → wipe σ' us = wipe σ us) → Q σ' H) → gNames is vs σ H Q
  | [], [], _, e, σ, Q, _, re, r, q => by
    cases r
    exact ⟨rfl, q σ re fun _ _ => rfl⟩
  | i :: is, d :: ds, _, e, σ, Q, hl, re, r, q => by
    cases r with
    | cons r t =>
      refine ⟨_, _, rfl, ?_⟩
      show gNames is _ (σ.set i (some _)) H Q
      refine gNames_ok is ds _ (e.set i (some d)) _ Q (by simpa using hl) (re.set r) t fun σ' re' hw => q σ' re' fun us hus => ?_
      rw [hw us fun t ht => hus t (by simp [ht]), wipe_set (hus i (by simp))]
  | [], _ :: _, _, _, _, _, h, _, _, _ => by simp at h
  | _ :: _, [], _, _, _, _, h, _, _, _ => by simp at h
theorem Tg.ok {w : Wd} {H : Hp} {S : Store} (t : Tg) {d : D} {v : V} {e e' : Ev} {σ : L2.St} {Q : L2.St → Hp → Prop} (k : Ok K w S H) (re : RpE K w H e σ) (r : Rp K w H d v) (h : t.f d e = some e')
    (q : ∀ σ', RpE K w H e' σ' → (∀ us, (∀ i ∈ t.slots, i ∈ us) → wipe σ' us = wipe σ us) → Q σ' H) : t.g K v σ H Q := by
  cases t with
  | nm i =>
    cases h
    exact q _ (re.set r) fun us hus => wipe_set (hus i (by simp [Tg.slots]))
  | tp is =>
    unfold Tg.f at h
    split at h
    · rename_i heq; cases heq
    · rename_i heq
      cases heq
      split at h
      · rename_i hl
        cases h
        obtain ⟨a, vs, rfl, h1, h2⟩ := r.tup_inv
        exact ⟨a, vs, rfl, h1, by rw [← h2.length]; exact hl, gNames_ok _ _ vs _ σ Q hl re h2 q⟩
      · cases h
    · cases h
abbrev AG (X : Cx) (tg : Expr) (t : Tg) : Prop := PG X tg (t.g X.K)
theorem ag_name (i : Nat) {x : Str} {pos : Pos} (hN : X.N.Nodup) (hi : X.N[i]? = some x := by rfl) (hx : Loc X.env.scope x := by first | exact Or.inl rfl | exact Or.inr rfl) (hf : X.fn x = true ∨ X.env.scope.names.lookup x = some .local := by first | exact .inl rfl | exact .inr rfl) : AG X (.Name x pos) (.nm i) := pg_name hN hi hx hf
theorem ag_tup {es : List Expr} {k : Nat} {is : List Nat} {pos : Pos} (hc : X.calm = true) (h : PGs X es (gNames is)) (hn : (assignEach es X.env).length = is.length := by rfl) (hst : (assignEach es X.env).findIdx? (·.1) = none := by rfl) : AG X (.Tuple es k pos) (.tp is) :=
  pg_tup (k := k) (pos := pos) hc h hn hst
theorem agn_nil : PGs X [] (gNames []) := pgs_nil
/-- target = e -/
def mAsg (m : ME) (t : Tg) : MS := fun e S => (m e S).bind fun (d, S1) => (t.f d e).bind fun e1 => some (.nx e1, S1)
theorem asg_imp {m : ME} {t : Tg} {D : Ends} {σ : L2.St} {H : Hp} (h : tS K (mAsg m t) D σ H) : tAsg (tD K m) (t.g K) D σ H := by
  obtain ⟨w, e, S, f, S', re, k, hm, q⟩ := h
  unfold mAsg at hm
  obtain ⟨⟨d, S1⟩, h1, hm⟩ := Option.bind_eq_some_iff.mp hm
  obtain ⟨e1, h2, hm⟩ := Option.bind_eq_some_iff.mp hm
  cases hm
  exact ⟨w, e, S, d, _, re, k, h1, fun w1 H1 v s1 k1 r1 => t.ok k1 (re.mono s1) r1 h2 fun σ' re' _ => q w1 H1 s1 k1 σ' re'⟩
theorem as_asg {tg : Expr} {t : Tg} (he : AE X e m) (hg : AG X tg t) (hs : swapsWithSole [tg] e pos.line X.env = pure false := by rfl) (hw : swappedStores [tg] e X.env = pure none := by rfl) (h1 : (assignEach [tg] X.env).map (·.2) = [assign tg X.env] := by rfl) : AS X (.Assign [tg] e pos) (mAsg m t) := PS.imp (ps_asg he hg hs hw h1) fun _ _ _ => asg_imp
theorem as_set {i : Nat} {x : Str} {pos' : Pos} (hN : X.N.Nodup) (he : AE X e m) (hi : X.N[i]? = some x := by rfl) (hx : Loc X.env.scope x := by first | exact Or.inl rfl | exact Or.inr rfl) (hs : swapsWith e (some (.Name x pos')) pos.line X.env = pure false := by rfl) (hf : X.fn x = true ∨ X.env.scope.names.lookup x = some .local := by first | exact .inl rfl | exact .inr rfl) :
    AS X (.Assign [.Name x pos'] e pos) (mAsg m (.nm i)) := PS.imp (ps_set hN hi hx he hs hf) fun D σ H q => asg_imp q
/-- x += e -/
def mAug (i : Nat) (m : ME) (f : D → D → Store → Option (D × Store)) : MS := fun e S => match e[i]? with
  | some (some x) => (m e S).bind fun (y, S1) => (f x y S1).bind fun (z, S2) => some (.nx (e.set i (some z)), S2)
  | _ => none
def IpS (K : PySem.W.Frag) (r : TIp) (f : D → D → Store → Option (D × Store)) : Prop := OpS K r f
theorem as_aug {i : Nat} {x : Str} {op : Operator} {r : TIp} {f : D → D → Store → Option (D × Store)} {pos' : Pos} (hN : X.N.Nodup) (ho : PIp X op r) (h : IpS X.K r f) (he : AE X e m) (hi : X.N[i]? = some x := by rfl) (hx : Loc X.env.scope x := by first | exact Or.inl rfl | exact Or.inr rfl)
    (hf : X.fn x = true ∨ X.env.scope.names.lookup x = some .local := by first | exact .inl rfl | exact .inr rfl) : AS X (.AugAssign (.Name x pos') op e pos) (mAug i m f) := PS.imp (ps_aug hN hi hx he ho hf) fun D σ H ⟨w, e, S, fl, S', re, k, hm, q⟩ => by
  unfold mAug at hm
  split at hm
  · rename_i d hd
    obtain ⟨⟨y, S1⟩, h1, hm⟩ := Option.bind_eq_some_iff.mp hm
    obtain ⟨⟨z, S2⟩, h2, hm⟩ := Option.bind_eq_some_iff.mp hm
    cases hm
    obtain ⟨v, hv, rv⟩ := re.2 i d hd
    refine ⟨v, hv, w, e, S, y, S1, re, k, h1, fun w1 H1 u s1 k1 r1 => ?_⟩
    exact h w1 S1 H1 d y z v u _ _ k1 (rv.mono s1) r1 h2 fun w2 H2 x2 s2 k2 r2 => q w2 H2 (s1.trans s2) k2 _ (((re.mono s1).mono s2).set r2)
  · cases hm
def fAddI : D → D → Store → Option (D × Store)
  | .int i, .int j, S => some (.int (i + j), S)
  | _, _, _ => none
theorem ipS_add : IpS K (ipI fun i j => i + j) fAddI := by
  intro w S H a b d x y S' Q k ra rb hm q
  unfold fAddI at hm
  split at hm
  · cases hm
    exact ⟨_, _, ra.int_inv, rb.int_inv, q w H _ .refl k (.int _)⟩
  · cases hm
theorem ipS_sub : IpS K (ipI fun i j => i - j) fSub := by
  intro w S H a b d x y S' Q k ra rb hm q
  unfold fSub at hm
  split at hm
  · cases hm
    exact ⟨_, _, ra.int_inv, rb.int_inv, q w H _ .refl k (.int _)⟩
  · cases hm
/-- o[i] = e, a list of the store -/
def mSetIx (m mo mi : ME) : MS := fun e S => (m e S).bind fun (v, S1) => (mo e S1).bind fun (o, S2) => (mi e S2).bind fun (i, S3) => match o, i with
  | .ref p, .int k => match S3[p]? with
    | some (.lst xs) => (ixN xs.length k).bind fun j => some (.nx e, S3.set p (.lst (xs.set j v)))
    | _ => none
  | _, _ => none
theorem as_setIx {o i : Expr} {mo mi : ME} {pos' : Pos} (he : AE X e m) (ho : AE X o mo) (hi : AE X i mi) (hs : swapsWithSole [.Subscript o i pos'] e pos.line X.env = pure false := by rfl) (hw : swappedStores [.Subscript o i pos'] e X.env = pure none := by rfl)
    (ha : ∀ v, assign (.Subscript o i pos') X.env v = (do
      let ov ← holding [v] (eval o X.env)
      let iv ← holding [v, ov] (eval i X.env)
      standAt pos'
      holding [v, ov, iv] (setItem ov iv v)
      release [v, ov, iv] []) := by intro _; rfl) (h1 : (assignEach [.Subscript o i pos'] X.env).map (·.2) = [assign (.Subscript o i pos') X.env] := by rfl) :
    AS X (.Assign [.Subscript o i pos'] e pos) (mSetIx m mo mi) := PS.imp (ps_asg he (pg_sub ho hi set_list ha) hs hw h1) fun D σ H ⟨w, e, S, fl, S', re, k, hm, q⟩ => by
  unfold mSetIx at hm
  obtain ⟨⟨v, S1⟩, h1, hm⟩ := Option.bind_eq_some_iff.mp hm
  obtain ⟨⟨o1, S2⟩, h2, hm⟩ := Option.bind_eq_some_iff.mp hm
  obtain ⟨⟨i1, S3⟩, h3, hm⟩ := Option.bind_eq_some_iff.mp hm
  simp only at hm
  split at hm
  · split at hm
    · rename_i xs hx
      obtain ⟨j, h4, hm⟩ := Option.bind_eq_some_iff.mp hm
      cases hm
      refine ⟨w, e, S, v, S1, re, k, h1, fun w1 H1 u s1 k1 r1 => ⟨w1, e, S1, _, S2, re.mono s1, k1, h2, fun w2 H2 u2 s2 k2 r2 => ⟨w2, e, S2, _, S3, (re.mono s1).mono s2, k2, h3, fun w3 H3 u3 s3 k3 r3 => ?_⟩⟩⟩
      obtain ⟨a, rfl, ha⟩ := (r2.mono s3).ref_inv
      obtain ⟨vs, h5, h6⟩ := k3.lst ha hx
      refine ⟨a, vs, _, j, rfl, r3.int_inv, h5, by rw [← h6.length]; exact h4, ?_⟩
      have rv := ((r1.mono s2).mono s3)
      have st : Stp w3 H3 w3 (upd H3 a (.lst (vs.set j u))) := .put (List.mem_of_getElem? ha)
      exact q w3 _ (((s1.trans s2).trans s3).trans st) (k3.put ha (.lst (h6.set rv j))) σ ((((re.mono s1).mono s2).mono s3).mono st)
    · cases hm
  · cases hm
end

/-! ### what is walked -/
structure Src where
  n : Nat
  get : Nat → Store → Option (Option D)
def Src.seq (xs : List D) : Src := ⟨xs.length, fun i _ => some xs[i]?⟩
def Src.live (p n : Nat) : Src := ⟨n, fun i S => match S[p]? with
  | some (.lst xs) => some xs[i]?
  | _ => none⟩
def Src.enum (s : Src) : Src := ⟨s.n, fun i S => (s.get i S).map fun o => o.map fun d => .tup [.int (i : Nat), d]⟩
abbrev MI := Ev → Store → Option (Src × Store)
def WalkOk (K : PySem.W.Frag) (w0 : Wd) (H0 : Hp) (J : It) (src : Src) : Prop := ∀ (i : Nat) (w : Wd) (H : Hp) (S : Store), Wst w0 H0 w H → Ok K w S H →
  (∀ d, src.get i S = some (some d) → J.go i H ∧ ∀ x H', J.yld i H x H' → Stp w H w H' ∧ Ok K w S H' ∧ Rp K w H' d x) ∧ (src.get i S = some none → J.stop i H)
def tI (K : PySem.W.Frag) (m : MI) : TI := fun σ H R => ∃ w e S src S', RpE K w H e σ ∧ Ok K w S H ∧ m e S = some (src, S') ∧ ∀ w' H' J, Stp w H w' H' → Ok K w' S' H' → WalkOk K w' H' J src → R J H'
abbrev AI (X : Cx) (tg it : Expr) (m : MI) : Prop := PI X tg it (tI X.K m)
theorem pi_any {tg l : Expr} {tl : TE} (hl : PE X l tl) : PI X tg l (fun σ H R => tl σ H fun x H1 => ∃ a, x = .ref a ∧ (((∃ xs, SqL X.K H1 a xs) ∧ R (Itl X.K a) H1) ∨ ((∃ xs, SqT X.K H1 a xs) ∧ R (Itt X.K a) H1) ∨
    ∃ lo hi, H1 a = some (.rng lo hi) ∧ -(2 ^ 62) ≤ lo ∧ lo < 2 ^ 62 ∧ -(2 ^ 62) ≤ hi ∧ hi < 2 ^ 62 ∧ R (Itr lo (hi - lo).toNat) H1)) := by
  refine ⟨fun pins s σ H R I h => ?_⟩
  refine thn (hl.run pins s σ H _ I h) fun v s1 ⟨x, H1, I1, r1, q1⟩ => ?_
  obtain ⟨a, e, q⟩ := q1
  subst e
  cases r1
  rcases q with ⟨⟨xs, hq⟩, q⟩ | ⟨⟨xs, hq⟩, q⟩ | ⟨lo, hi, hq, h1, h2, h3, h4, q⟩
  · obtain ⟨its, rv, p, hz⟩ := I1.list hq
    refine wpAny_pyIter_list p.isList ?_
    refine ⟨s1.heap.objs.size, [s1.heap.objs.size], _, _, H1, rfl, I1.kept (t' := s1.toks) fun b o e => Heap.get?_push_of_some _ e, turn_list a _, ⟨_, Heap.get?_push_size _ rfl, rfl, rfl⟩, fun b hb => ?_, q⟩
    have e : b = s1.heap.objs.size := by simpa using hb
    subst e
    exact I1.fpOk (Nat.le_refl _) (I1.hok.fresh (Nat.le_refl _))
  · obtain ⟨its, rv, p, hz⟩ := I1.tuple hq
    refine wpAny_pyIter_tuple (show s1.heap.IsTuple a its.toArray from p) ?_
    refine ⟨s1.heap.objs.size, [s1.heap.objs.size], _, _, H1, rfl, I1.kept (t' := s1.toks) fun b o e => Heap.get?_push_of_some _ e, turn_tuple a _, ⟨_, Heap.get?_push_size _ rfl, rfl, rfl⟩, fun b hb => ?_, q⟩
    have e : b = s1.heap.objs.size := by simpa using hb
    subst e
    exact I1.fpOk (Nat.le_refl _) (I1.hok.fresh (Nat.le_refl _))
  · obtain ⟨t, u, v, ho⟩ := I1.hok a _ hq
    refine wpAny_pyIter_range ho (small_one h1 h2 h3 h4) ?_
    refine ⟨s1.heap.objs.size, [s1.heap.objs.size], _, _, H1, rfl, I1.kept (t' := s1.toks) fun b o e => Heap.get?_push_of_some _ e, turn_range _ lo (hi - lo).toNat, ?_, fun b hb => ?_, q⟩
    · have e1 : lo + ((0 : Nat) : Int) * 1 = lo := by simp
      have e2 : (((hi - lo).toNat : Nat) : Int) - ((0 : Nat) : Int) = Builtin.Range.rangeSize lo hi 1 := by rw [rangeSize_one]; split <;> omega
      show IsRangeIter _ _ (lo + ((0 : Nat) : Int) * 1) ((((hi - lo).toNat : Nat) : Int) - ((0 : Nat) : Int)) 1
      rw [e1, e2]
      exact Heap.get?_push_size _ rfl
    · have e : b = s1.heap.objs.size := by simpa using hb
      subst e
      exact I1.fpOk (Nat.le_refl _) (I1.hok.fresh (Nat.le_refl _))
def rngL (lo hi : Int) : List D := (List.range (hi - lo).toNat).map fun i => .int (lo + (i : Nat))
abbrev I62 (i : Int) : Prop := -(2 ^ 62) ≤ i ∧ i < 2 ^ 62
def srcOf : D → Store → Option Src
  | .tup xs, _ => some (.seq xs)
  | .lst xs, _ => some (.seq xs)
  | .fr xs, _ => some (.seq xs)
  | .rng lo hi, _ => if I62 lo ∧ I62 hi then some (.seq (rngL lo hi)) else none
  | .ref p, S => match S[p]? with
    | some (.lst xs) => some (.live p xs.length)
    | _ => none
  | _, _ => none
section
variable {w : Wd} {H : Hp} {S : Store}
theorem walk_L {a : Addr} {vs : List V} {ds : List D} (h : SqL K H a vs) (ho : ∀ o, H a = some o → Out w a) (r : RpL K w H ds vs) : WalkOk K w H (Itl K a) (.seq ds) := fun i w1 H1 S1 s1 k1 => by
  have h1 : SqL K H1 a vs := by
    rcases h with h | h
    · refine .inl ?_
      rcases h with h | ⟨u, h⟩
      · exact .inl (s1.keep _ _ h (ho _ h).1 (ho _ h).2).1
      · exact .inr ⟨u, (s1.keep _ _ h (ho _ h).1 (ho _ h).2).1⟩
    · exact .inr h
  refine ⟨fun d hd => ?_, fun hn => ?_⟩
  · have hd : ds[i]? = some d := Option.some.inj hd
    obtain ⟨v, hv, rv⟩ := r.get hd
    exact ⟨⟨vs, v, h1, hv⟩, fun x H' y => by
      obtain ⟨rfl, y⟩ := y
      have := y vs h1
      rw [hv] at this
      cases this
      exact ⟨.refl, k1, rv.monoW s1⟩⟩
  · have hn : ds[i]? = none := Option.some.inj hn
    exact ⟨vs, h1, by rw [← r.length]; exact List.getElem?_eq_none_iff.mp hn⟩
theorem walk_T {a : Addr} {vs : List V} {ds : List D} (h : SqT K H a vs) (ho : ∀ o, H a = some o → Out w a) (r : RpL K w H ds vs) : WalkOk K w H (Itt K a) (.seq ds) := fun i w1 H1 S1 s1 k1 => by
  have h1 : SqT K H1 a vs := by
    rcases h with h | h
    · refine .inl ?_
      rcases h with h | ⟨u, h⟩
      · exact .inl (s1.keep _ _ h (ho _ h).1 (ho _ h).2).1
      · exact .inr ⟨u, (s1.keep _ _ h (ho _ h).1 (ho _ h).2).1⟩
    · exact .inr h
  refine ⟨fun d hd => ?_, fun hn => ?_⟩
  · have hd : ds[i]? = some d := Option.some.inj hd
    obtain ⟨v, hv, rv⟩ := r.get hd
    exact ⟨⟨vs, v, h1, hv⟩, fun x H' y => by
      obtain ⟨rfl, y⟩ := y
      have := y vs h1
      rw [hv] at this
      cases this
      exact ⟨.refl, k1, rv.monoW s1⟩⟩
  · have hn : ds[i]? = none := Option.some.inj hn
    exact ⟨vs, h1, by rw [← r.length]; exact List.getElem?_eq_none_iff.mp hn⟩
theorem walk_S {a : Addr} {p n : Nat} (h : w.rho[p]? = some a) : WalkOk K w H (Itl K a) (.live p n) := fun i w1 H1 S1 s1 k1 => by
  have h1 : w1.rho[p]? = some a := by
    obtain ⟨m, e⟩ := s1.pre
    rw [e, List.getElem?_append_left (List.getElem?_eq_some_iff.mp h).1]; exact h
  refine ⟨fun d hd => ?_, fun hn => ?_⟩
  · simp only [Src.live] at hd
    split at hd
    · rename_i xs hx
      have hd : xs[i]? = some d := Option.some.inj hd
      obtain ⟨vs, h2, r⟩ := k1.lst h1 hx
      obtain ⟨v, hv, rv⟩ := r.get hd
      exact ⟨⟨vs, v, .of h2, hv⟩, fun x H' y => by
        obtain ⟨rfl, y⟩ := y
        have := y vs (.of h2)
        rw [hv] at this
        cases this
        exact ⟨.refl, k1, rv⟩⟩
    · cases hd
  · simp only [Src.live] at hn
    split at hn
    · rename_i xs hx
      have hn : xs[i]? = none := Option.some.inj hn
      obtain ⟨vs, h2, r⟩ := k1.lst h1 hx
      exact ⟨vs, .of h2, by rw [← r.length]; exact List.getElem?_eq_none_iff.mp hn⟩
    · cases hn
theorem walk_R {lo : Int} {n : Nat} : WalkOk K w H (Itr lo n) (.seq ((List.range n).map fun (i : Nat) => .int (lo + (i : Nat)))) := fun i w1 H1 S1 s1 k1 => by
  refine ⟨fun d hd => ?_, fun hn => ?_⟩
  · have hd : ((List.range n).map fun (i : Nat) => D.int (lo + (i : Nat)))[i]? = some d := Option.some.inj hd
    have hi : i < n := by
      have := (List.getElem?_eq_some_iff.mp hd).1
      simpa using this
    rw [List.getElem?_map, List.getElem?_range hi] at hd
    cases hd
    exact ⟨hi, fun x H' ⟨e1, e2⟩ => by subst e1 e2; exact ⟨.refl, k1, .int _⟩⟩
  · have hn : ((List.range n).map fun (i : Nat) => D.int (lo + (i : Nat)))[i]? = none := Option.some.inj hn
    have := List.getElem?_eq_none_iff.mp hn
    show n ≤ i
    simpa using this
theorem Rp.tup_inv' {d : List D} {v : V} (r : Rp K w H (.tup d) v) : ∃ a vs, v = .ref a ∧ SqT K H a vs ∧ RpL K w H d vs ∧ (SqT K (fun _ => none) a vs ∨ Out w a) := by
  cases r with
  | tup o h l => exact ⟨_, _, rfl, .inl h, l, .inr o⟩
  | tupK h l => exact ⟨_, _, rfl, SqT.none_mono h, l, .inl h⟩
end
/-- K's own things are no tracked ones -/
theorem walkT_of {w : Wd} {H : Hp} {a : Addr} {vs : List V} {ds : List D} (h : SqT K (fun _ => none) a vs) (r : RpL K w H ds vs) : WalkOk K w H (Itt K a) (.seq ds) := fun i w1 H1 S1 s1 k1 => by
  have h1 : SqT K H1 a vs := SqT.none_mono h
  refine ⟨fun d hd => ?_, fun hn => ?_⟩
  · have hd : ds[i]? = some d := Option.some.inj hd
    obtain ⟨v, hv, rv⟩ := r.get hd
    exact ⟨⟨vs, v, h1, hv⟩, fun x H' y => by
      obtain ⟨rfl, y⟩ := y
      have := y vs h1
      rw [hv] at this
      cases this
      exact ⟨.refl, k1, rv.monoW s1⟩⟩
  · have hn : ds[i]? = none := Option.some.inj hn
    exact ⟨vs, h1, by rw [← r.length]; exact List.getElem?_eq_none_iff.mp hn⟩
theorem walkL_of {w : Wd} {H : Hp} {a : Addr} {vs : List V} {ds : List D} (h : SqL K (fun _ => none) a vs) (r : RpL K w H ds vs) : WalkOk K w H (Itl K a) (.seq ds) := fun i w1 H1 S1 s1 k1 => by
  have h1 : SqL K H1 a vs := SqL.none_mono h
  refine ⟨fun d hd => ?_, fun hn => ?_⟩
  · have hd : ds[i]? = some d := Option.some.inj hd
    obtain ⟨v, hv, rv⟩ := r.get hd
    exact ⟨⟨vs, v, h1, hv⟩, fun x H' y => by
      obtain ⟨rfl, y⟩ := y
      have := y vs h1
      rw [hv] at this
      cases this
      exact ⟨.refl, k1, rv.monoW s1⟩⟩
  · have hn : ds[i]? = none := Option.some.inj hn
    exact ⟨vs, h1, by rw [← r.length]; exact List.getElem?_eq_none_iff.mp hn⟩
def mIt (m : ME) : MI := fun e S => (m e S).bind fun (d, S1) => (srcOf d S1).bind fun s => some (s, S1)
theorem ai_any {tg l : Expr} {m : ME} (hl : AE X l m) : AI X tg l (mIt m) := PI.imp (pi_any hl) fun σ H R ⟨w, e, S, src, S', re, k, hm, q⟩ => by
  unfold mIt at hm
  obtain ⟨⟨d, S1⟩, h1, hm⟩ := Option.bind_eq_some_iff.mp hm
  obtain ⟨s, h2, hm⟩ := Option.bind_eq_some_iff.mp hm
  cases hm
  refine ⟨w, e, S, d, _, re, k, h1, fun w1 H1 v s1 k1 r1 => ?_⟩
  unfold srcOf at h2
  split at h2
  · cases h2
    cases r1 with
    | tup o h l => exact ⟨_, rfl, .inr (.inl ⟨⟨_, .inl h⟩, q w1 H1 _ s1 k1 (walk_T (.inl h) (fun _ _ => o) l)⟩)⟩
    | tupK h l => exact ⟨_, rfl, .inr (.inl ⟨⟨_, SqT.none_mono h⟩, q w1 H1 _ s1 k1 (walkT_of h l)⟩)⟩
  · cases h2
    obtain ⟨a, vs, rfl, o, h, l⟩ := r1.lst_inv
    exact ⟨a, rfl, .inl ⟨⟨_, .of h⟩, q w1 H1 _ s1 k1 (walk_L (.of h) (fun _ _ => o) l)⟩⟩
  · cases h2
    cases r1 with
    | fr o h l => exact ⟨_, rfl, .inl ⟨⟨_, .inl h⟩, q w1 H1 _ s1 k1 (walk_L (.inl h) (fun _ _ => o) l)⟩⟩
    | frK h l => exact ⟨_, rfl, .inl ⟨⟨_, SqL.none_mono h⟩, q w1 H1 _ s1 k1 (walkL_of h l)⟩⟩
  · split at h2
    · rename_i hb
      cases h2
      obtain ⟨a, rfl, h⟩ := r1.rng_inv
      exact ⟨a, rfl, .inr (.inr ⟨_, _, h, hb.1.1, hb.1.2, hb.2.1, hb.2.2, q w1 H1 _ s1 k1 walk_R⟩)⟩
    · cases h2
  · split at h2
    · rename_i xs hx
      cases h2
      obtain ⟨a, rfl, h⟩ := r1.ref_inv
      obtain ⟨vs, h3, h4⟩ := k1.lst h hx
      exact ⟨a, rfl, .inl ⟨⟨vs, .of h3⟩, q w1 H1 _ s1 k1 (walk_S h)⟩⟩
    · cases h2
  · cases h2
/-- range(b), range(a, b) -/
def mRg1 (ms : ML) : MI := fun e S => (ms e S).bind fun (ds, S1) => match ds with
  | [.int b] => if I62 b then some (.seq (rngL 0 b), S1) else none
  | _ => none
def mRg2 (ms : ML) : MI := fun e S => (ms e S).bind fun (ds, S1) => match ds with
  | [.int a, .int b] => if I62 a ∧ I62 b then some (.seq (rngL a b), S1) else none
  | _ => none
theorem rngL0 (b : Int) : rngL 0 b = (List.range b.toNat).map fun (i : Nat) => .int (0 + (i : Nat)) := by unfold rngL; rw [Int.sub_zero]
theorem ai_range1 {tg a : Expr} {ms : ML} {p pos : Pos} (hm : X.mg "range" = none) (ha : AA X [a] ms) (hg : Gl X "range" := by rfl) (hs : starEach [a] X.env = [(false, eval a X.env)] := by rfl) : AI X tg (.Call (.Name "range" p) [a] [] pos) (mRg1 ms) :=
  PI.imp (pi_range1 hg hm ha hs) fun σ H R ⟨w, e, S, src, S', re, k, hm, q⟩ => by
    unfold mRg1 at hm
    obtain ⟨⟨d, S1⟩, h1, hm⟩ := Option.bind_eq_some_iff.mp hm
    simp only at hm
    split at hm
    · split at hm
      · rename_i hb
        cases hm
        refine ⟨w, e, S, _, _, re, k, h1, fun w1 H1 vs s1 k1 r1 => ?_⟩
        obtain ⟨v, rfl, r2⟩ := r1.one_inv
        refine ⟨_, by rw [r2.int_inv], hb.1, hb.2, q w1 H1 _ s1 k1 ?_⟩
        rw [rngL0]
        exact walk_R
      · cases hm
    · cases hm
theorem ai_range2 {tg a b : Expr} {ms : ML} {p pos : Pos} (hm : X.mg "range" = none) (ha : AA X [a, b] ms) (hg : Gl X "range" := by rfl) (hs : starEach [a, b] X.env = [(false, eval a X.env), (false, eval b X.env)] := by rfl) (hs2 : starEach [b] X.env = [(false, eval b X.env)] := by rfl) : AI X tg (.Call (.Name "range" p) [a, b] [] pos) (mRg2 ms) :=
  PI.imp (pi_range2 hg hm ha hs hs2) fun σ H R ⟨w, e, S, src, S', re, k, hm, q⟩ => by
    unfold mRg2 at hm
    obtain ⟨⟨d, S1⟩, h1, hm⟩ := Option.bind_eq_some_iff.mp hm
    simp only at hm
    split at hm
    · split at hm
      · rename_i hb
        cases hm
        refine ⟨w, e, S, _, _, re, k, h1, fun w1 H1 vs s1 k1 r1 => ?_⟩
        obtain ⟨v, v2, rfl, r3, r4⟩ := r1.two_inv
        exact ⟨_, _, by rw [r3.int_inv, r4.int_inv], ⟨hb.1.1, hb.1.2, hb.2.1, hb.2.2⟩, q w1 H1 _ s1 k1 walk_R⟩
      · cases hm
    · cases hm

/-! ### for -/
def forGo (get : Nat → Store → Option (Option D)) (bind : D → Ev → Option Ev) (body : MS) : Nat → Nat → Ev → Store → Option (Fl × Store)
  | 0, i, e, S => match get i S with
    | some none => some (.nx e, S)
    | _ => none
  | n + 1, i, e, S => match get i S with
    | some none => some (.nx e, S)
    | some (some d) => (bind d e).bind fun e1 => (body e1 S).bind fun (f, S1) => match f with
      | .nx e2 => forGo get bind body n (i + 1) e2 S1
      | .ct e2 => forGo get bind body n (i + 1) e2 S1
      | .bk e2 => some (.nx e2, S1)
      | .rt d => some (.rt d, S1)
    | none => none
def mFor (mi : MI) (t : Tg) (body : MS) : MS := fun e S => (mi e S).bind fun (s, S1) => forGo s.get t.f body s.n 0 e S1
theorem as_for {tg it : Expr} {bd : List Stmt} {pos : Pos} {mi : MI} {t : Tg} {mb : MS} (hp : PassesOwn (model X.prog X.w) X.A X.env X.xe) (hc : X.calm = true) (hi : AI X tg it mi) (hg : AG X tg t) (hb : ASs X bd mb) (hs : ∀ x, foldedSetIterable it X.env x = pure x := by intro _; rfl) :
    AS X (.For tg it bd [] pos) (mFor mi t mb) := PS.imp (ps_for hp hc hi hg hb hs) fun D σ H ⟨w, e, S, fl, S', re, k, hm, q⟩ => by
  unfold mFor at hm
  obtain ⟨⟨src, S1⟩, h1, hm⟩ := Option.bind_eq_some_iff.mp hm
  refine ⟨w, e, S, src, S1, re, k, h1, fun w1 H1 J s1 k1 W => ?_⟩
  refine ⟨fun i m σ H2 => ∃ w2 e2 S2, Stp w1 H1 w2 H2 ∧ Ok X.K w2 S2 H2 ∧ RpE X.K w2 H2 e2 σ ∧ forGo src.get t.f mb m i e2 S2 = some (fl, S'), ⟨src.n, w1, e, S1, .refl, k1, re.mono s1, hm⟩, ?_⟩
  rintro i m σ2 H2 ⟨w2, e2, S2, s2, k2, re2, hm2⟩
  obtain ⟨go, stop⟩ := W i w2 H2 S2 s2.toW k2
  have fin : some (Fl.nx e2, S2) = some (fl, S') → D.nx σ2 H2 := fun z => by
    cases z
    exact q w2 H2 (s1.trans s2) k2 σ2 re2
  cases hget : src.get i S2 with
  | none => cases m <;> (simp only [forGo, hget] at hm2; cases hm2)
  | some o =>
    cases o with
    | none =>
      refine .inl ⟨stop hget, fin ?_⟩
      cases m <;> (simp only [forGo, hget] at hm2; exact hm2)
    | some d =>
      cases m with
      | zero => simp only [forGo, hget] at hm2; cases hm2
      | succ m =>
        simp only [forGo, hget] at hm2
        obtain ⟨e3, h3, hm2⟩ := Option.bind_eq_some_iff.mp hm2
        obtain ⟨⟨f4, S4⟩, h4, hm2⟩ := Option.bind_eq_some_iff.mp hm2
        obtain ⟨g1, g2⟩ := go d hget
        refine .inr ⟨g1, fun σ5 H5 => ∃ w5 e5, Stp w1 H1 w5 H5 ∧ Ok X.K w5 S4 H5 ∧ RpE X.K w5 H5 e5 σ5 ∧ forGo src.get t.f mb m (i + 1) e5 S4 = some (fl, S'), fun σ5 H5 ⟨w5, e5, a1, a2, a3, a4⟩ => ⟨m, Nat.lt_succ_self m, w5, e5, S4, a1, a2, a3, a4⟩, fun x H3 y => ?_⟩
        obtain ⟨st, k3, rx⟩ := g2 x H3 y
        refine t.ok k3 (re2.mono st) rx h3 fun σ4 re4 _ => ?_
        refine ⟨w2, e3, S2, f4, S4, re4, k3, h4, fun w5 H5 s5 k5 => ?_⟩
        have st5 : Stp w1 H1 w5 H5 := (s2.trans st).trans s5
        cases f4 with
        | nx e5 => exact fun σ5 re5 => ⟨w5, e5, st5, k5, re5, hm2⟩
        | ct e5 => exact fun σ5 re5 => ⟨w5, e5, st5, k5, re5, hm2⟩
        | bk e5 => cases hm2; exact fun σ5 re5 => q w5 H5 (s1.trans st5) k5 σ5 re5
        | rt d => cases hm2; exact fun v rv => q w5 H5 (s1.trans st5) k5 v rv
/-! ### while -/
def whileGo (c : MT) (body : MS) : Nat → Ev → Store → Option (Fl × Store)
  | 0, _, _ => none
  | n + 1, e, S => (c e S).bind fun (b, S1) => if b then (body e S1).bind fun (f, S2) => match f with
      | .nx e2 => whileGo c body n e2 S2
      | .ct e2 => whileGo c body n e2 S2
      | .bk e2 => some (.nx e2, S2)
      | .rt d => some (.rt d, S2)
    else some (.nx e, S1)
def mWhile (n : Nat) (c : MT) (body : MS) : MS := whileGo c body n
theorem as_while {c : Expr} {bd : List Stmt} {pos : Pos} {mc : MT} {mb : MS} (n : Nat) (hp : PassesOwn (model X.prog X.w) X.A X.env X.xe) (hc : AT X c mc) (hb : ASs X bd mb) : AS X (.While c bd [] pos) (mWhile n mc mb) :=
  PS.imp (ps_while hp hc hb) fun D σ H ⟨w, e, S, fl, S', re, k, hm, q⟩ => by
  refine ⟨fun m σ H2 => ∃ w2 e2 S2, Stp w H w2 H2 ∧ Ok X.K w2 S2 H2 ∧ RpE X.K w2 H2 e2 σ ∧ whileGo mc mb m e2 S2 = some (fl, S'), ⟨n, w, e, S, .refl, k, re, hm⟩, ?_⟩
  rintro m σ2 H2 ⟨w2, e2, S2, s2, k2, re2, hm2⟩
  cases m with
  | zero => simp only [whileGo] at hm2; cases hm2
  | succ m =>
    simp only [whileGo] at hm2
    obtain ⟨⟨b, S3⟩, h3, hm2⟩ := Option.bind_eq_some_iff.mp hm2
    refine ⟨w2, e2, S2, b, S3, re2, k2, h3, fun w3 H3 s3 k3 => ?_⟩
    cases b with
    | true =>
      obtain ⟨⟨f4, S4⟩, h4, hm2⟩ := Option.bind_eq_some_iff.mp hm2
      rw [if_pos rfl]
      refine ⟨fun σ5 H5 => ∃ w5 e5, Stp w H w5 H5 ∧ Ok X.K w5 S4 H5 ∧ RpE X.K w5 H5 e5 σ5 ∧ whileGo mc mb m e5 S4 = some (fl, S'), fun σ5 H5 ⟨w5, e5, a1, a2, a3, a4⟩ => ⟨m, Nat.lt_succ_self m, w5, e5, S4, a1, a2, a3, a4⟩, ?_⟩
      refine ⟨w3, e2, S3, f4, S4, re2.mono s3, k3, h4, fun w5 H5 s5 k5 => ?_⟩
      have st5 : Stp w H w5 H5 := (s2.trans s3).trans s5
      cases f4 with
      | nx e5 => exact fun σ5 re5 => ⟨w5, e5, st5, k5, re5, hm2⟩
      | ct e5 => exact fun σ5 re5 => ⟨w5, e5, st5, k5, re5, hm2⟩
      | bk e5 => cases hm2; exact fun σ5 re5 => q w5 H5 st5 k5 σ5 re5
      | rt d => cases hm2; exact fun v rv => q w5 H5 st5 k5 v rv
    | false =>
      rw [if_neg Bool.false_ne_true] at hm2 ⊢
      cases hm2
      exact q w3 H3 (s2.trans s3) k3 σ2 (re2.mono s3)
end
end DV

namespace DV
open PySem PySem.Spec PyProof.Rows L2
section
variable {K : PySem.W.Frag}
/-! ### hiding an address and showing it again -/
def Wd.hide (w : Wd) (L : Addr) : Wd := ⟨w.rho, fun a => w.B a ∨ a = L⟩
section
variable {w w' : Wd} {H H' : Hp} {L : Addr} {o : HO} {S : Store}
theorem Stp.hide (h : H L = none) : Stp w H (w.hide L) (upd H L o) :=
  ⟨fun b u e _ => ⟨fun z => z.elim id fun z => absurd z (ne_of_none e h), .inl⟩, ⟨[], by simp [Wd.hide]⟩, fun b u e n => ⟨by rw [upd_ne (ne_of_none e h)]; exact e, n⟩⟩
theorem Ok.hide (k : Ok K w S H) (h : H L = none) : Ok K (w.hide L) S (upd H L o) where
  len := k.len
  nd := k.nd
  ob := fun i a x h1 h2 => by
    obtain ⟨u, e, r⟩ := k.ob i a x h1 h2
    exact ⟨u, by rw [upd_ne (ne_of_none e h)]; exact e, r.mono (Stp.hide h)⟩
  nb := fun a ha z => by
    rcases z with z | z
    · exact k.nb a ha z
    · subst z; exact (k.new h).1 ha
  bt := fun a z => by
    rcases z with z | z
    · obtain ⟨u, e⟩ := k.bt a z
      exact ⟨u, by rw [upd_ne (ne_of_none e h)]; exact e⟩
    · subst z; exact ⟨o, upd_same⟩
mutual
theorem Rp.back (hr : w.rho = w'.rho) (hB : ∀ a, w.B a → w'.B a) (hH : ∀ a o, ¬ w'.B a → H' a = some o → H a = some o) : ∀ {d : D} {v : V}, Rp K w' H' d v → Rp K w H d v
  | _, _, .non => .non
  | _, _, .bl b => .bl b
  | _, _, .int i => .int i
  | _, _, .str x => .str x
  | _, _, .tup u h l => .tup ⟨by rw [hr]; exact u.1, fun z => u.2 (hB _ z)⟩ (h.elim (fun h => .inl (hH _ _ u.2 h)) fun ⟨ob, h⟩ => .inr ⟨ob, hH _ _ u.2 h⟩) (RpL.back hr hB hH l)
  | _, _, .tupK h l => .tupK h (RpL.back hr hB hH l)
  | _, _, .lst u h l => .lst ⟨by rw [hr]; exact u.1, fun z => u.2 (hB _ z)⟩ (hH _ _ u.2 h) (RpL.back hr hB hH l)
  | _, _, .fr u h l => .fr ⟨by rw [hr]; exact u.1, fun z => u.2 (hB _ z)⟩ (h.elim (fun h => .inl (hH _ _ u.2 h)) fun ⟨ob, h⟩ => .inr ⟨ob, hH _ _ u.2 h⟩) (RpL.back hr hB hH l)
  | _, _, .frK h l => .frK h (RpL.back hr hB hH l)
  | _, _, .ref h => .ref (by rw [hr]; exact h)
  | _, _, .rng u h => .rng ⟨by rw [hr]; exact u.1, fun z => u.2 (hB _ z)⟩ (hH _ _ u.2 h)
theorem RpL.back (hr : w.rho = w'.rho) (hB : ∀ a, w.B a → w'.B a) (hH : ∀ a o, ¬ w'.B a → H' a = some o → H a = some o) : ∀ {ds : List D} {vs : List V}, RpL K w' H' ds vs → RpL K w H ds vs
  | _, _, .nil => .nil
  | _, _, .cons r t => .cons (Rp.back hr hB hH r) (RpL.back hr hB hH t)
end
theorem RDk.back (hr : w.rho = w'.rho) (hB : ∀ a, w.B a → w'.B a) (hH : ∀ a o, ¬ w'.B a → H' a = some o → H a = some o) : ∀ {ds : List (D × D)} {vs : List (Key × V)}, RDk K w' H' ds vs → RDk K w H ds vs
  | _, _, .nil => .nil
  | _, _, .cons k r t => .cons k (r.back hr hB hH) (RDk.back hr hB hH t)
theorem RDt.back (hr : w.rho = w'.rho) (hB : ∀ a, w.B a → w'.B a) (hH : ∀ a o, ¬ w'.B a → H' a = some o → H a = some o) : ∀ {ds : List (D × D)} {vs : List (List Key × V)}, RDt K w' H' ds vs → RDt K w H ds vs
  | _, _, .nil => .nil
  | _, _, .cons k r t => .cons k (r.back hr hB hH) (RDt.back hr hB hH t)
theorem RFs.back (hr : w.rho = w'.rho) (hB : ∀ a, w.B a → w'.B a) (hH : ∀ a o, ¬ w'.B a → H' a = some o → H a = some o) : ∀ {ds : List (Str × D)} {vs : List (Str × V)}, RFs K w' H' ds vs → RFs K w H ds vs
  | _, _, .nil => .nil
  | _, _, .cons r t => .cons (r.back hr hB hH) (RFs.back hr hB hH t)
theorem RpO.back (hr : w.rho = w'.rho) (hB : ∀ a, w.B a → w'.B a) (hH : ∀ a o, ¬ w'.B a → H' a = some o → H a = some o) {x : Ob} {h : HO} (r : RpO K w' H' x h) : RpO K w H x h := by
  cases r with
  | lst r => exact .lst (r.back hr hB hH)
  | dK r => exact .dK (r.back hr hB hH)
  | dT r => exact .dT (r.back hr hB hH)
  | ins r => exact .ins (r.back hr hB hH)
def er (L : Addr) (H : Hp) : Hp := fun b => if b = L then none else H b
theorem er_same : er L H L = none := by unfold er; rw [if_pos rfl]
theorem er_ne {b : Addr} (h : b ≠ L) : er L H b = H b := by unfold er; rw [if_neg h]
theorem upd_er (h : H L = some o) : upd (er L H) L o = H := by
  funext b
  unfold upd er
  by_cases e : b = L
  · subst e; rw [if_pos rfl, h]
  · rw [if_neg e, if_neg e]
/-- behind a step with L hidden: without L -/
theorem unhide {w2 w3 : Wd} {He H3 : Hp} {S2 S3 : Store} (k2 : Ok K w2 S2 He) (hD : He L = none) (s : Stp (w2.hide L) (upd He L o) w3 H3) (k3 : Ok K w3 S3 H3) :
    H3 = upd (er L H3) L o ∧ er L H3 L = none ∧ Stp w2 He ⟨w3.rho, w2.B⟩ (er L H3) ∧ Ok K ⟨w3.rho, w2.B⟩ S3 (er L H3) ∧ (∀ d v, Rp K w3 H3 d v → Rp K ⟨w3.rho, w2.B⟩ (er L H3) d v) := by
  have nD : L ∉ w2.rho := (k2.new hD).1
  have hD3 : H3 L = some o := (s.keep L o upd_same nD).1
  have bD : w3.B L := (s.B L o upd_same nD).mpr (.inr rfl)
  have hB : ∀ a, w2.B a → w3.B a := fun a z => by
    obtain ⟨u, e⟩ := k2.bt a z
    have na : a ∉ w2.rho := fun q => k2.nb a q z
    exact (s.B a u (by rw [upd_ne (ne_of_none e hD)]; exact e) na).mpr (.inl z)
  have hH : ∀ a o, ¬ w3.B a → H3 a = some o → er L H3 a = some o := fun a u n e => by
    rw [er_ne (fun z => n (by rw [z]; exact bD))]; exact e
  have st : Stp w2 He ⟨w3.rho, w2.B⟩ (er L H3) := ⟨fun _ _ _ _ => Iff.rfl, s.pre, fun b u e n => by
    have hb : b ≠ L := ne_of_none e hD
    obtain ⟨e3, n3⟩ := s.keep b u (by rw [upd_ne hb]; exact e) n
    exact ⟨by rw [er_ne hb]; exact e3, n3⟩⟩
  refine ⟨(upd_er hD3).symm, er_same, st, ⟨k3.len, k3.nd, fun i a x h1 h2 => ?_, fun a ha z => k3.nb a ha (hB a z), fun a z => ?_⟩, fun d v r => Rp.back (w := ⟨w3.rho, w2.B⟩) (w' := w3) (H' := H3) rfl hB hH r⟩
  · obtain ⟨u, e, r⟩ := k3.ob i a x h1 h2
    exact ⟨u, hH a u (k3.nb a (List.mem_of_getElem? h1)) e, RpO.back (w := ⟨w3.rho, w2.B⟩) (w' := w3) (H' := H3) rfl hB hH r⟩
  · obtain ⟨u, e⟩ := k2.bt a z
    exact ⟨u, (st.keep a u e fun q => k2.nb a q z).1⟩
end
/-! ### comprehensions -/
def wipeE (e : Ev) : List Nat → Ev
  | [] => e
  | v :: vs => (wipeE e vs).set v none
theorem RpE.wipe {w : Wd} {H : Hp} {e : Ev} {σ : L2.St} (r : RpE K w H e σ) : ∀ vs : List Nat, RpE K w H (wipeE e vs) (L2.wipe σ vs)
  | [] => r
  | _ :: vs => (RpE.wipe r vs).forget
def lcGo (get : Nat → Store → Option (Option D)) (bind : D → Ev → Option Ev) (tt : MT) (elt : ME) (e0 : Ev) : Nat → Nat → Store → Option (List D × Store)
  | 0, i, S => match get i S with
    | some none => some ([], S)
    | _ => none
  | n + 1, i, S => match get i S with
    | some none => some ([], S)
    | some (some d) => (bind d e0).bind fun e1 => (tt e1 S).bind fun (b, S1) => if b then (elt e1 S1).bind fun (y, S2) => (lcGo get bind tt elt e0 n (i + 1) S2).bind fun (ys, S3) => some (y :: ys, S3) else lcGo get bind tt elt e0 n (i + 1) S1
    | none => none
def mLC (mi : MI) (t : Tg) (tt : MT) (elt : ME) (vs : List Nat) : ML := fun e S => (mi e S).bind fun (s, S1) => (lcGo s.get t.f tt elt (wipeE e vs) s.n 0 S1).bind fun (ys, S2) => if ys.length ≤ LIM then some (ys, S2) else none
def mYes : MT := fun _ S => some (true, S)
abbrev ATs (X : Cx) (ifs : List Expr) (m : MT) : Prop := PTs X ifs (tB X.K m)
theorem PTs.imp {X : Cx} {e : List Expr} {t t' : TT} (h : PTs X e t) (i : ∀ σ H Q, t' σ H Q → t σ H Q) : PTs X e t' := ⟨fun pins s σ H Q I q => h.run pins s σ H Q I (i σ H Q q)⟩
theorem ats_nil {X : Cx} : ATs X [] mYes := PTs.imp pts_nil fun σ H Q ⟨w, e, S, b, S', re, k, hm, q⟩ => by
  cases hm
  exact q w H .refl k
theorem ats_one {X : Cx} {c : Expr} {m : MT} (h : AT X c m) : ATs X [c] m := pts_one h
theorem lc_imp {mi : MI} {t : Tg} {tt : MT} {elt : ME} {vs : List Nat} (hv : ∀ i ∈ t.slots, i ∈ vs) {σ : L2.St} {H : Hp} {Q : VK} (h : tF K (mLC mi t tt elt vs) σ H Q) : tLc (tI K mi) (t.g K) (tB K tt) (tD K elt) vs σ H Q := by
  obtain ⟨w, e, S, ds, S', re, k, hm, q⟩ := h
  unfold mLC at hm
  obtain ⟨⟨src, S1⟩, h1, hm⟩ := Option.bind_eq_some_iff.mp hm
  obtain ⟨⟨ys, S2⟩, h2, hm⟩ := Option.bind_eq_some_iff.mp hm
  simp only at h2 hm
  split at hm
  rotate_left
  · cases hm
  rename_i hz
  cases hm
  refine ⟨w, e, S, src, S1, re, k, h1, fun w1 H1 J s1 k1 W => fun D hD => ?_⟩
  refine ⟨fun i m H2 => ∃ w2 He S2 accd accv rest, H2 = upd He D (.lst accv) ∧ He D = none ∧ Stp w1 H1 w2 He ∧ Ok K w2 S2 He ∧ RpL K w2 He accd accv ∧ lcGo src.get t.f tt elt (wipeE e vs) m i S2 = some (rest, S') ∧ ds = accd ++ rest,
    ⟨src.n, w1, H1, S1, [], [], ds, rfl, hD, .refl, k1, .nil, h2, rfl⟩, ?_⟩
  rintro i m _ ⟨w2, He, S2, accd, accv, rest, rfl, hDe, s2, k2, racc, hm2, hds⟩
  have k2h : Ok K (w2.hide D) S2 (upd He D (.lst accv)) := k2.hide hDe
  have s2h : Stp w1 H1 (w2.hide D) (upd He D (.lst accv)) := s2.trans (.hide hDe)
  obtain ⟨go, stop⟩ := W i _ _ S2 s2h.toW k2h
  have fin : some (([] : List DV.D), S2) = some (rest, S') → Q (.ref D) (upd He D (.lst accv)) := fun z => by
    cases z
    rw [List.append_nil] at hds
    subst hds
    exact q w2 He D accv (s1.trans s2) k2 hDe racc
  cases hget : src.get i S2 with
  | none => cases m <;> (simp only [lcGo, hget] at hm2; cases hm2)
  | some o =>
    cases o with
    | none =>
      refine .inl ⟨stop hget, fin ?_⟩
      cases m <;> (simp only [lcGo, hget] at hm2; exact hm2)
    | some d =>
      cases m with
      | zero => simp only [lcGo, hget] at hm2; cases hm2
      | succ m =>
        simp only [lcGo, hget] at hm2
        obtain ⟨e3, h3, hm2⟩ := Option.bind_eq_some_iff.mp hm2
        obtain ⟨⟨b, S4⟩, h4, hm2⟩ := Option.bind_eq_some_iff.mp hm2
        obtain ⟨g1, g2⟩ := go d hget
        refine .inr ⟨g1, fun H5 => ∃ w2 He S2 accd accv rest, H5 = upd He D (.lst accv) ∧ He D = none ∧ Stp w1 H1 w2 He ∧ Ok K w2 S2 He ∧ RpL K w2 He accd accv ∧ lcGo src.get t.f tt elt (wipeE e vs) m (i + 1) S2 = some (rest, S') ∧ ds = accd ++ rest,
          fun H5 h5 => ⟨m, Nat.lt_succ_self m, h5⟩, fun x H3 y => ?_⟩
        obtain ⟨st, k3, rx⟩ := g2 x H3 y
        have re3 : RpE K (w2.hide D) H3 (wipeE e vs) (L2.wipe σ vs) := ((re.mono s1).mono (s2h.trans st)).wipe vs
        refine t.ok k3 re3 rx h3 fun σ4 re4 hw => ?_
        have ww : ∀ l : List Nat, L2.wipe (L2.wipe σ l) l = L2.wipe σ l := by
          intro l
          apply List.ext_getElem?
          intro j
          by_cases hj : j ∈ l
          · by_cases hjl : j < σ.length
            · have a1 : ∀ τ : L2.St, τ.length = σ.length → (L2.wipe τ l)[j]? = some none := fun τ hτ => by
                cases hq : (L2.wipe τ l)[j]? with
                | none =>
                  have := List.getElem?_eq_none_iff.mp hq
                  rw [wipe_length, hτ] at this
                  omega
                | some u =>
                  cases u with
                  | none => rfl
                  | some u => exact absurd hj (wipe_some hq).2
              rw [a1 _ (wipe_length σ l), a1 σ rfl]
            · rw [List.getElem?_eq_none (by rw [wipe_length, wipe_length]; omega), List.getElem?_eq_none (by rw [wipe_length]; omega)]
          · rw [wipe_out hj]
        refine ⟨by rw [hw vs hv, ww], ⟨_, e3, S2, b, S4, re4, k3, h4, fun w5 H5 s5 k5 => ?_⟩⟩
        cases b with
        | true =>
          rw [if_pos rfl]
          rw [if_pos rfl] at hm2
          obtain ⟨⟨z, S6⟩, h6, hm2⟩ := Option.bind_eq_some_iff.mp hm2
          obtain ⟨⟨zs, S7⟩, h7, hm2⟩ := Option.bind_eq_some_iff.mp hm2
          cases hm2
          refine ⟨w5, e3, S4, z, S6, re4.mono s5, k5, h6, fun w6 H6 v6 s6 k6 r6 => ?_⟩
          obtain ⟨u1, u2, u3, u4, u5⟩ := unhide k2 hDe ((st.trans s5).trans s6) k6
          have lz : accd.length < LIM := by
            have := hz
            rw [hds] at this
            simp at this
            omega
          refine ⟨accv, by rw [u1, upd_same], by rw [lim_eq, ← racc.length]; exact lz, ?_⟩
          refine ⟨_, er D H6, S6, accd ++ [z], accv ++ [v6], zs, ?_, u2, s2.trans u3, u4, (racc.mono u3).append (.cons (u5 _ _ r6) .nil), h7, by rw [hds]; simp⟩
          conv => lhs; rw [u1]
          rw [upd_upd]
        | false =>
          rw [if_neg Bool.false_ne_true]
          rw [if_neg Bool.false_ne_true] at hm2
          obtain ⟨u1, u2, u3, u4, u5⟩ := unhide k2 hDe (st.trans s5) k5
          exact ⟨_, er D H5, S4, accd, accv, rest, u1, u2, s2.trans u3, u4, racc.mono u3, hm2, hds⟩
end
section
variable {X : Cx}
theorem af_lc {elt tg iter : Expr} {ifs : List Expr} {scope : Scope} {pos : Pos} {mi : MI} {t : Tg} {tt : MT} {me : ME} (own : List (Str × Nat)) (hc : X.calm = true) (hN : X.N.Nodup) (hi : AI X tg iter mi) (ok : BlkOk X.N X.env.scope scope own)
    (hg : ∀ (s : Shared) (H : Hp) (C : Addr) (cl : List (Str × Addr)) (fp : List Addr), AG (X.blk s H scope (compEnvC scope cl C X.env) fp) tg t) (ht : ∀ (s : Shared) (H : Hp) (C : Addr) (cl : List (Str × Addr)) (fp : List Addr), ATs (X.blk s H scope (compEnvC scope cl C X.env) fp) ifs tt)
    (he : ∀ (s : Shared) (H : Hp) (C : Addr) (cl : List (Str × Addr)) (fp : List Addr), AE (X.blk s H scope (compEnvC scope cl C X.env) fp) elt me) (hs : ∀ x, foldedSetIterable iter X.env x = pure x := by intro _; rfl) (hv : ∀ i ∈ t.slots, i ∈ own.map (·.2) := by decide) :
    AF X (.ListComp elt [⟨tg, iter, ifs, 0⟩] scope pos) (mLC mi t tt me (own.map (·.2))) := PE.imp (pe_lc hc hN hi ok hg ht he hs) fun _ _ _ => lc_imp hv
/-- y = [..] -/
theorem as_setLc {i : Nat} {y : Str} {py : Pos} {elt tg iter : Expr} {ifs : List Expr} {scope : Scope} {pos spos : Pos} {mi : MI} {t : Tg} {tt : MT} {me : ME} (own : List (Str × Nat)) (hc : X.calm = true) (hN : X.N.Nodup) (hi : AI X tg iter mi) (ok : BlkOk X.N X.env.scope scope own)
    (hg : ∀ (s : Shared) (H : Hp) (C : Addr) (cl : List (Str × Addr)) (fp : List Addr), AG (X.blk s H scope (compEnvC scope cl C X.env) fp) tg t) (ht : ∀ (s : Shared) (H : Hp) (C : Addr) (cl : List (Str × Addr)) (fp : List Addr), ATs (X.blk s H scope (compEnvC scope cl C X.env) fp) ifs tt)
    (he : ∀ (s : Shared) (H : Hp) (C : Addr) (cl : List (Str × Addr)) (fp : List Addr), AE (X.blk s H scope (compEnvC scope cl C X.env) fp) elt me) (hy : X.N[i]? = some y := by rfl) (hyl : X.env.scope.names.lookup y = some .local := by rfl)
    (hsw : swapsWith (.ListComp elt [⟨tg, iter, ifs, 0⟩] scope pos) (some (.Name y py)) spos.line X.env = pure true := by exact sw_true rfl rfl rfl (by decide +kernel)) (hs : ∀ x, foldedSetIterable iter X.env x = pure x := by intro _; rfl) (hv : ∀ i ∈ t.slots, i ∈ own.map (·.2) := by decide) (sto : Bool) :
    AS X (.Assign [.Name y py] (.ListComp elt [⟨tg, iter, ifs, 0⟩] scope pos) spos) (mAsg ((if sto then mSto else mVal) (mLC mi t tt me (own.map (·.2)))) (.nm i)) := PS.imp (ps_setLc hc hN hy hyl hsw hi ok hg ht he hs) fun D σ H h => by
  obtain ⟨w, e, S, f, S', re, k, hm, q⟩ := h
  unfold mAsg at hm
  obtain ⟨⟨d, S1⟩, h1, hm⟩ := Option.bind_eq_some_iff.mp hm
  obtain ⟨e1, h2, hm⟩ := Option.bind_eq_some_iff.mp hm
  cases hm
  have fin : ∀ w' H' v, Stp w H w' H' → Ok X.K w' S' H' → Rp X.K w' H' d v → gName i v σ H' D.nx := fun w' H' v s' k' r' => by
    cases h2
    exact q w' H' s' k' _ ((re.mono s').set r')
  cases sto with
  | true =>
    rw [if_pos rfl] at h1
    unfold mSto at h1
    obtain ⟨⟨ds, S2⟩, h3, h1⟩ := Option.bind_eq_some_iff.mp h1
    cases h1
    exact lc_imp hv ⟨w, e, S, ds, S2, re, k, h3, fun w' H' p vs s' k' hp r => Post.addL (fun w2 H2 v s2 k2 r2 => fin w2 H2 v (s'.trans s2) k2 r2) k' hp r⟩
  | false =>
    rw [if_neg Bool.false_ne_true] at h1
    unfold mVal at h1
    obtain ⟨⟨ds, S2⟩, h3, h1⟩ := Option.bind_eq_some_iff.mp h1
    cases h1
    exact lc_imp hv ⟨w, e, S, ds, _, re, k, h3, fun w' H' p vs s' k' hp r => Post.newL (fun w2 H2 v s2 k2 r2 => fin w2 H2 v (s'.trans s2) k2 r2) k' hp r⟩
end
end DV

namespace DV
open PySem PySem.Spec PyProof.Rows L2
section
variable {X : Cx} {K : PySem.W.Frag}
/-! ### methods of lists -/
/-- o.m(..) on a list of the store -/
def mMt (f : List D → List D → Option (D × List D)) (mo : ME) (ms : ML) : ME := fun e S => (mo e S).bind fun (o, S1) => match o with
  | .ref p => (ms e S1).bind fun (ds, S2) => match S2[p]? with
    | some (.lst xs) => (f xs ds).bind fun (d, ys) => some (d, S2.set p (.lst ys))
    | _ => none
  | _ => none
def MtS (K : PySem.W.Frag) (r : V → List V → Hp → VK → Prop) (f : List D → List D → Option (D × List D)) : Prop := ∀ (w : Wd) (S : Store) (H : Hp) (p : Nat) (a : Addr) (xs ds ys : List D) (vs us : List V) (d : D) (Q : VK), Ok K w S H → w.rho[p]? = some a → H a = some (.lst us) → RpL K w H xs us →
  RpL K w H ds vs → f xs ds = some (d, ys) → Post K w H (S.set p (.lst ys)) d Q → r (.ref a) vs H Q
theorem Ok.tyList {w : Wd} {S : Store} {H : Hp} (k : Ok K w S H) {a : Addr} {us : List V} (h : H a = some (.lst us)) : tyV K "list" (.ref a) H := .inl ⟨rfl, us, .of h⟩
theorem mt_imp {r : V → List V → Hp → VK → Prop} {f : List D → List D → Option (D × List D)} {mo : ME} {ms : ML} (h : MtS K r f) (hp : ∀ e S p S1 ds S2, mo e S = some (.ref p, S1) → ms e S1 = some (ds, S2) → ∃ ys, S1[p]? = some (.lst ys)) {σ : L2.St} {H : Hp} {Q : VK} (q : tD K (mMt f mo ms) σ H Q) : tBM K "list" r (tD K mo) (tL K ms) σ H Q := by
  obtain ⟨w, e, S, d, S', re, k, hm, q⟩ := q
  unfold mMt at hm
  obtain ⟨⟨o, S1⟩, h1, hm⟩ := Option.bind_eq_some_iff.mp hm
  simp only at hm
  split at hm
  · rename_i p
    obtain ⟨⟨ds, S2⟩, h2, hm⟩ := Option.bind_eq_some_iff.mp hm
    simp only at hm
    split at hm
    · rename_i xs hx
      obtain ⟨⟨d1, ys⟩, h3, hm⟩ := Option.bind_eq_some_iff.mp hm
      cases hm
      obtain ⟨zs, hz⟩ := hp _ _ _ _ _ _ h1 h2
      refine ⟨w, e, S, _, S1, re, k, h1, fun w1 H1 v s1 k1 r1 => ?_⟩
      obtain ⟨a, rfl, ha⟩ := r1.ref_inv
      obtain ⟨us0, hu0, _⟩ := k1.lst ha hz
      refine ⟨k1.tyList hu0, w1, e, S1, ds, S2, re.mono s1, k1, h2, fun w2 H2 vs s2 k2 r2 => ?_⟩
      have ha2 : w2.rho[p]? = some a := by
        obtain ⟨m, e⟩ := s2.pre
        rw [e, List.getElem?_append_left (List.getElem?_eq_some_iff.mp ha).1]; exact ha
      obtain ⟨us, hu, ru⟩ := k2.lst ha2 hx
      exact h w2 S2 H2 p a xs ds ys vs us _ Q k2 ha2 hu ru r2 h3 fun w' H' v s' k' r' => q w' H' v ((s1.trans s2).trans s') k' r'
    · cases hm
  · cases hm
theorem mt0_imp {r : V → List V → Hp → VK → Prop} {f : List D → List D → Option (D × List D)} {mo : ME} (h : MtS K r f) {σ : L2.St} {H : Hp} {Q : VK} (q : tD K (mMt f mo mNil) σ H Q) : tBM0 K "list" r (tD K mo) σ H Q := by
  obtain ⟨w, e, S, d, S', re, k, hm, q⟩ := q
  unfold mMt at hm
  obtain ⟨⟨o, S1⟩, h1, hm⟩ := Option.bind_eq_some_iff.mp hm
  simp only at hm
  split at hm
  · rename_i p
    obtain ⟨⟨ds, S2⟩, h2, hm⟩ := Option.bind_eq_some_iff.mp hm
    cases h2
    simp only at hm
    split at hm
    · rename_i xs hx
      obtain ⟨⟨d1, ys⟩, h3, hm⟩ := Option.bind_eq_some_iff.mp hm
      cases hm
      refine ⟨w, e, S, _, S1, re, k, h1, fun w1 H1 v s1 k1 r1 => ?_⟩
      obtain ⟨a, rfl, ha⟩ := r1.ref_inv
      obtain ⟨us, hu, ru⟩ := k1.lst ha hx
      exact ⟨k1.tyList hu, h w1 S1 H1 p a xs [] ys [] us _ Q k1 ha hu ru .nil h3 fun w' H' v s' k' r' => q w' H' v (s1.trans s') k' r'⟩
    · cases hm
  · cases hm
theorem Post.putL {w : Wd} {S : Store} {H : Hp} {Q : VK} {d : D} {v : V} {p : Nat} {a : Addr} {ys : List D} {us : List V} (q : Post K w H (S.set p (.lst ys)) d Q) (k : Ok K w S H) (ha : w.rho[p]? = some a) (r : RpL K w H ys us) (rd : Rp K w H d v) : Q v (upd H a (.lst us)) :=
  q w _ _ (.put (List.mem_of_getElem? ha)) (k.put ha (.lst r)) (rd.mono (.put (List.mem_of_getElem? ha)))
def fAppend : List D → List D → Option (D × List D)
  | xs, [y] => if xs.length < LIM then some (.non, xs ++ [y]) else none
  | _, _ => none
theorem fAppend_s : MtS K rAppend fAppend := by
  intro w S H p a xs ds ys vs us d Q k ha hu ru rd hf q
  unfold fAppend at hf
  split at hf
  · split at hf
    · rename_i y hz
      cases hf
      obtain ⟨v, rfl, rv⟩ := rd.one_inv
      exact ⟨a, us, v, rfl, rfl, hu, by rw [lim_eq, ← ru.length]; exact hz, Post.putL q k ha (ru.append (.cons rv .nil)) .non⟩
    · cases hf
  · cases hf
def fPop : List D → List D → Option (D × List D)
  | xs, [] => (xs[xs.length - 1]?).bind fun y => some (y, xs.dropLast)
  | _, _ => none
theorem fPop_s : MtS K rPop fPop := by
  intro w S H p a xs ds ys vs us d Q k ha hu ru rd hf q
  unfold fPop at hf
  split at hf
  · obtain ⟨y, hy, hf⟩ := Option.bind_eq_some_iff.mp hf
    cases hf
    cases rd
    obtain ⟨v, hv, rv⟩ := ru.get hy
    exact ⟨a, us, v, rfl, rfl, hu, by rw [← ru.length]; exact hv, Post.putL q k ha ru.dropLast rv⟩
  · cases hf
section
variable {o e : Expr} {es : List Expr} {mo : ME} {ms : ML} {apos cpos : Pos}
/-- the list is there ahead of the arguments (argument expressions of these programs take nothing out of the store) -/
def mMt' (f : List D → List D → Option (D × List D)) (mo : ME) (ms : ML) : ME := fun e S => (mo e S).bind fun (o, S1) => match o with
  | .ref p => match S1[p]? with
    | some (.lst _) => (ms e S1).bind fun (ds, S2) => match S2[p]? with
      | some (.lst xs) => (f xs ds).bind fun (d, ys) => some (d, S2.set p (.lst ys))
      | _ => none
    | _ => none
  | _ => none
theorem mt_imp' {r : V → List V → Hp → VK → Prop} {f : List D → List D → Option (D × List D)} (h : MtS K r f) {σ : L2.St} {H : Hp} {Q : VK} (q : tD K (mMt' f mo ms) σ H Q) : tBM K "list" r (tD K mo) (tL K ms) σ H Q := by
  obtain ⟨w, e, S, d, S', re, k, hm, q⟩ := q
  unfold mMt' at hm
  obtain ⟨⟨o, S1⟩, h1, hm⟩ := Option.bind_eq_some_iff.mp hm
  simp only at hm
  split at hm
  · rename_i p
    split at hm
    · rename_i zs hz
      obtain ⟨⟨ds, S2⟩, h2, hm⟩ := Option.bind_eq_some_iff.mp hm
      simp only at hm
      split at hm
      · rename_i xs hx
        obtain ⟨⟨d1, ys⟩, h3, hm⟩ := Option.bind_eq_some_iff.mp hm
        cases hm
        refine ⟨w, e, S, _, S1, re, k, h1, fun w1 H1 v s1 k1 r1 => ?_⟩
        obtain ⟨a, rfl, ha⟩ := r1.ref_inv
        obtain ⟨us0, hu0, _⟩ := k1.lst ha hz
        refine ⟨k1.tyList hu0, w1, e, S1, ds, S2, re.mono s1, k1, h2, fun w2 H2 vs s2 k2 r2 => ?_⟩
        have ha2 : w2.rho[p]? = some a := by
          obtain ⟨m, e⟩ := s2.pre
          rw [e, List.getElem?_append_left (List.getElem?_eq_some_iff.mp ha).1]; exact ha
        obtain ⟨us, hu, ru⟩ := k2.lst ha2 hx
        exact h w2 S2 H2 p a xs ds ys vs us _ Q k2 ha2 hu ru r2 h3 fun w' H' v s' k' r' => q w' H' v ((s1.trans s2).trans s') k' r'
      · cases hm
    · cases hm
  · cases hm
theorem ae_append (ho : AE X o mo) (ha : AA X (e :: es) ms) (hbase : attributeBase o "append" X.env (eval o X.env) = eval o X.env := by rfl)
    (hfew : ((backTo cpos (starEach (e :: es) X.env)).all (fun x => !x.1) && (backToKw cpos (keywordEach [] X.env)).all (fun x => x.1.isSome)
      && decide ((e :: es).length + ([] : List Keyword).length + (if ([] : List Keyword).isEmpty then 0 else 1) < 30)) = true := by rfl)
    (hline : (apos.endLine == cpos.line) = true := by rfl) (hs : starEach (e :: es) X.env = (false, eval e X.env) :: starEach es X.env := by rfl) (hplain : (backTo cpos (starEach es X.env)).any (·.1) = false := by rfl) :
    AE X (.Call (.Attribute o "append" apos) (e :: es) [] cpos) (mMt' fAppend mo ms) := PE.imp (pe_bm PySem.F.plainAttrs_list PySem.F.slot_list_append PySem.F.type_list_append mt_append ho ha hbase hfew hline hs hplain) fun _ _ _ => mt_imp' fAppend_s
theorem ae_pop (ho : AE X o mo) (hbase : attributeBase o "pop" X.env (eval o X.env) = eval o X.env := by rfl) (hline : (apos.endLine == cpos.line) = true := by rfl) :
    AE X (.Call (.Attribute o "pop" apos) [] [] cpos) (mMt fPop mo mNil) := PE.imp (pe_bm0 PySem.F.plainAttrs_list PySem.F.slot_list_pop PySem.F.type_list_pop mt_pop ho hbase hline) fun _ _ _ => mt0_imp fPop_s
end

/-! ### defs -/
mutual
def D.cl (n : Nat) : D → Bool
  | .ref i => decide (i < n)
  | .tup xs => D.clL n xs
  | .lst xs => D.clL n xs
  | .fr xs => D.clL n xs
  | _ => true
def D.clL (n : Nat) : List D → Bool
  | [] => true
  | x :: xs => D.cl n x && D.clL n xs
end
def Ob.cl (n : Nat) : Ob → Bool
  | .lst xs => D.clL n xs
  | .dct kvs => kvs.all fun p => D.cl n p.2
  | .dtt kvs => kvs.all fun p => D.cl n p.2
  | .ins _ fs => fs.all fun p => D.cl n p.2
section
variable {w w' : Wd} {H H' : Hp}
mutual
theorem Rp.cl : ∀ {d : D} {v : V}, Rp K w H d v → D.cl w.rho.length d = true
  | _, _, .non => by simp [D.cl]
  | _, _, .bl b => by simp [D.cl]
  | _, _, .int i => by simp [D.cl]
  | _, _, .str x => by simp [D.cl]
  | _, _, .tup _ _ l => by simp only [D.cl]; exact RpL.cl l
  | _, _, .tupK _ l => by simp only [D.cl]; exact RpL.cl l
  | _, _, .lst _ _ l => by simp only [D.cl]; exact RpL.cl l
  | _, _, .fr _ _ l => by simp only [D.cl]; exact RpL.cl l
  | _, _, .frK _ l => by simp only [D.cl]; exact RpL.cl l
  | _, _, .ref h => by simp only [D.cl]; exact decide_eq_true (List.getElem?_eq_some_iff.mp h).1
  | _, _, .rng _ _ => by simp [D.cl]
theorem RpL.cl : ∀ {ds : List D} {vs : List V}, RpL K w H ds vs → D.clL w.rho.length ds = true
  | _, _, .nil => by simp [D.clL]
  | _, _, .cons r t => by simp only [D.clL, Bool.and_eq_true]; exact ⟨Rp.cl r, RpL.cl t⟩
end
theorem RDk.cl : ∀ {ds : List (D × D)} {vs : List (Key × V)}, RDk K w H ds vs → (ds.all fun p => D.cl w.rho.length p.2) = true
  | _, _, .nil => rfl
  | _, _, .cons _ r t => by simp only [List.all_cons, Bool.and_eq_true]; exact ⟨r.cl, RDk.cl t⟩
theorem RDt.cl : ∀ {ds : List (D × D)} {vs : List (List Key × V)}, RDt K w H ds vs → (ds.all fun p => D.cl w.rho.length p.2) = true
  | _, _, .nil => rfl
  | _, _, .cons _ r t => by simp only [List.all_cons, Bool.and_eq_true]; exact ⟨r.cl, RDt.cl t⟩
theorem RFs.cl : ∀ {ds : List (Str × D)} {vs : List (Str × V)}, RFs K w H ds vs → (ds.all fun p => D.cl w.rho.length p.2) = true
  | _, _, .nil => rfl
  | _, _, .cons r t => by simp only [List.all_cons, Bool.and_eq_true]; exact ⟨r.cl, RFs.cl t⟩
theorem RpO.cl {o : Ob} {h : HO} (r : RpO K w H o h) : o.cl w.rho.length = true := by
  cases r with
  | lst r => exact r.cl
  | dK r => exact r.cl
  | dT r => exact r.cl
  | ins r => exact r.cl
mutual
theorem Rp.cut {n : Nat} (hr : w'.rho = w.rho.take n) (hB : ∀ a, w'.B a → w.B a) : ∀ {d : D} {v : V}, Rp K w H d v → D.cl n d = true → Rp K w' H d v
  | _, _, .non, _ => .non
  | _, _, .bl b, _ => .bl b
  | _, _, .int i, _ => .int i
  | _, _, .str x, _ => .str x
  | _, _, .tup o h l, c => .tup ⟨fun z => o.1 (List.mem_of_mem_take (by rw [hr] at z; exact z)), fun z => o.2 (hB _ z)⟩ h (RpL.cut hr hB l (by simpa only [D.cl] using c))
  | _, _, .tupK h l, c => .tupK h (RpL.cut hr hB l (by simpa only [D.cl] using c))
  | _, _, .lst o h l, c => .lst ⟨fun z => o.1 (List.mem_of_mem_take (by rw [hr] at z; exact z)), fun z => o.2 (hB _ z)⟩ h (RpL.cut hr hB l (by simpa only [D.cl] using c))
  | _, _, .fr o h l, c => .fr ⟨fun z => o.1 (List.mem_of_mem_take (by rw [hr] at z; exact z)), fun z => o.2 (hB _ z)⟩ h (RpL.cut hr hB l (by simpa only [D.cl] using c))
  | _, _, .frK h l, c => .frK h (RpL.cut hr hB l (by simpa only [D.cl] using c))
  | _, _, .ref h, c => .ref (by
      have hi : _ < n := of_decide_eq_true (by simpa only [D.cl] using c)
      rw [hr, List.getElem?_take_of_lt hi]; exact h)
  | _, _, .rng o h, _ => .rng ⟨fun z => o.1 (List.mem_of_mem_take (by rw [hr] at z; exact z)), fun z => o.2 (hB _ z)⟩ h
theorem RpL.cut {n : Nat} (hr : w'.rho = w.rho.take n) (hB : ∀ a, w'.B a → w.B a) : ∀ {ds : List D} {vs : List V}, RpL K w H ds vs → D.clL n ds = true → RpL K w' H ds vs
  | _, _, .nil, _ => .nil
  | _, _, .cons r t, c => by
    simp only [D.clL, Bool.and_eq_true] at c
    exact .cons (Rp.cut hr hB r c.1) (RpL.cut hr hB t c.2)
end
theorem RDk.cut {n : Nat} (hr : w'.rho = w.rho.take n) (hB : ∀ a, w'.B a → w.B a) : ∀ {ds : List (D × D)} {vs : List (Key × V)}, RDk K w H ds vs → (ds.all fun p => D.cl n p.2) = true → RDk K w' H ds vs
  | _, _, .nil, _ => .nil
  | _, _, .cons k r t, c => by
    simp only [List.all_cons, Bool.and_eq_true] at c
    exact .cons k (r.cut hr hB c.1) (RDk.cut hr hB t c.2)
theorem RDt.cut {n : Nat} (hr : w'.rho = w.rho.take n) (hB : ∀ a, w'.B a → w.B a) : ∀ {ds : List (D × D)} {vs : List (List Key × V)}, RDt K w H ds vs → (ds.all fun p => D.cl n p.2) = true → RDt K w' H ds vs
  | _, _, .nil, _ => .nil
  | _, _, .cons k r t, c => by
    simp only [List.all_cons, Bool.and_eq_true] at c
    exact .cons k (r.cut hr hB c.1) (RDt.cut hr hB t c.2)
theorem RFs.cut {n : Nat} (hr : w'.rho = w.rho.take n) (hB : ∀ a, w'.B a → w.B a) : ∀ {ds : List (Str × D)} {vs : List (Str × V)}, RFs K w H ds vs → (ds.all fun p => D.cl n p.2) = true → RFs K w' H ds vs
  | _, _, .nil, _ => .nil
  | _, _, .cons r t, c => by
    simp only [List.all_cons, Bool.and_eq_true] at c
    exact .cons (r.cut hr hB c.1) (RFs.cut hr hB t c.2)
theorem RpO.cut {n : Nat} (hr : w'.rho = w.rho.take n) (hB : ∀ a, w'.B a → w.B a) {o : Ob} {h : HO} (r : RpO K w H o h) (c : o.cl n = true) : RpO K w' H o h := by
  cases r with
  | lst r => exact .lst (r.cut hr hB c)
  | dK r => exact .dK (r.cut hr hB c)
  | dT r => exact .dT (r.cut hr hB c)
  | ins r => exact .ins (r.cut hr hB c)
end
/-- lists of the store behind n as content -/
def frz (n : Nat) (S : Store) : Nat → D → Option D
  | 0, _ => none
  | k + 1, .ref i => if i < n then some (.ref i) else match S[i]? with
    | some (.lst xs) => (frzL k xs).map .lst
    | _ => none
  | k + 1, .tup xs => (frzL k xs).map .tup
  | k + 1, .lst xs => (frzL k xs).map .lst
  | _ + 1, .fr xs => if D.clL n xs then some (.fr xs) else none
  | _ + 1, d => some d
where frzL (k : Nat) : List D → Option (List D)
  | [] => some []
  | x :: xs => (frz n S k x).bind fun y => (frzL k xs).bind fun ys => some (y :: ys)
theorem frz_ok {w w' : Wd} {H : Hp} {S : Store} {n : Nat} (k0 : Ok K w S H) (hr : w'.rho = w.rho.take n) (hB : ∀ a, w'.B a → w.B a) : ∀ (k : Nat) {d d' : D} {v : V}, Rp K w H d v → frz n S k d = some d' → Rp K w' H d' v
  | 0, _, _, _, _, h => by simp [frz] at h
  | k + 1, d, d', v, r, h => by
    have out : ∀ {a : Addr}, Out w a → Out w' a := fun o => ⟨fun z => o.1 (List.mem_of_mem_take (by rw [hr] at z; exact z)), fun z => o.2 (hB _ z)⟩
    have hL : ∀ (xs ys : List D) (vs : List V), RpL K w H xs vs → frz.frzL n S k xs = some ys → RpL K w' H ys vs := by
      intro xs
      induction xs with
      | nil => intro ys vs r h; simp only [frz.frzL] at h; cases h; cases r; exact .nil
      | cons x xs ih =>
        intro ys vs r h
        simp only [frz.frzL] at h
        obtain ⟨y, h1, h⟩ := Option.bind_eq_some_iff.mp h
        obtain ⟨zs, h2, h⟩ := Option.bind_eq_some_iff.mp h
        cases h
        cases r with
        | cons r t => exact .cons (frz_ok k0 hr hB k r h1) (ih _ _ t h2)
    cases d with
    | ref i =>
      simp only [frz] at h
      obtain ⟨a, rfl, ha⟩ := r.ref_inv
      split at h
      · rename_i hi
        cases h
        exact .ref (by rw [hr, List.getElem?_take_of_lt hi]; exact ha)
      · rename_i hi
        split at h
        · rename_i xs hx
          obtain ⟨ys, h1, h⟩ := Option.map_eq_some_iff.mp h
          subst h
          obtain ⟨vs, h2, h3⟩ := k0.lst ha hx
          refine .lst ⟨fun z => ?_, fun z => k0.nb a (List.mem_of_getElem? ha) (hB _ z)⟩ h2 (hL _ _ _ h3 h1)
          rw [hr] at z
          obtain ⟨j, hj, e⟩ := List.getElem_of_mem z
          rw [List.getElem_take] at e
          obtain ⟨l1, e1⟩ := List.getElem?_eq_some_iff.mp ha
          have hjn : j < n := by rw [List.length_take] at hj; omega
          have := (List.getElem_inj k0.nd).mp (e.trans e1.symm)
          omega
        · cases h
    | tup xs =>
      simp only [frz] at h
      obtain ⟨ys, h1, h⟩ := Option.map_eq_some_iff.mp h
      subst h
      cases r with
      | tup o q l => exact .tup (out o) q (hL _ _ _ l h1)
      | tupK q l => exact .tupK q (hL _ _ _ l h1)
    | lst xs =>
      simp only [frz] at h
      obtain ⟨ys, h1, h⟩ := Option.map_eq_some_iff.mp h
      subst h
      cases r with
      | lst o q l => exact .lst (out o) q (hL _ _ _ l h1)
    | fr xs =>
      simp only [frz] at h
      split at h
      · rename_i hc
        cases h
        exact r.cut hr hB (by simp only [D.cl]; exact hc)
      · cases h
    | rng lo hi => simp only [frz] at h; cases h; exact r.cut hr hB (by simp [D.cl])
    | non => simp only [frz] at h; cases h; exact r.cut hr hB (by simp [D.cl])
    | bl b => simp only [frz] at h; cases h; exact r.cut hr hB (by simp [D.cl])
    | int i => simp only [frz] at h; cases h; exact r.cut hr hB (by simp [D.cl])
    | str i => simp only [frz] at h; cases h; exact r.cut hr hB (by simp [D.cl])
/-- how a def ends: pure (its own lists as content); as it is; its own lists thrown away -/
inductive Mode where
  | pure
  | keep
  | cut
def fin (m : Mode) (S : Store) (d : D) (S' : Store) : Option (D × Store) := match m with
  | .pure => if S'.take S.length = S then (frz S.length S' 12 d).map fun d => (d, S) else none
  | .keep => some (d, S')
  | .cut => if (S'.take S.length).all (Ob.cl S.length) ∧ S.length ≤ S'.length then (frz S.length S' 12 d).map fun d => (d, S'.take S.length) else none
abbrev Fn := List D → Store → Option (D × Store)
def fnM (nN np : Nat) (m : Mode) (body : MS) : Fn := fun ds S => if ds.length = np then (body (ds.map some ++ List.replicate (nN - np) none) S).bind fun (f, S') => match f with
    | .rt d => fin m S d S'
    | .nx _ => fin m S .non S'
    | _ => none
  else none
def spD (K : PySem.W.Frag) (np : Nat) (M : Fn) : Sp := fun vs H Q _ => vs.length = np ∧ ∃ w S ds d S', RpL K w H ds vs ∧ Ok K w S H ∧ M ds S = some (d, S') ∧ Post K w H S' d Q
theorem cut_ok {w w1 : Wd} {H H1 : Hp} {S S1 S2 : Store} (k : Ok K w S H) (s : Stp w H w1 H1) (k1 : Ok K w1 S1 H1) (hl : S.length ≤ S1.length) (e : S2 = S1.take S.length) (hc : ∀ x ∈ S2, Ob.cl S.length x = true) :
    ∃ w2 : Wd, w2.rho = w1.rho.take S.length ∧ (∀ a, w2.B a → w1.B a) ∧ Stp w H w2 H1 ∧ Ok K w2 S2 H1 := by
  have hr : w.rho = w1.rho.take S.length := by
    obtain ⟨m, em⟩ := s.pre
    rw [em, ← k.len, List.take_left']
    rfl
  refine ⟨⟨w.rho, w1.B⟩, hr, fun _ z => z, ⟨s.B, ⟨[], by simp⟩, fun b o h n => ⟨(s.keep b o h n).1, n⟩⟩, ⟨?_, k.nd, fun i a o h1 h2 => ?_, fun a ha z => ?_, k1.bt⟩⟩
  · show w.rho.length = S2.length
    rw [k.len, e, List.length_take]; omega
  · have h1 : w.rho[i]? = some a := h1
    have hi : i < S.length := by rw [← k.len]; exact (List.getElem?_eq_some_iff.mp h1).1
    have h2' : S1[i]? = some o := by rw [e, List.getElem?_take_of_lt hi] at h2; exact h2
    have h1' : w1.rho[i]? = some a := by rw [hr, List.getElem?_take_of_lt hi] at h1; exact h1
    obtain ⟨x, e1, r1⟩ := k1.ob i a o h1' h2'
    exact ⟨x, e1, RpO.cut (w := w1) (w' := ⟨w.rho, w1.B⟩) hr (fun _ z => z) r1 (hc o (List.mem_of_getElem? h2))⟩
  · have ha : a ∈ w.rho := ha
    rw [hr] at ha
    exact k1.nb a (List.mem_of_mem_take ha) z
theorem fin_ok {m : Mode} {w w1 : Wd} {H H1 : Hp} {S S1 S2 : Store} {d d2 : D} {v : V} {Q : VK} (k : Ok K w S H) (s : Stp w H w1 H1) (k1 : Ok K w1 S1 H1) (r : Rp K w1 H1 d v) (h : fin m S d S1 = some (d2, S2)) (q : Post K w H S2 d2 Q) : Q v H1 := by
  have hlen : S.length ≤ S1.length := by
    obtain ⟨m, em⟩ := s.pre
    rw [← k.len, ← k1.len, em, List.length_append]; omega
  cases m with
  | keep => cases h; exact q w1 H1 v s k1 r
  | pure =>
    simp only [fin] at h
    split at h
    · rename_i e
      obtain ⟨d3, h1, h⟩ := Option.map_eq_some_iff.mp h
      cases h
      obtain ⟨w2, a1, a2, a3, a4⟩ := cut_ok k s k1 hlen e.symm fun x hx => by
        obtain ⟨i, hi, e⟩ := List.getElem_of_mem hx
        have hiw : i < w.rho.length := by rw [k.len]; exact hi
        obtain ⟨y, _, ry⟩ := k.ob i _ x (List.getElem?_eq_getElem hiw) (by rw [List.getElem?_eq_getElem hi, e])
        rw [← k.len]; exact ry.cl
      exact q w2 H1 v a3 a4 (frz_ok k1 a1 a2 12 r h1)
    · cases h
  | cut =>
    simp only [fin] at h
    split at h
    · rename_i e
      obtain ⟨d3, h1, h⟩ := Option.map_eq_some_iff.mp h
      cases h
      obtain ⟨w2, a1, a2, a3, a4⟩ := cut_ok k s k1 hlen rfl fun x hx => List.all_eq_true.mp e.1 x hx
      exact q w2 H1 v a3 a4 (frz_ok k1 a1 a2 12 r h1)
    · cases h
section
variable {P : Program} {w : World} {mg : Str → Option Value} {base : Heap}
theorem fn_D {x qual : Str} {st : Stmt} {f : Addr} {fd : FuncData} {N ps : List Str} {k : Nat} {m : Mode} {body : MS} (F : Fun K x qual st f fd) (S : FnScope N ps (defScope st))
    (hb : ∀ (cdv : Value) (A : Around) (outer : List Env) (s : Shared) (H : Hp) (E : XK), Room k (A.deeper (envOfC qual (defScope st) s.heap.objs.size f cdv)) →
      ASs (cxOf CX0 P w K mg base N qual (defScope st) f cdv A outer s H E).nox (defBody st) body) (hN : ps.length ≤ N.length := by decide) : FnOk P w K mg base CX0 (k + 1) f fd ps (spD K ps.length (fnM N.length ps.length m body)) := by
  refine F.ok S (fun vs H Q E h => h.1) (fun cdv A outer s H vs Q E hr h => ⟨_, hb cdv A outer s H E hr, ?_⟩)
  obtain ⟨hl, w0, S0, ds, d, S', r, k0, hm, q⟩ := h
  unfold fnM at hm
  split at hm
  · rename_i hl2
    obtain ⟨⟨fl, S1⟩, h1, hm⟩ := Option.bind_eq_some_iff.mp hm
    refine ⟨w0, _, S0, fl, S1, ?_, k0, h1, fun w1 H1 s1 k1 => ?_⟩
    · unfold L2.start
      refine ⟨by simp [r.length, hl], fun i x hx => ?_⟩
      by_cases hi : i < ds.length
      · rw [List.getElem?_append_left (by simpa using hi), List.getElem?_map] at hx
        cases hd : ds[i]? with
        | none => rw [hd] at hx; cases hx
        | some y =>
          rw [hd] at hx
          have e : y = x := by simpa using hx
          subst e
          obtain ⟨v, hv, rv⟩ := r.get hd
          refine ⟨v, ?_, rv⟩
          rw [List.getElem?_append_left (by simp; rw [← r.length]; exact hi), List.getElem?_map, hv]
          rfl
      · rw [List.getElem?_append_right (by simp; omega)] at hx
        rw [List.getElem?_replicate] at hx
        split at hx <;> cases hx
    · cases fl with
      | rt d1 => exact fun v rv => fin_ok k0 s1 k1 rv hm q
      | nx e1 => exact fun σ re => fin_ok k0 s1 k1 .non hm q
      | bk e1 => cases hm
      | ct e1 => cases hm
  · cases hm
end
def mCall (M : Fn) (ms : ML) : ME := fun e S => (ms e S).bind fun (ds, S1) => M ds S1
theorem ae_call {x : Str} {p pos : Pos} {e : Expr} {es : List Expr} {ms : ML} {k j : Nat} {f : Addr} {fd : FuncData} {ps : List Str} {M : Fn} {np : Nat} (F : FnOk X.prog X.w X.K X.mg X.base CX0 k f fd ps (spD X.K np M)) (hr : Room j X.A) (hm : X.mg x = some (.ref f))
    (hk : PySem.W.keepIn X.K (.ref f) = true) (hb : Binds X.K fd ps []) (ha : AA X (e :: es) ms) (hnp : ∀ e0 S ds S', ms e0 S = some (ds, S') → ds.length = np) (hkj : k ≤ j := by decide) (hg : Gl X x := by rfl) (hdb : (x == ("__debug__" : Str)) = false := by decide)
    (he : starEach (e :: es) X.env = (false, eval e X.env) :: starEach es X.env := by rfl) (hpl : (backTo pos (starEach es X.env)).any (·.1) = false := by rfl) : AE X (.Call (.Name x p) (e :: es) [] pos) (mCall M ms) :=
  PE.imp (pe_call F (hr.mono hkj) hg hm hk hb .nil pass0 ha hdb he hpl) fun σ H Q ⟨w, e, S, d, S', re, k, hm, q⟩ => by
    unfold mCall at hm
    obtain ⟨⟨ds, S1⟩, h1, hm⟩ := Option.bind_eq_some_iff.mp hm
    refine ⟨w, e, S, ds, S1, re, k, h1, fun w1 H1 vs s1 k1 r1 => ?_⟩
    show spD X.K np M (vs ++ []) H1 Q E0
    rw [List.append_nil]
    exact ⟨by rw [← r1.length]; exact hnp _ _ _ _ h1, w1, S1, ds, d, S', r1, k1, hm, fun w2 H2 v s2 k2 r2 => q w2 H2 v (s1.trans s2) k2 r2⟩
theorem np_nil {e0 : Ev} {S : Store} {ds : List D} {S' : Store} (h : mNil e0 S = some (ds, S')) : ds.length = 0 := by cases h; rfl
theorem np_cons {m : ME} {ms : ML} {n : Nat} (h : ∀ e0 S ds S', ms e0 S = some (ds, S') → ds.length = n) (e0 : Ev) (S : Store) (ds : List D) (S' : Store) (q : mCons m ms e0 S = some (ds, S')) : ds.length = n + 1 := by
  unfold mCons at q
  obtain ⟨⟨d1, S1⟩, h1, q⟩ := Option.bind_eq_some_iff.mp q
  obtain ⟨⟨ds2, S2⟩, h2, q⟩ := Option.bind_eq_some_iff.mp q
  cases q
  simp [h _ _ _ _ h2]
end
end DV

namespace DV
open PySem PySem.Spec PyProof.Rows L2
section
variable {X : Cx} {K : PySem.W.Frag} {a b : Expr} {ma mb : ME} {pos : Pos}
theorem ae_add (ha : AE X a ma) (hb : AE X b mb) : AE X (.BinOp a .Add b pos) (mBin fAdd ma mb) := by obtain ⟨r, h1, h2⟩ := opS_add (X := X); exact ae_op h1 h2 ha hb
theorem ae_sub (ha : AE X a ma) (hb : AE X b mb) : AE X (.BinOp a .Sub b pos) (mBin fSub ma mb) := by obtain ⟨r, h1, h2⟩ := opS_sub (X := X); exact ae_op h1 h2 ha hb
theorem ae_mul (ha : AE X a ma) (hb : AE X b mb) : AE X (.BinOp a .Mult b pos) (mBin fMul ma mb) := by obtain ⟨r, h1, h2⟩ := opS_mul (X := X); exact ae_op h1 h2 ha hb
theorem ae_mod (ha : AE X a ma) (hb : AE X b mb) : AE X (.BinOp a .Mod b pos) (mBin fMod ma mb) := by obtain ⟨r, h1, h2⟩ := opS_mod (X := X); exact ae_op h1 h2 ha hb
theorem ae_div (ha : AE X a ma) (hb : AE X b mb) : AE X (.BinOp a .FloorDiv b pos) (mBin fDiv ma mb) := by obtain ⟨r, h1, h2⟩ := opS_div (X := X); exact ae_op h1 h2 ha hb
theorem ae_pow (ha : AE X a ma) (hb : AE X b mb) : AE X (.BinOp a .Pow b pos) (mBin fPow ma mb) := by obtain ⟨r, h1, h2⟩ := opS_pow (X := X); exact ae_op h1 h2 ha hb
/-- a + b, a new list -/
def mCat (ma mb : ME) : ML := fun e S => (ma e S).bind fun (a, S1) => (mb e S1).bind fun (b, S2) => (lstTr a S2).bind fun xs => (lstTr b S2).bind fun ys => if xs.length + ys.length ≤ LIM then some (xs ++ ys, S2) else none
theorem af_cat (ha : AE X a ma) (hb : AE X b mb) : AF X (.BinOp a .Add b pos) (mCat ma mb) := PE.imp (pe_op op_cat ha hb) fun σ H Q ⟨w, e, S, d, S', re, k, hm, q⟩ => by
  unfold mCat at hm
  obtain ⟨⟨d1, S1⟩, h1, hm⟩ := Option.bind_eq_some_iff.mp hm
  obtain ⟨⟨d2, S2⟩, h2, hm⟩ := Option.bind_eq_some_iff.mp hm
  obtain ⟨xs, h3, hm⟩ := Option.bind_eq_some_iff.mp hm
  obtain ⟨ys, h4, hm⟩ := Option.bind_eq_some_iff.mp hm
  split at hm
  · rename_i hz
    cases hm
    refine ⟨w, e, S, d1, S1, re, k, h1, fun w1 H1 x s1 k1 r1 => ⟨w1, e, S1, d2, _, re.mono s1, k1, h2, fun w2 H2 y s2 k2 r2 => ?_⟩⟩
    obtain ⟨p, vs, e1, g1, q1⟩ := lst_tr k2 (r1.mono s2) h3
    obtain ⟨p2, us, e2, g2, q2⟩ := lst_tr k2 r2 h4
    exact ⟨p, p2, vs, us, e1, e2, g1, g2, by rw [lim_eq, ← q1.length, ← q2.length]; exact hz, fun z hz => q w2 H2 z _ (s1.trans s2) k2 hz (q1.append q2)⟩
  · cases hm
/-- [x] * n, a new list -/
def mRepL (ma mb : ME) : ML := fun e S => (ma e S).bind fun (a, S1) => (mb e S1).bind fun (b, S2) => (lstTr a S2).bind fun xs => match b with
  | .int j => if -(2 ^ 63) ≤ j ∧ j < 2 ^ 63 ∧ xs.length * j.toNat ≤ LIM then some ((List.replicate j.toNat xs).flatten, S2) else none
  | _ => none
theorem af_rep (ha : AE X a ma) (hb : AE X b mb) : AF X (.BinOp a .Mult b pos) (mRepL ma mb) := PE.imp (pe_op op_rep ha hb) fun σ H Q ⟨w, e, S, d, S', re, k, hm, q⟩ => by
  unfold mRepL at hm
  obtain ⟨⟨d1, S1⟩, h1, hm⟩ := Option.bind_eq_some_iff.mp hm
  obtain ⟨⟨d2, S2⟩, h2, hm⟩ := Option.bind_eq_some_iff.mp hm
  obtain ⟨xs, h3, hm⟩ := Option.bind_eq_some_iff.mp hm
  split at hm
  · split at hm
    · rename_i hz
      cases hm
      refine ⟨w, e, S, d1, S1, re, k, h1, fun w1 H1 x s1 k1 r1 => ⟨w1, e, S1, _, _, re.mono s1, k1, h2, fun w2 H2 y s2 k2 r2 => ?_⟩⟩
      obtain ⟨p, vs, e1, g1, q1⟩ := lst_tr k2 (r1.mono s2) h3
      exact ⟨p, _, vs, e1, r2.int_inv, g1, hz.1, hz.2.1, by rw [lim_eq, ← q1.length]; exact hz.2.2, fun z hz => q w2 H2 z _ (s1.trans s2) k2 hz (q1.rep _)⟩
    · cases hm
  · cases hm

/-! ### order of data -/
def dlt (a b : D) : Bool := PySem.W.dataLt a.py b.py
def dalike (a b : D) : Bool := PySem.W.alike a.py b.py
def notNonB : D → Bool
  | .non => false
  | _ => true
/-- numbers by their order, data that are alike by theirs -/
def fCmp (pI : Int → Int → Bool) (pD : D → D → Bool) : D → D → Store → Option (D × Store)
  | .int i, .int j, S => some (.bl (pI i j), S)
  | a, b, S => if D.fit 32 a ∧ D.fit 32 b ∧ dalike a b ∧ notNonB a then some (.bl (pD a b), S) else none
def rCmpD (K : PySem.W.Frag) (p : PyData → PyData → Bool) : R2 := fun x y H Q => ∃ d e, Dp K H x d ∧ Dp K H y e ∧ PySem.W.alike d e = true ∧ d ≠ .none ∧ d.depth ≤ 64 ∧ Q (.bl (p d e)) H
theorem op_ltD (hu : X.A.units + 64 < cLine) : OpR X (compareOp .Lt) (rCmpD X.K fun d e => PySem.W.dataLt d e) := by
  intro pins s σ H x y v u Q I rx ry h
  obtain ⟨d, e, hd, he, ha, hn, hz, q⟩ := h
  obtain ⟨as, r1⟩ := Dp.reads I d x v hd rx
  obtain ⟨bs, r2⟩ := Dp.reads I e y u he ry
  exact PySem.W.lt_data r1 r2 ha hn (by omega) ⟨.bl _, H, I, rfl, q⟩
theorem op_gtD (hu : X.A.units + 64 < cLine) : OpR X (compareOp .Gt) (rCmpD X.K fun d e => PySem.W.dataLt e d) := by
  intro pins s σ H x y v u Q I rx ry h
  obtain ⟨d, e, hd, he, ha, hn, hz, q⟩ := h
  obtain ⟨as, r1⟩ := Dp.reads I d x v hd rx
  obtain ⟨bs, r2⟩ := Dp.reads I e y u he ry
  exact PySem.W.gt_data r1 r2 ha hn (by omega) ⟨.bl _, H, I, rfl, q⟩
theorem op_leD (hu : X.A.units + 64 < cLine) : OpR X (compareOp .LtE) (rCmpD X.K fun d e => !PySem.W.dataLt e d) := by
  intro pins s σ H x y v u Q I rx ry h
  obtain ⟨d, e, hd, he, ha, hn, hz, q⟩ := h
  obtain ⟨as, r1⟩ := Dp.reads I d x v hd rx
  obtain ⟨bs, r2⟩ := Dp.reads I e y u he ry
  exact PySem.W.le_data r1 r2 ha hn (by omega) ⟨.bl _, H, I, rfl, q⟩
theorem op_geD (hu : X.A.units + 64 < cLine) : OpR X (compareOp .GtE) (rCmpD X.K fun d e => !PySem.W.dataLt d e) := by
  intro pins s σ H x y v u Q I rx ry h
  obtain ⟨d, e, hd, he, ha, hn, hz, q⟩ := h
  obtain ⟨as, r1⟩ := Dp.reads I d x v hd rx
  obtain ⟨bs, r2⟩ := Dp.reads I e y u he ry
  exact PySem.W.ge_data r1 r2 ha hn (by omega) ⟨.bl _, H, I, rfl, q⟩
theorem notNon_py : ∀ {d : D}, D.fit 32 d = true → notNonB d = true → d.py ≠ .none
  | .non, _, h => by simp [notNonB] at h
  | .bl _, _, _ => by simp [D.py]
  | .int _, _, _ => by simp [D.py]
  | .str _, _, _ => by simp [D.py]
  | .tup _, _, _ => by simp [D.py]
  | .lst _, _, _ => by simp [D.py]
  | .ref _, h, _ => by simp [D.fit] at h
  | .fr _, h, _ => by simp [D.fit] at h
  | .rng _ _, h, _ => by simp [D.fit] at h
theorem fCmp_s {pI : Int → Int → Bool} {pD : D → D → Bool} {p : PyData → PyData → Bool} (hp : ∀ a b, pD a b = p a.py b.py) : OpS K (fun x y H Q => rI0 (fun i j => .bl (pI i j)) x y H Q ∨ rCmpD K p x y H Q) (fCmp pI pD) := by
  intro w S H a b d x y S' Q k ra rb hm q
  unfold fCmp at hm
  split at hm
  · cases hm
    exact .inl ⟨_, _, ra.int_inv, rb.int_inv, q w H _ .refl k (.bl _)⟩
  · split at hm
    · rename_i h
      cases hm
      have h1 := D.fit_lay a 32 h.1
      exact .inr ⟨a.py, b.py, ra.dp _ _ _ h.1, rb.dp _ _ _ h.2.1, h.2.2.1, notNon_py h.1 h.2.2.2, by omega, by rw [← hp]; exact q w H _ .refl k (.bl _)⟩
    · cases hm
abbrev fLtD := fCmp (fun i j => decide (i < j)) fun a b => dlt a b
abbrev fLeD := fCmp (fun i j => decide (i ≤ j)) fun a b => !dlt b a
abbrev fGtD := fCmp (fun i j => decide (j < i)) fun a b => dlt b a
abbrev fGeD := fCmp (fun i j => decide (j ≤ i)) fun a b => !dlt a b
section
variable {j : Nat} (hr : Room j X.A)
include hr
theorem ae_lt (ha : AE X a ma) (hb : AE X b mb) : AE X (.Compare a [.Lt] [b] pos) (mBin fLtD ma mb) := ae_cmp (op_lt.or (op_ltD hr.units)) (fCmp_s fun _ _ => rfl) ha hb (nomark _)
theorem ae_le (ha : AE X a ma) (hb : AE X b mb) : AE X (.Compare a [.LtE] [b] pos) (mBin fLeD ma mb) := ae_cmp (op_le.or (op_leD hr.units)) (fCmp_s fun _ _ => rfl) ha hb (nomark _)
theorem ae_gt (ha : AE X a ma) (hb : AE X b mb) : AE X (.Compare a [.Gt] [b] pos) (mBin fGtD ma mb) := ae_cmp (op_gt.or (op_gtD hr.units)) (fCmp_s fun _ _ => rfl) ha hb (nomark _)
theorem ae_ge (ha : AE X a ma) (hb : AE X b mb) : AE X (.Compare a [.GtE] [b] pos) (mBin fGeD ma mb) := ae_cmp (op_ge.or (op_geD hr.units)) (fCmp_s fun _ _ => rfl) ha hb (nomark _)
theorem ae_eq (ha : AE X a ma) (hb : AE X b mb) : AE X (.Compare a [.Eq] [b] pos) (mBin fEq ma mb) := ae_cmp (op_eqD hr.units) fEq_s ha hb (nomark _)
theorem ae_ne (ha : AE X a ma) (hb : AE X b mb) : AE X (.Compare a [.NotEq] [b] pos) (mBin fNe ma mb) := ae_cmp (op_neD hr.units) fNe_s ha hb (nomark _)
theorem ae_in (ha : AE X a ma) (hb : AE X b mb) (hm : behindInMarks .In b = false := by rfl) : AE X (.Compare a [.In] [b] pos) (mBin fIn ma mb) := ae_cmp (op_inA (by have := hr.un; omega)) (fInB_s false) ha hb hm
theorem ae_nin (ha : AE X a ma) (hb : AE X b mb) (hm : behindInMarks .NotIn b = false := by rfl) : AE X (.Compare a [.NotIn] [b] pos) (mBin fNotIn ma mb) := ae_cmp (op_notInA (by have := hr.un; omega)) (fInB_s true) ha hb hm
theorem at_lt (ha : AE X a ma) (hb : AE X b mb) : AT X (.Compare a [.Lt] [b] pos) (mTV (mBin fLtD ma mb)) := at_cmp (op_lt.or (op_ltD hr.units)) (fCmp_s fun _ _ => rfl) ha hb (nomark _)
theorem at_le (ha : AE X a ma) (hb : AE X b mb) : AT X (.Compare a [.LtE] [b] pos) (mTV (mBin fLeD ma mb)) := at_cmp (op_le.or (op_leD hr.units)) (fCmp_s fun _ _ => rfl) ha hb (nomark _)
theorem at_gt (ha : AE X a ma) (hb : AE X b mb) : AT X (.Compare a [.Gt] [b] pos) (mTV (mBin fGtD ma mb)) := at_cmp (op_gt.or (op_gtD hr.units)) (fCmp_s fun _ _ => rfl) ha hb (nomark _)
theorem at_ge (ha : AE X a ma) (hb : AE X b mb) : AT X (.Compare a [.GtE] [b] pos) (mTV (mBin fGeD ma mb)) := at_cmp (op_ge.or (op_geD hr.units)) (fCmp_s fun _ _ => rfl) ha hb (nomark _)
theorem at_eq (ha : AE X a ma) (hb : AE X b mb) : AT X (.Compare a [.Eq] [b] pos) (mTV (mBin fEq ma mb)) := at_cmp (op_eqD hr.units) fEq_s ha hb (nomark _)
theorem at_ne (ha : AE X a ma) (hb : AE X b mb) : AT X (.Compare a [.NotEq] [b] pos) (mTV (mBin fNe ma mb)) := at_cmp (op_neD hr.units) fNe_s ha hb (nomark _)
theorem at_in (ha : AE X a ma) (hb : AE X b mb) (hm : behindInMarks .In b = false := by rfl) : AT X (.Compare a [.In] [b] pos) (mTV (mBin fIn ma mb)) := at_cmp (op_inA (by have := hr.un; omega)) (fInB_s false) ha hb hm
theorem at_nin (ha : AE X a ma) (hb : AE X b mb) (hm : behindInMarks .NotIn b = false := by rfl) : AT X (.Compare a [.NotIn] [b] pos) (mTV (mBin fNotIn ma mb)) := at_cmp (op_notInA (by have := hr.un; omega)) (fInB_s true) ha hb hm
end
theorem ae_is (ha : AE X a ma) (hb : AE X b mb) : AE X (.Compare a [.Is] [b] pos) (mBin fIsN ma mb) := ae_cmp (op_isN.or op_isBl) fIsN_s ha hb (nomark _)
theorem ae_isnot (ha : AE X a ma) (hb : AE X b mb) : AE X (.Compare a [.IsNot] [b] pos) (mBin fNotN ma mb) := ae_cmp (op_notN.or op_notBl) fNotN_s ha hb (nomark _)
theorem at_is (ha : AE X a ma) (hb : AE X b mb) : AT X (.Compare a [.Is] [b] pos) (mTV (mBin fIsN ma mb)) := at_cmp (op_isN.or op_isBl) fIsN_s ha hb (nomark _)
theorem at_isnot (ha : AE X a ma) (hb : AE X b mb) : AT X (.Compare a [.IsNot] [b] pos) (mTV (mBin fNotN ma mb)) := at_cmp (op_notN.or op_notBl) fNotN_s ha hb (nomark _)
theorem ae_sub' (ha : AE X a ma) (hb : AE X b mb) (hs : PlainIx b := by exact fun _ _ => rfl) : AE X (.Subscript a b pos) (mBin fIx ma mb) := ae_ix ix_seq fIx_s ha hb hs
section
variable {p : Pos} {e : Expr} {es : List Expr} {ms : ML}
theorem ae_len (hm : X.mg "len" = none) (ha : AA X (e :: es) ms) (hg : Gl X "len" := by rfl) (he : starEach (e :: es) X.env = (false, eval e X.env) :: starEach es X.env := by rfl) (hpl : (backTo pos (starEach es X.env)).any (·.1) = false := by rfl) : AE X (.Call (.Name "len" p) (e :: es) [] pos) (mCB fLen ms) :=
  ae_callB call_len fLen_s hm ha hg (by decide +kernel) (by decide) (by decide) he hpl
theorem ae_sum (hc : X.calm = true) (hm : X.mg "sum" = none) (ha : AA X (e :: es) ms) (hg : Gl X "sum" := by rfl) (he : starEach (e :: es) X.env = (false, eval e X.env) :: starEach es X.env := by rfl) (hpl : (backTo pos (starEach es X.env)).any (·.1) = false := by rfl) : AE X (.Call (.Name "sum" p) (e :: es) [] pos) (mCB fSum ms) :=
  ae_callB (cr_sum hc) fSum_s hm ha hg (by decide +kernel) (by decide) (by decide) he hpl
theorem ae_any (hc : X.calm = true) (hm : X.mg "any" = none) (ha : AA X (e :: es) ms) (hg : Gl X "any" := by rfl) (he : starEach (e :: es) X.env = (false, eval e X.env) :: starEach es X.env := by rfl) (hpl : (backTo pos (starEach es X.env)).any (·.1) = false := by rfl) : AE X (.Call (.Name "any" p) (e :: es) [] pos) (mCB fAny ms) :=
  ae_callB (cr_any hc) fAny_s hm ha hg (by decide +kernel) (by decide) (by decide) he hpl
theorem ae_all (hc : X.calm = true) (hm : X.mg "all" = none) (ha : AA X (e :: es) ms) (hg : Gl X "all" := by rfl) (he : starEach (e :: es) X.env = (false, eval e X.env) :: starEach es X.env := by rfl) (hpl : (backTo pos (starEach es X.env)).any (·.1) = false := by rfl) : AE X (.Call (.Name "all" p) (e :: es) [] pos) (mCB fAll ms) :=
  ae_callB (cr_all hc) fAll_s hm ha hg (by decide +kernel) (by decide) (by decide) he hpl
theorem ae_abs (hm : X.mg "abs" = none) (ha : AA X (e :: es) ms) (hg : Gl X "abs" := by rfl) (he : starEach (e :: es) X.env = (false, eval e X.env) :: starEach es X.env := by rfl) (hpl : (backTo pos (starEach es X.env)).any (·.1) = false := by rfl) : AE X (.Call (.Name "abs" p) (e :: es) [] pos) (mCB fAbs ms) :=
  ae_callB call_abs fAbs_s hm ha hg (by decide +kernel) (by decide) (by decide) he hpl
theorem ae_intC (hm : X.mg "int" = none) (ha : AA X (e :: es) ms) (hg : Gl X "int" := by rfl) (he : starEach (e :: es) X.env = (false, eval e X.env) :: starEach es X.env := by rfl) (hpl : (backTo pos (starEach es X.env)).any (·.1) = false := by rfl) : AE X (.Call (.Name "int" p) (e :: es) [] pos) (mCB fInt ms) :=
  ae_callTy call_int1 fInt_s hm ha hg (by decide +kernel) (by decide) (by decide) he hpl
theorem ae_tuple (hm : X.mg "tuple" = none) (ha : AA X (e :: es) ms) (hg : Gl X "tuple" := by rfl) (he : starEach (e :: es) X.env = (false, eval e X.env) :: starEach es X.env := by rfl) (hpl : (backTo pos (starEach es X.env)).any (·.1) = false := by rfl) : AE X (.Call (.Name "tuple" p) (e :: es) [] pos) (mCB fTuple ms) :=
  ae_callTy call_tuple_of fTuple_s hm ha hg (by decide +kernel) (by decide) (by decide) he hpl
theorem ae_rng1 (hm : X.mg "range" = none) (ha : AA X (e :: es) ms) (hg : Gl X "range" := by rfl) (he : starEach (e :: es) X.env = (false, eval e X.env) :: starEach es X.env := by rfl) (hpl : (backTo pos (starEach es X.env)).any (·.1) = false := by rfl) : AE X (.Call (.Name "range" p) (e :: es) [] pos) (mCB fRng1 ms) :=
  ae_callTy cr_range1 fRng1_s hm ha hg (by decide +kernel) (by decide) (by decide) he hpl
theorem ae_rng2 (hm : X.mg "range" = none) (ha : AA X (e :: es) ms) (hg : Gl X "range" := by rfl) (he : starEach (e :: es) X.env = (false, eval e X.env) :: starEach es X.env := by rfl) (hpl : (backTo pos (starEach es X.env)).any (·.1) = false := by rfl) : AE X (.Call (.Name "range" p) (e :: es) [] pos) (mCB fRng2 ms) :=
  ae_callTy cr_range2 fRng2_s hm ha hg (by decide +kernel) (by decide) (by decide) he hpl
end
/-! ### min, max, sorted of data -/
theorem D.py_inj : ∀ (a : D) (n m : Nat) (b : D), D.fit n a = true → D.fit m b = true → a.py = b.py → a = b := by
  intro a
  exact go a
where
  go : ∀ (a : D) (n m : Nat) (b : D), D.fit n a = true → D.fit m b = true → a.py = b.py → a = b
    | .non, n, m, b, _, hb, e => by cases b <;> simp_all [D.py, D.fit]
    | .bl _, n, m, b, _, hb, e => by cases b <;> simp_all [D.py, D.fit]
    | .int _, n, m, b, _, hb, e => by cases b <;> simp_all [D.py, D.fit]
    | .str _, n, m, b, _, hb, e => by cases b <;> simp_all [D.py, D.fit]
    | .tup xs, n, m, b, ha, hb, e => by
      cases b with
      | tup ys =>
        cases n with
        | zero => simp [D.fit] at ha
        | succ n =>
          cases m with
          | zero => simp [D.fit] at hb
          | succ m =>
            simp only [D.fit] at ha hb
            simp only [D.py, PyData.tuple.injEq] at e
            rw [goL xs n m ys ha hb e]
      | _ => simp_all [D.py, D.fit]
    | .lst xs, n, m, b, ha, hb, e => by
      cases b with
      | lst ys =>
        cases n with
        | zero => simp [D.fit] at ha
        | succ n =>
          cases m with
          | zero => simp [D.fit] at hb
          | succ m =>
            simp only [D.fit] at ha hb
            simp only [D.py, PyData.list.injEq] at e
            rw [goL xs n m ys ha hb e]
      | _ => simp_all [D.py, D.fit]
    | .ref _, n, m, b, ha, _, _ => by simp [D.fit] at ha
    | .fr _, n, m, b, ha, _, _ => by simp [D.fit] at ha
    | .rng _ _, n, m, b, ha, _, _ => by simp [D.fit] at ha
  goL : ∀ (a : List D) (n m : Nat) (b : List D), D.fitL n a = true → D.fitL m b = true → D.pyL a = D.pyL b → a = b
    | [], _, _, [], _, _, _ => rfl
    | [], _, _, _ :: _, _, _, e => by simp [D.pyL] at e
    | _ :: _, _, _, [], _, _, e => by simp [D.pyL] at e
    | x :: xs, n, m, y :: ys, ha, hb, e => by
      simp only [D.fitL, Bool.and_eq_true] at ha hb
      simp only [D.pyL, List.cons.injEq] at e
      rw [go x n m y ha.1 hb.1 e.1, goL xs n m ys ha.2 hb.2 e.2]
/-- each two are alike, none is None -/
def alikeB (xs : List D) : Bool := xs.all fun a => notNonB a && xs.all fun b => dalike a b
mutual
theorem D.fit_mono : ∀ (n m : Nat), n ≤ m → ∀ d : D, D.fit n d = true → D.fit m d = true
    | n, m, h, .non, _ => by simp [D.fit]
    | n, m, h, .bl _, _ => by simp [D.fit]
    | n, m, h, .int _, _ => by simp [D.fit]
    | n, m, h, .str _, q => by simpa [D.fit] using q
    | 0, m, h, .tup _, q => by simp [D.fit] at q
    | n + 1, 0, h, .tup _, q => by omega
    | n + 1, m + 1, h, .tup xs, q => by
      simp only [D.fit] at q ⊢
      exact D.fit_monoL n m (by omega) xs q
    | 0, m, h, .lst _, q => by simp [D.fit] at q
    | n + 1, 0, h, .lst _, q => by omega
    | n + 1, m + 1, h, .lst xs, q => by
      simp only [D.fit] at q ⊢
      exact D.fit_monoL n m (by omega) xs q
    | n, m, h, .ref _, q => by simp [D.fit] at q
    | n, m, h, .fr _, q => by simp [D.fit] at q
    | n, m, h, .rng _ _, q => by simp [D.fit] at q
theorem D.fit_monoL : ∀ (n m : Nat), n ≤ m → ∀ d : List D, D.fitL n d = true → D.fitL m d = true
    | _, _, _, [], _ => by simp [D.fitL]
    | n, m, h, x :: xs, q => by
      simp only [D.fitL, Bool.and_eq_true] at q ⊢
      exact ⟨D.fit_mono n m h x q.1, D.fit_monoL n m h xs q.2⟩
end
theorem alikeB_of {xs : List D} (hf : D.fitL 31 xs = true) (h : alikeB xs = true) : PySem.W.AlikeAll (D.pyL xs) ∧ PySem.W.AllAlike (D.pyL xs) := by
  unfold alikeB at h
  rw [D.fitL_all] at hf
  rw [D.pyL_map]
  have h1 : ∀ x ∈ xs, ∀ y ∈ xs, PySem.W.alike x.py y.py = true := fun x hx y hy => by
    have := List.all_eq_true.mp h x hx
    rw [Bool.and_eq_true] at this
    exact List.all_eq_true.mp this.2 y hy
  refine ⟨⟨fun x hx y hy => ?_, fun x hx => ?_⟩, fun x hx y hy => ?_⟩
  · obtain ⟨a, ha, rfl⟩ := List.mem_map.mp hx
    obtain ⟨b, hb, rfl⟩ := List.mem_map.mp hy
    exact h1 a ha b hb
  · obtain ⟨a, ha, rfl⟩ := List.mem_map.mp hx
    have := List.all_eq_true.mp h a ha
    rw [Bool.and_eq_true] at this
    have hfa := List.all_eq_true.mp hf a ha
    exact notNon_py (by
      have := hfa
      exact D.fit_mono 31 32 (by omega) a this) this.1
  · obtain ⟨a, ha, rfl⟩ := List.mem_map.mp hx
    obtain ⟨b, hb, rfl⟩ := List.mem_map.mp hy
    exact h1 a ha b hb
def minDD (x : D) (xs : List D) : D := xs.foldl (fun a y => if dlt y a then y else a) x
def maxDD (x : D) (xs : List D) : D := xs.foldl (fun a y => if dlt a y then y else a) x
theorem minDD_py (x : D) (xs : List D) : (minDD x xs).py = PySem.W.minD x.py (D.pyL xs) := by
  rw [D.pyL_map]
  unfold minDD PySem.W.minD
  induction xs generalizing x with
  | nil => rfl
  | cons y ys ih =>
    rw [List.map_cons, List.foldl_cons, List.foldl_cons, ih]
    unfold dlt
    cases PySem.W.dataLt y.py x.py <;> rfl
theorem maxDD_py (x : D) (xs : List D) : (maxDD x xs).py = PySem.W.maxD x.py (D.pyL xs) := by
  rw [D.pyL_map]
  unfold maxDD PySem.W.maxD
  induction xs generalizing x with
  | nil => rfl
  | cons y ys ih =>
    rw [List.map_cons, List.foldl_cons, List.foldl_cons, ih]
    unfold dlt
    cases PySem.W.dataLt x.py y.py <;> rfl
theorem minDD_mem (x : D) (xs : List D) : minDD x xs ∈ x :: xs := by
  unfold minDD
  induction xs generalizing x with
  | nil => simp
  | cons y ys ih =>
    rw [List.foldl_cons]
    have := ih (if dlt y x then y else x)
    simp only [List.mem_cons] at this ⊢
    by_cases hc : dlt y x = true
    · rw [if_pos hc] at this ⊢; rcases this with h | h <;> simp [h]
    · rw [if_neg hc] at this ⊢; rcases this with h | h <;> simp [h]
theorem maxDD_mem (x : D) (xs : List D) : maxDD x xs ∈ x :: xs := by
  unfold maxDD
  induction xs generalizing x with
  | nil => simp
  | cons y ys ih =>
    rw [List.foldl_cons]
    have := ih (if dlt x y then y else x)
    simp only [List.mem_cons] at this ⊢
    by_cases hc : dlt x y = true
    · rw [if_pos hc] at this ⊢; rcases this with h | h <;> simp [h]
    · rw [if_neg hc] at this ⊢; rcases this with h | h <;> simp [h]
def rMinD (K : PySem.W.Frag) (f : PyData → List PyData → PyData) : List V → Hp → VK → Prop := fun vs H Q => ∃ (a : Addr) (us : List V) (d : PyData) (ds : List PyData), vs = [.ref a] ∧ (SqL K H a us ∨ SqT K H a us) ∧ DpAll K H us (d :: ds) ∧ PySem.W.AlikeAll (d :: ds) ∧ PyData.depthAll (d :: ds) ≤ 60 ∧
  ∀ (i : Nat) v, us[i]? = some v → (d :: ds)[i]? = some (f d ds) → Q v H
theorem DpAll.get {H : Hp} : ∀ {vs : List V} {ds : List PyData} {i : Nat} {v : V}, DpAll K H vs ds → vs[i]? = some v → ∃ d, ds[i]? = some d ∧ Dp K H v d
  | _, _, _, _, .nil, e => by simp at e
  | _, _, 0, _, .cons r _, e => by simp at e; subst e; exact ⟨_, rfl, r⟩
  | _, _, i + 1, v, .cons _ t, e => by
    obtain ⟨d, h1, h2⟩ := DpAll.get (i := i) (v := v) t (by simpa using e)
    exact ⟨d, by simpa using h1, h2⟩
theorem minD_pick {s : Shared} {pins : List (Addr × Obj)} {σ : L2.St} {H : Hp} {us : List V} {its : List Value} {d m : PyData} {ds : List PyData} {i : Nat} {v : Value} {h' : Heap} {bs : List Addr} (I : Inv X pins σ H s) (hd : DpAll X.K H us (d :: ds)) (rv : Vals us its) (al : PySem.W.AlikeAll (d :: ds)) (hm : m ∈ d :: ds)
    (hv : its.toArray[i]? = some v) (r : Reads h' v m bs) (hk : ∀ b o, s.heap.get? b = some o → h'.get? b = some o) : ∃ x, us[i]? = some x ∧ RelV x v ∧ (d :: ds)[i]? = some m := by
  have hv : its[i]? = some v := by simpa using hv
  cases hu : us[i]? with
  | none => rw [rv.none_of hu] at hv; cases hv
  | some x =>
    obtain ⟨u, h1, h2⟩ := rv.get hu
    rw [hv] at h1; cases h1
    obtain ⟨d2, h3, h4⟩ := DpAll.get hd hu
    obtain ⟨as, r2⟩ := Dp.reads I d2 x v h4 h2
    have r3 := PySem.W.reads_keeps hk r2
    have e := PySem.W.alike_unique d2 m v _ _ (al.1 d2 (List.mem_of_getElem? h3) m hm) r3 r
    rw [e] at h3
    exact ⟨x, rfl, h2, h3⟩
theorem minD_mem' (x : PyData) (xs : List PyData) : PySem.W.minD x xs ∈ x :: xs := by
  unfold PySem.W.minD
  induction xs generalizing x with
  | nil => simp
  | cons y ys ih =>
    rw [List.foldl_cons]
    have := ih (if PySem.W.dataLt y x then y else x)
    simp only [List.mem_cons] at this ⊢
    by_cases hc : PySem.W.dataLt y x = true
    · rw [if_pos hc] at this ⊢; rcases this with h | h <;> simp [h]
    · rw [if_neg hc] at this ⊢; rcases this with h | h <;> simp [h]
theorem maxD_mem' (x : PyData) (xs : List PyData) : PySem.W.maxD x xs ∈ x :: xs := by
  unfold PySem.W.maxD
  induction xs generalizing x with
  | nil => simp
  | cons y ys ih =>
    rw [List.foldl_cons]
    have := ih (if PySem.W.dataLt x y then y else x)
    simp only [List.mem_cons] at this ⊢
    by_cases hc : PySem.W.dataLt x y = true
    · rw [if_pos hc] at this ⊢; rcases this with h | h <;> simp [h]
    · rw [if_neg hc] at this ⊢; rcases this with h | h <;> simp [h]
theorem cr_minD (hc : X.calm = true) (hu : X.A.units + 64 < cLine) : CallR X (.builtin "min") (rMinD X.K PySem.W.minD) := by
  intro pins s σ H vs us Q I r h
  obtain ⟨a, xs, d, ds, rfl, hs, hd, al, hz, q⟩ := h
  rw [Vals.ref1 r]
  rcases hs with hs | hs
  · obtain ⟨its, rv, hl, _⟩ := I.list hs
    obtain ⟨as, hr⟩ := Dp.readsAll I (d :: ds) xs its hd rv
    refine PySem.W.min_list_data (I.ok.hd hc) hl.isList (by simpa using hr) al (by omega) fun i v h' tk bs hv r hk => ?_
    obtain ⟨x, h1, h2, h3⟩ := minD_pick I hd rv al (minD_mem' d ds) hv r hk
    exact ⟨x, H, I.kept (t' := tk) hk, h2, q i x h1 h3⟩
  · obtain ⟨its, rv, hl, _⟩ := I.tuple hs
    obtain ⟨as, hr⟩ := Dp.readsAll I (d :: ds) xs its hd rv
    refine PySem.W.min_tuple_data (I.ok.hd hc) (show s.heap.IsTuple a its.toArray from hl) (by simpa using hr) al (by omega) fun i v h' tk bs hv r hk => ?_
    obtain ⟨x, h1, h2, h3⟩ := minD_pick I hd rv al (minD_mem' d ds) hv r hk
    exact ⟨x, H, I.kept (t' := tk) hk, h2, q i x h1 h3⟩
theorem cr_maxD (hc : X.calm = true) (hu : X.A.units + 64 < cLine) : CallR X (.builtin "max") (rMinD X.K PySem.W.maxD) := by
  intro pins s σ H vs us Q I r h
  obtain ⟨a, xs, d, ds, rfl, hs, hd, al, hz, q⟩ := h
  rw [Vals.ref1 r]
  rcases hs with hs | hs
  · obtain ⟨its, rv, hl, _⟩ := I.list hs
    obtain ⟨as, hr⟩ := Dp.readsAll I (d :: ds) xs its hd rv
    refine PySem.W.max_list_data (I.ok.hd hc) hl.isList (by simpa using hr) al (by omega) fun i v h' tk bs hv r hk => ?_
    obtain ⟨x, h1, h2, h3⟩ := minD_pick I hd rv al (maxD_mem' d ds) hv r hk
    exact ⟨x, H, I.kept (t' := tk) hk, h2, q i x h1 h3⟩
  · obtain ⟨its, rv, hl, _⟩ := I.tuple hs
    obtain ⟨as, hr⟩ := Dp.readsAll I (d :: ds) xs its hd rv
    refine PySem.W.max_tuple_data (I.ok.hd hc) (show s.heap.IsTuple a its.toArray from hl) (by simpa using hr) al (by omega) fun i v h' tk bs hv r hk => ?_
    obtain ⟨x, h1, h2, h3⟩ := minD_pick I hd rv al (maxD_mem' d ds) hv r hk
    exact ⟨x, H, I.kept (t' := tk) hk, h2, q i x h1 h3⟩
/-- min, max: of two ints, of a list of ints, of a list or tuple of data that are alike -/
def fMinX (f2 : Int → Int → Int) (fI : Int → List Int → Int) (fD : D → List D → D) : List D → Store → Option (D × Store)
  | [.int i, .int j], S => some (.int (f2 i j), S)
  | [d], S => (seqOf d S).bind fun xs => match intsOf xs, lstOf d S with
    | some (n :: ns), some _ => some (.int (fI n ns), S)
    | _, _ => match xs with
      | [] => none
      | x :: xs => if D.fitL 31 (x :: xs) ∧ alikeB (x :: xs) then some (fD x xs, S) else none
  | _, _ => none
abbrev fMinA := fMinX (fun i j => if j < i then j else i) minI minDD
abbrev fMaxA := fMinX (fun i j => if j > i then j else i) maxI maxDD
theorem lstOf_seqOf {d : D} {S : Store} {xs : List D} (h : lstOf d S = some xs) : seqOf d S = some xs := by
  cases d with
  | lst _ => exact h
  | fr _ => exact h
  | ref _ => exact h
  | _ => cases h
theorem fMinX_s {f2 : Int → Int → Int} {fI : Int → List Int → Int} {fD : D → List D → D} {fP : PyData → List PyData → PyData} {rI : List V → Hp → VK → Prop} (hP : ∀ x xs, (fD x xs).py = fP x.py (D.pyL xs)) (hmem : ∀ x xs, fD x xs ∈ x :: xs)
    (hI : ∀ (a : Addr) (n : Int) (ns : List Int) (H : Hp) (Q : VK), SqL K H a ((n :: ns).map V.int) → Q (.int (fI n ns)) H → rI [.ref a] H Q) :
    CallS K (fun xs H Q => ((∃ i j, xs = [.int i, .int j] ∧ Q (.int (f2 i j)) H) ∨ rI xs H Q) ∨ rMinD K fP xs H Q) (fMinX f2 fI fD) := by
  intro w S H ds vs d S' Q k r hm q
  unfold fMinX at hm
  split at hm
  · cases hm
    obtain ⟨v1, v2, rfl, r1, r2⟩ := r.two_inv
    exact .inl (.inl ⟨_, _, by rw [r1.int_inv, r2.int_inv], q w H _ .refl k (.int _)⟩)
  · obtain ⟨xs, h1, hm⟩ := Option.bind_eq_some_iff.mp hm
    obtain ⟨v, rfl, r1⟩ := r.one_inv
    split at hm
    · rename_i n ns ys hi hl
      cases hm
      obtain ⟨a, us, rfl, h3, h4⟩ := lst_rd k r1 hl
      have e : xs = ys := by
        rw [lstOf_seqOf hl] at h1
        exact (Option.some.inj h1).symm
      subst e
      rw [intsOf_iff hi] at h4
      rw [h4.ints] at h3
      exact .inl (.inr (hI a n ns H Q h3 (q w H _ .refl k (.int _))))
    · cases xs with
      | nil => cases hm
      | cons x1 xs1 =>
        replace hm : (if D.fitL 31 (x1 :: xs1) ∧ alikeB (x1 :: xs1) then some (fD x1 xs1, S) else none) = some (d, S') := hm
        split at hm
        · rename_i hz
          cases hm
          obtain ⟨a, us, rfl, h3, h4⟩ := seq_rd k r1 h1
          have hdp := RpL.dp _ 31 us h4 hz.1
          have hal := (alikeB_of hz.1 hz.2).1
          have hdep := (D.fitL_lay _ 31 hz.1).2
          simp only [D.pyL] at hdp hal hdep
          refine .inr ⟨a, us, _, _, rfl, h3, hdp, hal, by omega, fun i v hv hd => ?_⟩
          obtain ⟨e, he, re⟩ := h4.get' hv
          have hpy : ((x1 :: xs1).map D.py)[i]? = some (fD x1 xs1).py := by
            rw [hP, List.map_cons, ← D.pyL_map]; exact hd
          rw [List.getElem?_map, he] at hpy
          have e2 : e.py = (fD x1 xs1).py := Option.some.inj hpy
          have fm : ∀ y ∈ x1 :: xs1, D.fit 31 y = true := fun y hy => by
            have := hz.1
            rw [D.fitL_all] at this
            exact List.all_eq_true.mp this y hy
          have e3 := D.py_inj e 31 31 (fD x1 xs1) (fm e (List.mem_of_getElem? he)) (fm _ (hmem _ _)) e2
          rw [← e3] at q
          exact q w H _ .refl k re
        · cases hm
  · cases hm
section
variable {p : Pos} {e : Expr} {es : List Expr} {ms : ML} {j : Nat}
theorem ae_min (hr : Room j X.A) (hc : X.calm = true) (hm : X.mg "min" = none) (ha : AA X (e :: es) ms) (hg : Gl X "min" := by rfl) (he : starEach (e :: es) X.env = (false, eval e X.env) :: starEach es X.env := by rfl) (hpl : (backTo pos (starEach es X.env)).any (·.1) = false := by rfl) : AE X (.Call (.Name "min" p) (e :: es) [] pos) (mCB fMinA ms) :=
  ae_callB (((call_min2 hc).or (cr_min hc)).or (cr_minD hc hr.units)) (fMinX_s minDD_py minDD_mem fun a n ns H Q hs q => ⟨a, n :: ns, rfl, hs, by simp, fun m h5 h6 => by rw [minI_eq _ _ m h5 h6]; exact q⟩) hm ha hg (by decide +kernel) (by decide) (by decide) he hpl
theorem ae_max (hr : Room j X.A) (hc : X.calm = true) (hm : X.mg "max" = none) (ha : AA X (e :: es) ms) (hg : Gl X "max" := by rfl) (he : starEach (e :: es) X.env = (false, eval e X.env) :: starEach es X.env := by rfl) (hpl : (backTo pos (starEach es X.env)).any (·.1) = false := by rfl) : AE X (.Call (.Name "max" p) (e :: es) [] pos) (mCB fMaxA ms) :=
  ae_callB (((call_max2 hc).or (cr_max hc)).or (cr_maxD hc hr.units)) (fMinX_s maxDD_py maxDD_mem fun a n ns H Q hs q => ⟨a, n :: ns, rfl, hs, by simp, fun m h5 h6 => by rw [maxI_eq _ _ m h5 h6]; exact q⟩) hm ha hg (by decide +kernel) (by decide) (by decide) he hpl
end
end
end DV

namespace PySem
set_option maxHeartbeats 1000000 in
theorem dv_meets_enumerate_newB {v : Value} {o : Obj} {H : Heap → Prop} (B : Begins v o H) :
    Meets (Builtin.«enumerate.__new__» ⟨[.type "enumerate", v], []⟩) (fun _ R s => H s.heap ∧
      R (.ok (.ret (.ref (s.heap.push o).objs.size))) { s with heap := (s.heap.push o).push { cls := .type "enumerate", data := .fields #[.none, .bool false, .ref s.heap.objs.size, rawInt 0, .none, .none] } }) :=
  .of_wp fun prog w A R s h => by
    obtain ⟨hp, g, d, tk, os⟩ := s; obtain ⟨h1, h⟩ := h
    have hsub := sub_enumerate
    have q1 : ∀ {A' : Around} {E : Value → Shared → Prop} {Q : Value → Shared → Prop}, Q (.ref hp.objs.size) ⟨hp.push o, g, d, tk, os⟩ → wpAny (model prog w) A' (pyIter v) Q E ⟨hp, g, d, tk, os⟩ :=
      fun q => B.iter prog w _ _ ⟨hp, g, d, tk, os⟩ _ h1 q
    wp_walk using q1
    refine wpAny_stack_any fun st => wpAny_pure ?_
    split
    · rename_i c _ _ _ _ _
      cases (c == Value.type "enumerate")
      · wp_walk using q1
        exact ⟨_, rfl, h⟩
      · wp_walk using q1
        exact ⟨_, rfl, h⟩
    · wp_walk using q1
      exact ⟨_, rfl, h⟩
theorem dv_enum_begins {prog : Program} {w : World} {A : Around} {E : Value → Shared → Prop} {s : Shared} {v : Value} {o : Obj} {H : Heap → Prop} {Q : Value → Shared → Prop} (B : Begins v o H) (h1 : H s.heap)
    (h : ∀ h', IsEnum h' (s.heap.objs.size + 1) s.heap.objs.size 0 .none → h'.get? s.heap.objs.size = some o → h'.objs.size = s.heap.objs.size + 2 →
      (∀ b o, s.heap.get? b = some o → h'.get? b = some o) → Q (.ref (s.heap.objs.size + 1)) { s with heap := h' }) :
    wpAny (model prog w) A (call (.type "enumerate") [v]) Q E s := by
  refine callType_new F.called_enumerate (by decide) (F.typeCall_enumerate_1 _) (F.newCall_enumerate_1 _) (fun obj => F.args_object_init_2 obj _) F.entry_enumerate_new
    (dv_meets_enumerate_newB B) ⟨h1, ?_⟩
  have hz : (s.heap.push o).objs.size = s.heap.objs.size + 1 := Heap.size_push ..
  show _ ∧ _
  rw [hz]
  have he : IsEnum ((s.heap.push o).push { cls := .type "enumerate", data := .fields #[.none, .bool false, .ref s.heap.objs.size, rawInt 0, .none, .none] }) (s.heap.objs.size + 1) s.heap.objs.size 0 .none := by
    have := Heap.get?_push_size (s.heap.push o) (o := { cls := .type "enumerate", data := .fields #[.none, .bool false, .ref s.heap.objs.size, rawInt 0, .none, .none] }) rfl
    rw [hz] at this; exact this
  refine ⟨⟨_, he, rfl⟩, h _ he (Heap.get?_push_of_some _ (Heap.get?_push_size _ B.free)) (by rw [Heap.size_push, hz]) fun b o x => Heap.get?_push_of_some _ (Heap.get?_push_of_some _ x)⟩
theorem pyNext_enumT_end {prog : Program} {w : World} {A : Around} {E : Value → Shared → Prop} {s : Shared} {e it a : Addr} {i : Nat} {old : Value} {its : Array Value} {Q : Option Value → Shared → Prop} (hh : A.handled = none)
    (he : IsEnum s.heap e it i old) (hit : s.heap.IsTupleIter it a i) (hl : s.heap.IsTuple a its) (hx : its[i]? = none)
    (hQ : ∀ h', Heap.ExtBut it s.heap h' → Q none { s with heap := h' }) : wpAny (model prog w) A (pyNext (.ref e)) Q E s := by
  have hT : s.TypeIs (.ref e) "enumerate" := ⟨_, he, rfl⟩
  unfold pyNext
  refine wpAny_bind (wpAny_attempt (wpAny_callSpecial?_slot (name := Str.ofString "__next__") hT F.slot_enumerate_next
    (wpAny_call_entry F.slot_enumerate_next hT F.entry_enumerate_next ?_ (F.args_enumerate_next_1 _))))
  show wpAny _ _ (field (.ref e) 2 >>= _) _ _ _
  refine wpAny_bind (wpAny_field he rfl (x := .ref it) rfl ?_)
  refine wpAny_bind (wpAny_nextOf_tuple_end (A := A.in1) hh hit hl hx fun h' x he' hx' => ?_)
  obtain ⟨o, ho, hc⟩ := hx'
  refine wpAny_bind (wpAny_isInstance (T := "StopIteration") (b := true) ⟨o, ho, hc⟩ isSubtype_stop ?_)
  exact wpAny_pure (hQ _ he')
end PySem
namespace DV
open PySem PySem.Spec PyProof.Rows L2
section
variable {X : Cx} {K : PySem.W.Frag}
/-! ### enumerate of a list or a tuple -/
def IteT (K : PySem.W.Frag) (a : Addr) : It :=
  ⟨fun i H => ∃ (xs : List V) (x : V), SqT K H a xs ∧ xs[i]? = some x, fun i H v H' => ∃ T x, v = .ref T ∧ H T = none ∧ H' = upd H T (.tup [.int (i : Nat), x]) ∧ ∀ xs, SqT K H a xs → xs[i]? = some x, fun i H => ∃ xs : List V, SqT K H a xs ∧ xs.length ≤ i⟩
theorem turn_enumT {P : Program} {w : World} {K : PySem.W.Frag} {elts : List Expr} {kk : Nat} {tpos : Pos} (a e it : Addr) (hai : a ≠ it) :
    Turn P w K (.Tuple elts kk tpos) (IteT K a) [e, it] e (fun i h => (∃ old, IsEnum h e it ((i : Nat) : Int) old) ∧ h.IsTupleIter it a i ∧ e ≠ it ∧ e ≠ a) where
  mem := by simp
  obj := fun i h st b hb => by
    obtain ⟨⟨old, he⟩, ⟨o, ho, hc, hd⟩, _⟩ := st
    have e' : b = e ∨ b = it := by simpa using hb
    rcases e' with z | z
    · rw [z]; exact ⟨_, he, fun v q => nomatch q⟩
    · rw [z]; exact ⟨o, ho, fun v q => by rw [hd] at q; cases q⟩
  keep := fun i h h' st k => let ⟨⟨old, he⟩, hi, hne⟩ := st; ⟨⟨old, k e (by simp) _ he⟩, hi.at fun o q => k it (by simp) o q, hne⟩
  item := by
    intro X hP hw hK hc i pins s σ H E I hf st hg
    subst hP hw hK
    obtain ⟨⟨old, he⟩, hit, hne, hea⟩ := st
    obtain ⟨xs, x, hq, hx⟩ := hg
    obtain ⟨its, rv, p, hz⟩ := I.tuple hq
    obtain ⟨u, hu, ru⟩ := rv.get hx
    have hel : e < s.heap.objs.size := Heap.lt_size he
    have hil : it < s.heap.objs.size := by obtain ⟨_, q, _⟩ := hit; exact Heap.lt_size q
    have hlt : i < its.toArray.size := by have := (List.getElem?_eq_some_iff.mp hu).1; simpa using this
    refine wpAny_pyNext_enum_itemD (Draws.tuple (A := X.A.in1) (show X.A.in1.handled = none from I.ok.hd hc) it a hai its.toArray) he ⟨hit, (show s.heap.IsTuple a its.toArray from p)⟩ hlt hne (by simp [hne, hea]) fun x1 h' tk hP ho hst hT hsz hk => ?_
    have e1 : x1 = u := by
      have : its[i]? = some x1 := by simpa using hP
      rw [hu] at this; exact (Option.some.inj this).symm
    subst e1
    refine ⟨_, rfl, wpAny_letOwnedTupleGo_enum (s := { s with heap := h', toks := tk + 1 }) ho fun h'' he' sb => ?_⟩
    have hT2 : h''.get? s.heap.objs.size = some { cls := .type "tuple", data := .seq #[.int i tk, x1] } := (sb.2 _ (Nat.ne_of_gt hel)).trans hT
    have new : ObjOk X.prog X.w (upd H s.heap.objs.size (.tup [.int (i : Nat), x])) h'' s.heap.objs.size (.tup [.int (i : Nat), x]) :=
      ⟨by show 2 ≤ sizeLine; decide, [.int i tk, x1], .cons ⟨_, rfl⟩ (.cons ru .nil), ⟨_, hT2, rfl, _, rfl⟩⟩
    have I1 : Inv X pins σ (upd H s.heap.objs.size (.tup [.int (i : Nat), x])) { s with heap := h'', toks := tk + 1 } :=
      I.turnedNew (ch := [e, it]) (fun b ob hb q => (sb.2 b (fun z => hb (by simp [z]))).trans (hk b ob (fun z => hb (by simp [z])) (fun z => hb (by simp [z])) q)) hf (Nat.le_refl _) new
    refine ⟨.ref s.heap.objs.size, _, I1, rfl, ⟨_, x, rfl, I.hok.fresh (Nat.le_refl _), rfl, fun ys hy => by rw [I.tuple_inj hy hq]; exact hx⟩, ⟨⟨x1, ?_⟩, hst.1.at fun o q => (sb.2 it (Ne.symm hne)).trans q, hne, hea⟩, fun b hb => ?_⟩
    · have e1 : ((i + 1 : Nat) : Int) = (i : Int) + 1 := by omega
      rw [e1]; exact he'
    · have hb' : b < s.heap.objs.size := by
        have e' : b = e ∨ b = it := by simpa using hb
        rcases e' with z | z
        · rw [z]; exact hel
        · rw [z]; exact hil
      rw [upd_ne (Nat.ne_of_lt hb')]
      exact (hf b hb).1
  done := by
    intro X hP hw hK hc i pins s σ H E I hf st hg
    subst hP hw hK
    obtain ⟨⟨old, he⟩, hit, hne, hea⟩ := st
    obtain ⟨xs, hq, hx⟩ := hg
    obtain ⟨its, rv, p, hz⟩ := I.tuple hq
    obtain ⟨f0, f1, f2, f3, f4, f5⟩ := hf it (by simp)
    have hl := rv.length
    exact pyNext_enumT_end (I.ok.hd hc) he hit p (by simp; omega) fun h' eb => ⟨rfl, I.turned (t' := s.toks) (fun b o hb q => eb b o hb q) f0 f1 f3 f4 f5⟩
  self := fun A i s Q E st h => let ⟨⟨_, he⟩, _⟩ := st; wpAny_pyIter_enum he h
theorem PI.or {X : Cx} {tg it : Expr} {t t' : TI} (h : PI X tg it t) (h' : PI X tg it t') : PI X tg it (fun σ H R => t σ H R ∨ t' σ H R) := ⟨fun pins s σ H R I q => q.elim (fun q => h.run pins s σ H R I q) fun q => h'.run pins s σ H R I q⟩
theorem pi_enumT {e : Expr} {ta : TA} {p pos tpos : Pos} {elts : List Expr} {kk : Nat} (hg : Gl X "enumerate") (hm : X.mg "enumerate" = none) (ha : PA X [e] ta) (hs : starEach [e] X.env = [(false, eval e X.env)] := by rfl) :
    PI X (.Tuple elts kk tpos) (.Call (.Name "enumerate" p) [e] [] pos) (fun σ H R => ta σ H fun vs H1 => ∃ a xs, vs = [.ref a] ∧ SqT X.K H1 a xs ∧ R (IteT X.K a) H1) := by
  refine ⟨fun pins s σ H R I h => ?_⟩
  refine Call_ (ld_blt I hg hm boot_enumerate (PyProof.Rows.callWith_type1 (thn (ha.run pos pins s σ H _ I h) fun us s1 ⟨vs, H1, I1, r1, q1⟩ => ?_) hs rfl))
  obtain ⟨a, xs, ex, hq, q⟩ := q1
  subst ex
  cases r1 with
  | cons r rr =>
    cases rr
    cases r
    obtain ⟨its, rv, p', hz⟩ := I1.tuple hq
    have hal : a < s1.heap.objs.size := by obtain ⟨o, ho, _⟩ := p'; exact Heap.lt_size ho
    refine dv_enum_begins (begins_tuple a its.toArray) (show s1.heap.IsTuple a its.toArray from p') fun h' he hit hsz hk => wpAny_pyIter_enum he ?_
    have I2 : Inv X pins σ H1 { s1 with heap := h' } := I1.kept (t' := s1.toks) hk
    refine ⟨s1.heap.objs.size + 1, [s1.heap.objs.size + 1, s1.heap.objs.size], _, _, H1, rfl, I2, turn_enumT a (s1.heap.objs.size + 1) s1.heap.objs.size (Nat.ne_of_lt hal), ⟨⟨.none, he⟩, ⟨_, hit, rfl, rfl⟩, Nat.succ_ne_self _, Nat.ne_of_gt (Nat.lt_succ_of_lt hal)⟩, fun b hb => ?_, q⟩
    have e' : b = s1.heap.objs.size + 1 ∨ b = s1.heap.objs.size := by simpa using hb
    have hle : s1.heap.objs.size ≤ b := by
      rcases e' with z | z
      · rw [z]; exact Nat.le_add_right _ _
      · rw [z]; exact Nat.le_refl _
    exact I1.fpOk hle (I1.hok.fresh hle)
section
variable {w : Wd} {H : Hp} {S : Store}
theorem walkE_of {w : Wd} {H : Hp} {J J' : It} {src : Src} (W : WalkOk K w H J src) (hgo : ∀ i H, J.go i H → J'.go i H) (hst : ∀ i H, J.stop i H → J'.stop i H)
    (hy : ∀ i H v H', J.go i H → J'.yld i H v H' → ∃ T x, v = .ref T ∧ H T = none ∧ H' = upd H T (.tup [.int (i : Nat), x]) ∧ J.yld i H x H) : WalkOk K w H J' src.enum := fun i w1 H1 S1 s1 k1 => by
  obtain ⟨go, st⟩ := W i w1 H1 S1 s1 k1
  refine ⟨fun d hd => ?_, fun hn => ?_⟩
  · simp only [Src.enum] at hd
    cases hg : src.get i S1 with
    | none => rw [hg] at hd; cases hd
    | some o =>
      rw [hg] at hd
      cases o with
      | none => cases hd
      | some d0 =>
        have hd : D.tup [.int (i : Nat), d0] = d := Option.some.inj (Option.some.inj hd)
        subst hd
        obtain ⟨g1, g2⟩ := go d0 hg
        refine ⟨hgo i H1 g1, fun v H' y => ?_⟩
        obtain ⟨T, x, rfl, hT, rfl, hx⟩ := hy i H1 v H' g1 y
        obtain ⟨_, _, rx⟩ := g2 x H1 hx
        exact ⟨.new hT, k1.laid hT, .tup (k1.new hT) (.inl upd_same) (.cons (.int _) (.cons (rx.mono (.new hT)) .nil))⟩
  · simp only [Src.enum] at hn
    cases hg : src.get i S1 with
    | none => rw [hg] at hn; cases hn
    | some o =>
      cases o with
      | none => exact hst i H1 (st hg)
      | some d => rw [hg] at hn; cases hn
theorem walkE_L {a : Addr} {src : Src} (W : WalkOk K w H (Itl K a) src) : WalkOk K w H (Ite K a) src.enum := walkE_of W (fun _ _ g => let ⟨xs, x, h1, h2⟩ := g; ⟨xs, x, h1, h2⟩) (fun _ _ g => g) fun i H v H' g ⟨T, x, e1, e2, e3, e4⟩ => ⟨T, x, e1, e2, e3, rfl, e4⟩
theorem walkE_T {a : Addr} {src : Src} (W : WalkOk K w H (Itt K a) src) : WalkOk K w H (IteT K a) src.enum := walkE_of W (fun _ _ g => let ⟨xs, x, h1, h2⟩ := g; ⟨xs, x, h1, h2⟩) (fun _ _ g => g) fun i H v H' g ⟨T, x, e1, e2, e3, e4⟩ => ⟨T, x, e1, e2, e3, rfl, e4⟩
end
def mEnum (m : ME) : MI := fun e S => (m e S).bind fun (d, S1) => match d with
  | .rng _ _ => none
  | _ => (srcOf d S1).bind fun s => some (s.enum, S1)
theorem ai_enum {e : Expr} {m : ME} {p pos tpos : Pos} {elts : List Expr} {kk : Nat} (hm : X.mg "enumerate" = none) (he : AE X e m) (hg : Gl X "enumerate" := by rfl) (hs : starEach [e] X.env = [(false, eval e X.env)] := by rfl) (hs2 : starEach [e] X.env = (false, eval e X.env) :: starEach [] X.env := by rfl) :
    AI X (.Tuple elts kk tpos) (.Call (.Name "enumerate" p) [e] [] pos) (mEnum m) := PI.imp (PI.or (pi_enum hg hm (pa_cons he pa_nil hs2) hs) (pi_enumT hg hm (pa_cons he pa_nil hs2) hs)) fun σ H R ⟨w, e, S, src, S', re, k, hm, q⟩ => by
  unfold mEnum at hm
  obtain ⟨⟨d, S1⟩, h1, hm⟩ := Option.bind_eq_some_iff.mp hm
  cases d with
  | tup xs =>
    obtain ⟨s, h2, hm⟩ := Option.bind_eq_some_iff.mp (show (srcOf (.tup xs) S1).bind _ = _ from hm)
    cases h2
    cases hm
    refine .inr ⟨w, e, S, _, _, re, k, h1, fun w1 H1 v s1 k1 r1 => ?_⟩
    cases r1 with
    | tup o h l => exact ⟨_, _, rfl, .inl h, q w1 H1 _ s1 k1 (walkE_T (walk_T (.inl h) (fun _ _ => o) l))⟩
    | tupK h l => exact ⟨_, _, rfl, SqT.none_mono h, q w1 H1 _ s1 k1 (walkE_T (walkT_of h l))⟩
  | lst xs =>
    obtain ⟨s, h2, hm⟩ := Option.bind_eq_some_iff.mp (show (srcOf (.lst xs) S1).bind _ = _ from hm)
    cases h2
    cases hm
    refine .inl ⟨w, e, S, _, _, re, k, h1, fun w1 H1 v s1 k1 r1 => ?_⟩
    obtain ⟨a, vs, rfl, o, h, l⟩ := r1.lst_inv
    exact ⟨a, _, rfl, .of h, q w1 H1 _ s1 k1 (walkE_L (walk_L (.of h) (fun _ _ => o) l))⟩
  | fr xs =>
    obtain ⟨s, h2, hm⟩ := Option.bind_eq_some_iff.mp (show (srcOf (.fr xs) S1).bind _ = _ from hm)
    cases h2
    cases hm
    refine .inl ⟨w, e, S, _, _, re, k, h1, fun w1 H1 v s1 k1 r1 => ?_⟩
    cases r1 with
    | fr o h l => exact ⟨_, _, rfl, .inl h, q w1 H1 _ s1 k1 (walkE_L (walk_L (.inl h) (fun _ _ => o) l))⟩
    | frK h l => exact ⟨_, _, rfl, SqL.none_mono h, q w1 H1 _ s1 k1 (walkE_L (walkL_of h l))⟩
  | ref i =>
    obtain ⟨s, h2, hm⟩ := Option.bind_eq_some_iff.mp (show (srcOf (.ref i) S1).bind _ = _ from hm)
    unfold srcOf at h2
    simp only at h2
    split at h2
    · rename_i xs hx
      cases h2
      cases hm
      refine .inl ⟨w, e, S, _, _, re, k, h1, fun w1 H1 v s1 k1 r1 => ?_⟩
      obtain ⟨a, rfl, h⟩ := r1.ref_inv
      obtain ⟨vs, h3, h4⟩ := k1.lst h hx
      exact ⟨a, vs, rfl, .of h3, q w1 H1 _ s1 k1 (walkE_L (walk_S h))⟩
    · cases h2
  | _ => simp [srcOf] at hm

/-! ### dicts of the store, keys ints and texts -/
def dGet (kvs : List (D × D)) (k : D) : Option D := (kvs.find? fun p => decide (p.1 = k)).map (·.2)
def dPut (kvs : List (D × D)) (k v : D) : List (D × D) := if (kvs.any fun p => decide (p.1 = k)) = true then kvs.map (fun p => if p.1 = k then (p.1, v) else p) else kvs ++ [(k, v)]
theorem RKey.inj {d d' : D} {k k' : Key} (r : RKey d k) (r' : RKey d' k') : (d = d') ↔ (k = k') := by
  cases r <;> cases r' <;> simp
theorem RKey.kV {d : D} {k : Key} (r : RKey d k) {w : Wd} {H : Hp} {v : V} (q : Rp K w H d v) : v = L2.kV k := by
  cases r with
  | int i => rw [q.int_inv]; rfl
  | str x => rw [q.str_inv]; rfl
def keyOf : D → Option Key
  | .int i => some (.inl i)
  | .str x => some (.inr x)
  | _ => none
theorem keyOf_r {d : D} {k : Key} (h : keyOf d = some k) : RKey d k := by
  unfold keyOf at h
  split at h <;> cases h
  · exact .int _
  · exact .str _
section
variable {w : Wd} {H : Hp}
theorem RDk.get {d : D} {k : Key} (rk : RKey d k) : ∀ {ds : List (D × D)} {ks : List (Key × V)}, RDk K w H ds ks → (dGet ds d = none ∧ valV ks k = none) ∨ ∃ e v, dGet ds d = some e ∧ valV ks k = some v ∧ Rp K w H e v
  | _, _, .nil => .inl ⟨rfl, rfl⟩
  | _, _, .cons (d := d') (k := k') (e := e) (v := v) rk' r t => by
    by_cases h : d' = d
    · refine .inr ⟨e, v, ?_, valV_pos ((rk'.inj rk).mp h), r⟩
      simp [dGet, h]
    · have hk : ¬ k' = k := fun z => h ((rk'.inj rk).mpr z)
      have e1 : ∀ l : List (D × D), dGet ((d', e) :: l) d = dGet l d := fun l => by simp only [dGet, List.find?_cons, decide_eq_false h]
      rw [e1, valV_neg (p := (k', v)) hk]
      exact RDk.get rk t
theorem RDk.any {d : D} {k : Key} (rk : RKey d k) : ∀ {ds : List (D × D)} {ks : List (Key × V)}, RDk K w H ds ks → (ds.any fun p => decide (p.1 = d)) = ks.any fun p => decide (p.1 = k)
  | _, _, .nil => rfl
  | _, _, .cons rk' r t => by
    simp only [List.any_cons, RDk.any rk t]
    congr 1
    exact decide_eq_decide.mpr (rk'.inj rk)
theorem RDk.map {d e : D} {k : Key} {v : V} (rk : RKey d k) (re : Rp K w H e v) : ∀ {ds : List (D × D)} {ks : List (Key × V)}, RDk K w H ds ks → RDk K w H (ds.map fun p => if p.1 = d then (p.1, e) else p) (ks.map fun p => if p.1 = k then (p.1, v) else p)
  | _, _, .nil => .nil
  | _, _, .cons (d := d') (k := k') rk' r t => by
    simp only [List.map_cons]
    by_cases h : d' = d
    · rw [if_pos h, if_pos ((rk'.inj rk).mp h)]
      exact .cons rk' re (RDk.map rk re t)
    · rw [if_neg h, if_neg fun z => h ((rk'.inj rk).mpr z)]
      exact .cons rk' r (RDk.map rk re t)
theorem RDk.append : ∀ {ds es : List (D × D)} {ks ls : List (Key × V)}, RDk K w H ds ks → RDk K w H es ls → RDk K w H (ds ++ es) (ks ++ ls)
  | _, _, _, _, .nil, s => s
  | _, _, _, _, .cons k r t, s => .cons k r (RDk.append t s)
theorem RDk.put {d e : D} {k : Key} {v : V} (rk : RKey d k) (re : Rp K w H e v) {ds : List (D × D)} {ks : List (Key × V)} (r : RDk K w H ds ks) : RDk K w H (dPut ds d e) (putK ks k v) := by
  unfold dPut putK
  rw [r.any rk]
  split
  · exact r.map rk re
  · exact r.append (.cons rk re .nil)
theorem RDk.length : ∀ {ds : List (D × D)} {ks : List (Key × V)}, RDk K w H ds ks → ds.length = ks.length
  | _, _, .nil => rfl
  | _, _, .cons _ _ t => by simp [RDk.length t]
end
theorem Ok.dct {w : Wd} {S : Store} {H : Hp} (k : Ok K w S H) {p : Nat} {a : Addr} {kvs : List (D × D)} (h : w.rho[p]? = some a) (hs : S[p]? = some (.dct kvs)) : ∃ ks, H a = some (.dK ks) ∧ RDk K w H kvs ks := by
  obtain ⟨x, h1, h2⟩ := k.ob p a _ h hs
  cases h2 with
  | dK r => exact ⟨_, h1, r⟩
def mDict : ME := fun _ S => some (.ref S.length, S ++ [.dct []])
theorem rho_add {w : Wd} {S : Store} {H : Hp} (k : Ok K w S H) (p : Addr) : (w.add p).rho[S.length]? = some p := by
  show (w.rho ++ [p])[S.length]? = some p
  rw [← k.len, List.getElem?_append_right (Nat.le_refl _)]
  simp
theorem rho_mono {w w' : Wd} {H H' : Hp} (s : Stp w H w' H') {p : Nat} {a : Addr} (h : w.rho[p]? = some a) : w'.rho[p]? = some a := by
  obtain ⟨m, e⟩ := s.pre
  rw [e, List.getElem?_append_left (List.getElem?_eq_some_iff.mp h).1]; exact h
theorem ae_dict {pos : Pos} : AE X (.Dict [] [] pos) mDict := PE.imp pe_dnewK fun σ H Q ⟨w, e, S, d, S', re, k, hm, q⟩ => by
  cases hm
  intro p hp
  exact q _ _ _ (.add hp) (k.add hp (.dK .nil)) (.ref (rho_add k p))
/-- d[k] = v -/
def mSetK (m mo mi : ME) : MS := fun e S => (m e S).bind fun (v, S1) => (mo e S1).bind fun (o, S2) => (mi e S2).bind fun (i, S3) => match o, keyOf i with
  | .ref p, some _ => match S3[p]? with
    | some (.dct kvs) => if kvs.length < LIM then some (.nx e, S3.set p (.dct (dPut kvs i v))) else none
    | _ => none
  | _, _ => none
theorem as_setK {o i e : Expr} {m mo mi : ME} {pos pos' : Pos} {j : Nat} (hr : Room j X.A) (he : AE X e m) (ho : AE X o mo) (hi : AE X i mi) (hs : swapsWith e (some (.Subscript o i pos')) pos.line X.env = pure false := by rfl) :
    AS X (.Assign [.Subscript o i pos'] e pos) (mSetK m mo mi) := PS.imp (ps_dput (hu_of hr) ho hi he hs) fun D σ H ⟨w, e, S, fl, S', re, k, hm, q⟩ => by
  unfold mSetK at hm
  obtain ⟨⟨v, S1⟩, h1, hm⟩ := Option.bind_eq_some_iff.mp hm
  obtain ⟨⟨o1, S2⟩, h2, hm⟩ := Option.bind_eq_some_iff.mp hm
  obtain ⟨⟨i1, S3⟩, h3, hm⟩ := Option.bind_eq_some_iff.mp hm
  cases o1 with
  | ref p =>
    cases hk : keyOf i1 with
    | none => simp only [hk] at hm; cases hm
    | some kk =>
      simp only [hk] at hm
      split at hm
      · rename_i kvs hx
        split at hm
        · rename_i hz
          cases hm
          refine ⟨w, e, S, v, S1, re, k, h1, fun w1 H1 u s1 k1 r1 => ⟨w1, e, S1, _, S2, re.mono s1, k1, h2, fun w2 H2 u2 s2 k2 r2 => ⟨w2, e, S2, _, S3, (re.mono s1).mono s2, k2, h3, fun w3 H3 u3 s3 k3 r3 => ?_⟩⟩⟩
          obtain ⟨a, rfl, ha⟩ := (r2.mono s3).ref_inv
          obtain ⟨ks, h5, h6⟩ := k3.dct ha hx
          have rk := keyOf_r hk
          refine ⟨a, upd H3 a (.dK (putK ks kk u)), rfl, by rw [rk.kV r3]; exact DPut.k h5 (by rw [lim_eq, ← h6.length]; exact hz), ?_⟩
          have rv := ((r1.mono s2).mono s3)
          have st := Stp.put (H := H3) (o := .dK (putK ks kk u)) (List.mem_of_getElem? ha)
          exact q w3 _ (((s1.trans s2).trans s3).trans st) (k3.put ha (.dK (h6.put rk rv))) σ ((((re.mono s1).mono s2).mono s3).mono st)
        · cases hm
      · cases hm
  | _ => cases hm
/-- d.get(k, x) -/
def mGet2 (mo mi mx : ME) : ME := fun e S => (mo e S).bind fun (o, S1) => match o with
  | .ref p => match S1[p]? with
    | some (.dct _) => (mi e S1).bind fun (i, S2) => (mx e S2).bind fun (x, S3) => match S3[p]?, keyOf i with
      | some (.dct kvs), some _ => some ((dGet kvs i).getD x, S3)
      | _, _ => none
    | _ => none
  | _ => none
theorem ae_get2 {o i x : Expr} {mo mi mx : ME} {apos cpos : Pos} {j : Nat} (hr : Room j X.A) (ho : AE X o mo) (hi : AE X i mi) (hx : AE X x mx) (hbase : attributeBase o "get" X.env (eval o X.env) = eval o X.env := by rfl)
    (hfew : ((backTo cpos (starEach [i, x] X.env)).all (fun x => !x.1) && (backToKw cpos (keywordEach [] X.env)).all (fun x => x.1.isSome)
      && decide (([i, x] : List Expr).length + ([] : List Keyword).length + (if ([] : List Keyword).isEmpty then 0 else 1) < 30)) = true := by rfl)
    (hline : (apos.endLine == cpos.line) = true := by rfl) (ht : backTo cpos (starEach [i, x] X.env) = [(false, eval i X.env), (false, eval x X.env)] := by rfl) :
    AE X (.Call (.Attribute o "get" apos) [i, x] [] cpos) (mGet2 mo mi mx) := PE.imp (pe_dget2 (hu_of hr) ho hi hx ⟨hbase, hfew, hline, ht⟩) fun σ H Q ⟨w, e, S, d, S', re, k, hm, q⟩ => by
  unfold mGet2 at hm
  obtain ⟨⟨o1, S1⟩, h1, hm⟩ := Option.bind_eq_some_iff.mp hm
  simp only at hm
  split at hm
  · split at hm
    · rename_i kvs0 hx0
      obtain ⟨⟨i1, S2⟩, h2, hm⟩ := Option.bind_eq_some_iff.mp hm
      obtain ⟨⟨x1, S3⟩, h3, hm⟩ := Option.bind_eq_some_iff.mp hm
      simp only at hm
      split at hm
      · rename_i kvs kk hx hk
        cases hm
        refine ⟨w, e, S, _, S1, re, k, h1, fun w1 H1 u s1 k1 r1 => ?_⟩
        obtain ⟨a, rfl, ha⟩ := r1.ref_inv
        obtain ⟨ks0, h50, _⟩ := k1.dct ha hx0
        refine ⟨a, rfl, .inl ⟨ks0, .inl h50⟩, w1, e, S1, i1, S2, re.mono s1, k1, h2, fun w2 H2 u2 s2 k2 r2 => ⟨w2, e, S2, x1, _, (re.mono s1).mono s2, k2, h3, fun w3 H3 u3 s3 k3 r3 => ?_⟩⟩
        have ha3 := rho_mono s3 (rho_mono s2 ha)
        obtain ⟨ks, h5, h6⟩ := k3.dct ha3 hx
        have rk := keyOf_r hk
        refine ⟨valV ks kk, by rw [rk.kV (r2.mono s3)]; exact DGet.k h5, ?_⟩
        rcases h6.get rk with ⟨e1, e2⟩ | ⟨z, v, e1, e2, rz⟩
        · rw [e1] at q
          rw [e2]
          exact q w3 H3 _ ((s1.trans s2).trans s3) k3 r3
        · rw [e1] at q
          rw [e2]
          exact q w3 H3 _ ((s1.trans s2).trans s3) k3 rz
      · cases hm
    · cases hm
  · cases hm
/-- {k: v for ..}: a new dict of the store -/
def dcGo (get : Nat → Store → Option (Option D)) (bind : D → Ev → Option Ev) (tt : MT) (mk mv : ME) (e0 : Ev) : Nat → Nat → Store → List (D × D) → Option (List (D × D) × Store)
  | 0, i, S, acc => match get i S with
    | some none => some (acc, S)
    | _ => none
  | n + 1, i, S, acc => match get i S with
    | some none => some (acc, S)
    | some (some d) => (bind d e0).bind fun e1 => (tt e1 S).bind fun (b, S1) => if b then (mk e1 S1).bind fun (y, S2) => (mv e1 S2).bind fun (z, S3) => match keyOf y with
        | some _ => if acc.length < LIM then dcGo get bind tt mk mv e0 n (i + 1) S3 (dPut acc y z) else none
        | none => none
      else dcGo get bind tt mk mv e0 n (i + 1) S1 acc
    | none => none
def mDC (mi : MI) (t : Tg) (tt : MT) (mk mv : ME) (vs : List Nat) : ME := fun e S => (mi e S).bind fun (s, S1) => (dcGo s.get t.f tt mk mv (wipeE e vs) s.n 0 S1 []).bind fun (ys, S2) => some (.ref S2.length, S2 ++ [.dct ys])
theorem wipe_wipe (σ : L2.St) (l : List Nat) : L2.wipe (L2.wipe σ l) l = L2.wipe σ l := by
  apply List.ext_getElem?
  intro j
  by_cases hj : j ∈ l
  · by_cases hjl : j < σ.length
    · have a1 : ∀ τ : L2.St, τ.length = σ.length → (L2.wipe τ l)[j]? = some none := fun τ hτ => by
        cases hq : (L2.wipe τ l)[j]? with
        | none =>
          have := List.getElem?_eq_none_iff.mp hq
          rw [wipe_length, hτ] at this
          omega
        | some u =>
          cases u with
          | none => rfl
          | some u => exact absurd hj (wipe_some hq).2
      rw [a1 _ (wipe_length σ l), a1 σ rfl]
    · rw [List.getElem?_eq_none (by rw [wipe_length, wipe_length]; omega), List.getElem?_eq_none (by rw [wipe_length]; omega)]
  · rw [wipe_out hj]
theorem dc_imp {mi : MI} {t : Tg} {tt : MT} {mk mv : ME} {vs : List Nat} (hv : ∀ i ∈ t.slots, i ∈ vs) {σ : L2.St} {H : Hp} {Q : VK} (h : tD K (mDC mi t tt mk mv vs) σ H Q) : tDc (tI K mi) (t.g K) (tB K tt) (tD K mk) (tD K mv) vs σ H Q := by
  obtain ⟨w, e, S, ds, S', re, k, hm, q⟩ := h
  unfold mDC at hm
  obtain ⟨⟨src, S1⟩, h1, hm⟩ := Option.bind_eq_some_iff.mp hm
  obtain ⟨⟨ys, S2⟩, h2, hm⟩ := Option.bind_eq_some_iff.mp hm
  cases hm
  refine ⟨w, e, S, src, S1, re, k, h1, fun w1 H1 J s1 k1 W => fun L hL => ?_⟩
  refine ⟨fun i m H2 => ∃ w2 He S2' accd accv, H2 = upd He L (.dK accv) ∧ He L = none ∧ Stp w1 H1 w2 He ∧ Ok K w2 S2' He ∧ RDk K w2 He accd accv ∧ dcGo src.get t.f tt mk mv (wipeE e vs) m i S2' accd = some (ys, S2),
    ⟨src.n, w1, H1, S1, [], [], rfl, hL, .refl, k1, .nil, h2⟩, ?_⟩
  rintro i m _ ⟨w2, He, S2', accd, accv, rfl, hLe, s2, k2, racc, hm2⟩
  have k2h : Ok K (w2.hide L) S2' (upd He L (.dK accv)) := k2.hide hLe
  have s2h : Stp w1 H1 (w2.hide L) (upd He L (.dK accv)) := s2.trans (.hide hLe)
  obtain ⟨go, stop⟩ := W i _ _ S2' s2h.toW k2h
  have fin : some (accd, S2') = some (ys, S2) → Q (.ref L) (upd He L (.dK accv)) := fun z => by
    cases z
    exact q _ _ _ ((s1.trans s2).trans (.add hLe)) (k2.add hLe (.dK racc)) (.ref (rho_add k2 L))
  cases hget : src.get i S2' with
  | none => cases m <;> (simp only [dcGo, hget] at hm2; cases hm2)
  | some o =>
    cases o with
    | none =>
      refine .inl ⟨stop hget, fin ?_⟩
      cases m <;> (simp only [dcGo, hget] at hm2; exact hm2)
    | some d =>
      cases m with
      | zero => simp only [dcGo, hget] at hm2; cases hm2
      | succ m =>
        simp only [dcGo, hget] at hm2
        obtain ⟨e3, h3, hm2⟩ := Option.bind_eq_some_iff.mp hm2
        obtain ⟨⟨b, S4⟩, h4, hm2⟩ := Option.bind_eq_some_iff.mp hm2
        obtain ⟨g1, g2⟩ := go d hget
        refine .inr ⟨g1, fun H5 => ∃ w2 He S2' accd accv, H5 = upd He L (.dK accv) ∧ He L = none ∧ Stp w1 H1 w2 He ∧ Ok K w2 S2' He ∧ RDk K w2 He accd accv ∧ dcGo src.get t.f tt mk mv (wipeE e vs) m (i + 1) S2' accd = some (ys, S2),
          fun H5 h5 => ⟨m, Nat.lt_succ_self m, h5⟩, fun x H3 y => ?_⟩
        obtain ⟨st, k3, rx⟩ := g2 x H3 y
        have re3 : RpE K (w2.hide L) H3 (wipeE e vs) (L2.wipe σ vs) := ((re.mono s1).mono (s2h.trans st)).wipe vs
        refine t.ok k3 re3 rx h3 fun σ4 re4 hw => ?_
        refine ⟨by rw [hw vs hv, wipe_wipe], ⟨_, e3, S2', b, S4, re4, k3, h4, fun w5 H5 s5 k5 => ?_⟩⟩
        cases b with
        | true =>
          rw [if_pos rfl]
          rw [if_pos rfl] at hm2
          obtain ⟨⟨z, S6⟩, h6, hm2⟩ := Option.bind_eq_some_iff.mp hm2
          obtain ⟨⟨z2, S7⟩, h7, hm2⟩ := Option.bind_eq_some_iff.mp hm2
          simp only at hm2
          split at hm2
          · rename_i kk hk
            split at hm2
            · rename_i hz
              refine ⟨w5, e3, S4, z, S6, re4.mono s5, k5, h6, fun w6 H6 v6 s6 k6 r6 => ⟨w6, e3, S6, z2, S7, (re4.mono s5).mono s6, k6, h7, fun w7 H7 v7 s7 k7 r7 => ?_⟩⟩
              obtain ⟨u1, u2, u3, u4, u5⟩ := unhide k2 hLe (((st.trans s5).trans s6).trans s7) k7
              have rk := keyOf_r hk
              have racc7 := racc.mono u3
              refine ⟨accv, kk, rk.kV (r6.mono s7), by rw [u1, upd_same], by rw [lim_eq, ← racc.length]; exact hz, ?_⟩
              refine ⟨_, er L H7, S7, dPut accd z z2, putK accv kk v7, ?_, u2, s2.trans u3, u4, racc7.put rk (u5 _ _ r7), hm2⟩
              conv => lhs; rw [u1]
              rw [upd_upd]
            · cases hm2
          · cases hm2
        | false =>
          rw [if_neg Bool.false_ne_true]
          rw [if_neg Bool.false_ne_true] at hm2
          obtain ⟨u1, u2, u3, u4, u5⟩ := unhide k2 hLe (st.trans s5) k5
          exact ⟨_, er L H5, S4, accd, accv, u1, u2, s2.trans u3, u4, racc.mono u3, hm2⟩
theorem ae_dc {kx vx tg iter : Expr} {ifs : List Expr} {scope : Scope} {pos : Pos} {mi : MI} {t : Tg} {tt : MT} {mk mv : ME} (own : List (Str × Nat)) (hc : X.calm = true) (hN : X.N.Nodup) (hi : AI X tg iter mi) (ok : BlkOk X.N X.env.scope scope own)
    (hg : ∀ (s : Shared) (H : Hp) (C : Addr) (cl : List (Str × Addr)) (fp : List Addr), AG (X.blk s H scope (compEnvC scope cl C X.env) fp) tg t) (ht : ∀ (s : Shared) (H : Hp) (C : Addr) (cl : List (Str × Addr)) (fp : List Addr), ATs (X.blk s H scope (compEnvC scope cl C X.env) fp) ifs tt)
    (hk : ∀ (s : Shared) (H : Hp) (C : Addr) (cl : List (Str × Addr)) (fp : List Addr), AE (X.blk s H scope (compEnvC scope cl C X.env) fp) kx mk)
    (he : ∀ (s : Shared) (H : Hp) (C : Addr) (cl : List (Str × Addr)) (fp : List Addr), AE (X.blk s H scope (compEnvC scope cl C X.env) fp) vx mv) (hs : ∀ x, foldedSetIterable iter X.env x = pure x := by intro _; rfl) (hv : ∀ i ∈ t.slots, i ∈ own.map (·.2) := by decide) :
    AE X (.DictComp kx vx [⟨tg, iter, ifs, 0⟩] scope pos) (mDC mi t tt mk mv (own.map (·.2))) := PE.imp (pe_dc hc hN hi ok hg ht hk he hs) fun _ _ _ => dc_imp hv

/-! ### sorted of data -/
def dle (a b : D) : Bool := PySem.W.dataLe false D.py a b
def sortableB (xs : List D) : Bool := (xs.all fun
  | .tup (_ :: _) => true
  | _ => false) || xs.all fun
  | .tup _ => false
  | .non => false
  | .ref _ => false
  | .fr _ => false
  | .rng _ _ => false
  | _ => true
def rSortedDD (K : PySem.W.Frag) : List V → Hp → VK → Prop := fun vs H Q => ∃ (a : Addr) (bs : List (V × D)), vs = [.ref a] ∧ SqL K H a (bs.map (·.1)) ∧ DpAll K H (bs.map (·.1)) (D.pyL (bs.map (·.2))) ∧ PySem.W.AllAlike (D.pyL (bs.map (·.2))) ∧ PySem.W.Sortable (D.pyL (bs.map (·.2))) ∧ PyData.depthAll (D.pyL (bs.map (·.2))) ≤ 60 ∧
  ∀ p, H p = none → Q (.ref p) (upd H p (.lst ((bs.mergeSort (PySem.W.dataLe false fun b => D.py b.2)).map (·.1))))
theorem each_of {H : Hp} {s : Shared} {pins : List (Addr × Obj)} {σ : L2.St} (I : Inv X pins σ H s) : ∀ {bs : List (V × D)} {its : List Value}, Vals (bs.map (·.1)) its → DpAll X.K H (bs.map (·.1)) (D.pyL (bs.map (·.2))) →
    PySem.W.EachIs (fun v (b : V × D) => RelV b.1 v) its bs ∧ PySem.W.EachIs (fun v (b : V × D) => ∃ as, Reads s.heap v (D.py b.2) as) its bs
  | [], _, r, _ => by cases r; exact ⟨.nil, .nil⟩
  | b :: bs, _, r, d => by
    simp only [List.map_cons, D.pyL] at r d
    cases r with
    | cons r rt =>
      cases d with
      | cons d dt =>
        obtain ⟨h1, h2⟩ := each_of I rt dt
        exact ⟨.cons r h1, .cons (Dp.reads I _ _ _ d r) h2⟩
theorem each_vals : ∀ {out : List Value} {bs : List (V × D)}, PySem.W.EachIs (fun v (b : V × D) => RelV b.1 v) out bs → Vals (bs.map (·.1)) out
  | _, _, .nil => .nil
  | _, _, .cons h t => .cons h (each_vals t)
theorem depth_mem : ∀ {ds : List PyData} {d : PyData}, d ∈ ds → d.depth ≤ PyData.depthAll ds
  | e :: es, d, h => by
    simp only [PyData.depthAll]
    rcases List.mem_cons.mp h with rfl | h
    · omega
    · have := depth_mem h; omega
theorem cr_sortedDD (hu : X.A.units + 64 < cLine) : CallR X (.builtin "sorted") (rSortedDD X.K) := by
  intro pins s σ H vs us Q I r h
  obtain ⟨a, bs, rfl, hs, hd, hal, hk, hz, q⟩ := h
  rw [Vals.ref1 r]
  obtain ⟨its, rv, hl, hlen⟩ := I.list hs
  obtain ⟨e1, e2⟩ := each_of I rv hd
  have hpy : D.pyL (bs.map (·.2)) = bs.map fun b => D.py b.2 := by rw [D.pyL_map, List.map_map]; rfl
  rw [hpy] at hal hk hz
  refine PySem.W.sorted_data (enc := fun b => D.py b.2) hl.isList e1 e2 hal hk (by simpa using hlen) (fun b hb => by
    have := depth_mem (List.mem_map.mpr ⟨b, hb, rfl⟩ : D.py b.2 ∈ bs.map fun b => D.py b.2)
    omega) fun out ho he => ?_
  obtain ⟨ep, he'⟩ := PyProof.Rows.sortedAll_at s.heap its out.toArray
  have ev := each_vals he
  have hlen2 : ((bs.mergeSort (PySem.W.dataLe false fun b => D.py b.2)).map (·.1)).length ≤ sizeLine := by
    rw [List.length_map, List.length_mergeSort]; simpa using hlen
  exact ⟨.ref _, upd H (s.heap.objs.size + 1) (.lst ((bs.mergeSort (PySem.W.dataLe false fun b => D.py b.2)).map (·.1))), I.laid (t' := s.toks) (fun _ _ => PyProof.Rows.sortedAll_old) (Nat.le_succ _) ⟨hlen2, out, ep, by simpa using ev, he'⟩, rfl, q _ (I.hok.fresh (Nat.le_succ _))⟩
def mSorted (m : ME) : ML := fun e S => (m e S).bind fun (d, S1) => (lstOf d S1).bind fun xs => if D.fitL 31 xs ∧ alikeB xs ∧ sortableB xs then some (xs.mergeSort dle, S1) else none
theorem RpL.zip {w : Wd} {H : Hp} : ∀ {ds : List D} {vs : List V}, RpL K w H ds vs → ∃ bs : List (V × D), bs.map (·.1) = vs ∧ bs.map (·.2) = ds ∧ ∀ b ∈ bs, Rp K w H b.2 b.1
  | _, _, .nil => ⟨[], rfl, rfl, by simp⟩
  | _, _, .cons (d := d) (v := v) r t => by
    obtain ⟨bs, h1, h2, h3⟩ := RpL.zip t
    exact ⟨(v, d) :: bs, by simp [h1], by simp [h2], fun b hb => by
      rcases List.mem_cons.mp hb with rfl | hb
      · exact r
      · exact h3 b hb⟩
theorem RpL.unzip {w : Wd} {H : Hp} : ∀ {bs : List (V × D)}, (∀ b ∈ bs, Rp K w H b.2 b.1) → RpL K w H (bs.map (·.2)) (bs.map (·.1))
  | [], _ => .nil
  | b :: bs, h => .cons (h b (by simp)) (RpL.unzip fun c hc => h c (by simp [hc]))
theorem sortable_of {xs : List D} (hf : D.fitL 31 xs = true) (h : sortableB xs = true) : PySem.W.Sortable (D.pyL xs) := by
  unfold sortableB at h
  rw [D.pyL_map]
  rcases Bool.or_eq_true _ _ |>.mp h with h | h
  · refine .inl fun d hd => ?_
    obtain ⟨x, hx, rfl⟩ := List.mem_map.mp hd
    have := List.all_eq_true.mp h x hx
    split at this
    · simp only [D.py, D.pyL]; exact ⟨_, _, rfl⟩
    · cases this
  · refine .inr fun d hd => ?_
    obtain ⟨x, hx, rfl⟩ := List.mem_map.mp hd
    have := List.all_eq_true.mp h x hx
    cases x <;> simp_all [D.py]
theorem af_sorted {x : Expr} {m : ME} {p pos : Pos} {j : Nat} (hr : Room j X.A) (hm : X.mg "sorted" = none) (ha : AE X x m) (hg : Gl X "sorted" := by rfl)
    (he : starEach [x] X.env = (false, eval x X.env) :: starEach [] X.env := by rfl) (hpl : (backTo pos (starEach [] X.env)).any (·.1) = false := by rfl) : AF X (.Call (.Name "sorted" p) [x] [] pos) (mSorted m) :=
  PE.imp (pe_callB (cr_sortedDD hr.units) hg hm (by decide +kernel) (pa_cons ha pa_nil he) (by decide) (by decide) he hpl) fun σ H Q ⟨w, e, S, d, S', re, k, hm, q⟩ => by
    unfold mSorted at hm
    obtain ⟨⟨d1, S1⟩, h1, hm⟩ := Option.bind_eq_some_iff.mp hm
    obtain ⟨xs, h2, hm⟩ := Option.bind_eq_some_iff.mp hm
    split at hm
    · rename_i hz
      cases hm
      refine ⟨w, e, S, d1, _, re, k, h1, fun w1 H1 v s1 k1 r1 => ?_⟩
      obtain ⟨a, us, rfl, h3, h4⟩ := lst_rd k1 r1 h2
      obtain ⟨bs, rfl, rfl, hb⟩ := h4.zip
      have hdp := RpL.dp _ 31 _ h4 hz.1
      refine ⟨a, bs, rfl, h3, hdp, (alikeB_of hz.1 hz.2.1).2, sortable_of hz.1 hz.2.2, by have := (D.fitL_lay _ 31 hz.1).2; omega, fun p hp => ?_⟩
      refine q w1 H1 p _ s1 k1 hp ?_
      have e : ((bs.mergeSort (PySem.W.dataLe false fun b => D.py b.2)).map (·.2)) = (bs.map (·.2)).mergeSort dle := List.map_mergeSort (fun a _ b _ => rfl)
      rw [← e]
      exact RpL.unzip fun b hbm => hb b ((List.mergeSort_perm _ _).mem_iff.mp hbm)
    · cases hm
/-! ### a, b = x, y -/
def mPar (i j : Nat) (ms : ML) : MS := fun e S => (ms e S).bind fun (ds, S1) => match ds with
  | [d1, d2] => some (.nx ((e.set i (some d1)).set j (some d2)), S1)
  | _ => none
theorem as_par {i j : Nat} {x y : Str} {a b : Expr} {ms : ML} {px py pt pos : Pos} {kt k2 pt2} (hc : X.calm = true) (hN : X.N.Nodup) (ha : AA X [a, b] ms) (hi : X.N[i]? = some x := by rfl) (hj : X.N[j]? = some y := by rfl) (hij : i ≠ j := by decide)
    (hx : X.env.scope.names.lookup x = some .local := by rfl) (hy : X.env.scope.names.lookup y = some .local := by rfl)
    (hw : swappedStores [.Tuple [.Name x px, .Name y py] kt pt] (.Tuple [a, b] k2 pt2) X.env = pure (some [x, y]) := by rfl)
    (hs : swapsWithSole [.Tuple [.Name x px, .Name y py] kt pt] (.Tuple [a, b] k2 pt2) pos.line X.env = pure false := by rfl) :
    AS X (.Assign [.Tuple [.Name x px, .Name y py] kt pt] (.Tuple [a, b] k2 pt2) pos) (mPar i j ms) := PS.imp (ps_par hc hN hi hj hij hx hy ha hw hs) fun D σ H ⟨w, e, S, f, S', re, k, hm, q⟩ => by
  unfold mPar at hm
  obtain ⟨⟨ds, S1⟩, h1, hm⟩ := Option.bind_eq_some_iff.mp hm
  simp only at hm
  split at hm
  · cases hm
    refine ⟨w, e, S, _, _, re, k, h1, fun w1 H1 vs s1 k1 r1 => ?_⟩
    obtain ⟨v1, v2, rfl, r2, r3⟩ := r1.two_inv
    exact ⟨v1, v2, rfl, q w1 H1 s1 k1 _ (((re.mono s1).set r2).set r3)⟩
  · cases hm
/-! ### two clauses -/
def lc2Go (get : Nat → Store → Option (Option D)) (bind : D → Ev → Option Ev) (tt : MT) (inner : Ev → Store → Option (List D × Store)) (e0 : Ev) : Nat → Nat → Store → Option (List D × Store)
  | 0, i, S => match get i S with
    | some none => some ([], S)
    | _ => none
  | n + 1, i, S => match get i S with
    | some none => some ([], S)
    | some (some d) => (bind d e0).bind fun e1 => (tt e1 S).bind fun (b, S1) => if b then (inner e1 S1).bind fun (ys, S2) => (lc2Go get bind tt inner e0 n (i + 1) S2).bind fun (zs, S3) => some (ys ++ zs, S3) else lc2Go get bind tt inner e0 n (i + 1) S1
    | none => none
def mIn (mi : MI) (t : Tg) (tt : MT) (elt : ME) (vs : List Nat) : Ev → Store → Option (List D × Store) := fun e S => (mi e S).bind fun (s, S1) => lcGo s.get t.f tt elt (wipeE e vs) s.n 0 S1
def mLC2 (mi : MI) (t : Tg) (tt : MT) (mi1 : MI) (t1 : Tg) (tt1 : MT) (elt : ME) (vs vs1 : List Nat) : ML := fun e S => (mi e S).bind fun (s, S1) => (lc2Go s.get t.f tt (mIn mi1 t1 tt1 elt vs1) (wipeE e vs) s.n 0 S1).bind fun (ys, S2) => if ys.length ≤ LIM then some (ys, S2) else none
theorem lc2_imp {mi mi1 : MI} {t t1 : Tg} {tt tt1 : MT} {elt : ME} {vs vs1 : List Nat} (hv : ∀ i ∈ t.slots, i ∈ vs) (hv1 : ∀ i ∈ t1.slots, i ∈ vs1) {σ : L2.St} {H : Hp} {Q : VK} (h : tF K (mLC2 mi t tt mi1 t1 tt1 elt vs vs1) σ H Q) :
    tLc2 (tI K mi) (t.g K) (tB K tt) (tI K mi1) (t1.g K) (tB K tt1) (tD K elt) vs vs1 σ H Q := by
  obtain ⟨w, e, S, ds, S', re, k, hm, q⟩ := h
  unfold mLC2 at hm
  obtain ⟨⟨src, S1⟩, h1, hm⟩ := Option.bind_eq_some_iff.mp hm
  obtain ⟨⟨ys, S2⟩, h2, hm⟩ := Option.bind_eq_some_iff.mp hm
  simp only at h2 hm
  split at hm
  rotate_left
  · cases hm
  rename_i hz
  cases hm
  refine ⟨w, e, S, src, S1, re, k, h1, fun w1 H1 J s1 k1 W => fun L hL => ?_⟩
  refine ⟨fun i m H2 => ∃ w2 He S2 accd accv rest, H2 = upd He L (.lst accv) ∧ He L = none ∧ Stp w1 H1 w2 He ∧ Ok K w2 S2 He ∧ RpL K w2 He accd accv ∧ lc2Go src.get t.f tt (mIn mi1 t1 tt1 elt vs1) (wipeE e vs) m i S2 = some (rest, S') ∧ ds = accd ++ rest,
    ⟨src.n, w1, H1, S1, [], [], ds, rfl, hL, .refl, k1, .nil, h2, rfl⟩, ?_⟩
  rintro i m _ ⟨w2, He, S2, accd, accv, rest, rfl, hLe, s2, k2, racc, hm2, hds⟩
  have k2h : Ok K (w2.hide L) S2 (upd He L (.lst accv)) := k2.hide hLe
  have s2h : Stp w1 H1 (w2.hide L) (upd He L (.lst accv)) := s2.trans (.hide hLe)
  obtain ⟨go, stop⟩ := W i _ _ S2 s2h.toW k2h
  have fin : some (([] : List DV.D), S2) = some (rest, S') → Q (.ref L) (upd He L (.lst accv)) := fun z => by
    cases z
    rw [List.append_nil] at hds
    subst hds
    exact q w2 He L accv (s1.trans s2) k2 hLe racc
  cases hget : src.get i S2 with
  | none => cases m <;> (simp only [lc2Go, hget] at hm2; cases hm2)
  | some o =>
    cases o with
    | none =>
      refine .inl ⟨stop hget, fin ?_⟩
      cases m <;> (simp only [lc2Go, hget] at hm2; exact hm2)
    | some d =>
      cases m with
      | zero => simp only [lc2Go, hget] at hm2; cases hm2
      | succ m =>
        simp only [lc2Go, hget] at hm2
        obtain ⟨e3, h3, hm2⟩ := Option.bind_eq_some_iff.mp hm2
        obtain ⟨⟨b, S4⟩, h4, hm2⟩ := Option.bind_eq_some_iff.mp hm2
        obtain ⟨g1, g2⟩ := go d hget
        refine .inr ⟨g1, fun H5 => ∃ w2 He S2 accd accv rest, H5 = upd He L (.lst accv) ∧ He L = none ∧ Stp w1 H1 w2 He ∧ Ok K w2 S2 He ∧ RpL K w2 He accd accv ∧ lc2Go src.get t.f tt (mIn mi1 t1 tt1 elt vs1) (wipeE e vs) m (i + 1) S2 = some (rest, S') ∧ ds = accd ++ rest,
          fun H5 h5 => ⟨m, Nat.lt_succ_self m, h5⟩, fun x H3 y => ?_⟩
        obtain ⟨st, k3, rx⟩ := g2 x H3 y
        have re3 : RpE K (w2.hide L) H3 (wipeE e vs) (L2.wipe σ vs) := ((re.mono s1).mono (s2h.trans st)).wipe vs
        refine t.ok k3 re3 rx h3 fun σ4 re4 hw => ?_
        refine ⟨by rw [hw vs hv, wipe_wipe], ⟨_, e3, S2, b, S4, re4, k3, h4, fun w5 H5 s5 k5 => ?_⟩⟩
        cases b with
        | true =>
          rw [if_pos rfl]
          rw [if_pos rfl] at hm2
          obtain ⟨⟨zs, S6⟩, h6, hm2⟩ := Option.bind_eq_some_iff.mp hm2
          obtain ⟨⟨us, S7⟩, h7, hm2⟩ := Option.bind_eq_some_iff.mp hm2
          cases hm2
          unfold mIn at h6
          obtain ⟨⟨src1, S8⟩, h8, h6⟩ := Option.bind_eq_some_iff.mp h6
          simp only at h6
          refine ⟨w5, e3, S4, src1, S8, re4.mono s5, k5, h8, fun w6 H6 J1 s6 k6 W1 => ?_⟩
          have s26 : Stp (w2.hide L) (upd He L (.lst accv)) w6 H6 := (st.trans s5).trans s6
          obtain ⟨u1, u2, u3, u4, u5⟩ := unhide k2 hLe s26 k6
          have bL : w6.B L := (s26.B L _ upd_same (k2.new hLe).1).mpr (.inr rfl)
          have b2 : ∀ a, w2.B a → w6.B a := fun a z => by
            obtain ⟨ob, eo⟩ := k2.bt a z
            have na : a ∉ w2.rho := fun q => k2.nb a q z
            exact (s26.B a ob (by rw [upd_ne (ne_of_none eo hLe)]; exact eo) na).mpr (.inl z)
          -- what stays true through the inner loop
          refine ⟨fun j kk H9 => ∃ wk Hk Sk accdk accvk restk, H9 = upd Hk L (.lst accvk) ∧ Hk L = none ∧ wk.B = w2.B ∧ Stp w1 H1 wk Hk ∧ Wst w6 H6 (wk.hide L) H9 ∧ Ok K wk Sk Hk ∧ RpL K wk Hk accdk accvk ∧ lcGo src1.get t1.f tt1 elt (wipeE e3 vs1) kk j Sk = some (restk, S6) ∧ accd ++ zs = accdk ++ restk,
            ⟨src1.n, ⟨w6.rho, w2.B⟩, er L H6, S8, accd, accv, zs, u1, u2, rfl, s2.trans u3, ?_, u4, racc.mono u3, h6, rfl⟩, ?_⟩
          · refine ⟨⟨[], by simp [Wd.hide]⟩, fun b o h n z => ?_, fun b o h n _ => ⟨h, n⟩⟩
            rcases z with z | z
            · exact b2 b z
            · rw [z]; exact bL
          rintro j kk _ ⟨wk, Hk, Sk, accdk, accvk, restk, rfl, hLk, hBk, sk1, sk6, kk1, rk, hk2, hdk⟩
          have kkh : Ok K (wk.hide L) Sk (upd Hk L (.lst accvk)) := kk1.hide hLk
          obtain ⟨go1, stop1⟩ := W1 j _ _ Sk sk6 kkh
          cases hget1 : src1.get j Sk with
          | none => cases kk <;> (simp only [lcGo, hget1] at hk2; cases hk2)
          | some o1 =>
            cases o1 with
            | none =>
              refine .inl ⟨stop1 hget1, ?_⟩
              have hend : some (([] : List DV.D), Sk) = some (restk, S6) := by cases kk <;> (simp only [lcGo, hget1] at hk2; exact hk2)
              cases hend
              rw [List.append_nil] at hdk
              exact ⟨wk, Hk, _, accdk, accvk, us, rfl, hLk, sk1, kk1, rk, h7, by rw [hds, ← hdk, List.append_assoc]⟩
            | some d1 =>
              cases kk with
              | zero => simp only [lcGo, hget1] at hk2; cases hk2
              | succ kk =>
                simp only [lcGo, hget1] at hk2
                obtain ⟨e5, h5, hk2⟩ := Option.bind_eq_some_iff.mp hk2
                obtain ⟨⟨c, S9⟩, h9, hk2⟩ := Option.bind_eq_some_iff.mp hk2
                obtain ⟨f1, f2⟩ := go1 d1 hget1
                refine .inr ⟨f1, fun H9 => ∃ wk Hk Sk accdk accvk restk, H9 = upd Hk L (.lst accvk) ∧ Hk L = none ∧ wk.B = w2.B ∧ Stp w1 H1 wk Hk ∧ Wst w6 H6 (wk.hide L) H9 ∧ Ok K wk Sk Hk ∧ RpL K wk Hk accdk accvk ∧ lcGo src1.get t1.f tt1 elt (wipeE e3 vs1) kk (j + 1) Sk = some (restk, S6) ∧ accd ++ zs = accdk ++ restk,
                  fun H9 h9 => ⟨kk, Nat.lt_succ_self kk, h9⟩, fun x1 H10 y1 => ?_⟩
                obtain ⟨st1, k10, rx1⟩ := f2 x1 H10 y1
                have re6 : RpE K w6 H6 e3 σ4 := (re4.mono s5).mono s6
                have re10 : RpE K (wk.hide L) H10 e3 σ4 := ⟨re6.1, fun i d hd => by
                  obtain ⟨v, hv, rv⟩ := re6.2 i d hd
                  exact ⟨v, hv, (rv.monoW sk6).mono st1⟩⟩
                refine t1.ok k10 (re10.wipe vs1) rx1 h5 fun σ11 re11 hw1 => ?_
                refine ⟨by rw [hw1 vs1 hv1, wipe_wipe], ⟨_, e5, Sk, c, S9, re11, k10, h9, fun w12 H12 s12 k12 => ?_⟩⟩
                have next : ∀ (w14 : Wd) (H14 : Hp) (S14 : Store) (accd' : List DV.D) (accv' : List V) (rest' : List DV.D), Stp (wk.hide L) (upd Hk L (.lst accvk)) w14 H14 → Ok K w14 S14 H14 → (∀ wz Hz, wz = (⟨w14.rho, wk.B⟩ : Wd) → Hz = er L H14 → RpL K wz Hz accd' accv') →
                    lcGo src1.get t1.f tt1 elt (wipeE e3 vs1) kk (j + 1) S14 = some (rest', S6) → accd ++ zs = accd' ++ rest' → ∃ wk Hk Sk accdk accvk restk, upd H14 L (.lst accv') = upd Hk L (.lst accvk) ∧ Hk L = none ∧ wk.B = w2.B ∧ Stp w1 H1 wk Hk ∧ Wst w6 H6 (wk.hide L) (upd H14 L (.lst accv')) ∧ Ok K wk Sk Hk ∧ RpL K wk Hk accdk accvk ∧ lcGo src1.get t1.f tt1 elt (wipeE e3 vs1) kk (j + 1) Sk = some (restk, S6) ∧ accd ++ zs = accdk ++ restk := by
                  intro w14 H14 S14 accd' accv' rest' s14 k14 racc' hl14 hd14
                  obtain ⟨v1, v2, v3, v4, v5⟩ := unhide kk1 hLk s14 k14
                  have bL14 : w14.B L := (s14.B L _ upd_same (kk1.new hLk).1).mpr (.inr rfl)
                  refine ⟨⟨w14.rho, wk.B⟩, er L H14, S14, accd', accv', rest', ?_, v2, hBk, sk1.trans v3, ?_, v4, racc' _ _ rfl rfl, hl14, hd14⟩
                  · conv => lhs; rw [v1]
                    rw [upd_upd]
                  · refine sk6.trans (s14.toW.trans ⟨⟨[], by simp [Wd.hide]⟩, fun b o h n z => ?_, fun b o h n nb => ⟨?_, n⟩⟩)
                    · rcases z with z | z
                      · obtain ⟨ob, eo⟩ := kk1.bt b z
                        have na : b ∉ wk.rho := fun q => kk1.nb b q z
                        exact (s14.B b ob (by rw [upd_ne (ne_of_none eo hLk)]; exact eo) na).mpr (.inl z)
                      · rw [z]; exact bL14
                    · rw [upd_ne (fun z => nb (by rw [z]; exact bL14))]; exact h
                cases c with
                | true =>
                  refine (show (if (true : Bool) = true then _ else _) from iteT ?_)
                  rw [if_pos rfl] at hk2
                  obtain ⟨⟨z, S13⟩, h13, hk2⟩ := Option.bind_eq_some_iff.mp hk2
                  obtain ⟨⟨zs2, S15⟩, h15, hk2⟩ := Option.bind_eq_some_iff.mp hk2
                  cases hk2
                  refine ⟨w12, e5, S9, z, S13, re11.mono s12, k12, h13, fun w14 H14 v14 s14 k14 r14 => ?_⟩
                  have sk14 : Stp (wk.hide L) (upd Hk L (.lst accvk)) w14 H14 := (st1.trans s12).trans s14
                  obtain ⟨v1, v2, v3, v4, v5⟩ := unhide kk1 hLk sk14 k14
                  have lz : accdk.length < LIM := by
                    have := hz
                    rw [hds, ← List.append_assoc, hdk] at this
                    simp at this
                    omega
                  refine ⟨accvk, by rw [v1, upd_same], by rw [lim_eq, ← rk.length]; exact lz, ?_⟩
                  refine next w14 H14 S13 (accdk ++ [z]) (accvk ++ [v14]) zs2 sk14 k14 (fun wz Hz e1 e2 => ?_) h15 (by rw [hdk]; simp)
                  subst e1 e2
                  exact (rk.mono v3).append (.cons (v5 _ _ r14) .nil)
                | false =>
                  refine (show (if (false : Bool) = true then _ else _) from iteF ?_)
                  rw [if_neg Bool.false_ne_true] at hk2
                  have sk12 : Stp (wk.hide L) (upd Hk L (.lst accvk)) w12 H12 := st1.trans s12
                  obtain ⟨v1, v2, v3, v4, v5⟩ := unhide kk1 hLk sk12 k12
                  have := next w12 H12 S9 accdk accvk restk sk12 k12 (fun wz Hz e1 e2 => by subst e1 e2; exact rk.mono v3) hk2 hdk
                  have e12 : upd H12 L (.lst accvk) = H12 := by
                    conv => lhs; rw [v1]
                    rw [upd_upd]; exact v1.symm
                  rw [e12] at this
                  exact this
        | false =>
          rw [if_neg Bool.false_ne_true]
          rw [if_neg Bool.false_ne_true] at hm2
          obtain ⟨u1, u2, u3, u4, u5⟩ := unhide k2 hLe (st.trans s5) k5
          exact ⟨_, er L H5, S4, accd, accv, rest, u1, u2, s2.trans u3, u4, racc.mono u3, hm2, hds⟩
theorem af_lc2 {elt tg iter tg1 iter1 : Expr} {ifs ifs1 : List Expr} {scope : Scope} {pos : Pos} {mi mi1 : MI} {t t1 : Tg} {tt tt1 : MT} {me : ME} (own : List (Str × Nat)) (vs1 : List Nat) (hc : X.calm = true) (hN : X.N.Nodup) (hi : AI X tg iter mi) (ok : BlkOk X.N X.env.scope scope own)
    (hg : ∀ (s : Shared) (H : Hp) (C : Addr) (cl : List (Str × Addr)) (fp : List Addr), AG (X.blk s H scope (compEnvC scope cl C X.env) fp) tg t) (ht : ∀ (s : Shared) (H : Hp) (C : Addr) (cl : List (Str × Addr)) (fp : List Addr), ATs (X.blk s H scope (compEnvC scope cl C X.env) fp) ifs tt)
    (hi1 : ∀ (s : Shared) (H : Hp) (C : Addr) (cl : List (Str × Addr)) (fp : List Addr), AI (X.blk s H scope (compEnvC scope cl C X.env) fp) tg1 iter1 mi1)
    (hg1 : ∀ (s : Shared) (H : Hp) (C : Addr) (cl : List (Str × Addr)) (fp : List Addr), AG (X.blk s H scope (compEnvC scope cl C X.env) fp) tg1 t1) (ht1 : ∀ (s : Shared) (H : Hp) (C : Addr) (cl : List (Str × Addr)) (fp : List Addr), ATs (X.blk s H scope (compEnvC scope cl C X.env) fp) ifs1 tt1)
    (he : ∀ (s : Shared) (H : Hp) (C : Addr) (cl : List (Str × Addr)) (fp : List Addr), AE (X.blk s H scope (compEnvC scope cl C X.env) fp) elt me) (hs : ∀ x, foldedSetIterable iter X.env x = pure x := by intro _; rfl) (hs1 : ∀ env x, foldedSetIterable iter1 env x = pure x := by intro _ _; rfl)
    (hv : ∀ i ∈ t.slots, i ∈ own.map (·.2) := by decide) (hv1 : ∀ i ∈ t1.slots, i ∈ vs1 := by decide) (hv2 : ∀ i ∈ vs1, i ∈ own.map (·.2) := by decide) :
    AF X (.ListComp elt [⟨tg, iter, ifs, 0⟩, ⟨tg1, iter1, ifs1, 0⟩] scope pos) (mLC2 mi t tt mi1 t1 tt1 me (own.map (·.2)) vs1) := PE.imp (pe_lc2 hc hN hi ok hv2 hg ht hi1 hg1 ht1 he hs hs1) fun _ _ _ => lc2_imp hv hv1
theorem as_setLc2 {i : Nat} {y : Str} {py : Pos} {elt tg iter tg1 iter1 : Expr} {ifs ifs1 : List Expr} {scope : Scope} {pos spos : Pos} {mi mi1 : MI} {t t1 : Tg} {tt tt1 : MT} {me : ME} (own : List (Str × Nat)) (vs1 : List Nat) (hc : X.calm = true) (hN : X.N.Nodup) (hi : AI X tg iter mi) (ok : BlkOk X.N X.env.scope scope own)
    (hg : ∀ (s : Shared) (H : Hp) (C : Addr) (cl : List (Str × Addr)) (fp : List Addr), AG (X.blk s H scope (compEnvC scope cl C X.env) fp) tg t) (ht : ∀ (s : Shared) (H : Hp) (C : Addr) (cl : List (Str × Addr)) (fp : List Addr), ATs (X.blk s H scope (compEnvC scope cl C X.env) fp) ifs tt)
    (hi1 : ∀ (s : Shared) (H : Hp) (C : Addr) (cl : List (Str × Addr)) (fp : List Addr), AI (X.blk s H scope (compEnvC scope cl C X.env) fp) tg1 iter1 mi1)
    (hg1 : ∀ (s : Shared) (H : Hp) (C : Addr) (cl : List (Str × Addr)) (fp : List Addr), AG (X.blk s H scope (compEnvC scope cl C X.env) fp) tg1 t1) (ht1 : ∀ (s : Shared) (H : Hp) (C : Addr) (cl : List (Str × Addr)) (fp : List Addr), ATs (X.blk s H scope (compEnvC scope cl C X.env) fp) ifs1 tt1)
    (he : ∀ (s : Shared) (H : Hp) (C : Addr) (cl : List (Str × Addr)) (fp : List Addr), AE (X.blk s H scope (compEnvC scope cl C X.env) fp) elt me) (hy : X.N[i]? = some y := by rfl) (hyl : X.env.scope.names.lookup y = some .local := by rfl)
    (hsw : swapsWith (.ListComp elt [⟨tg, iter, ifs, 0⟩, ⟨tg1, iter1, ifs1, 0⟩] scope pos) (some (.Name y py)) spos.line X.env = pure true := by exact sw_true rfl rfl rfl (by decide +kernel)) (hs : ∀ x, foldedSetIterable iter X.env x = pure x := by intro _; rfl) (hs1 : ∀ env x, foldedSetIterable iter1 env x = pure x := by intro _ _; rfl)
    (hv : ∀ i ∈ t.slots, i ∈ own.map (·.2) := by decide) (hv1 : ∀ i ∈ t1.slots, i ∈ vs1 := by decide) (hv2 : ∀ i ∈ vs1, i ∈ own.map (·.2) := by decide) (sto : Bool) :
    AS X (.Assign [.Name y py] (.ListComp elt [⟨tg, iter, ifs, 0⟩, ⟨tg1, iter1, ifs1, 0⟩] scope pos) spos) (mAsg ((if sto then mSto else mVal) (mLC2 mi t tt mi1 t1 tt1 me (own.map (·.2)) vs1)) (.nm i)) := PS.imp (ps_setLc2 hc hN hy hyl hsw hi ok hv2 hg ht hi1 hg1 ht1 he hs hs1) fun D σ H h => by
  obtain ⟨w, e, S, f, S', re, k, hm, q⟩ := h
  unfold mAsg at hm
  obtain ⟨⟨d, S1⟩, h1, hm⟩ := Option.bind_eq_some_iff.mp hm
  obtain ⟨e1, h2, hm⟩ := Option.bind_eq_some_iff.mp hm
  cases hm
  have fin : ∀ w' H' v, Stp w H w' H' → Ok X.K w' S' H' → Rp X.K w' H' d v → gName i v σ H' D.nx := fun w' H' v s' k' r' => by
    cases h2
    exact q w' H' s' k' _ ((re.mono s').set r')
  cases sto with
  | true =>
    rw [if_pos rfl] at h1
    unfold mSto at h1
    obtain ⟨⟨ds, S2⟩, h3, h1⟩ := Option.bind_eq_some_iff.mp h1
    cases h1
    exact lc2_imp hv hv1 ⟨w, e, S, ds, S2, re, k, h3, fun w' H' p vs s' k' hp r => Post.addL (fun w2 H2 v s2 k2 r2 => fin w2 H2 v (s'.trans s2) k2 r2) k' hp r⟩
  | false =>
    rw [if_neg Bool.false_ne_true] at h1
    unfold mVal at h1
    obtain ⟨⟨ds, S2⟩, h3, h1⟩ := Option.bind_eq_some_iff.mp h1
    cases h1
    exact lc2_imp hv hv1 ⟨w, e, S, ds, _, re, k, h3, fun w' H' p vs s' k' hp r => Post.newL (fun w2 H2 v s2 k2 r2 => fin w2 H2 v (s'.trans s2) k2 r2) k' hp r⟩
end
end DV

/-! DVs: reckoning with the meanings, in plain Lean. -/
namespace DV
open PySem PySem.Spec PyProof.Rows L2
section
variable {e : Ev} {S : Store} {m m1 m2 ma mb mc : ME} {a b c : MT} {ms : ML} {s t : MS} {i : Nat} {d : D}
@[simp] theorem r_V : mV i e S = (match e[i]? with | some (some d) => some (d, S) | _ => none) := rfl
@[simp] theorem r_C : mC d e S = some (d, S) := rfl
@[simp] theorem r_Bin {f} : mBin f ma mb e S = (ma e S).bind fun x => (mb e x.2).bind fun y => f x.1 y.1 y.2 := rfl
@[simp] theorem r_TV : mTV m e S = (m e S).bind fun x => match x.1 with | .bl b => some (b, x.2) | _ => none := rfl
@[simp] theorem r_Tru : mTru m e S = (m e S).bind fun x => (truth' x.1 x.2).bind fun b => some (b, x.2) := rfl
@[simp] theorem r_And : mAnd a b e S = (a e S).bind fun x => if x.1 then b e x.2 else some (false, x.2) := rfl
@[simp] theorem r_Or : mOr a b e S = (a e S).bind fun x => if x.1 then some (true, x.2) else b e x.2 := rfl
@[simp] theorem r_Not : mNot a e S = (a e S).bind fun x => some (!x.1, x.2) := rfl
@[simp] theorem r_AndV : mAndV ma mb e S = (ma e S).bind fun x => (truth' x.1 x.2).bind fun c => if c then mb e x.2 else some (x.1, x.2) := rfl
@[simp] theorem r_OrV : mOrV ma mb e S = (ma e S).bind fun x => (truth' x.1 x.2).bind fun c => if c then some (x.1, x.2) else mb e x.2 := rfl
@[simp] theorem r_NotV : mNotV ma e S = (ma e S).bind fun x => (truth' x.1 x.2).bind fun c => some (.bl (!c), x.2) := rfl
@[simp] theorem r_If : mIf c ma mb e S = (c e S).bind fun x => if x.1 then ma e x.2 else mb e x.2 := rfl
@[simp] theorem r_Un {f} : mUn f m e S = (m e S).bind fun x => (f x.1).bind fun r => some (r, x.2) := rfl
@[simp] theorem r_neg {i : Int} : fNeg (.int i) = some (.int (-i)) := rfl
@[simp] theorem r_CB {f} : mCB f ms e S = (ms e S).bind fun x => f x.1 x.2 := rfl
@[simp] theorem r_Call {M} : mCall M ms e S = (ms e S).bind fun x => M x.1 x.2 := rfl
@[simp] theorem r_Nil : mNil e S = some ([], S) := rfl
@[simp] theorem r_Cons : mCons m ms e S = (m e S).bind fun x => (ms e x.2).bind fun y => some (x.1 :: y.1, y.2) := rfl
@[simp] theorem r_Tup : mTup ms e S = (ms e S).bind fun x => if x.1.length ≤ LIM then some (.tup x.1, x.2) else none := rfl
@[simp] theorem r_Lst : mLst ms e S = (ms e S).bind fun x => if x.1.length ≤ LIM then some (x.1, x.2) else none := rfl
@[simp] theorem r_Val {ml : ML} : mVal ml e S = (ml e S).bind fun x => some (.lst x.1, x.2) := rfl
@[simp] theorem r_Sto {ml : ML} : mSto ml e S = (ml e S).bind fun x => some (.ref x.2.length, x.2 ++ [.lst x.1]) := rfl
@[simp] theorem r_ListOf : mListOf m e S = (m e S).bind fun x => (seqOf x.1 x.2).bind fun xs => some (xs, x.2) := rfl
@[simp] theorem r_Sorted : mSorted m e S = (m e S).bind fun x => (lstOf x.1 x.2).bind fun xs => if D.fitL 31 xs ∧ alikeB xs ∧ sortableB xs then some (xs.mergeSort dle, x.2) else none := rfl
@[simp] theorem r_Skip : mSkip e S = some (.nx e, S) := rfl
@[simp] theorem r_Ret : mRet m e S = (m e S).bind fun x => some (.rt x.1, x.2) := rfl
@[simp] theorem r_Drop : mDrop m e S = (m e S).bind fun x => some (.nx e, x.2) := rfl
@[simp] theorem r_IfS : mIfS c s t e S = (c e S).bind fun x => if x.1 then s e x.2 else t e x.2 := rfl
@[simp] theorem r_Asg {g : Tg} : mAsg m g e S = (m e S).bind fun x => (g.f x.1 e).bind fun e1 => some (.nx e1, x.2) := rfl
@[simp] theorem r_nm : (Tg.nm i).f d e = some (e.set i (some d)) := rfl
@[simp] theorem r_tp {is : List Nat} {ds : List D} : (Tg.tp is).f (.tup ds) e = if ds.length = is.length then some (setAll is ds e) else none := rfl
@[simp] theorem r_Bk : mBk e S = some (.bk e, S) := rfl
@[simp] theorem r_Ct : mCt e S = some (.ct e, S) := rfl
@[simp] theorem r_It : mIt m e S = (m e S).bind fun x => (srcOf x.1 x.2).bind fun s => some (s, x.2) := rfl
@[simp] theorem r_Rg1 : mRg1 ms e S = (ms e S).bind fun x => match x.1 with | [.int b] => if I62 b then some (.seq (rngL 0 b), x.2) else none | _ => none := rfl
@[simp] theorem r_Rg2 : mRg2 ms e S = (ms e S).bind fun x => match x.1 with | [.int a, .int b] => if I62 a ∧ I62 b then some (.seq (rngL a b), x.2) else none | _ => none := rfl
@[simp] theorem r_O0 : mO0 e S = some (none, S) := rfl
@[simp] theorem r_O1 : mO1 m e S = (m e S).bind fun x => match x.1 with | .int i => some (some i, x.2) | _ => none := rfl
@[simp] theorem r_Sl {f} {ml mh : MO} : mSl f m ml mh e S = (m e S).bind fun x => (ml e x.2).bind fun y => (mh e y.2).bind fun z => (f x.1 y.1 z.1).bind fun r => some (r, z.2) := rfl
@[simp] theorem r_SlL {ml mh : MO} : mSlL m ml mh e S = (m e S).bind fun x => (ml e x.2).bind fun y => (mh e y.2).bind fun z => (lstOf x.1 z.2).bind fun xs => some (cutD xs y.1 z.1, z.2) := rfl
@[simp] theorem r_slT {xs : List D} {lo hi} : fSlT (.tup xs) lo hi = some (.tup (cutD xs lo hi)) := rfl
@[simp] theorem r_SetIx : mSetIx m m1 m2 e S = (m e S).bind fun x => (m1 e x.2).bind fun y => (m2 e y.2).bind fun z => match y.1, z.1 with
  | .ref p, .int k => match z.2[p]? with
    | some (.lst xs) => (ixN xs.length k).bind fun j => some (.nx e, z.2.set p (.lst (xs.set j x.1)))
    | _ => none
  | _, _ => none := rfl
@[simp] theorem r_Par {j : Nat} : mPar i j ms e S = (ms e S).bind fun x => match x.1 with | [d1, d2] => some (.nx ((e.set i (some d1)).set j (some d2)), x.2) | _ => none := rfl
@[simp] theorem r_add {i j : Int} : fAdd (.int i) (.int j) S = some (.int (i + j), S) := rfl
@[simp] theorem r_addT {x y : List D} : fAdd (.tup x) (.tup y) S = if x.length + y.length ≤ LIM then some (.tup (x ++ y), S) else none := rfl
@[simp] theorem r_addL {x y : List D} : fAdd (.lst x) (.lst y) S = if x.length + y.length ≤ LIM then some (.lst (x ++ y), S) else none := rfl
@[simp] theorem r_subI {i j : Int} : fSub (.int i) (.int j) S = some (.int (i - j), S) := rfl
@[simp] theorem r_mul {i j : Int} : fMul (.int i) (.int j) S = if I64 i ∨ I64 j then some (.int (i * j), S) else none := rfl
@[simp] theorem r_mod {i j : Int} : fMod (.int i) (.int j) S = if 0 < j then some (.int (i % j), S) else none := rfl
@[simp] theorem r_div {i j : Int} : fDiv (.int i) (.int j) S = if 0 < j ∧ j < 1073741824 then some (.int (i / j), S) else none := rfl
@[simp] theorem r_pow {i j : Int} : fPow (.int i) (.int j) S = if 0 ≤ j ∧ j ≤ 1000000 ∧ i.natAbs < 2 ^ 64 then some (.int (i ^ j.toNat), S) else none := rfl
@[simp] theorem r_cmp {pI pD} {i j : Int} : fCmp pI pD (.int i) (.int j) S = some (.bl (pI i j), S) := rfl
@[simp] theorem r_len {d : D} (h : ∀ y, d ≠ .str y) : fLen [d] S = (seqOf d S).bind fun xs => some (.int xs.length, S) := by
  cases d <;> first | rfl | exact absurd rfl (h _)
@[simp] theorem r_int {i : Int} : fInt [.int i] S = some (.int i, S) := rfl
@[simp] theorem r_intb {b : Bool} : fInt [.bl b] S = some (.int (if b then 1 else 0), S) := rfl
@[simp] theorem r_tuple : fTuple [d] S = (seqOf d S).bind fun xs => some (.tup xs, S) := rfl
@[simp] theorem r_sum : fSum [d] S = (lstOf d S).bind fun xs => (intsOf xs).bind fun ns => some (.int ns.sum, S) := rfl
@[simp] theorem r_any : fAny [d] S = (lstOf d S).bind fun xs => (blsOf xs).bind fun bs => some (.bl (bs.any id), S) := rfl
@[simp] theorem r_all : fAll [d] S = (lstOf d S).bind fun xs => (blsOf xs).bind fun bs => some (.bl (bs.all id), S) := rfl
@[simp] theorem r_min2 {i j : Int} : fMinA [.int i, .int j] S = some (.int (if j < i then j else i), S) := rfl
@[simp] theorem r_max2 {i j : Int} : fMaxA [.int i, .int j] S = some (.int (if j > i then j else i), S) := rfl
@[simp] theorem r_rng1 {b : Int} : fRng1 [.int b] S = some (.rng 0 b, S) := rfl
@[simp] theorem r_rng2 {a b : Int} : fRng2 [.int a, .int b] S = some (.rng a b, S) := rfl
@[simp] theorem seq_tup {xs : List D} : seqOf (.tup xs) S = some xs := rfl
@[simp] theorem seq_lst {xs : List D} : seqOf (.lst xs) S = some xs := rfl
@[simp] theorem seq_fr {xs : List D} : seqOf (.fr xs) S = some xs := rfl
@[simp] theorem seq_ref {p : Nat} : seqOf (.ref p) S = (match S[p]? with | some (.lst xs) => some xs | _ => none) := rfl
@[simp] theorem lst_lst {xs : List D} : lstOf (.lst xs) S = some xs := rfl
@[simp] theorem lst_fr {xs : List D} : lstOf (.fr xs) S = some xs := rfl
@[simp] theorem lst_ref {p : Nat} : lstOf (.ref p) S = (match S[p]? with | some (.lst xs) => some xs | _ => none) := rfl
@[simp] theorem ltr_lst {xs : List D} : lstTr (.lst xs) S = some xs := rfl
@[simp] theorem ltr_ref {p : Nat} : lstTr (.ref p) S = (match S[p]? with | some (.lst xs) => some xs | _ => none) := rfl
@[simp] theorem src_tup {xs : List D} : srcOf (.tup xs) S = some (.seq xs) := rfl
@[simp] theorem src_lst {xs : List D} : srcOf (.lst xs) S = some (.seq xs) := rfl
@[simp] theorem src_fr {xs : List D} : srcOf (.fr xs) S = some (.seq xs) := rfl
@[simp] theorem src_rng {lo hi : Int} : srcOf (.rng lo hi) S = if I62 lo ∧ I62 hi then some (.seq (rngL lo hi)) else none := rfl
@[simp] theorem ints_map (ns : List Int) : intsOf (ns.map D.int) = some ns := intsOf_map ns
@[simp] theorem bls_map (ns : List Bool) : blsOf (ns.map D.bl) = some ns := blsOf_map ns
@[simp] theorem ix_tup {xs : List D} {i : Int} : fIx (.tup xs) (.int i) S = (atI xs i).bind fun d => some (d, S) := rfl
@[simp] theorem ix_lst {xs : List D} {i : Int} : fIx (.lst xs) (.int i) S = (atI xs i).bind fun d => some (d, S) := rfl
@[simp] theorem ix_ref {p : Nat} {i : Int} : fIx (.ref p) (.int i) S = (seqOf (.ref p) S).bind fun xs => (atI xs i).bind fun d => some (d, S) := rfl
@[simp] theorem tr_bl {b : Bool} : truth' (.bl b) S = some b := rfl
@[simp] theorem tr_int {i : Int} : truth' (.int i) S = some (i != 0) := rfl
@[simp] theorem tr_tup {xs : List D} : truth' (.tup xs) S = some !xs.isEmpty := rfl
@[simp] theorem tr_lst {xs : List D} : truth' (.lst xs) S = some !xs.isEmpty := rfl
@[simp] theorem tr_ref {p : Nat} : truth' (.ref p) S = (match S[p]? with | some (.lst xs) => some !xs.isEmpty | _ => none) := rfl
@[simp] theorem tr_non : truth' .non S = some false := rfl
@[simp] theorem r_frz {n k : Nat} {i : Int} : frz n S (k + 1) (.int i) = some (.int i) := by simp only [frz]
@[simp] theorem r_frzb {n k : Nat} {i : Bool} : frz n S (k + 1) (.bl i) = some (.bl i) := by simp only [frz]
@[simp] theorem r_frzn {n k : Nat} : frz n S (k + 1) .non = some .non := by simp only [frz]
@[simp] theorem r_frzs {n k : Nat} {x : Str} : frz n S (k + 1) (.str x) = some (.str x) := by simp only [frz]
@[simp] theorem is_int {T : String} : mIsi T m e S = (m e S).bind fun x => (tyOf x.1 x.2).bind fun t => some (.bl (isT t T), x.2) := rfl
@[simp] theorem is_two {T1 T2 : String} : mIsi2 T1 T2 m e S = (m e S).bind fun x => (tyOf x.1 x.2).bind fun t => some (.bl (isT t T1 || isT t T2), x.2) := rfl
end
/-- content without places of the store: it stands as it is -/
theorem frz_fit : ∀ (k : Nat) (n : Nat) (S : Store) (d : D), D.fit k d = true → frz n S (k + 1) d = some d
  | k, n, S, .non, _ => by simp only [frz]
  | k, n, S, .bl _, _ => by simp only [frz]
  | k, n, S, .int _, _ => by simp only [frz]
  | k, n, S, .str _, _ => by simp only [frz]
  | 0, n, S, .tup xs, h => by simp [D.fit] at h
  | k + 1, n, S, .tup xs, h => by
    simp only [D.fit] at h
    have : frz.frzL n S (k + 1) xs = some xs := by
      induction xs with
      | nil => simp only [frz.frzL]
      | cons x xs ih =>
        simp only [D.fitL, Bool.and_eq_true] at h
        simp only [frz.frzL]
        rw [frz_fit k n S x h.1, ih h.2]; rfl
    simp only [frz, this, Option.map_some]
  | 0, n, S, .lst xs, h => by simp [D.fit] at h
  | k + 1, n, S, .lst xs, h => by
    simp only [D.fit] at h
    have : frz.frzL n S (k + 1) xs = some xs := by
      induction xs with
      | nil => simp only [frz.frzL]
      | cons x xs ih =>
        simp only [D.fitL, Bool.and_eq_true] at h
        simp only [frz.frzL]
        rw [frz_fit k n S x h.1, ih h.2]; rfl
    simp only [frz, this, Option.map_some]
  | k, n, S, .ref _, h => by simp [D.fit] at h
  | k, n, S, .fr _, h => by simp [D.fit] at h
  | k, n, S, .rng _ _, h => by simp [D.fit] at h
theorem fit_ints (k : Nat) (ns : List Int) : D.fitL k (ns.map D.int) = true := by
  induction ns with
  | nil => rfl
  | cons n r ih => simp [D.fitL, D.fit, ih]
theorem fin_pure {S : Store} {d : D} (h : D.fit 11 d = true) : fin .pure S d S = some (d, S) := by
  unfold fin
  simp [frz_fit 11 _ _ _ h]
theorem fin_pure_app {S T : Store} {d : D} (h : D.fit 11 d = true) : fin .pure S d (S ++ T) = some (d, S) := by
  unfold fin
  simp [frz_fit 11 _ _ _ h]
/-! ### loops by their lists -/
def lcL (bind : D → Ev → Option Ev) (tt : MT) (elt : ME) (e0 : Ev) : List D → Store → Option (List D × Store)
  | [], S => some ([], S)
  | d :: ds, S => (bind d e0).bind fun e1 => (tt e1 S).bind fun x => if x.1 then (elt e1 x.2).bind fun y => (lcL bind tt elt e0 ds y.2).bind fun z => some (y.1 :: z.1, z.2) else lcL bind tt elt e0 ds x.2
theorem lcGo_seq {bind : D → Ev → Option Ev} {tt : MT} {elt : ME} {e0 : Ev} {L : List D} : ∀ (n i : Nat) (S : Store), L.length = i + n → lcGo (Src.seq L).get bind tt elt e0 n i S = lcL bind tt elt e0 (L.drop i) S
  | 0, i, S, h => by
    have e : L.drop i = [] := List.drop_eq_nil_of_le (by omega)
    rw [e]
    have : (Src.seq L).get i S = some none := by show some L[i]? = some none; rw [List.getElem?_eq_none (by omega)]
    simp only [lcGo, this, lcL]
  | n + 1, i, S, h => by
    have hi : i < L.length := by omega
    have : (Src.seq L).get i S = some (some L[i]) := by show some L[i]? = _; rw [List.getElem?_eq_getElem hi]
    rw [List.drop_eq_getElem_cons hi]
    simp only [lcGo, this, lcL]
    congr 1; funext e1; congr 1; funext x
    obtain ⟨b, S1⟩ := x
    cases b with
    | true =>
      simp only [if_true]
      congr 1; funext y
      obtain ⟨y, S2⟩ := y
      simp only
      rw [lcGo_seq n (i + 1) S2 (by omega)]
    | false =>
      simp only [Bool.false_eq_true, if_false]
      rw [lcGo_seq n (i + 1) S1 (by omega)]
theorem lcGo_all {bind : D → Ev → Option Ev} {tt : MT} {elt : ME} {e0 : Ev} {L : List D} {S : Store} : lcGo (Src.seq L).get bind tt elt e0 (Src.seq L).n 0 S = lcL bind tt elt e0 L S := lcGo_seq L.length 0 S (by omega)
def forL (bind : D → Ev → Option Ev) (body : MS) : List D → Ev → Store → Option (Fl × Store)
  | [], e, S => some (.nx e, S)
  | d :: ds, e, S => (bind d e).bind fun e1 => (body e1 S).bind fun x => match x.1 with
      | .nx e2 => forL bind body ds e2 x.2
      | .ct e2 => forL bind body ds e2 x.2
      | .bk e2 => some (.nx e2, x.2)
      | .rt d => some (.rt d, x.2)
theorem forGo_seq {bind : D → Ev → Option Ev} {body : MS} {L : List D} : ∀ (n i : Nat) (e : Ev) (S : Store), L.length = i + n → forGo (Src.seq L).get bind body n i e S = forL bind body (L.drop i) e S
  | 0, i, e, S, h => by
    have e : L.drop i = [] := List.drop_eq_nil_of_le (by omega)
    rw [e]
    have : (Src.seq L).get i S = some none := by show some L[i]? = some none; rw [List.getElem?_eq_none (by omega)]
    simp only [forGo, this, forL]
  | n + 1, i, e, S, h => by
    have hi : i < L.length := by omega
    have : (Src.seq L).get i S = some (some L[i]) := by show some L[i]? = _; rw [List.getElem?_eq_getElem hi]
    rw [List.drop_eq_getElem_cons hi]
    simp only [forGo, this, forL]
    congr 1; funext e1; congr 1; funext x
    obtain ⟨f, S1⟩ := x
    cases f with
    | nx e2 => exact forGo_seq n (i + 1) e2 S1 (by omega)
    | ct e2 => exact forGo_seq n (i + 1) e2 S1 (by omega)
    | bk e2 => rfl
    | rt d => rfl
theorem forGo_all {bind : D → Ev → Option Ev} {body : MS} {L : List D} {e : Ev} {S : Store} : forGo (Src.seq L).get bind body (Src.seq L).n 0 e S = forL bind body L e S := forGo_seq L.length 0 e S (by omega)
theorem enum_seq (L : List D) : (Src.seq L).enum = Src.seq (L.mapIdx fun i d => .tup [.int (i : Nat), d]) := by
  unfold Src.enum Src.seq
  simp only [List.length_mapIdx, Src.mk.injEq, true_and]
  funext i S
  simp
section
variable {e : Ev} {S : Store} {m : ME} {mi : MI} {t : Tg} {tt : MT} {elt : ME} {vs : List Nat} {body : MS}
/-- a comprehension over what is known -/
theorem r_LC {L : List D} {S1 : Store} (h : mi e S = some (.seq L, S1)) : mLC mi t tt elt vs e S = (lcL t.f tt elt (wipeE e vs) L S1).bind fun x => if x.1.length ≤ LIM then some x else none := by
  unfold mLC
  rw [h]
  simp only [Option.bind_some, lcGo_all]
theorem r_For {L : List D} {S1 : Store} (h : mi e S = some (.seq L, S1)) : mFor mi t body e S = forL t.f body L e S1 := by
  unfold mFor
  rw [h]
  simp only [Option.bind_some, forGo_all]
@[simp] theorem r_Enum : mEnum m e S = (m e S).bind fun x => match x.1 with | .rng _ _ => none | _ => (srcOf x.1 x.2).bind fun s => some (s.enum, x.2) := rfl
end
/-- .. where nothing is changed -/
theorem lcL_pure {α : Type} {bind : D → Ev → Option Ev} {tt : MT} {elt : ME} {e0 : Ev} {S : Store} (enc : α → D) (p : α → Bool) (f : α → D) : ∀ (xs : List α), (∀ x ∈ xs, ∃ e1, bind (enc x) e0 = some e1 ∧ tt e1 S = some (p x, S) ∧ (p x = true → elt e1 S = some (f x, S))) →
    lcL bind tt elt e0 (xs.map enc) S = some ((xs.filter p).map f, S)
  | [], _ => rfl
  | x :: xs, h => by
    obtain ⟨e1, h1, h2, h3⟩ := h x (by simp)
    have ih := lcL_pure enc p f xs fun y hy => h y (by simp [hy])
    simp only [List.map_cons, lcL, h1, Option.bind_some, h2]
    by_cases hp : p x = true
    · rw [if_pos hp, h3 hp, Option.bind_some, ih, Option.bind_some, List.filter_cons_of_pos hp]; rfl
    · rw [if_neg hp, ih, List.filter_cons_of_neg hp]
theorem lcL_map {α : Type} {bind : D → Ev → Option Ev} {elt : ME} {e0 : Ev} {S : Store} (enc : α → D) (f : α → D) (xs : List α) (h : ∀ x ∈ xs, ∃ e1, bind (enc x) e0 = some e1 ∧ elt e1 S = some (f x, S)) :
    lcL bind mYes elt e0 (xs.map enc) S = some (xs.map f, S) := by
  rw [lcL_pure enc (fun _ => true) f xs fun x hx => by obtain ⟨e1, h1, h2⟩ := h x hx; exact ⟨e1, h1, rfl, fun _ => h2⟩]
  rw [List.filter_eq_self.2 (fun _ _ => rfl)]
/-- a loop that keeps an invariant and goes to its end -/
theorem forL_inv {bind : D → Ev → Option Ev} {body : MS} (I : List D → Ev → Store → Prop) : ∀ (L : List D) (e : Ev) (S : Store), I L e S →
    (∀ d L e S, I (d :: L) e S → ∃ e1 e2 S1, bind d e = some e1 ∧ (body e1 S = some (.nx e2, S1) ∨ body e1 S = some (.ct e2, S1)) ∧ I L e2 S1) → ∃ e' S', forL bind body L e S = some (.nx e', S') ∧ I [] e' S'
  | [], e, S, h, _ => ⟨e, S, rfl, h⟩
  | d :: L, e, S, h, st => by
    obtain ⟨e1, e2, S1, h1, h2, h3⟩ := st d L e S h
    obtain ⟨e', S', h4, h5⟩ := forL_inv I L e2 S1 h3 st
    refine ⟨e', S', ?_, h5⟩
    simp only [forL, h1, Option.bind_some]
    rcases h2 with h2 | h2 <;> simp only [h2, Option.bind_some, h4]
theorem rngL_eq (n : Nat) : rngL 0 (n : Int) = (List.range n).map fun (i : Nat) => D.int (i : Int) := by
  unfold rngL
  simp
theorem rngL_ab (a b : Int) : rngL a b = (List.range (b - a).toNat).map fun (i : Nat) => D.int (a + (i : Int)) := rfl
theorem atI_of {α : Type} {xs : List α} {i : Nat} (h : i < xs.length) : atI xs (i : Int) = some xs[i] := by rw [atI_nat (List.getElem?_eq_getElem h)]
theorem atI_map {α : Type} {xs : List α} {f : α → D} {i : Nat} (h : i < xs.length) : atI (xs.map f) (i : Int) = some (f xs[i]) := by rw [atI_nat (j := i) (v := f xs[i])]; simp [h]
/-! ### == of content -/
@[simp] theorem deq_int {i j : Int} : deq (.int i) (.int j) = (i == j) := by simp [deq, D.py, PyData.eqv]
@[simp] theorem deq_str {x y : Str} : deq (.str x) (.str y) = (x == y) := by simp [deq, D.py, PyData.eqv]
@[simp] theorem deq_tup {x y : List D} : deq (.tup x) (.tup y) = deqL x y := by simp [deq, deqL, D.py, PyData.eqv]
@[simp] theorem deq_lst {x y : List D} : deq (.lst x) (.lst y) = deqL x y := by simp [deq, deqL, D.py, PyData.eqv]
@[simp] theorem deqL_nil : deqL [] [] = true := by simp [deqL, D.pyL, PyData.eqvAll]
@[simp] theorem deqL_cons {a b : D} {x y : List D} : deqL (a :: x) (b :: y) = (deq a b && deqL x y) := by simp [deqL, deq, D.pyL, PyData.eqvAll]
@[simp] theorem deqL_nc {b : D} {y : List D} : deqL [] (b :: y) = false := by simp [deqL, D.pyL, PyData.eqvAll]
@[simp] theorem deqL_cn {b : D} {y : List D} : deqL (b :: y) [] = false := by simp [deqL, D.pyL, PyData.eqvAll]
theorem deqL_ints : ∀ x y : List Int, deqL (x.map D.int) (y.map D.int) = decide (x = y)
  | [], [] => by simp
  | [], _ :: _ => by simp
  | _ :: _, [] => by simp
  | a :: x, b :: y => by
    simp only [List.map_cons, deqL_cons, deq_int, deqL_ints x y, List.cons.injEq]
    by_cases h : a = b <;> simp [h]
@[simp] theorem fit_int {n : Nat} {i : Int} : D.fit n (.int i) = true := by cases n <;> rfl
@[simp] theorem fit_bl {n : Nat} {i : Bool} : D.fit n (.bl i) = true := by cases n <;> rfl
@[simp] theorem fit_non {n : Nat} : D.fit n .non = true := by cases n <;> rfl
@[simp] theorem fit_str {n : Nat} {x : Str} : D.fit n (.str x) = PyData.strOk x := by cases n <;> rfl
@[simp] theorem fit_tup {n : Nat} {x : List D} : D.fit (n + 1) (.tup x) = D.fitL n x := rfl
@[simp] theorem fit_lst {n : Nat} {x : List D} : D.fit (n + 1) (.lst x) = D.fitL n x := rfl
@[simp] theorem fitL_nil {n : Nat} : D.fitL n [] = true := rfl
@[simp] theorem fitL_cons {n : Nat} {d : D} {x : List D} : D.fitL n (d :: x) = (D.fit n d && D.fitL n x) := rfl
@[simp] theorem fitL_ints {n : Nat} {x : List Int} : D.fitL n (x.map D.int) = true := fit_ints n x
theorem fitL_map {α : Type} {n : Nat} {f : α → D} : ∀ {xs : List α}, (∀ x ∈ xs, D.fit n (f x) = true) → D.fitL n (xs.map f) = true
  | [], _ => rfl
  | x :: xs, h => by simp only [List.map_cons, fitL_cons, Bool.and_eq_true]; exact ⟨h x (by simp), fitL_map fun y hy => h y (by simp [hy])⟩
@[simp] theorem r_eq {a b : D} {S : Store} : fEq a b S = if D.fit 32 (readTop a S) ∧ D.fit 32 (readTop b S) then some (.bl (deq (readTop a S) (readTop b S)), S) else none := rfl
@[simp] theorem r_ne {a b : D} {S : Store} : fNe a b S = if D.fit 32 (readTop a S) ∧ D.fit 32 (readTop b S) then some (.bl (!deq (readTop a S) (readTop b S)), S) else none := rfl
@[simp] theorem rt_int {i : Int} {S : Store} : readTop (.int i) S = .int i := rfl
@[simp] theorem rt_str {i : Str} {S : Store} : readTop (.str i) S = .str i := rfl
@[simp] theorem rt_non {S : Store} : readTop .non S = .non := rfl
@[simp] theorem rt_bl {i : Bool} {S : Store} : readTop (.bl i) S = .bl i := rfl
@[simp] theorem rt_tup {i : List D} {S : Store} : readTop (.tup i) S = .tup i := rfl
@[simp] theorem rt_lst {i : List D} {S : Store} : readTop (.lst i) S = .lst i := rfl
end DV
namespace DV
open PySem PySem.Spec PyProof.Rows L2
/-- a def by its body -/
theorem fn_rt {nN np : Nat} {m : Mode} {body : MS} {ds : List D} {S S' : Store} {d : D} {r : Option (D × Store)} (hl : ds.length = np) (hb : body (ds.map some ++ List.replicate (nN - np) none) S = some (.rt d, S')) (hf : fin m S d S' = r) : fnM nN np m body ds S = r := by
  unfold fnM; rw [if_pos hl, hb]; exact hf
theorem fn_nx {nN np : Nat} {m : Mode} {body : MS} {ds : List D} {S S' : Store} {e : Ev} {r : Option (D × Store)} (hl : ds.length = np) (hb : body (ds.map some ++ List.replicate (nN - np) none) S = some (.nx e, S')) (hf : fin m S .non S' = r) : fnM nN np m body ds S = r := by
  unfold fnM; rw [if_pos hl, hb]; exact hf
theorem seq_nx {s t : MS} {e e1 : Ev} {S S1 : Store} {r : Option (Fl × Store)} (h : s e S = some (.nx e1, S1)) (h2 : t e1 S1 = r) : mSeq s t e S = r := by
  unfold mSeq; rw [h]; exact h2
theorem seq_rt {s t : MS} {e : Ev} {S S1 : Store} {d : D} (h : s e S = some (.rt d, S1)) : mSeq s t e S = some (.rt d, S1) := by
  unfold mSeq; rw [h]; rfl
theorem seq_bk {s t : MS} {e e1 : Ev} {S S1 : Store} (h : s e S = some (.bk e1, S1)) : mSeq s t e S = some (.bk e1, S1) := by
  unfold mSeq; rw [h]; rfl
theorem ret_of {m : ME} {e : Ev} {S S1 : Store} {d : D} (h : m e S = some (d, S1)) : mRet m e S = some (.rt d, S1) := by
  rw [r_Ret, h]; rfl
theorem asg_of {m : ME} {i : Nat} {e : Ev} {S S1 : Store} {d : D} (h : m e S = some (d, S1)) : mAsg m (.nm i) e S = some (.nx (e.set i (some d)), S1) := by
  rw [r_Asg, h]; rfl
theorem call_of {M : Fn} {ms : ML} {e : Ev} {S S1 : Store} {ds : List D} {r : Option (D × Store)} (h : ms e S = some (ds, S1)) (h2 : M ds S1 = r) : mCall M ms e S = r := by
  rw [r_Call, h]; exact h2
theorem val_lc {mi : MI} {t : Tg} {tt : MT} {elt : ME} {vs : List Nat} {e : Ev} {S S1 S2 : Store} {L ys : List D} (h : mi e S = some (.seq L, S1)) (h2 : lcL t.f tt elt (wipeE e vs) L S1 = some (ys, S2)) (h3 : ys.length ≤ LIM) : mVal (mLC mi t tt elt vs) e S = some (.lst ys, S2) := by
  rw [r_Val, r_LC h, h2]; simp only [Option.bind_some]; rw [if_pos h3]; rfl
theorem sto_lc {mi : MI} {t : Tg} {tt : MT} {elt : ME} {vs : List Nat} {e : Ev} {S S1 S2 : Store} {L ys : List D} (h : mi e S = some (.seq L, S1)) (h2 : lcL t.f tt elt (wipeE e vs) L S1 = some (ys, S2)) (h3 : ys.length ≤ LIM) : mSto (mLC mi t tt elt vs) e S = some (.ref S2.length, S2 ++ [.lst ys]) := by
  rw [r_Sto, r_LC h, h2]; simp only [Option.bind_some]; rw [if_pos h3]; rfl
theorem bin_of {f} {ma mb : ME} {e : Ev} {S S1 S2 : Store} {a b : D} {r : Option (D × Store)} (h1 : ma e S = some (a, S1)) (h2 : mb e S1 = some (b, S2)) (h3 : f a b S2 = r) : mBin f ma mb e S = r := by
  unfold mBin; rw [h1]; simp only [Option.bind_some]; rw [h2]; exact h3
theorem cb_of {f} {ms : ML} {e : Ev} {S S1 : Store} {ds : List D} {r : Option (D × Store)} (h1 : ms e S = some (ds, S1)) (h3 : f ds S1 = r) : mCB f ms e S = r := by
  rw [r_CB, h1]; exact h3
theorem cons_of {m : ME} {ms : ML} {e : Ev} {S S1 S2 : Store} {d : D} {ds : List D} (h1 : m e S = some (d, S1)) (h2 : ms e S1 = some (ds, S2)) : mCons m ms e S = some (d :: ds, S2) := by
  rw [r_Cons, h1]; simp only [Option.bind_some]; rw [h2]; rfl
theorem nil_of {e : Ev} {S : Store} : mNil e S = some ([], S) := rfl
theorem one_of {m : ME} {e : Ev} {S S1 : Store} {d : D} (h1 : m e S = some (d, S1)) : mCons m mNil e S = some ([d], S1) := cons_of h1 rfl
theorem tup_of {ms : ML} {e : Ev} {S S1 : Store} {ds : List D} (h1 : ms e S = some (ds, S1)) (h : ds.length ≤ LIM) : mTup ms e S = some (.tup ds, S1) := by
  rw [r_Tup, h1]; simp only [Option.bind_some]; rw [if_pos h]
theorem lst_of {ms : ML} {e : Ev} {S S1 : Store} {ds : List D} (h1 : ms e S = some (ds, S1)) (h : ds.length ≤ LIM) : mVal (mLst ms) e S = some (.lst ds, S1) := by
  rw [r_Val, r_Lst, h1]; simp only [Option.bind_some]; rw [if_pos h]; rfl
theorem sto_of {ms : ML} {e : Ev} {S S1 : Store} {ds : List D} (h1 : ms e S = some (ds, S1)) (h : ds.length ≤ LIM) : mSto (mLst ms) e S = some (.ref S1.length, S1 ++ [.lst ds]) := by
  rw [r_Sto, r_Lst, h1]; simp only [Option.bind_some]; rw [if_pos h]; rfl
theorem tv_of {m : ME} {e : Ev} {S S1 : Store} {b : Bool} (h1 : m e S = some (.bl b, S1)) : mTV m e S = some (b, S1) := by
  rw [r_TV, h1]; rfl
theorem tru_of {m : ME} {e : Ev} {S S1 : Store} {d : D} {b : Bool} (h1 : m e S = some (d, S1)) (h2 : truth' d S1 = some b) : mTru m e S = some (b, S1) := by
  rw [r_Tru, h1]; simp only [Option.bind_some]; rw [h2]; rfl
theorem not_of {m : MT} {e : Ev} {S S1 : Store} {b : Bool} (h1 : m e S = some (b, S1)) : mNot m e S = some (!b, S1) := by
  rw [r_Not, h1]; rfl
theorem ifs_of {c : MT} {s t : MS} {e : Ev} {S S1 : Store} {b : Bool} {r : Option (Fl × Store)} (h1 : c e S = some (b, S1)) (h2 : (if b then s e S1 else t e S1) = r) : mIfS c s t e S = r := by
  rw [r_IfS, h1]; exact h2
theorem if_of {c : MT} {s t : ME} {e : Ev} {S S1 : Store} {b : Bool} {r : Option (D × Store)} (h1 : c e S = some (b, S1)) (h2 : (if b then s e S1 else t e S1) = r) : mIf c s t e S = r := by
  rw [r_If, h1]; exact h2
theorem and_of {a b : MT} {e : Ev} {S S1 : Store} {x : Bool} {r : Option (Bool × Store)} (h1 : a e S = some (x, S1)) (h2 : (if x then b e S1 else some (false, S1)) = r) : mAnd a b e S = r := by
  rw [r_And, h1]; exact h2
theorem or_of {a b : MT} {e : Ev} {S S1 : Store} {x : Bool} {r : Option (Bool × Store)} (h1 : a e S = some (x, S1)) (h2 : (if x then some (true, S1) else b e S1) = r) : mOr a b e S = r := by
  rw [r_Or, h1]; exact h2
theorem i62 {n : Nat} (h : n ≤ 16777216) : I62 0 ∧ I62 (n : Int) := by
  have e : (2 : Int) ^ 62 = 4611686018427387904 := by decide
  simp only [I62, e]
  omega
theorem rg1_b {ms : ML} {e : Ev} {S S1 : Store} {b : Int} (h1 : ms e S = some ([.int b], S1)) (h : I62 b) : mRg1 ms e S = some (.seq (rngL 0 b), S1) := by
  unfold mRg1
  rw [h1]
  simp only [Option.bind_some]
  exact if_pos h
theorem rg1_of {ms : ML} {e : Ev} {S S1 : Store} {n : Nat} (h1 : ms e S = some ([.int (n : Int)], S1)) (h : n ≤ 16777216) : mRg1 ms e S = some (.seq ((List.range n).map fun (i : Nat) => D.int (i : Int)), S1) := by
  rw [rg1_b h1 (i62 h).2, rngL_eq]
theorem for_of {mi : MI} {t : Tg} {body : MS} {e : Ev} {S S1 : Store} {L : List D} {r : Option (Fl × Store)} (h : mi e S = some (.seq L, S1)) (h2 : forL t.f body L e S1 = r) : mFor mi t body e S = r := by
  rw [r_For h]; exact h2
theorem len_of {d : D} {S : Store} {xs : List D} (h : ∀ y, d ≠ .str y) (h2 : seqOf d S = some xs) : fLen [d] S = some (.int (xs.length : Nat), S) := by
  rw [r_len h, h2]; rfl
theorem drop_of {m : ME} {e : Ev} {S S1 : Store} {d : D} (h : m e S = some (d, S1)) : mDrop m e S = some (.nx e, S1) := by
  rw [r_Drop, h]; rfl
/-- a loop that looks for the first -/
theorem forL_find {α : Type} {bind : D → Ev → Option Ev} {body : MS} {S : Store} (I : Ev → Prop) (enc : α → D) (p : α → Bool) (r : α → D) : ∀ (xs : List α) (e : Ev), I e →
    (∀ x ∈ xs, ∀ e, I e → ∃ e1, bind (enc x) e = some e1 ∧ (if p x then body e1 S = some (.rt (r x), S) else ∃ e2, body e1 S = some (.nx e2, S) ∧ I e2)) →
    (∀ x, xs.find? p = some x → forL bind body (xs.map enc) e S = some (.rt (r x), S)) ∧ (xs.find? p = none → ∃ e', forL bind body (xs.map enc) e S = some (.nx e', S) ∧ I e')
  | [], e, h, _ => ⟨fun x hx => by simp at hx, fun _ => ⟨e, rfl, h⟩⟩
  | x :: xs, e, h, st => by
    obtain ⟨e1, h1, h2⟩ := st x (by simp) e h
    by_cases hp : p x = true
    · rw [if_pos hp] at h2
      rw [List.find?_cons_of_pos hp]
      refine ⟨fun y hy => ?_, fun hn => by simp at hn⟩
      cases hy
      simp only [List.map_cons, forL, h1, Option.bind_some, h2]
    · rw [if_neg hp] at h2
      obtain ⟨e2, h2, h3⟩ := h2
      rw [List.find?_cons_of_neg (by simpa using hp)]
      have ih := forL_find I enc p r xs e2 h3 fun y hy => st y (by simp [hy])
      simp only [List.map_cons, forL, h1, Option.bind_some, h2]
      exact ih
theorem src_b {lo hi : Int} {S : Store} (h1 : I62 lo) (h2 : I62 hi) : srcOf (.rng lo hi) S = some (.seq (rngL lo hi)) := if_pos ⟨h1, h2⟩
theorem it_of {m : ME} {e : Ev} {S S1 : Store} {d : D} {s : Src} (h : m e S = some (d, S1)) (h2 : srcOf d S1 = some s) : mIt m e S = some (s, S1) := by
  rw [r_It, h]; simp only [Option.bind_some]; rw [h2]; rfl
theorem it_rng {m : ME} {e : Ev} {S S1 : Store} {n : Nat} (h : m e S = some (.rng 0 (n : Int), S1)) (hz : n ≤ 16777216) : mIt m e S = some (.seq ((List.range n).map fun (i : Nat) => D.int (i : Int)), S1) := by
  rw [it_of h (src_b (i62 hz).1 (i62 hz).2), rngL_eq]
theorem isi_of {T : String} {m : ME} {e : Ev} {S S1 : Store} {d : D} {t : String} {b : Bool} (h : m e S = some (d, S1)) (h2 : tyOf d S1 = some t) (h3 : isT t T = b) : mIsi T m e S = some (.bl b, S1) := by
  rw [is_int, h]; simp only [Option.bind_some]; rw [h2, ← h3]; rfl
theorem isi2_of {T1 T2 : String} {m : ME} {e : Ev} {S S1 : Store} {d : D} {t : String} {b : Bool} (h : m e S = some (d, S1)) (h2 : tyOf d S1 = some t) (h3 : (isT t T1 || isT t T2) = b) : mIsi2 T1 T2 m e S = some (.bl b, S1) := by
  rw [is_two, h]; simp only [Option.bind_some]; rw [h2, ← h3]; rfl
theorem andv_of {a b : ME} {e : Ev} {S S1 : Store} {d : D} {x : Bool} {r : Option (D × Store)} (h1 : a e S = some (d, S1)) (h2 : truth' d S1 = some x) (h3 : (if x then b e S1 else some (d, S1)) = r) : mAndV a b e S = r := by
  rw [r_AndV, h1]; simp only [Option.bind_some]; rw [h2]; exact h3
theorem eq_of {a b : D} {S : Store} {r : Bool} (h1 : D.fit 32 (readTop a S) = true) (h2 : D.fit 32 (readTop b S) = true) (h3 : deq (readTop a S) (readTop b S) = r) : fEq a b S = some (.bl r, S) := by
  rw [r_eq, if_pos ⟨h1, h2⟩, h3]
theorem ne_of {a b : D} {S : Store} {r : Bool} (h1 : D.fit 32 (readTop a S) = true) (h2 : D.fit 32 (readTop b S) = true) (h3 : deq (readTop a S) (readTop b S) = r) : fNe a b S = some (.bl (!r), S) := by
  rw [r_ne, if_pos ⟨h1, h2⟩, h3]
theorem setix_of {m m1 m2 : ME} {e : Ev} {S S1 S2 S3 : Store} {d : D} {p j : Nat} {k : Int} {xs : List D} (h1 : m e S = some (d, S1)) (h2 : m1 e S1 = some (.ref p, S2)) (h3 : m2 e S2 = some (.int k, S3)) (h4 : S3[p]? = some (.lst xs)) (h5 : ixN xs.length k = some j) :
    mSetIx m m1 m2 e S = some (.nx e, S3.set p (.lst (xs.set j d))) := by
  rw [r_SetIx, h1]; simp only [Option.bind_some]; rw [h2]; simp only [Option.bind_some]; rw [h3]; simp only [Option.bind_some]; rw [h4]; simp only; rw [h5]; rfl
theorem mod_of {i j : Int} {S : Store} (h : 0 < j) : fMod (.int i) (.int j) S = some (.int (i % j), S) := if_pos h
theorem div_of {i j : Int} {S : Store} (h : 0 < j) (h2 : j < 1073741824) : fDiv (.int i) (.int j) S = some (.int (i / j), S) := if_pos ⟨h, h2⟩
theorem mul_of {i j : Int} {S : Store} (h : I64 i ∨ I64 j) : fMul (.int i) (.int j) S = some (.int (i * j), S) := if_pos h
theorem lt_of {i j : Int} {S : Store} {b : Bool} (h : decide (i < j) = b) : fLtD (.int i) (.int j) S = some (.bl b, S) := by subst h; rfl
theorem le_of {i j : Int} {S : Store} {b : Bool} (h : decide (i ≤ j) = b) : fLeD (.int i) (.int j) S = some (.bl b, S) := by subst h; rfl
theorem gt_of {i j : Int} {S : Store} {b : Bool} (h : decide (j < i) = b) : fGtD (.int i) (.int j) S = some (.bl b, S) := by subst h; rfl
theorem ge_of {i j : Int} {S : Store} {b : Bool} (h : decide (j ≤ i) = b) : fGeD (.int i) (.int j) S = some (.bl b, S) := by subst h; rfl
/-- over a list of the store, where nothing is changed -/
theorem lcGo_live {α : Type} {bind : D → Ev → Option Ev} {tt : MT} {elt : ME} {e0 : Ev} {S : Store} {q : Nat} (enc : α → D) (p : α → Bool) (f : α → D) (xs : List α) (hS : S[q]? = some (.lst (xs.map enc))) (h : ∀ x ∈ xs, ∃ e1, bind (enc x) e0 = some e1 ∧ tt e1 S = some (p x, S) ∧ (p x = true → elt e1 S = some (f x, S))) {N : Nat} :
    ∀ (n i : Nat), xs.length = i + n → lcGo (Src.live q N).get bind tt elt e0 n i S = some (((xs.drop i).filter p).map f, S)
  | 0, i, hl => by
    have e : xs.drop i = [] := List.drop_eq_nil_of_le (by omega)
    have hg : (Src.live q N).get i S = some none := by simp only [Src.live]; rw [hS]; simp only; rw [List.getElem?_eq_none (by rw [List.length_map]; omega)]
    rw [e]
    simp only [lcGo, hg]
    rfl
  | n + 1, i, hl => by
    have hi : i < xs.length := by omega
    have hg : (Src.live q N).get i S = some (some (enc xs[i])) := by simp only [Src.live]; rw [hS]; simp only; rw [List.getElem?_map, List.getElem?_eq_getElem hi]; rfl
    obtain ⟨e1, h1, h2, h3⟩ := h xs[i] (List.getElem_mem hi)
    have ih := lcGo_live enc p f xs hS h (N := N) n (i + 1) (by omega)
    rw [List.drop_eq_getElem_cons hi]
    simp only [lcGo, hg, h1, Option.bind_some, h2]
    by_cases hp : p xs[i] = true
    · rw [if_pos hp, h3 hp, Option.bind_some, ih, Option.bind_some, List.filter_cons_of_pos hp]; rfl
    · rw [if_neg hp, ih, List.filter_cons_of_neg hp]
theorem val_live {α : Type} {mi : MI} {t : Tg} {tt : MT} {elt : ME} {vs : List Nat} {e : Ev} {S S1 : Store} {q : Nat} (enc : α → D) (p : α → Bool) (f : α → D) (xs : List α) (hm : mi e S = some (.live q xs.length, S1)) (hS : S1[q]? = some (.lst (xs.map enc)))
    (h : ∀ x ∈ xs, ∃ e1, t.f (enc x) (wipeE e vs) = some e1 ∧ tt e1 S1 = some (p x, S1) ∧ (p x = true → elt e1 S1 = some (f x, S1))) (hz : xs.length ≤ LIM) : mVal (mLC mi t tt elt vs) e S = some (.lst ((xs.filter p).map f), S1) := by
  rw [r_Val]
  unfold mLC
  rw [hm]
  simp only [Option.bind_some]
  have := lcGo_live (bind := t.f) (tt := tt) (elt := elt) (e0 := wipeE e vs) enc p f xs hS h (N := xs.length) xs.length 0 (by omega)
  rw [List.drop_zero] at this
  show Option.bind (Option.bind (lcGo (Src.live q xs.length).get t.f tt elt (wipeE e vs) xs.length 0 S1) _) _ = _
  rw [this]
  simp only [Option.bind_some]
  rw [if_pos (by rw [List.length_map]; exact Nat.le_trans (List.length_filter_le _ _) hz)]; rfl
theorem src_live {q : Nat} {S : Store} {xs : List D} (h : S[q]? = some (.lst xs)) : srcOf (.ref q) S = some (.live q xs.length) := by
  simp only [srcOf]; rw [h]
/-- a loop over a range that keeps an invariant -/
theorem forL_range' {bind : D → Ev → Option Ev} {body : MS} (I : Nat → Ev → Store → Prop) (n : Nat) (st : ∀ i, i < n → ∀ e S, I i e S → ∃ e1 e2 S2, bind (.int (i : Nat)) e = some e1 ∧ body e1 S = some (.nx e2, S2) ∧ I (i + 1) e2 S2) :
    ∀ (k i : Nat) (e : Ev) (S : Store), i + k = n → I i e S → ∃ e' S', forL bind body ((List.range' i k).map fun (j : Nat) => D.int (j : Int)) e S = some (.nx e', S') ∧ I n e' S'
  | 0, i, e, S, hk, h => ⟨e, S, rfl, by have : i = n := by omega
                                        subst this; exact h⟩
  | k + 1, i, e, S, hk, h => by
    obtain ⟨e1, e2, S2, h1, h2, h3⟩ := st i (by omega) e S h
    obtain ⟨e', S', h4, h5⟩ := forL_range' I n st k (i + 1) e2 S2 (by omega) h3
    refine ⟨e', S', ?_, h5⟩
    rw [List.range'_succ]
    simp only [List.map_cons, forL, h1, Option.bind_some, h2, h4]
theorem forL_range {bind : D → Ev → Option Ev} {body : MS} (I : Nat → Ev → Store → Prop) (n : Nat) {e : Ev} {S : Store} (h : I 0 e S) (st : ∀ i, i < n → ∀ e S, I i e S → ∃ e1 e2 S2, bind (.int (i : Nat)) e = some e1 ∧ body e1 S = some (.nx e2, S2) ∧ I (i + 1) e2 S2) :
    ∃ e' S', forL bind body ((List.range n).map fun (j : Nat) => D.int (j : Int)) e S = some (.nx e', S') ∧ I n e' S' := by
  rw [List.range_eq_range']
  exact forL_range' I n st n 0 e S (by omega) h
theorem lc2Go_seq {α : Type} {bind : D → Ev → Option Ev} {tt : MT} {inner : Ev → Store → Option (List D × Store)} {e0 : Ev} {S : Store} (enc : α → D) (g : α → List D) (xs : List α) (h : ∀ x ∈ xs, ∃ e1, bind (enc x) e0 = some e1 ∧ tt e1 S = some (true, S) ∧ inner e1 S = some (g x, S)) :
    ∀ (n i : Nat), xs.length = i + n → lc2Go (Src.seq (xs.map enc)).get bind tt inner e0 n i S = some ((xs.drop i).flatMap g, S)
  | 0, i, hl => by
    have e : xs.drop i = [] := List.drop_eq_nil_of_le (by omega)
    have hg : (Src.seq (xs.map enc)).get i S = some none := by show some (xs.map enc)[i]? = some none; rw [List.getElem?_eq_none (by rw [List.length_map]; omega)]
    rw [e]
    simp only [lc2Go, hg]
    rfl
  | n + 1, i, hl => by
    have hi : i < xs.length := by omega
    have hg : (Src.seq (xs.map enc)).get i S = some (some (enc xs[i])) := by show some (xs.map enc)[i]? = _; rw [List.getElem?_map, List.getElem?_eq_getElem hi]; rfl
    obtain ⟨e1, h1, h2, h3⟩ := h xs[i] (List.getElem_mem hi)
    have ih := lc2Go_seq enc g xs h n (i + 1) (by omega)
    rw [List.drop_eq_getElem_cons hi, List.flatMap_cons]
    simp only [lc2Go, hg, h1, Option.bind_some, h2, if_true, h3]
    rw [ih]; rfl
theorem val_lc2 {α : Type} {mi mi1 : MI} {t t1 : Tg} {tt1 : MT} {elt : ME} {vs vs1 : List Nat} {e : Ev} {S S1 : Store} (enc : α → D) (g : α → List D) (xs : List α) (hm : mi e S = some (.seq (xs.map enc), S1))
    (h : ∀ x ∈ xs, ∃ e1, t.f (enc x) (wipeE e vs) = some e1 ∧ mIn mi1 t1 tt1 elt vs1 e1 S1 = some (g x, S1)) (hz : (xs.flatMap g).length ≤ LIM) : mVal (mLC2 mi t mYes mi1 t1 tt1 elt vs vs1) e S = some (.lst (xs.flatMap g), S1) := by
  rw [r_Val]
  unfold mLC2
  rw [hm]
  simp only [Option.bind_some]
  have := lc2Go_seq (bind := t.f) (tt := mYes) (inner := mIn mi1 t1 tt1 elt vs1) (e0 := wipeE e vs) (S := S1) enc g xs (fun x hx => by obtain ⟨e1, h1, h2⟩ := h x hx; exact ⟨e1, h1, rfl, h2⟩) xs.length 0 (by omega)
  rw [List.drop_zero] at this
  rw [show (Src.seq (xs.map enc)).n = xs.length from List.length_map _]
  rw [this]
  simp only [Option.bind_some]
  rw [if_pos hz]; rfl
theorem in_lc {mi : MI} {t : Tg} {tt : MT} {elt : ME} {vs : List Nat} {e : Ev} {S S1 S2 : Store} {L ys : List D} (h : mi e S = some (.seq L, S1)) (h2 : lcL t.f tt elt (wipeE e vs) L S1 = some (ys, S2)) : mIn mi t tt elt vs e S = some (ys, S2) := by
  unfold mIn
  rw [h]
  simp only [Option.bind_some]
  rw [lcGo_all, h2]
theorem forL_each {α : Type} {bind : D → Ev → Option Ev} {body : MS} (enc : α → D) (I : List α → Ev → Store → Prop) (all : List α) (st : ∀ done x rest, done ++ x :: rest = all → ∀ e S, I done e S → ∃ e1 e2 S2, bind (enc x) e = some e1 ∧ body e1 S = some (.nx e2, S2) ∧ I (done ++ [x]) e2 S2) :
    ∀ (xs done : List α) (e : Ev) (S : Store), done ++ xs = all → I done e S → ∃ e' S', forL bind body (xs.map enc) e S = some (.nx e', S') ∧ I all e' S'
  | [], done, e, S, ha, h => ⟨e, S, rfl, by rw [← ha, List.append_nil]; exact h⟩
  | x :: xs, done, e, S, ha, h => by
    obtain ⟨e1, e2, S2, h1, h2, h3⟩ := st done x xs ha e S h
    obtain ⟨e', S', h4, h5⟩ := forL_each enc I all st xs (done ++ [x]) e2 S2 (by rw [List.append_assoc]; exact ha) h3
    refine ⟨e', S', ?_, h5⟩
    simp only [List.map_cons, forL, h1, Option.bind_some, h2, h4]
/-- a comprehension whose elements change the store -/
theorem lcL_inv {bind : D → Ev → Option Ev} {elt : ME} {e0 : Ev} (Inv : Store → Prop) (P : D → Prop) : ∀ (L : List D) (S : Store), Inv S → (∀ d ∈ L, ∀ S, Inv S → ∃ e1 y S', bind d e0 = some e1 ∧ elt e1 S = some (y, S') ∧ P y ∧ Inv S') →
    ∃ ys S', lcL bind mYes elt e0 L S = some (ys, S') ∧ ys.length = L.length ∧ (∀ y ∈ ys, P y) ∧ Inv S'
  | [], S, h, _ => ⟨[], S, rfl, rfl, fun y hy => by simp at hy, h⟩
  | d :: L, S, h, st => by
    obtain ⟨e1, y, S1, h1, h2, h3, h4⟩ := st d (by simp) S h
    obtain ⟨ys, S2, g1, g2, g3, g4⟩ := lcL_inv Inv P L S1 h4 fun x hx => st x (by simp [hx])
    refine ⟨y :: ys, S2, ?_, by simp [g2], fun z hz => ?_, g4⟩
    · simp only [lcL, h1, Option.bind_some, mYes, if_true, h2]
      rw [g1]; rfl
    · rcases List.mem_cons.mp hz with rfl | hz
      · exact h3
      · exact g3 z hz
theorem exists_map {α β : Type} {f : α → β} {Q : α → Prop} : ∀ {ys : List β}, (∀ y ∈ ys, ∃ r, y = f r ∧ Q r) → ∃ rs : List α, ys = rs.map f ∧ ∀ r ∈ rs, Q r
  | [], _ => ⟨[], rfl, fun r hr => by simp at hr⟩
  | y :: ys, h => by
    obtain ⟨r, h1, h2⟩ := h y (by simp)
    obtain ⟨rs, h3, h4⟩ := exists_map fun z hz => h z (List.mem_cons_of_mem y hz)
    refine ⟨r :: rs, by rw [h1, h3]; rfl, fun z hz => ?_⟩
    rcases List.mem_cons.mp hz with rfl | hz
    · exact h2
    · exact h4 z hz
end DV

/-! ### the text, def by def: what it means over DV's values, and that the model does the same -/
namespace K60
open PySem PySem.Spec PyProof.Rows L2 DV
def topS (i : Nat) : Stmt := PySem.Challenge.pw_shareworth_k60_whole_goods.main.body.getD i (.Pass ⟨0, 0, 0, 0⟩)
abbrev s_own : Stmt := topS 1
abbrev N_own : List Str := ["worths", "sharing", "i", "j", "good", "k"]
theorem sc_own : FnScope N_own ["worths", "sharing", "i", "j"] (defScope s_own) := ⟨rfl, rfl, rfl, by decide +kernel, rfl, by decide +kernel, by decide +kernel⟩
abbrev s_bestOf : Stmt := topS 2
abbrev N_bestOf : List Str := ["worths", "sharing", "i", "j", "good", "k"]
theorem sc_bestOf : FnScope N_bestOf ["worths", "sharing", "i", "j"] (defScope s_bestOf) := ⟨rfl, rfl, rfl, by decide +kernel, rfl, by decide +kernel, by decide +kernel⟩
abbrev s_envies : Stmt := topS 3
abbrev N_envies : List Str := ["worths", "sharing", "i", "j"]
theorem sc_envies : FnScope N_envies ["worths", "sharing", "i", "j"] (defScope s_envies) := ⟨rfl, rfl, rfl, by decide +kernel, rfl, by decide +kernel, by decide +kernel⟩
abbrev s_envyPaper : Stmt := topS 4
abbrev N_envyPaper : List Str := ["worths", "sharing", "people", "i", "j"]
theorem sc_envyPaper : FnScope N_envyPaper ["worths", "sharing"] (defScope s_envyPaper) := ⟨rfl, rfl, rfl, by decide +kernel, rfl, by decide +kernel, by decide +kernel⟩
abbrev s_butOnePaper : Stmt := topS 5
abbrev N_butOnePaper : List Str := ["worths", "sharing", "people", "i", "j", "rest"]
theorem sc_butOnePaper : FnScope N_butOnePaper ["worths", "sharing"] (defScope s_butOnePaper) := ⟨rfl, rfl, rfl, by decide +kernel, rfl, by decide +kernel, by decide +kernel⟩
abbrev s_firstCircle : Stmt := topS 6
abbrev N_firstCircle : List Str := ["worths", "sharing", "people", "found", "left", "row", "j", "i"]
theorem sc_firstCircle : FnScope N_firstCircle ["worths", "sharing"] (defScope s_firstCircle) := ⟨rfl, rfl, rfl, by decide +kernel, rfl, by decide +kernel, by decide +kernel⟩
abbrev s_turned : Stmt := topS 7
abbrev N_turned : List Str := ["sharing", "circle", "givers", "one", "at"]
theorem sc_turned : FnScope N_turned ["sharing", "circle"] (defScope s_turned) := ⟨rfl, rfl, rfl, by decide +kernel, rfl, by decide +kernel, by decide +kernel⟩
abbrev s_shareOut : Stmt := topS 8
abbrev N_shareOut : List Str := ["worths", "sharing", "good", "circle", "people", "free", "j", "i"]
theorem sc_shareOut : FnScope N_shareOut ["worths"] (defScope s_shareOut) := ⟨rfl, rfl, rfl, by decide +kernel, rfl, by decide +kernel, by decide +kernel⟩
abbrev s_noEnvySharing : Stmt := topS 9
abbrev N_noEnvySharing : List Str := ["worths", "rows", "good", "row", "i"]
theorem sc_noEnvySharing : FnScope N_noEnvySharing ["worths"] (defScope s_noEnvySharing) := ⟨rfl, rfl, rfl, by decide +kernel, rfl, by decide +kernel, by decide +kernel⟩
abbrev s_LStart : Stmt := topS 11
abbrev N_LStart : List Str := ["script", "cell"]
theorem sc_LStart : FnScope N_LStart ["script"] (defScope s_LStart) := ⟨rfl, rfl, rfl, by decide +kernel, rfl, by decide +kernel, by decide +kernel⟩
abbrev s_LFill : Stmt := topS 12
abbrev N_LFill : List Str := ["c", "number"]
theorem sc_LFill : FnScope N_LFill ["c"] (defScope s_LFill) := ⟨rfl, rfl, rfl, by decide +kernel, rfl, by decide +kernel, by decide +kernel⟩
abbrev s_LTake : Stmt := topS 13
abbrev N_LTake : List Str := ["c", "many", "digit"]
theorem sc_LTake : FnScope N_LTake ["c", "many"] (defScope s_LTake) := ⟨rfl, rfl, rfl, by decide +kernel, rfl, by decide +kernel, by decide +kernel⟩
abbrev s_LAlike : Stmt := topS 15
abbrev N_LAlike : List Str := ["value", "due", "k"]
theorem sc_LAlike : FnScope N_LAlike ["value", "due"] (defScope s_LAlike) := ⟨rfl, rfl, rfl, by decide +kernel, rfl, by decide +kernel, by decide +kernel⟩
abbrev s_LOwn : Stmt := topS 16
abbrev N_LOwn : List Str := ["worths", "sharing", "i", "j", "g"]
theorem sc_LOwn : FnScope N_LOwn ["worths", "sharing", "i", "j"] (defScope s_LOwn) := ⟨rfl, rfl, rfl, by decide +kernel, rfl, by decide +kernel, by decide +kernel⟩
abbrev s_LBest : Stmt := topS 17
abbrev N_LBest : List Str := ["worths", "sharing", "i", "j", "g"]
theorem sc_LBest : FnScope N_LBest ["worths", "sharing", "i", "j"] (defScope s_LBest) := ⟨rfl, rfl, rfl, by decide +kernel, rfl, by decide +kernel, by decide +kernel⟩
abbrev s_LPaper : Stmt := topS 18
abbrev N_LPaper : List Str := ["worths", "sharing", "word", "but", "n", "i", "j", "left"]
theorem sc_LPaper : FnScope N_LPaper ["worths", "sharing", "word", "but"] (defScope s_LPaper) := ⟨rfl, rfl, rfl, by decide +kernel, rfl, by decide +kernel, by decide +kernel⟩
abbrev s_LTuples : Stmt := topS 19
abbrev N_LTuples : List Str := ["n", "turn", "found", "level", "more", "one", "i", "j"]
theorem sc_LTuples : FnScope N_LTuples ["n"] (defScope s_LTuples) := ⟨rfl, rfl, rfl, by decide +kernel, rfl, by decide +kernel, by decide +kernel⟩
abbrev s_LShared : Stmt := topS 20
abbrev N_LShared : List Str := ["worths", "n", "sharing", "g", "turn", "free", "envy", "i", "circles", "circle", "ahead", "k", "one", "j", "row"]
theorem sc_LShared : FnScope N_LShared ["worths"] (defScope s_LShared) := ⟨rfl, rfl, rfl, by decide +kernel, rfl, by decide +kernel, by decide +kernel⟩
abbrev s_LSharings : Stmt := topS 21
abbrev N_LSharings : List Str := ["n", "m", "found", "turn", "more", "one", "i"]
theorem sc_LSharings : FnScope N_LSharings ["n", "m"] (defScope s_LSharings) := ⟨rfl, rfl, rfl, by decide +kernel, rfl, by decide +kernel, by decide +kernel⟩
abbrev s_LAW : Stmt := topS 22
abbrev N_LAW : List Str := ["script", "c", "most", "worths", "turn", "told", "free", "n", "m", "sharing", "one", "i", "g"]
theorem sc_LAW : FnScope N_LAW ["script"] (defScope s_LAW) := ⟨rfl, rfl, rfl, by decide +kernel, rfl, by decide +kernel, by decide +kernel⟩
structure Txt (K : PySem.W.Frag) (mg : Str → Option Value) where
  f_own : Addr
  d_own : FuncData
  F_own : Fun K "own" "own" s_own f_own d_own
  b_own : L2.Binds K d_own ["worths", "sharing", "i", "j"] []
  g_own : mg "own" = some (.ref f_own)
  f_bestOf : Addr
  d_bestOf : FuncData
  F_bestOf : Fun K "best_of" "best_of" s_bestOf f_bestOf d_bestOf
  b_bestOf : L2.Binds K d_bestOf ["worths", "sharing", "i", "j"] []
  g_bestOf : mg "best_of" = some (.ref f_bestOf)
  f_envies : Addr
  d_envies : FuncData
  F_envies : Fun K "envies" "envies" s_envies f_envies d_envies
  b_envies : L2.Binds K d_envies ["worths", "sharing", "i", "j"] []
  g_envies : mg "envies" = some (.ref f_envies)
  f_envyPaper : Addr
  d_envyPaper : FuncData
  F_envyPaper : Fun K "envy_paper" "envy_paper" s_envyPaper f_envyPaper d_envyPaper
  b_envyPaper : L2.Binds K d_envyPaper ["worths", "sharing"] []
  g_envyPaper : mg "envy_paper" = some (.ref f_envyPaper)
  f_butOnePaper : Addr
  d_butOnePaper : FuncData
  F_butOnePaper : Fun K "but_one_paper" "but_one_paper" s_butOnePaper f_butOnePaper d_butOnePaper
  b_butOnePaper : L2.Binds K d_butOnePaper ["worths", "sharing"] []
  g_butOnePaper : mg "but_one_paper" = some (.ref f_butOnePaper)
  f_firstCircle : Addr
  d_firstCircle : FuncData
  F_firstCircle : Fun K "first_circle" "first_circle" s_firstCircle f_firstCircle d_firstCircle
  b_firstCircle : L2.Binds K d_firstCircle ["worths", "sharing"] []
  g_firstCircle : mg "first_circle" = some (.ref f_firstCircle)
  f_turned : Addr
  d_turned : FuncData
  F_turned : Fun K "turned" "turned" s_turned f_turned d_turned
  b_turned : L2.Binds K d_turned ["sharing", "circle"] []
  g_turned : mg "turned" = some (.ref f_turned)
  f_shareOut : Addr
  d_shareOut : FuncData
  F_shareOut : Fun K "share_out" "share_out" s_shareOut f_shareOut d_shareOut
  b_shareOut : L2.Binds K d_shareOut ["worths"] []
  g_shareOut : mg "share_out" = some (.ref f_shareOut)
  f_noEnvySharing : Addr
  d_noEnvySharing : FuncData
  F_noEnvySharing : Fun K "no_envy_sharing" "no_envy_sharing" s_noEnvySharing f_noEnvySharing d_noEnvySharing
  b_noEnvySharing : L2.Binds K d_noEnvySharing ["worths"] []
  g_noEnvySharing : mg "no_envy_sharing" = some (.ref f_noEnvySharing)
  f_LStart : Addr
  d_LStart : FuncData
  F_LStart : Fun K "_law_start" "_law_start" s_LStart f_LStart d_LStart
  b_LStart : L2.Binds K d_LStart ["script"] []
  g_LStart : mg "_law_start" = some (.ref f_LStart)
  f_LFill : Addr
  d_LFill : FuncData
  F_LFill : Fun K "_law_fill" "_law_fill" s_LFill f_LFill d_LFill
  b_LFill : L2.Binds K d_LFill ["c"] []
  g_LFill : mg "_law_fill" = some (.ref f_LFill)
  f_LTake : Addr
  d_LTake : FuncData
  F_LTake : Fun K "_law_take" "_law_take" s_LTake f_LTake d_LTake
  b_LTake : L2.Binds K d_LTake ["c", "many"] []
  g_LTake : mg "_law_take" = some (.ref f_LTake)
  f_LAlike : Addr
  d_LAlike : FuncData
  F_LAlike : Fun K "_law_alike" "_law_alike" s_LAlike f_LAlike d_LAlike
  b_LAlike : L2.Binds K d_LAlike ["value", "due"] []
  g_LAlike : mg "_law_alike" = some (.ref f_LAlike)
  f_LOwn : Addr
  d_LOwn : FuncData
  F_LOwn : Fun K "_law_own" "_law_own" s_LOwn f_LOwn d_LOwn
  b_LOwn : L2.Binds K d_LOwn ["worths", "sharing", "i", "j"] []
  g_LOwn : mg "_law_own" = some (.ref f_LOwn)
  f_LBest : Addr
  d_LBest : FuncData
  F_LBest : Fun K "_law_best" "_law_best" s_LBest f_LBest d_LBest
  b_LBest : L2.Binds K d_LBest ["worths", "sharing", "i", "j"] []
  g_LBest : mg "_law_best" = some (.ref f_LBest)
  f_LPaper : Addr
  d_LPaper : FuncData
  F_LPaper : Fun K "_law_paper" "_law_paper" s_LPaper f_LPaper d_LPaper
  b_LPaper : L2.Binds K d_LPaper ["worths", "sharing", "word", "but"] []
  g_LPaper : mg "_law_paper" = some (.ref f_LPaper)
  f_LTuples : Addr
  d_LTuples : FuncData
  F_LTuples : Fun K "_law_tuples" "_law_tuples" s_LTuples f_LTuples d_LTuples
  b_LTuples : L2.Binds K d_LTuples ["n"] []
  g_LTuples : mg "_law_tuples" = some (.ref f_LTuples)
  f_LShared : Addr
  d_LShared : FuncData
  F_LShared : Fun K "_law_shared" "_law_shared" s_LShared f_LShared d_LShared
  b_LShared : L2.Binds K d_LShared ["worths"] []
  g_LShared : mg "_law_shared" = some (.ref f_LShared)
  f_LSharings : Addr
  d_LSharings : FuncData
  F_LSharings : Fun K "_law_sharings" "_law_sharings" s_LSharings f_LSharings d_LSharings
  b_LSharings : L2.Binds K d_LSharings ["n", "m"] []
  g_LSharings : mg "_law_sharings" = some (.ref f_LSharings)
  f_LAW : Addr
  d_LAW : FuncData
  F_LAW : Fun K "law" "law" s_LAW f_LAW d_LAW
  b_LAW : L2.Binds K d_LAW ["script"] []
  g_LAW : mg "law" = some (.ref f_LAW)
  n_all : mg "all" = none
  n_any : mg "any" = none
  n_bool : mg "bool" = none
  n_enumerate : mg "enumerate" = none
  n_int : mg "int" = none
  n_isinstance : mg "isinstance" = none
  n_len : mg "len" = none
  n_max : mg "max" = none
  n_min : mg "min" = none
  n_range : mg "range" = none
  n_sorted : mg "sorted" = none
  n_str : mg "str" = none
  n_sum : mg "sum" = none
  n_tuple : mg "tuple" = none
section
variable {P : Program} {w : World} {K : PySem.W.Frag} {mg : Str → Option Value} {base : Heap}
def B_own : MS := (mRet (mCB fSum (mCons (mVal (mLC (mEnum (mV 1)) (.tp [4, 5]) (mTV (mBin fEq (mV 5) (mV 3))) (mBin fIx (mBin fIx (mV 0) (mV 2)) (mV 4)) [4, 5])) mNil)))
def M_own : Fn := fnM 6 4 .pure B_own
theorem ok_own (T : Txt K mg) : FnOk P w K mg base CX0 1 T.f_own T.d_own ["worths", "sharing", "i", "j"] (spD K 4 M_own) := by
  have h := fn_D (P := P) (w := w) (mg := mg) (base := base) (k := 0) (m := .pure) (body := B_own) T.F_own sc_own fun cdv A outer s H E hr => (ass_one (as_ret (ae_sum rfl T.n_sum (aa_cons (ae_val (af_lc [("good", 4), ("k", 5)] rfl sc_own.nd (ai_enum T.n_enumerate (av 1)) (blkOk_by (by first | exact rfl | decide +kernel)) (fun _ _ _ _ _ => (ag_tup rfl (pgs_cons (ag_name 4 sc_own.nd) (pgs_cons (ag_name 5 sc_own.nd) agn_nil)))) (fun _ _ _ _ _ => (ats_one (at_eq hr (av 5) (av 3)))) (fun _ _ _ _ _ => (ae_sub' (ae_sub' (av 0) (av 2)) (av 4))))) aa_nil))))
  exact h
def B_bestOf : MS := (mRet (mCB fMaxA (mCons (mBin fAdd (mVal (mLst (mCons (mC (.int 0)) mNil))) (mVal (mLC (mEnum (mV 1)) (.tp [4, 5]) (mTV (mBin fEq (mV 5) (mV 3))) (mBin fIx (mBin fIx (mV 0) (mV 2)) (mV 4)) [4, 5]))) mNil)))
def M_bestOf : Fn := fnM 6 4 .pure B_bestOf
theorem ok_bestOf (T : Txt K mg) : FnOk P w K mg base CX0 1 T.f_bestOf T.d_bestOf ["worths", "sharing", "i", "j"] (spD K 4 M_bestOf) := by
  have h := fn_D (P := P) (w := w) (mg := mg) (base := base) (k := 0) (m := .pure) (body := B_bestOf) T.F_bestOf sc_bestOf fun cdv A outer s H E hr => (ass_one (as_ret (ae_max hr rfl T.n_max (aa_cons (ae_add (ae_val (af_lst (aa_cons ae_int aa_nil))) (ae_val (af_lc [("good", 4), ("k", 5)] rfl sc_bestOf.nd (ai_enum T.n_enumerate (av 1)) (blkOk_by (by first | exact rfl | decide +kernel)) (fun _ _ _ _ _ => (ag_tup rfl (pgs_cons (ag_name 4 sc_bestOf.nd) (pgs_cons (ag_name 5 sc_bestOf.nd) agn_nil)))) (fun _ _ _ _ _ => (ats_one (at_eq hr (av 5) (av 3)))) (fun _ _ _ _ _ => (ae_sub' (ae_sub' (av 0) (av 2)) (av 4)))))) aa_nil))))
  exact h
def B_envies : MS := (mRet (mBin fGtD (mCall M_own (mCons (mV 0) (mCons (mV 1) (mCons (mV 2) (mCons (mV 3) mNil))))) (mCall M_own (mCons (mV 0) (mCons (mV 1) (mCons (mV 2) (mCons (mV 2) mNil)))))))
def M_envies : Fn := fnM 4 4 .pure B_envies
theorem ok_envies (T : Txt K mg) : FnOk P w K mg base CX0 2 T.f_envies T.d_envies ["worths", "sharing", "i", "j"] (spD K 4 M_envies) := by
  have h := fn_D (P := P) (w := w) (mg := mg) (base := base) (k := 1) (m := .pure) (body := B_envies) T.F_envies sc_envies fun cdv A outer s H E hr => (ass_one (as_ret (ae_gt hr (ae_call (ok_own T) hr T.g_own T.F_own.kp T.b_own (aa_cons (av 0) (aa_cons (av 1) (aa_cons (av 2) (aa_cons (av 3) aa_nil)))) (np_cons (np_cons (np_cons (np_cons (fun _ _ _ _ h => np_nil h))))) (by omega)) (ae_call (ok_own T) hr T.g_own T.F_own.kp T.b_own (aa_cons (av 0) (aa_cons (av 1) (aa_cons (av 2) (aa_cons (av 2) aa_nil)))) (np_cons (np_cons (np_cons (np_cons (fun _ _ _ _ h => np_nil h))))) (by omega)))))
  exact h
def B_envyPaper : MS := (mSeq (mAsg (mCB fRng1 (mCons (mCB fLen (mCons (mV 0) mNil)) mNil)) (.nm 2))
    (mSeq (mFor (mIt (mV 2)) (.nm 3) (mFor (mIt (mV 2)) (.nm 4) (mIfS (mTru (mCall M_envies (mCons (mV 0) (mCons (mV 1) (mCons (mV 3) (mCons (mV 4) mNil)))))) (mRet (mTup (mCons (mC (.str "envies")) (mCons (mV 3) (mCons (mV 4) mNil))))) mSkip)))
    (mRet (mTup (mCons (mC (.str "no envy")) mNil)))))
def M_envyPaper : Fn := fnM 5 2 .pure B_envyPaper
theorem ok_envyPaper (T : Txt K mg) : FnOk P w K mg base CX0 3 T.f_envyPaper T.d_envyPaper ["worths", "sharing"] (spD K 2 M_envyPaper) := by
  have h := fn_D (P := P) (w := w) (mg := mg) (base := base) (k := 2) (m := .pure) (body := B_envyPaper) T.F_envyPaper sc_envyPaper fun cdv A outer s H E hr => (ass_cons (as_set sc_envyPaper.nd (ae_rng1 T.n_range (aa_cons (ae_len T.n_len (aa_cons (av 0) aa_nil)) aa_nil)))
    (ass_cons (as_for PassesOwn.never rfl (ai_any (av 2)) (ag_name 3 sc_envyPaper.nd) (ass_one (as_for PassesOwn.never rfl (ai_any (av 2)) (ag_name 4 sc_envyPaper.nd) (ass_one (as_if (at_truth (ae_call (ok_envies T) hr T.g_envies T.F_envies.kp T.b_envies (aa_cons (av 0) (aa_cons (av 1) (aa_cons (av 3) (aa_cons (av 4) aa_nil)))) (np_cons (np_cons (np_cons (np_cons (fun _ _ _ _ h => np_nil h))))) (by omega))) (ass_one (as_ret (ae_tup (aa_cons ae_str (aa_cons (av 3) (aa_cons (av 4) aa_nil)))))) ass_nil)))))
    (ass_one (as_ret (ae_tup (aa_cons ae_str aa_nil))))))
  exact h
def B_butOnePaper : MS := (mSeq (mAsg (mCB fRng1 (mCons (mCB fLen (mCons (mV 0) mNil)) mNil)) (.nm 2))
    (mSeq (mFor (mIt (mV 2)) (.nm 3) (mFor (mIt (mV 2)) (.nm 4) (mSeq (mAsg (mBin fSub (mCall M_own (mCons (mV 0) (mCons (mV 1) (mCons (mV 3) (mCons (mV 4) mNil))))) (mCall M_bestOf (mCons (mV 0) (mCons (mV 1) (mCons (mV 3) (mCons (mV 4) mNil)))))) (.nm 5))
    (mIfS (mAnd (mTV (mBin fNe (mV 3) (mV 4))) (mTV (mBin fGtD (mV 5) (mCall M_own (mCons (mV 0) (mCons (mV 1) (mCons (mV 3) (mCons (mV 3) mNil)))))))) (mRet (mTup (mCons (mC (.str "envies")) (mCons (mV 3) (mCons (mV 4) mNil))))) mSkip))))
    (mRet (mTup (mCons (mC (.str "but one")) mNil)))))
def M_butOnePaper : Fn := fnM 6 2 .pure B_butOnePaper
theorem ok_butOnePaper (T : Txt K mg) : FnOk P w K mg base CX0 2 T.f_butOnePaper T.d_butOnePaper ["worths", "sharing"] (spD K 2 M_butOnePaper) := by
  have h := fn_D (P := P) (w := w) (mg := mg) (base := base) (k := 1) (m := .pure) (body := B_butOnePaper) T.F_butOnePaper sc_butOnePaper fun cdv A outer s H E hr => (ass_cons (as_set sc_butOnePaper.nd (ae_rng1 T.n_range (aa_cons (ae_len T.n_len (aa_cons (av 0) aa_nil)) aa_nil)))
    (ass_cons (as_for PassesOwn.never rfl (ai_any (av 2)) (ag_name 3 sc_butOnePaper.nd) (ass_one (as_for PassesOwn.never rfl (ai_any (av 2)) (ag_name 4 sc_butOnePaper.nd) (ass_cons (as_set sc_butOnePaper.nd (ae_sub (ae_call (ok_own T) hr T.g_own T.F_own.kp T.b_own (aa_cons (av 0) (aa_cons (av 1) (aa_cons (av 3) (aa_cons (av 4) aa_nil)))) (np_cons (np_cons (np_cons (np_cons (fun _ _ _ _ h => np_nil h))))) (by omega)) (ae_call (ok_bestOf T) hr T.g_bestOf T.F_bestOf.kp T.b_bestOf (aa_cons (av 0) (aa_cons (av 1) (aa_cons (av 3) (aa_cons (av 4) aa_nil)))) (np_cons (np_cons (np_cons (np_cons (fun _ _ _ _ h => np_nil h))))) (by omega))))
    (ass_one (as_if (PW.pt (aw_and (at_ne hr (av 3) (av 4)) (aw_and1 (at_gt hr (av 5) (ae_call (ok_own T) hr T.g_own T.F_own.kp T.b_own (aa_cons (av 0) (aa_cons (av 1) (aa_cons (av 3) (aa_cons (av 3) aa_nil)))) (np_cons (np_cons (np_cons (np_cons (fun _ _ _ _ h => np_nil h))))) (by omega)))))) (ass_one (as_ret (ae_tup (aa_cons ae_str (aa_cons (av 3) (aa_cons (av 4) aa_nil)))))) ass_nil))))))
    (ass_one (as_ret (ae_tup (aa_cons ae_str aa_nil))))))
  exact h
def B_firstCircle : MS := (mSeq (mAsg (mCB fRng1 (mCons (mCB fLen (mCons (mV 0) mNil)) mNil)) (.nm 2))
    (mSeq (mAsg (mSto (mLst mNil)) (.nm 3))
    (mSeq (mAsg (mSto (mLC (mIt (mV 2)) (.nm 7) mYes (mTup (mCons (mV 7) mNil)) [7])) (.nm 4))
    (mSeq (mWhile 1000000 (mTru (mV 4)) (mSeq (mAsg (mMt fPop (mV 4) mNil) (.nm 5))
    (mFor (mIt (mV 2)) (.nm 6) (mIfS (mTru (mCall M_envies (mCons (mV 0) (mCons (mV 1) (mCons (mBin fIx (mV 5) (mUn fNeg (mC (.int 1)))) (mCons (mV 6) mNil)))))) (mIfS (mTV (mBin fEq (mV 6) (mBin fIx (mV 5) (mC (.int 0))))) (mDrop (mMt' fAppend (mV 3) (mCons (mV 5) mNil))) (mIfS (mAnd (mTV (mBin fGtD (mV 6) (mBin fIx (mV 5) (mC (.int 0))))) (mTV (mBin fNotIn (mV 6) (mV 5)))) (mDrop (mMt' fAppend (mV 4) (mCons (mBin fAdd (mV 5) (mTup (mCons (mV 6) mNil))) mNil))) mSkip)) mSkip))))
    (mRet (mIf (mTru (mV 3)) (mCB fMinA (mCons (mV 3) mNil)) (mC .non)))))))
def M_firstCircle : Fn := fnM 8 2 .pure B_firstCircle
theorem ok_firstCircle (T : Txt K mg) : FnOk P w K mg base CX0 3 T.f_firstCircle T.d_firstCircle ["worths", "sharing"] (spD K 2 M_firstCircle) := by
  have h := fn_D (P := P) (w := w) (mg := mg) (base := base) (k := 2) (m := .pure) (body := B_firstCircle) T.F_firstCircle sc_firstCircle fun cdv A outer s H E hr => (ass_cons (as_set sc_firstCircle.nd (ae_rng1 T.n_range (aa_cons (ae_len T.n_len (aa_cons (av 0) aa_nil)) aa_nil)))
    (ass_cons (as_set sc_firstCircle.nd (ae_sto (af_lst aa_nil)))
    (ass_cons (as_setLc [("i", 7)] rfl sc_firstCircle.nd (ai_any (av 2)) (blkOk_by (by first | exact rfl | decide +kernel)) (fun _ _ _ _ _ => (ag_name 7 sc_firstCircle.nd)) (fun _ _ _ _ _ => ats_nil) (fun _ _ _ _ _ => (ae_tup (aa_cons (av 7) aa_nil))) (sto := true))
    (ass_cons (as_while 1000000 PassesOwn.never (at_truth (av 4)) (ass_cons (as_set sc_firstCircle.nd (ae_pop (av 4)))
    (ass_one (as_for PassesOwn.never rfl (ai_any (av 2)) (ag_name 6 sc_firstCircle.nd) (ass_one (as_if (at_truth (ae_call (ok_envies T) hr T.g_envies T.F_envies.kp T.b_envies (aa_cons (av 0) (aa_cons (av 1) (aa_cons (ae_sub' (av 5) (ae_neg ae_int)) (aa_cons (av 6) aa_nil)))) (np_cons (np_cons (np_cons (np_cons (fun _ _ _ _ h => np_nil h))))) (by omega))) (ass_one (as_if (at_eq hr (av 6) (ae_sub' (av 5) ae_int)) (ass_one (as_expr (ae_append (av 3) (aa_cons (av 5) aa_nil)))) (ass_one (as_if (PW.pt (aw_and (at_gt hr (av 6) (ae_sub' (av 5) ae_int)) (aw_and1 (at_nin hr (av 6) (av 5))))) (ass_one (as_expr (ae_append (av 4) (aa_cons (ae_add (av 5) (ae_tup (aa_cons (av 6) aa_nil))) aa_nil)))) ass_nil)))) ass_nil))))))
    (ass_one (as_ret (ae_if (at_truth (av 3)) (ae_min hr rfl T.n_min (aa_cons (av 3) aa_nil)) ae_non)))))))
  exact h
def B_turned : MS := (mSeq (mAsg (mDC (mEnum (mV 1)) (.tp [4, 3]) mYes (mBin fIx (mV 1) (mBin fMod (mBin fAdd (mV 4) (mC (.int 1))) (mCB fLen (mCons (mV 1) mNil)))) (mV 3) [4, 3]) (.nm 2))
    (mRet (mVal (mLC (mIt (mV 0)) (.nm 3) mYes (mGet2 (mV 2) (mV 3) (mV 3)) [3]))))
def M_turned : Fn := fnM 5 2 .pure B_turned
theorem ok_turned (T : Txt K mg) : FnOk P w K mg base CX0 1 T.f_turned T.d_turned ["sharing", "circle"] (spD K 2 M_turned) := by
  have h := fn_D (P := P) (w := w) (mg := mg) (base := base) (k := 0) (m := .pure) (body := B_turned) T.F_turned sc_turned fun cdv A outer s H E hr => (ass_cons (as_set sc_turned.nd (ae_dc [("at", 4), ("one", 3)] rfl sc_turned.nd (ai_enum T.n_enumerate (av 1)) (blkOk_by (by first | exact rfl | decide +kernel)) (fun _ _ _ _ _ => (ag_tup rfl (pgs_cons (ag_name 4 sc_turned.nd) (pgs_cons (ag_name 3 sc_turned.nd) agn_nil)))) (fun _ _ _ _ _ => ats_nil) (fun _ _ _ _ _ => (ae_sub' (av 1) (ae_mod (ae_add (av 4) ae_int) (ae_len T.n_len (aa_cons (av 1) aa_nil))))) (fun _ _ _ _ _ => (av 3))))
    (ass_one (as_ret (ae_val (af_lc [("one", 3)] rfl sc_turned.nd (ai_any (av 0)) (blkOk_by (by first | exact rfl | decide +kernel)) (fun _ _ _ _ _ => (ag_name 3 sc_turned.nd)) (fun _ _ _ _ _ => ats_nil) (fun _ _ _ _ _ => (ae_get2 hr (av 2) (av 3) (av 3))))))))
  exact h
def B_shareOut : MS := (mSeq (mAsg (mVal (mLst mNil)) (.nm 1))
    (mSeq (mFor (mRg1 (mCons (mCB fLen (mCons (mBin fIx (mV 0) (mC (.int 0))) mNil)) mNil)) (.nm 2) (mSeq (mAsg (mCall M_firstCircle (mCons (mV 0) (mCons (mV 1) mNil))) (.nm 3))
    (mSeq (mWhile 1000000 (mTV (mBin fNotN (mV 3) (mC .non))) (mSeq (mAsg (mCall M_turned (mCons (mV 1) (mCons (mV 3) mNil))) (.nm 1))
    (mAsg (mCall M_firstCircle (mCons (mV 0) (mCons (mV 1) mNil))) (.nm 3))))
    (mSeq (mAsg (mCB fRng1 (mCons (mCB fLen (mCons (mV 0) mNil)) mNil)) (.nm 4))
    (mSeq (mAsg (mVal (mLC (mIt (mV 4)) (.nm 6) (mNot (mTru (mCB fAny (mCons (mVal (mLC (mIt (mV 4)) (.nm 7) mYes (mCall M_envies (mCons (mV 0) (mCons (mV 1) (mCons (mV 7) (mCons (mV 6) mNil))))) [7])) mNil)))) (mV 6) [6])) (.nm 5))
    (mAsg (mBin fAdd (mV 1) (mVal (mLst (mCons (mBin fIx (mV 5) (mC (.int 0))) mNil)))) (.nm 1)))))))
    (mRet (mCB fTuple (mCons (mV 1) mNil)))))
def M_shareOut : Fn := fnM 8 1 .pure B_shareOut
theorem ok_shareOut (T : Txt K mg) : FnOk P w K mg base CX0 4 T.f_shareOut T.d_shareOut ["worths"] (spD K 1 M_shareOut) := by
  have h := fn_D (P := P) (w := w) (mg := mg) (base := base) (k := 3) (m := .pure) (body := B_shareOut) T.F_shareOut sc_shareOut fun cdv A outer s H E hr => (ass_cons (as_set sc_shareOut.nd (ae_val (af_lst aa_nil)))
    (ass_cons (as_for PassesOwn.never rfl (ai_range1 T.n_range (aa_cons (ae_len T.n_len (aa_cons (ae_sub' (av 0) ae_int) aa_nil)) aa_nil)) (ag_name 2 sc_shareOut.nd) (ass_cons (as_set sc_shareOut.nd (ae_call (ok_firstCircle T) hr T.g_firstCircle T.F_firstCircle.kp T.b_firstCircle (aa_cons (av 0) (aa_cons (av 1) aa_nil)) (np_cons (np_cons (fun _ _ _ _ h => np_nil h))) (by omega)))
    (ass_cons (as_while 1000000 PassesOwn.never (at_isnot (av 3) ae_non) (ass_cons (as_set sc_shareOut.nd (ae_call (ok_turned T) hr T.g_turned T.F_turned.kp T.b_turned (aa_cons (av 1) (aa_cons (av 3) aa_nil)) (np_cons (np_cons (fun _ _ _ _ h => np_nil h))) (by omega)))
    (ass_one (as_set sc_shareOut.nd (ae_call (ok_firstCircle T) hr T.g_firstCircle T.F_firstCircle.kp T.b_firstCircle (aa_cons (av 0) (aa_cons (av 1) aa_nil)) (np_cons (np_cons (fun _ _ _ _ h => np_nil h))) (by omega))))))
    (ass_cons (as_set sc_shareOut.nd (ae_rng1 T.n_range (aa_cons (ae_len T.n_len (aa_cons (av 0) aa_nil)) aa_nil)))
    (ass_cons (as_setLc [("j", 6)] rfl sc_shareOut.nd (ai_any (av 4)) (blkOk_by (by first | exact rfl | decide +kernel)) (fun _ _ _ _ _ => (ag_name 6 sc_shareOut.nd)) (fun _ _ _ _ _ => (ats_one (at_not (at_truth (ae_any rfl T.n_any (aa_cons (ae_val (af_lc [("i", 7)] rfl sc_shareOut.nd (ai_any (av 4)) (blkOk_by (by first | exact rfl | decide +kernel)) (fun _ _ _ _ _ => (ag_name 7 sc_shareOut.nd)) (fun _ _ _ _ _ => ats_nil) (fun _ _ _ _ _ => (ae_call (ok_envies T) hr T.g_envies T.F_envies.kp T.b_envies (aa_cons (av 0) (aa_cons (av 1) (aa_cons (av 7) (aa_cons (av 6) aa_nil)))) (np_cons (np_cons (np_cons (np_cons (fun _ _ _ _ h => np_nil h))))) (by omega))))) aa_nil)))))) (fun _ _ _ _ _ => (av 6)) (sto := false))
    (ass_one (as_set sc_shareOut.nd (ae_add (av 1) (ae_val (af_lst (aa_cons (ae_sub' (av 5) ae_int) aa_nil)))))))))))
    (ass_one (as_ret (ae_tuple T.n_tuple (aa_cons (av 1) aa_nil))))))
  exact h
def B_noEnvySharing : MS := (mSeq (mAsg (mVal (mLst (mCons (mTup mNil) mNil))) (.nm 1))
    (mSeq (mFor (mRg1 (mCons (mCB fLen (mCons (mBin fIx (mV 0) (mC (.int 0))) mNil)) mNil)) (.nm 2) (mAsg (mVal (mLC2 (mIt (mV 1)) (.nm 3) mYes (mRg1 (mCons (mCB fLen (mCons (mV 0) mNil)) mNil)) (.nm 4) mYes (mBin fAdd (mV 3) (mTup (mCons (mV 4) mNil))) [3, 4] [4])) (.nm 1)))
    (mSeq (mFor (mIt (mV 1)) (.nm 3) (mIfS (mTV (mBin fEq (mCall M_envyPaper (mCons (mV 0) (mCons (mV 3) mNil))) (mTup (mCons (mC (.str "no envy")) mNil)))) (mRet (mV 3)) mSkip))
    (mRet (mC .non)))))
def M_noEnvySharing : Fn := fnM 5 1 .pure B_noEnvySharing
theorem ok_noEnvySharing (T : Txt K mg) : FnOk P w K mg base CX0 4 T.f_noEnvySharing T.d_noEnvySharing ["worths"] (spD K 1 M_noEnvySharing) := by
  have h := fn_D (P := P) (w := w) (mg := mg) (base := base) (k := 3) (m := .pure) (body := B_noEnvySharing) T.F_noEnvySharing sc_noEnvySharing fun cdv A outer s H E hr => (ass_cons (as_set sc_noEnvySharing.nd (ae_val (af_lst (aa_cons (ae_tup aa_nil) aa_nil))))
    (ass_cons (as_for PassesOwn.never rfl (ai_range1 T.n_range (aa_cons (ae_len T.n_len (aa_cons (ae_sub' (av 0) ae_int) aa_nil)) aa_nil)) (ag_name 2 sc_noEnvySharing.nd) (ass_one (as_setLc2 [("row", 3), ("i", 4)] [4] rfl sc_noEnvySharing.nd (ai_any (av 1)) (blkOk_by (by first | exact rfl | decide +kernel)) (fun _ _ _ _ _ => (ag_name 3 sc_noEnvySharing.nd)) (fun _ _ _ _ _ => ats_nil) (fun _ _ _ _ _ => (ai_range1 T.n_range (aa_cons (ae_len T.n_len (aa_cons (av 0) aa_nil)) aa_nil))) (fun _ _ _ _ _ => (ag_name 4 sc_noEnvySharing.nd)) (fun _ _ _ _ _ => ats_nil) (fun _ _ _ _ _ => (ae_add (av 3) (ae_tup (aa_cons (av 4) aa_nil)))) (sto := false))))
    (ass_cons (as_for PassesOwn.never rfl (ai_any (av 1)) (ag_name 3 sc_noEnvySharing.nd) (ass_one (as_if (at_eq hr (ae_call (ok_envyPaper T) hr T.g_envyPaper T.F_envyPaper.kp T.b_envyPaper (aa_cons (av 0) (aa_cons (av 3) aa_nil)) (np_cons (np_cons (fun _ _ _ _ h => np_nil h))) (by omega)) (ae_tup (aa_cons ae_str aa_nil))) (ass_one (as_ret (av 3))) ass_nil)))
    (ass_one (as_ret ae_non)))))
  exact h
def B_LStart : MS := (mRet (mSto (mLst (mCons (mVal (mLC (mIt (mVal (mSlL (mV 0) mO0 (mO1 (mC (.int 63)))))) (.nm 1) mYes (mCB fInt (mCons (mV 1) mNil)) [1])) (mCons (mC (.int 0)) (mCons (mC (.int 0)) (mCons (mC (.int 0)) (mCons (mC (.int 20)) mNil))))))))
def M_LStart : Fn := fnM 2 1 .keep B_LStart
theorem ok_LStart (T : Txt K mg) : FnOk P w K mg base CX0 1 T.f_LStart T.d_LStart ["script"] (spD K 1 M_LStart) := by
  have h := fn_D (P := P) (w := w) (mg := mg) (base := base) (k := 0) (m := .keep) (body := B_LStart) T.F_LStart sc_LStart fun cdv A outer s H E hr => (ass_one (as_ret (ae_sto (af_lst (aa_cons (ae_val (af_lc [("cell", 1)] rfl sc_LStart.nd (ai_any (ae_val (af_slL (av 0) ao_none (ao_some ae_int)))) (blkOk_by (by first | exact rfl | decide +kernel)) (fun _ _ _ _ _ => (ag_name 1 sc_LStart.nd)) (fun _ _ _ _ _ => ats_nil) (fun _ _ _ _ _ => (ae_intC T.n_int (aa_cons (av 1) aa_nil))))) (aa_cons ae_int (aa_cons ae_int (aa_cons ae_int (aa_cons ae_int aa_nil)))))))))
  exact h
def B_LFill : MS := (mSeq (mSetIx (mBin fAdd (mBin fIx (mV 0) (mC (.int 3))) (mC (.int 1))) (mV 0) (mC (.int 3)))
    (mSeq (mAsg (mBin fAdd (mBin fMul (mBin fIx (mV 0) (mC (.int 3))) (mC (.int 69621))) (mC (.int 12345))) (.nm 1))
    (mSeq (mIfS (mTV (mBin fLtD (mBin fIx (mV 0) (mC (.int 1))) (mCB fLen (mCons (mBin fIx (mV 0) (mC (.int 0))) mNil)))) (mSeq (mAsg (mBin fIx (mBin fIx (mV 0) (mC (.int 0))) (mBin fIx (mV 0) (mC (.int 1)))) (.nm 1))
    (mSeq (mSetIx (mBin fAdd (mBin fIx (mV 0) (mC (.int 1))) (mC (.int 1))) (mV 0) (mC (.int 1)))
    (mSeq (mIfS (mTV (mBin fLtD (mV 1) (mC (.int 0)))) (mAsg (mBin fSub (mBin fSub (mC (.int 0)) (mC (.int 1))) (mV 1)) (.nm 1)) mSkip)
    (mIfS (mTV (mBin fGeD (mV 1) (mBin fPow (mC (.int 10)) (mC (.int 18))))) (mRet (mV 1)) mSkip)))) mSkip)
    (mSeq (mIfS (mAnd (mTru (mBin fIx (mV 0) (mC (.int 0)))) (mTV (mBin fGeD (mBin fIx (mV 0) (mC (.int 1))) (mCB fLen (mCons (mBin fIx (mV 0) (mC (.int 0))) mNil))))) (mAsg (mBin fAdd (mV 1) (mBin fMod (mCB fInt (mCons (mBin fIx (mBin fIx (mV 0) (mC (.int 0))) (mUn fNeg (mC (.int 1)))) mNil)) (mC (.int 1000003)))) (.nm 1)) mSkip)
    (mSeq (mAsg (mBin fMod (mCB fInt (mCons (mBin fAdd (mBin fMul (mV 1) (mC (.int 48271))) (mBin fMul (mBin fIx (mV 0) (mC (.int 3))) (mC (.int 69621)))) mNil)) (mC (.int 2147483647))) (.nm 1))
    (mRet (mBin fAdd (mBin fDiv (mCB fInt (mCons (mBin fAdd (mBin fAdd (mBin fMul (mV 1) (mV 1)) (mBin fMul (mBin fIx (mV 0) (mC (.int 3))) (mC (.int 7919)))) (mC (.int 11))) mNil)) (mC (.int 64))) (mC (.int 36028797018963968)))))))))
def M_LFill : Fn := fnM 2 1 .keep B_LFill
theorem ok_LFill (T : Txt K mg) : FnOk P w K mg base CX0 1 T.f_LFill T.d_LFill ["c"] (spD K 1 M_LFill) := by
  have h := fn_D (P := P) (w := w) (mg := mg) (base := base) (k := 0) (m := .keep) (body := B_LFill) T.F_LFill sc_LFill fun cdv A outer s H E hr => (ass_cons (as_setIx (ae_add (ae_sub' (av 0) ae_int) ae_int) (av 0) ae_int)
    (ass_cons (as_set sc_LFill.nd (ae_add (ae_mul (ae_sub' (av 0) ae_int) ae_int) ae_int))
    (ass_cons (as_if (at_lt hr (ae_sub' (av 0) ae_int) (ae_len T.n_len (aa_cons (ae_sub' (av 0) ae_int) aa_nil))) (ass_cons (as_set sc_LFill.nd (ae_sub' (ae_sub' (av 0) ae_int) (ae_sub' (av 0) ae_int)))
    (ass_cons (as_setIx (ae_add (ae_sub' (av 0) ae_int) ae_int) (av 0) ae_int)
    (ass_cons (as_if (at_lt hr (av 1) ae_int) (ass_one (as_set sc_LFill.nd (ae_sub (ae_sub ae_int ae_int) (av 1)))) ass_nil)
    (ass_one (as_if (at_ge hr (av 1) (ae_pow ae_int ae_int)) (ass_one (as_ret (av 1))) ass_nil))))) ass_nil)
    (ass_cons (as_if (PW.pt (aw_and (at_truth (ae_sub' (av 0) ae_int)) (aw_and1 (at_ge hr (ae_sub' (av 0) ae_int) (ae_len T.n_len (aa_cons (ae_sub' (av 0) ae_int) aa_nil)))))) (ass_one (as_set sc_LFill.nd (ae_add (av 1) (ae_mod (ae_intC T.n_int (aa_cons (ae_sub' (ae_sub' (av 0) ae_int) (ae_neg ae_int)) aa_nil)) ae_int)))) ass_nil)
    (ass_cons (as_set sc_LFill.nd (ae_mod (ae_intC T.n_int (aa_cons (ae_add (ae_mul (av 1) ae_int) (ae_mul (ae_sub' (av 0) ae_int) ae_int)) aa_nil)) ae_int))
    (ass_one (as_ret (ae_add (ae_div (ae_intC T.n_int (aa_cons (ae_add (ae_add (ae_mul (av 1) (av 1)) (ae_mul (ae_sub' (av 0) ae_int) ae_int)) ae_int) aa_nil)) ae_int) ae_int))))))))
  exact h
def B_LTake : MS := (mSeq (mIfS (mTV (mBin fLtD (mBin fIx (mV 0) (mC (.int 2))) (mV 1))) (mSetIx (mCall M_LFill (mCons (mV 0) mNil)) (mV 0) (mC (.int 2))) mSkip)
    (mSeq (mAsg (mBin fMod (mCB fInt (mCons (mBin fIx (mV 0) (mC (.int 2))) mNil)) (mV 1)) (.nm 2))
    (mSeq (mSetIx (mBin fDiv (mBin fIx (mV 0) (mC (.int 2))) (mV 1)) (mV 0) (mC (.int 2)))
    (mRet (mV 2)))))
def M_LTake : Fn := fnM 3 2 .keep B_LTake
theorem ok_LTake (T : Txt K mg) : FnOk P w K mg base CX0 2 T.f_LTake T.d_LTake ["c", "many"] (spD K 2 M_LTake) := by
  have h := fn_D (P := P) (w := w) (mg := mg) (base := base) (k := 1) (m := .keep) (body := B_LTake) T.F_LTake sc_LTake fun cdv A outer s H E hr => (ass_cons (as_if (at_lt hr (ae_sub' (av 0) ae_int) (av 1)) (ass_one (as_setIx (ae_call (ok_LFill T) hr T.g_LFill T.F_LFill.kp T.b_LFill (aa_cons (av 0) aa_nil) (np_cons (fun _ _ _ _ h => np_nil h)) (by omega)) (av 0) ae_int)) ass_nil)
    (ass_cons (as_set sc_LTake.nd (ae_mod (ae_intC T.n_int (aa_cons (ae_sub' (av 0) ae_int) aa_nil)) (av 1)))
    (ass_cons (as_setIx (ae_div (ae_sub' (av 0) ae_int) (av 1)) (av 0) ae_int)
    (ass_one (as_ret (av 2))))))
  exact h
def B_LAlike (r : Fn) : MS := (mSeq (mIfS (mTru (mIsi "tuple" (mV 1))) (mRet (mAndV (mIsi "tuple" (mV 0)) (mAndV (mBin fEq (mCB fLen (mCons (mV 0) mNil)) (mCB fLen (mCons (mV 1) mNil))) (mCB fAll (mCons (mVal (mLC (mRg1 (mCons (mCB fLen (mCons (mV 1) mNil)) mNil)) (.nm 2) mYes (mCall r (mCons (mBin fIx (mV 0) (mV 2)) (mCons (mBin fIx (mV 1) (mV 2)) mNil))) [2])) mNil))))) mSkip)
    (mSeq (mIfS (mTV (mBin fIsN (mV 1) (mC .non))) (mRet (mBin fIsN (mV 0) (mC .non))) mSkip)
    (mSeq (mIfS (mOr (mTru (mIsi "bool" (mV 0))) (mTV (mBin fNe (mIsi "str" (mV 0)) (mIsi "str" (mV 1))))) (mRet (mC (.bl false))) mSkip)
    (mRet (mAndV (mIsi2 "int" "str" (mV 0)) (mBin fEq (mV 0) (mV 1)))))))
def MR_LAlike : Nat → Fn
  | 0 => fun _ _ => none
  | n + 1 => fnM 3 2 .pure (B_LAlike (MR_LAlike n))
abbrev M_LAlike : Fn := MR_LAlike 16
theorem okr_LAlike (T : Txt K mg) : ∀ n : Nat, FnOk P w K mg base CX0 (n + 1) T.f_LAlike T.d_LAlike ["value", "due"] (spD K 2 (MR_LAlike n))
  | 0 => ⟨fun _ _ _ _ h => h.1, fun _ _ _ _ _ _ _ _ _ _ _ _ _ h => by obtain ⟨_, _, _, _, _, _, _, _, hm, _⟩ := h; cases hm⟩
  | n + 1 => by
    have R := okr_LAlike T n
    have e : n + 1 + 1 = (n + 1) + 1 := by omega
    rw [e]
    have h := fn_D (P := P) (w := w) (mg := mg) (base := base) (k := n + 1) (m := .pure) (body := B_LAlike (MR_LAlike n)) T.F_LAlike sc_LAlike fun cdv A outer s H E hr => (ass_cons (as_if (at_truth (ae_isi T.n_isinstance T.n_tuple (av 1))) (ass_one (as_ret (ae_and (ae_isi T.n_isinstance T.n_tuple (av 0)) (ae_and (ae_eq hr (ae_len T.n_len (aa_cons (av 0) aa_nil)) (ae_len T.n_len (aa_cons (av 1) aa_nil))) (ae_one (ae_all rfl T.n_all (aa_cons (ae_val (af_lc [("k", 2)] rfl sc_LAlike.nd (ai_range1 T.n_range (aa_cons (ae_len T.n_len (aa_cons (av 1) aa_nil)) aa_nil)) (blkOk_by (by first | exact rfl | decide +kernel)) (fun _ _ _ _ _ => (ag_name 2 sc_LAlike.nd)) (fun _ _ _ _ _ => ats_nil) (fun _ _ _ _ _ => (ae_call R hr T.g_LAlike T.F_LAlike.kp T.b_LAlike (aa_cons (ae_sub' (av 0) (av 2)) (aa_cons (ae_sub' (av 1) (av 2)) aa_nil)) (np_cons (np_cons (fun _ _ _ _ h => np_nil h))) (by omega))))) aa_nil))))))) ass_nil)
    (ass_cons (as_if (at_is (av 1) ae_non) (ass_one (as_ret (ae_is (av 0) ae_non))) ass_nil)
    (ass_cons (as_if (PW.pt (aw_or (at_truth (ae_isi T.n_isinstance T.n_bool (av 0))) (aw_or1 (at_ne hr (ae_isi T.n_isinstance T.n_str (av 0)) (ae_isi T.n_isinstance T.n_str (av 1)))))) (ass_one (as_ret ae_bl)) ass_nil)
    (ass_one (as_ret (ae_and (ae_isi2 T.n_isinstance T.n_int T.n_str (av 0)) (ae_one (ae_eq hr (av 0) (av 1)))))))))
    exact h
theorem ok_LAlike (T : Txt K mg) : FnOk P w K mg base CX0 17 T.f_LAlike T.d_LAlike ["value", "due"] (spD K 2 M_LAlike) := okr_LAlike T 16
def B_LOwn : MS := (mRet (mCB fSum (mCons (mVal (mLC (mRg1 (mCons (mCB fLen (mCons (mV 1) mNil)) mNil)) (.nm 4) (mTV (mBin fEq (mBin fIx (mV 1) (mV 4)) (mV 3))) (mBin fIx (mBin fIx (mV 0) (mV 2)) (mV 4)) [4])) mNil)))
def M_LOwn : Fn := fnM 5 4 .pure B_LOwn
theorem ok_LOwn (T : Txt K mg) : FnOk P w K mg base CX0 1 T.f_LOwn T.d_LOwn ["worths", "sharing", "i", "j"] (spD K 4 M_LOwn) := by
  have h := fn_D (P := P) (w := w) (mg := mg) (base := base) (k := 0) (m := .pure) (body := B_LOwn) T.F_LOwn sc_LOwn fun cdv A outer s H E hr => (ass_one (as_ret (ae_sum rfl T.n_sum (aa_cons (ae_val (af_lc [("g", 4)] rfl sc_LOwn.nd (ai_range1 T.n_range (aa_cons (ae_len T.n_len (aa_cons (av 1) aa_nil)) aa_nil)) (blkOk_by (by first | exact rfl | decide +kernel)) (fun _ _ _ _ _ => (ag_name 4 sc_LOwn.nd)) (fun _ _ _ _ _ => (ats_one (at_eq hr (ae_sub' (av 1) (av 4)) (av 3)))) (fun _ _ _ _ _ => (ae_sub' (ae_sub' (av 0) (av 2)) (av 4))))) aa_nil))))
  exact h
def B_LBest : MS := (mRet (mCB fMaxA (mCons (mBin fAdd (mVal (mLst (mCons (mC (.int 0)) mNil))) (mVal (mLC (mRg1 (mCons (mCB fLen (mCons (mV 1) mNil)) mNil)) (.nm 4) (mTV (mBin fEq (mBin fIx (mV 1) (mV 4)) (mV 3))) (mBin fIx (mBin fIx (mV 0) (mV 2)) (mV 4)) [4]))) mNil)))
def M_LBest : Fn := fnM 5 4 .pure B_LBest
theorem ok_LBest (T : Txt K mg) : FnOk P w K mg base CX0 1 T.f_LBest T.d_LBest ["worths", "sharing", "i", "j"] (spD K 4 M_LBest) := by
  have h := fn_D (P := P) (w := w) (mg := mg) (base := base) (k := 0) (m := .pure) (body := B_LBest) T.F_LBest sc_LBest fun cdv A outer s H E hr => (ass_one (as_ret (ae_max hr rfl T.n_max (aa_cons (ae_add (ae_val (af_lst (aa_cons ae_int aa_nil))) (ae_val (af_lc [("g", 4)] rfl sc_LBest.nd (ai_range1 T.n_range (aa_cons (ae_len T.n_len (aa_cons (av 1) aa_nil)) aa_nil)) (blkOk_by (by first | exact rfl | decide +kernel)) (fun _ _ _ _ _ => (ag_name 4 sc_LBest.nd)) (fun _ _ _ _ _ => (ats_one (at_eq hr (ae_sub' (av 1) (av 4)) (av 3)))) (fun _ _ _ _ _ => (ae_sub' (ae_sub' (av 0) (av 2)) (av 4)))))) aa_nil))))
  exact h
def B_LPaper : MS := (mSeq (mAsg (mCB fLen (mCons (mV 0) mNil)) (.nm 4))
    (mSeq (mFor (mRg1 (mCons (mV 4) mNil)) (.nm 5) (mFor (mRg1 (mCons (mV 4) mNil)) (.nm 6) (mSeq (mAsg (mBin fSub (mCall M_LOwn (mCons (mV 0) (mCons (mV 1) (mCons (mV 5) (mCons (mV 6) mNil))))) (mBin fMul (mV 3) (mCall M_LBest (mCons (mV 0) (mCons (mV 1) (mCons (mV 5) (mCons (mV 6) mNil))))))) (.nm 7))
    (mIfS (mAnd (mTV (mBin fNe (mV 5) (mV 6))) (mTV (mBin fGtD (mV 7) (mCall M_LOwn (mCons (mV 0) (mCons (mV 1) (mCons (mV 5) (mCons (mV 5) mNil)))))))) (mRet (mTup (mCons (mC (.str "envies")) (mCons (mV 5) (mCons (mV 6) mNil))))) mSkip))))
    (mRet (mTup (mCons (mV 2) mNil)))))
def M_LPaper : Fn := fnM 8 4 .pure B_LPaper
theorem ok_LPaper (T : Txt K mg) : FnOk P w K mg base CX0 2 T.f_LPaper T.d_LPaper ["worths", "sharing", "word", "but"] (spD K 4 M_LPaper) := by
  have h := fn_D (P := P) (w := w) (mg := mg) (base := base) (k := 1) (m := .pure) (body := B_LPaper) T.F_LPaper sc_LPaper fun cdv A outer s H E hr => (ass_cons (as_set sc_LPaper.nd (ae_len T.n_len (aa_cons (av 0) aa_nil)))
    (ass_cons (as_for PassesOwn.never rfl (ai_range1 T.n_range (aa_cons (av 4) aa_nil)) (ag_name 5 sc_LPaper.nd) (ass_one (as_for PassesOwn.never rfl (ai_range1 T.n_range (aa_cons (av 4) aa_nil)) (ag_name 6 sc_LPaper.nd) (ass_cons (as_set sc_LPaper.nd (ae_sub (ae_call (ok_LOwn T) hr T.g_LOwn T.F_LOwn.kp T.b_LOwn (aa_cons (av 0) (aa_cons (av 1) (aa_cons (av 5) (aa_cons (av 6) aa_nil)))) (np_cons (np_cons (np_cons (np_cons (fun _ _ _ _ h => np_nil h))))) (by omega)) (ae_mul (av 3) (ae_call (ok_LBest T) hr T.g_LBest T.F_LBest.kp T.b_LBest (aa_cons (av 0) (aa_cons (av 1) (aa_cons (av 5) (aa_cons (av 6) aa_nil)))) (np_cons (np_cons (np_cons (np_cons (fun _ _ _ _ h => np_nil h))))) (by omega)))))
    (ass_one (as_if (PW.pt (aw_and (at_ne hr (av 5) (av 6)) (aw_and1 (at_gt hr (av 7) (ae_call (ok_LOwn T) hr T.g_LOwn T.F_LOwn.kp T.b_LOwn (aa_cons (av 0) (aa_cons (av 1) (aa_cons (av 5) (aa_cons (av 5) aa_nil)))) (np_cons (np_cons (np_cons (np_cons (fun _ _ _ _ h => np_nil h))))) (by omega)))))) (ass_one (as_ret (ae_tup (aa_cons ae_str (aa_cons (av 5) (aa_cons (av 6) aa_nil)))))) ass_nil))))))
    (ass_one (as_ret (ae_tup (aa_cons (av 2) aa_nil))))))
  exact h
def B_LTuples : MS := (mSeq (mPar 2 3 (mCons (mVal (mLst mNil)) (mCons (mVal (mLC (mRg1 (mCons (mV 0) mNil)) (.nm 6) mYes (mTup (mCons (mV 6) mNil)) [6])) mNil)))
    (mSeq (mFor (mRg1 (mCons (mBin fSub (mV 0) (mC (.int 1))) mNil)) (.nm 1) (mSeq (mAsg (mVal (mLst mNil)) (.nm 4))
    (mSeq (mFor (mIt (mV 3)) (.nm 5) (mAsg (mBin fAdd (mV 4) (mVal (mLC (mRg2 (mCons (mBin fAdd (mBin fIx (mV 5) (mC (.int 0))) (mC (.int 1))) (mCons (mV 0) mNil))) (.nm 7) (mTV (mBin fNotIn (mV 7) (mV 5))) (mBin fAdd (mV 5) (mTup (mCons (mV 7) mNil))) [7]))) (.nm 4)))
    (mSeq (mAsg (mV 4) (.nm 3))
    (mAsg (mBin fAdd (mV 2) (mV 3)) (.nm 2))))))
    (mRet (mVal (mSorted (mV 2))))))
def M_LTuples : Fn := fnM 8 1 .pure B_LTuples
theorem ok_LTuples (T : Txt K mg) : FnOk P w K mg base CX0 1 T.f_LTuples T.d_LTuples ["n"] (spD K 1 M_LTuples) := by
  have h := fn_D (P := P) (w := w) (mg := mg) (base := base) (k := 0) (m := .pure) (body := B_LTuples) T.F_LTuples sc_LTuples fun cdv A outer s H E hr => (ass_cons (as_par rfl sc_LTuples.nd (aa_cons (ae_val (af_lst aa_nil)) (aa_cons (ae_val (af_lc [("i", 6)] rfl sc_LTuples.nd (ai_range1 T.n_range (aa_cons (av 0) aa_nil)) (blkOk_by (by first | exact rfl | decide +kernel)) (fun _ _ _ _ _ => (ag_name 6 sc_LTuples.nd)) (fun _ _ _ _ _ => ats_nil) (fun _ _ _ _ _ => (ae_tup (aa_cons (av 6) aa_nil))))) aa_nil)))
    (ass_cons (as_for PassesOwn.never rfl (ai_range1 T.n_range (aa_cons (ae_sub (av 0) ae_int) aa_nil)) (ag_name 1 sc_LTuples.nd) (ass_cons (as_set sc_LTuples.nd (ae_val (af_lst aa_nil)))
    (ass_cons (as_for PassesOwn.never rfl (ai_any (av 3)) (ag_name 5 sc_LTuples.nd) (ass_one (as_set sc_LTuples.nd (ae_add (av 4) (ae_val (af_lc [("j", 7)] rfl sc_LTuples.nd (ai_range2 T.n_range (aa_cons (ae_add (ae_sub' (av 5) ae_int) ae_int) (aa_cons (av 0) aa_nil))) (blkOk_by (by first | exact rfl | decide +kernel)) (fun _ _ _ _ _ => (ag_name 7 sc_LTuples.nd)) (fun _ _ _ _ _ => (ats_one (at_nin hr (av 7) (av 5)))) (fun _ _ _ _ _ => (ae_add (av 5) (ae_tup (aa_cons (av 7) aa_nil))))))))))
    (ass_cons (as_set sc_LTuples.nd (av 4))
    (ass_one (as_set sc_LTuples.nd (ae_add (av 2) (av 3))))))))
    (ass_one (as_ret (ae_val (af_sorted hr T.n_sorted (av 2)))))))
  exact h
def B_LShared : MS := (mSeq (mAsg (mCB fLen (mCons (mV 0) mNil)) (.nm 1))
    (mSeq (mAsg (mTup mNil) (.nm 2))
    (mSeq (mFor (mRg1 (mCons (mCB fLen (mCons (mBin fIx (mV 0) (mC (.int 0))) mNil)) mNil)) (.nm 3) (mSeq (mFor (mRg1 (mCons (mC (.int 200)) mNil)) (.nm 4) (mSeq (mAsg (mSto (mLst mNil)) (.nm 6))
    (mSeq (mFor (mRg1 (mCons (mV 1) mNil)) (.nm 7) (mDrop (mMt' fAppend (mV 6) (mCons (mVal (mLC (mRg1 (mCons (mV 1) mNil)) (.nm 13) (mTV (mBin fGtD (mCall M_LOwn (mCons (mV 0) (mCons (mV 2) (mCons (mV 7) (mCons (mV 13) mNil))))) (mCall M_LOwn (mCons (mV 0) (mCons (mV 2) (mCons (mV 7) (mCons (mV 7) mNil))))))) (mV 13) [13])) mNil))))
    (mSeq (mAsg (mVal (mLC (mIt (mCall M_LTuples (mCons (mV 1) mNil))) (.nm 12) (mTru (mCB fAll (mCons (mVal (mLC (mRg1 (mCons (mCB fLen (mCons (mV 12) mNil)) mNil)) (.nm 11) mYes (mBin fIn (mBin fIx (mV 12) (mV 11)) (mBin fIx (mV 6) (mBin fIx (mV 12) (mBin fSub (mV 11) (mC (.int 1)))))) [11])) mNil))) (mV 12) [12])) (.nm 8))
    (mSeq (mIfS (mNot (mTru (mV 8))) mBk mSkip)
    (mSeq (mAsg (mBin fIx (mV 8) (mC (.int 0))) (.nm 9))
    (mSeq (mAsg mDict (.nm 10))
    (mSeq (mFor (mRg1 (mCons (mCB fLen (mCons (mV 9) mNil)) mNil)) (.nm 11) (mSetK (mBin fIx (mV 9) (mBin fSub (mV 11) (mC (.int 1)))) (mV 10) (mBin fIx (mV 9) (mV 11))))
    (mAsg (mCB fTuple (mCons (mVal (mLC (mIt (mV 2)) (.nm 12) mYes (mGet2 (mV 10) (mV 12) (mV 12)) [12])) mNil)) (.nm 2))))))))))
    (mSeq (mAsg (mVal (mLC (mRg1 (mCons (mV 1) mNil)) (.nm 7) (mNot (mTru (mCB fAny (mCons (mVal (mLC (mIt (mV 6)) (.nm 14) mYes (mBin fIn (mV 7) (mV 14)) [14])) mNil)))) (mV 7) [7])) (.nm 5))
    (mAsg (mBin fAdd (mV 2) (mTup (mCons (mBin fIx (mV 5) (mC (.int 0))) mNil))) (.nm 2)))))
    (mRet (mV 2)))))
def M_LShared : Fn := fnM 15 1 .pure B_LShared
theorem ok_LShared (T : Txt K mg) : FnOk P w K mg base CX0 2 T.f_LShared T.d_LShared ["worths"] (spD K 1 M_LShared) := by
  have h := fn_D (P := P) (w := w) (mg := mg) (base := base) (k := 1) (m := .pure) (body := B_LShared) T.F_LShared sc_LShared fun cdv A outer s H E hr => (ass_cons (as_set sc_LShared.nd (ae_len T.n_len (aa_cons (av 0) aa_nil)))
    (ass_cons (as_set sc_LShared.nd (ae_tup aa_nil))
    (ass_cons (as_for PassesOwn.never rfl (ai_range1 T.n_range (aa_cons (ae_len T.n_len (aa_cons (ae_sub' (av 0) ae_int) aa_nil)) aa_nil)) (ag_name 3 sc_LShared.nd) (ass_cons (as_for PassesOwn.never rfl (ai_range1 T.n_range (aa_cons ae_int aa_nil)) (ag_name 4 sc_LShared.nd) (ass_cons (as_set sc_LShared.nd (ae_sto (af_lst aa_nil)))
    (ass_cons (as_for PassesOwn.never rfl (ai_range1 T.n_range (aa_cons (av 1) aa_nil)) (ag_name 7 sc_LShared.nd) (ass_one (as_expr (ae_append (av 6) (aa_cons (ae_val (af_lc [("j", 13)] rfl sc_LShared.nd (ai_range1 T.n_range (aa_cons (av 1) aa_nil)) (blkOk_by (by first | exact rfl | decide +kernel)) (fun _ _ _ _ _ => (ag_name 13 sc_LShared.nd)) (fun _ _ _ _ _ => (ats_one (at_gt hr (ae_call (ok_LOwn T) hr T.g_LOwn T.F_LOwn.kp T.b_LOwn (aa_cons (av 0) (aa_cons (av 2) (aa_cons (av 7) (aa_cons (av 13) aa_nil)))) (np_cons (np_cons (np_cons (np_cons (fun _ _ _ _ h => np_nil h))))) (by omega)) (ae_call (ok_LOwn T) hr T.g_LOwn T.F_LOwn.kp T.b_LOwn (aa_cons (av 0) (aa_cons (av 2) (aa_cons (av 7) (aa_cons (av 7) aa_nil)))) (np_cons (np_cons (np_cons (np_cons (fun _ _ _ _ h => np_nil h))))) (by omega))))) (fun _ _ _ _ _ => (av 13)))) aa_nil)))))
    (ass_cons (as_setLc [("one", 12)] rfl sc_LShared.nd (ai_any (ae_call (ok_LTuples T) hr T.g_LTuples T.F_LTuples.kp T.b_LTuples (aa_cons (av 1) aa_nil) (np_cons (fun _ _ _ _ h => np_nil h)) (by omega))) (blkOk_by (by first | exact rfl | decide +kernel)) (fun _ _ _ _ _ => (ag_name 12 sc_LShared.nd)) (fun _ _ _ _ _ => (ats_one (at_truth (ae_all rfl T.n_all (aa_cons (ae_val (af_lc [("k", 11)] rfl sc_LShared.nd (ai_range1 T.n_range (aa_cons (ae_len T.n_len (aa_cons (av 12) aa_nil)) aa_nil)) (blkOk_by (by first | exact rfl | decide +kernel)) (fun _ _ _ _ _ => (ag_name 11 sc_LShared.nd)) (fun _ _ _ _ _ => ats_nil) (fun _ _ _ _ _ => (ae_in hr (ae_sub' (av 12) (av 11)) (ae_sub' (av 6) (ae_sub' (av 12) (ae_sub (av 11) ae_int))))))) aa_nil))))) (fun _ _ _ _ _ => (av 12)) (sto := false))
    (ass_cons (as_if (at_not (at_truth (av 8))) (ass_one as_break) ass_nil)
    (ass_cons (as_set sc_LShared.nd (ae_sub' (av 8) ae_int))
    (ass_cons (as_set sc_LShared.nd ae_dict)
    (ass_cons (as_for PassesOwn.never rfl (ai_range1 T.n_range (aa_cons (ae_len T.n_len (aa_cons (av 9) aa_nil)) aa_nil)) (ag_name 11 sc_LShared.nd) (ass_one (as_setK hr (ae_sub' (av 9) (ae_sub (av 11) ae_int)) (av 10) (ae_sub' (av 9) (av 11)))))
    (ass_one (as_set sc_LShared.nd (ae_tuple T.n_tuple (aa_cons (ae_val (af_lc [("one", 12)] rfl sc_LShared.nd (ai_any (av 2)) (blkOk_by (by first | exact rfl | decide +kernel)) (fun _ _ _ _ _ => (ag_name 12 sc_LShared.nd)) (fun _ _ _ _ _ => ats_nil) (fun _ _ _ _ _ => (ae_get2 hr (av 10) (av 12) (av 12))))) aa_nil))))))))))))
    (ass_cons (as_setLc [("i", 7)] rfl sc_LShared.nd (ai_range1 T.n_range (aa_cons (av 1) aa_nil)) (blkOk_by (by first | exact rfl | decide +kernel)) (fun _ _ _ _ _ => (ag_name 7 sc_LShared.nd)) (fun _ _ _ _ _ => (ats_one (at_not (at_truth (ae_any rfl T.n_any (aa_cons (ae_val (af_lc [("row", 14)] rfl sc_LShared.nd (ai_any (av 6)) (blkOk_by (by first | exact rfl | decide +kernel)) (fun _ _ _ _ _ => (ag_name 14 sc_LShared.nd)) (fun _ _ _ _ _ => ats_nil) (fun _ _ _ _ _ => (ae_in hr (av 7) (av 14))))) aa_nil)))))) (fun _ _ _ _ _ => (av 7)) (sto := false))
    (ass_one (as_set sc_LShared.nd (ae_add (av 2) (ae_tup (aa_cons (ae_sub' (av 5) ae_int) aa_nil))))))))
    (ass_one (as_ret (av 2))))))
  exact h
def B_LSharings : MS := (mSeq (mAsg (mVal (mLst (mCons (mTup mNil) mNil))) (.nm 2))
    (mSeq (mFor (mRg1 (mCons (mV 1) mNil)) (.nm 3) (mSeq (mAsg (mVal (mLst mNil)) (.nm 4))
    (mSeq (mFor (mIt (mV 2)) (.nm 5) (mAsg (mBin fAdd (mV 4) (mVal (mLC (mRg1 (mCons (mV 0) mNil)) (.nm 6) mYes (mBin fAdd (mV 5) (mTup (mCons (mV 6) mNil))) [6]))) (.nm 4)))
    (mAsg (mV 4) (.nm 2)))))
    (mRet (mV 2))))
def M_LSharings : Fn := fnM 7 2 .pure B_LSharings
theorem ok_LSharings (T : Txt K mg) : FnOk P w K mg base CX0 1 T.f_LSharings T.d_LSharings ["n", "m"] (spD K 2 M_LSharings) := by
  have h := fn_D (P := P) (w := w) (mg := mg) (base := base) (k := 0) (m := .pure) (body := B_LSharings) T.F_LSharings sc_LSharings fun cdv A outer s H E hr => (ass_cons (as_set sc_LSharings.nd (ae_val (af_lst (aa_cons (ae_tup aa_nil) aa_nil))))
    (ass_cons (as_for PassesOwn.never rfl (ai_range1 T.n_range (aa_cons (av 1) aa_nil)) (ag_name 3 sc_LSharings.nd) (ass_cons (as_set sc_LSharings.nd (ae_val (af_lst aa_nil)))
    (ass_cons (as_for PassesOwn.never rfl (ai_any (av 2)) (ag_name 5 sc_LSharings.nd) (ass_one (as_set sc_LSharings.nd (ae_add (av 4) (ae_val (af_lc [("i", 6)] rfl sc_LSharings.nd (ai_range1 T.n_range (aa_cons (av 0) aa_nil)) (blkOk_by (by first | exact rfl | decide +kernel)) (fun _ _ _ _ _ => (ag_name 6 sc_LSharings.nd)) (fun _ _ _ _ _ => ats_nil) (fun _ _ _ _ _ => (ae_add (av 5) (ae_tup (aa_cons (av 6) aa_nil))))))))))
    (ass_one (as_set sc_LSharings.nd (av 4))))))
    (ass_one (as_ret (av 2)))))
  exact h
def B_LAW : MS := (mSeq (mAsg (mCall M_LStart (mCons (mV 0) mNil)) (.nm 1))
    (mSeq (mAsg (mTup (mCons (mBin fAdd (mC (.int 1)) (mCall M_LTake (mCons (mV 1) (mCons (mC (.int 3)) mNil)))) (mCons (mBin fAdd (mC (.int 1)) (mCall M_LTake (mCons (mV 1) (mCons (mC (.int 5)) mNil)))) mNil))) (.tp [7, 8]))
    (mSeq (mAsg (mBin fIx (mVal (mLst (mCons (mC (.int 3)) (mCons (mC (.int 9)) (mCons (mC (.int 30)) mNil))))) (mCall M_LTake (mCons (mV 1) (mCons (mC (.int 3)) mNil)))) (.nm 2))
    (mSeq (mAsg (mCB fTuple (mCons (mVal (mLC (mRg1 (mCons (mV 7) mNil)) (.nm 11) mYes (mCB fTuple (mCons (mVal (mLC (mRg1 (mCons (mV 8) mNil)) (.nm 12) mYes (mCall M_LTake (mCons (mV 1) (mCons (mV 2) mNil))) [12])) mNil)) [11])) mNil)) (.nm 3))
    (mSeq (mFor (mRg1 (mCons (mC (.int 4)) mNil)) (.nm 4) (mSeq (mAsg (mCB fTuple (mCons (mVal (mLC (mRg1 (mCons (mV 8) mNil)) (.nm 12) mYes (mCall M_LTake (mCons (mV 1) (mCons (mV 7) mNil))) [12])) mNil)) (.nm 9))
    (mSeq (mIfS (mNot (mTru (mCall M_LAlike (mCons (mCall M_envyPaper (mCons (mV 3) (mCons (mV 9) mNil))) (mCons (mCall M_LPaper (mCons (mV 3) (mCons (mV 9) (mCons (mC (.str "no envy")) (mCons (mC (.int 0)) mNil))))) mNil))))) (mRet (mC (.bl false))) mSkip)
    (mIfS (mNot (mTru (mCall M_LAlike (mCons (mCall M_butOnePaper (mCons (mV 3) (mCons (mV 9) mNil))) (mCons (mCall M_LPaper (mCons (mV 3) (mCons (mV 9) (mCons (mC (.str "but one")) (mCons (mC (.int 1)) mNil))))) mNil))))) (mRet (mC (.bl false))) mSkip))))
    (mSeq (mAsg (mCall M_shareOut (mCons (mV 3) mNil)) (.nm 5))
    (mSeq (mIfS (mOr (mNot (mTru (mCall M_LAlike (mCons (mV 5) (mCons (mCall M_LShared (mCons (mV 3) mNil)) mNil))))) (mTV (mBin fNe (mCall M_butOnePaper (mCons (mV 3) (mCons (mV 5) mNil))) (mTup (mCons (mC (.str "but one")) mNil))))) (mRet (mC (.bl false))) mSkip)
    (mSeq (mAsg (mVal (mLC (mIt (mCall M_LSharings (mCons (mV 7) (mCons (mV 8) mNil)))) (.nm 10) (mTV (mBin fEq (mCall M_LPaper (mCons (mV 3) (mCons (mV 10) (mCons (mC (.str "no envy")) (mCons (mC (.int 0)) mNil))))) (mTup (mCons (mC (.str "no envy")) mNil)))) (mV 10) [10])) (.nm 6))
    (mRet (mCall M_LAlike (mCons (mCall M_noEnvySharing (mCons (mV 3) mNil)) (mCons (mIf (mTru (mV 6)) (mBin fIx (mV 6) (mC (.int 0))) (mC .non)) mNil))))))))))))
def M_LAW : Fn := fnM 13 1 .keep B_LAW
theorem ok_LAW (T : Txt K mg) : FnOk P w K mg base CX0 18 T.f_LAW T.d_LAW ["script"] (spD K 1 M_LAW) := by
  have h := fn_D (P := P) (w := w) (mg := mg) (base := base) (k := 17) (m := .keep) (body := B_LAW) T.F_LAW sc_LAW fun cdv A outer s H E hr => (ass_cons (as_set sc_LAW.nd (ae_call (ok_LStart T) hr T.g_LStart T.F_LStart.kp T.b_LStart (aa_cons (av 0) aa_nil) (np_cons (fun _ _ _ _ h => np_nil h)) (by omega)))
    (ass_cons (as_asg (ae_tup (aa_cons (ae_add ae_int (ae_call (ok_LTake T) hr T.g_LTake T.F_LTake.kp T.b_LTake (aa_cons (av 1) (aa_cons ae_int aa_nil)) (np_cons (np_cons (fun _ _ _ _ h => np_nil h))) (by omega))) (aa_cons (ae_add ae_int (ae_call (ok_LTake T) hr T.g_LTake T.F_LTake.kp T.b_LTake (aa_cons (av 1) (aa_cons ae_int aa_nil)) (np_cons (np_cons (fun _ _ _ _ h => np_nil h))) (by omega))) aa_nil))) (ag_tup rfl (pgs_cons (ag_name 7 sc_LAW.nd) (pgs_cons (ag_name 8 sc_LAW.nd) agn_nil))))
    (ass_cons (as_set sc_LAW.nd (ae_sub' (ae_val (af_lst (aa_cons ae_int (aa_cons ae_int (aa_cons ae_int aa_nil))))) (ae_call (ok_LTake T) hr T.g_LTake T.F_LTake.kp T.b_LTake (aa_cons (av 1) (aa_cons ae_int aa_nil)) (np_cons (np_cons (fun _ _ _ _ h => np_nil h))) (by omega))))
    (ass_cons (as_set sc_LAW.nd (ae_tuple T.n_tuple (aa_cons (ae_val (af_lc [("i", 11)] rfl sc_LAW.nd (ai_range1 T.n_range (aa_cons (av 7) aa_nil)) (blkOk_by (by first | exact rfl | decide +kernel)) (fun _ _ _ _ _ => (ag_name 11 sc_LAW.nd)) (fun _ _ _ _ _ => ats_nil) (fun _ _ _ _ _ => (ae_tuple T.n_tuple (aa_cons (ae_val (af_lc [("g", 12)] rfl sc_LAW.nd (ai_range1 T.n_range (aa_cons (av 8) aa_nil)) (blkOk_by (by first | exact rfl | decide +kernel)) (fun _ _ _ _ _ => (ag_name 12 sc_LAW.nd)) (fun _ _ _ _ _ => ats_nil) (fun _ _ _ _ _ => (ae_call (ok_LTake T) hr T.g_LTake T.F_LTake.kp T.b_LTake (aa_cons (av 1) (aa_cons (av 2) aa_nil)) (np_cons (np_cons (fun _ _ _ _ h => np_nil h))) (by omega))))) aa_nil))))) aa_nil)))
    (ass_cons (as_for PassesOwn.never rfl (ai_range1 T.n_range (aa_cons ae_int aa_nil)) (ag_name 4 sc_LAW.nd) (ass_cons (as_set sc_LAW.nd (ae_tuple T.n_tuple (aa_cons (ae_val (af_lc [("g", 12)] rfl sc_LAW.nd (ai_range1 T.n_range (aa_cons (av 8) aa_nil)) (blkOk_by (by first | exact rfl | decide +kernel)) (fun _ _ _ _ _ => (ag_name 12 sc_LAW.nd)) (fun _ _ _ _ _ => ats_nil) (fun _ _ _ _ _ => (ae_call (ok_LTake T) hr T.g_LTake T.F_LTake.kp T.b_LTake (aa_cons (av 1) (aa_cons (av 7) aa_nil)) (np_cons (np_cons (fun _ _ _ _ h => np_nil h))) (by omega))))) aa_nil)))
    (ass_cons (as_if (at_not (at_truth (ae_call (ok_LAlike T) hr T.g_LAlike T.F_LAlike.kp T.b_LAlike (aa_cons (ae_call (ok_envyPaper T) hr T.g_envyPaper T.F_envyPaper.kp T.b_envyPaper (aa_cons (av 3) (aa_cons (av 9) aa_nil)) (np_cons (np_cons (fun _ _ _ _ h => np_nil h))) (by omega)) (aa_cons (ae_call (ok_LPaper T) hr T.g_LPaper T.F_LPaper.kp T.b_LPaper (aa_cons (av 3) (aa_cons (av 9) (aa_cons ae_str (aa_cons ae_int aa_nil)))) (np_cons (np_cons (np_cons (np_cons (fun _ _ _ _ h => np_nil h))))) (by omega)) aa_nil)) (np_cons (np_cons (fun _ _ _ _ h => np_nil h))) (by omega)))) (ass_one (as_ret ae_bl)) ass_nil)
    (ass_one (as_if (at_not (at_truth (ae_call (ok_LAlike T) hr T.g_LAlike T.F_LAlike.kp T.b_LAlike (aa_cons (ae_call (ok_butOnePaper T) hr T.g_butOnePaper T.F_butOnePaper.kp T.b_butOnePaper (aa_cons (av 3) (aa_cons (av 9) aa_nil)) (np_cons (np_cons (fun _ _ _ _ h => np_nil h))) (by omega)) (aa_cons (ae_call (ok_LPaper T) hr T.g_LPaper T.F_LPaper.kp T.b_LPaper (aa_cons (av 3) (aa_cons (av 9) (aa_cons ae_str (aa_cons ae_int aa_nil)))) (np_cons (np_cons (np_cons (np_cons (fun _ _ _ _ h => np_nil h))))) (by omega)) aa_nil)) (np_cons (np_cons (fun _ _ _ _ h => np_nil h))) (by omega)))) (ass_one (as_ret ae_bl)) ass_nil)))))
    (ass_cons (as_set sc_LAW.nd (ae_call (ok_shareOut T) hr T.g_shareOut T.F_shareOut.kp T.b_shareOut (aa_cons (av 3) aa_nil) (np_cons (fun _ _ _ _ h => np_nil h)) (by omega)))
    (ass_cons (as_if (PW.pt (aw_or (at_not (at_truth (ae_call (ok_LAlike T) hr T.g_LAlike T.F_LAlike.kp T.b_LAlike (aa_cons (av 5) (aa_cons (ae_call (ok_LShared T) hr T.g_LShared T.F_LShared.kp T.b_LShared (aa_cons (av 3) aa_nil) (np_cons (fun _ _ _ _ h => np_nil h)) (by omega)) aa_nil)) (np_cons (np_cons (fun _ _ _ _ h => np_nil h))) (by omega)))) (aw_or1 (at_ne hr (ae_call (ok_butOnePaper T) hr T.g_butOnePaper T.F_butOnePaper.kp T.b_butOnePaper (aa_cons (av 3) (aa_cons (av 5) aa_nil)) (np_cons (np_cons (fun _ _ _ _ h => np_nil h))) (by omega)) (ae_tup (aa_cons ae_str aa_nil)))))) (ass_one (as_ret ae_bl)) ass_nil)
    (ass_cons (as_setLc [("one", 10)] rfl sc_LAW.nd (ai_any (ae_call (ok_LSharings T) hr T.g_LSharings T.F_LSharings.kp T.b_LSharings (aa_cons (av 7) (aa_cons (av 8) aa_nil)) (np_cons (np_cons (fun _ _ _ _ h => np_nil h))) (by omega))) (blkOk_by (by first | exact rfl | decide +kernel)) (fun _ _ _ _ _ => (ag_name 10 sc_LAW.nd)) (fun _ _ _ _ _ => (ats_one (at_eq hr (ae_call (ok_LPaper T) hr T.g_LPaper T.F_LPaper.kp T.b_LPaper (aa_cons (av 3) (aa_cons (av 10) (aa_cons ae_str (aa_cons ae_int aa_nil)))) (np_cons (np_cons (np_cons (np_cons (fun _ _ _ _ h => np_nil h))))) (by omega)) (ae_tup (aa_cons ae_str aa_nil))))) (fun _ _ _ _ _ => (av 10)) (sto := false))
    (ass_one (as_ret (ae_call (ok_LAlike T) hr T.g_LAlike T.F_LAlike.kp T.b_LAlike (aa_cons (ae_call (ok_noEnvySharing T) hr T.g_noEnvySharing T.F_noEnvySharing.kp T.b_noEnvySharing (aa_cons (av 3) aa_nil) (np_cons (fun _ _ _ _ h => np_nil h)) (by omega)) (aa_cons (ae_if (at_truth (av 6)) (ae_sub' (av 6) ae_int) ae_non) aa_nil)) (np_cons (np_cons (fun _ _ _ _ h => np_nil h))) (by omega))))))))))))
  exact h
end
def spLaw (K : PySem.W.Frag) : Sp := fun vs H Q _ => ∃ (a : Addr) (ns : List Int), vs = [.ref a] ∧ SqL K H a (ns.map V.int) ∧ ns.length ≤ 63 ∧ ∀ H', Q (.bl true) H'
/-- what is to be shown of the law, without the program -/
def Good : Prop := ∀ ns : List Int, ns.length ≤ 63 → ∃ S', M_LAW [.fr (ns.map D.int)] [] = some (.bl true, S')
theorem sp_law {K : PySem.W.Frag} (G : Good) (vs : List V) (H : Hp) (Q : VK) (E : XK) (h : spLaw K vs H Q E) : spD K 1 M_LAW vs H Q E := by
  obtain ⟨a, ns, rfl, hs, hl, q⟩ := h
  obtain ⟨S', hg⟩ := G ns hl
  refine ⟨rfl, ⟨[], fun _ => False⟩, [], _, _, S', .cons (.of_SqL (fun _ _ => ⟨by simp, fun z => z⟩) hs .map_int) .nil, ⟨rfl, List.nodup_nil, fun i a o h => by simp at h, fun a h => by simp at h, fun _ z => z.elim⟩, hg, fun w' H' v _ _ r => ?_⟩
  rw [r.bl_inv]
  exact q H'
theorem all_mk (G : Good) {l : PySem.W.OpenLaw} {w : World} {K : PySem.W.Frag} {h : Heap} {mg : Str → Option Value} {fa f0 f1 f2 f3 f4 f5 f6 f7 f8 f9 f10 f11 f12 f13 f14 f15 f16 f17 f18 f19 : Addr} (X : K.In h) (GG : h.Ns mainGlobals mg) (hfa : mg "law" = some (.ref fa))
    {od0 an0 od1 an1 od2 an2 od3 an3 od4 an4 od5 an5 od6 an6 od7 an7 od8 an8 od9 an9 od10 an10 od11 an11 od12 an12 od13 an13 od14 an14 od15 an15 od16 an16 od17 an17 od18 an18 od19 an19 : Option Addr} {sl0 sl1 sl2 sl3 sl4 sl5 sl6 sl7 sl8 sl9 sl10 sl11 sl12 sl13 sl14 sl15 sl16 sl17 sl18 sl19 : Array (Option Value)} {oc0 kV0 dc0 pm0 cd0 ct0 oc1 kV1 dc1 pm1 cd1 ct1 oc2 kV2 dc2 pm2 cd2 ct2 oc3 kV3 dc3 pm3 cd3 ct3 oc4 kV4 dc4 pm4 cd4 ct4 oc5 kV5 dc5 pm5 cd5 ct5 oc6 kV6 dc6 pm6 cd6 ct6 oc7 kV7 dc7 pm7 cd7 ct7 oc8 kV8 dc8 pm8 cd8 ct8 oc9 kV9 dc9 pm9 cd9 ct9 oc10 kV10 dc10 pm10 cd10 ct10 oc11 kV11 dc11 pm11 cd11 ct11 oc12 kV12 dc12 pm12 cd12 ct12 oc13 kV13 dc13 pm13 cd13 ct13 oc14 kV14 dc14 pm14 cd14 ct14 oc15 kV15 dc15 pm15 cd15 ct15 oc16 kV16 dc16 pm16 cd16 ct16 oc17 kV17 dc17 pm17 cd17 ct17 oc18 kV18 dc18 pm18 cd18 ct18 oc19 kV19 dc19 pm19 cd19 ct19 : Value}
    (a0 : PySem.W.nsIn K mainGlobals "own" = some (some (.ref f0))) (l0 : K.lookup f0 = some ⟨oc0, od0, .func (PySem.W.fnOf "own" "own" (defArgs s_own) (defBody s_own) (defScope s_own) .none kV0 dc0 pm0 an0 cd0 ct0), sl0⟩) (c0 : PySem.W.codeIn K cd0 "own" = true) (k0 : PySem.W.keepIn K (.ref f0) = true)
    (a1 : PySem.W.nsIn K mainGlobals "best_of" = some (some (.ref f1))) (l1 : K.lookup f1 = some ⟨oc1, od1, .func (PySem.W.fnOf "best_of" "best_of" (defArgs s_bestOf) (defBody s_bestOf) (defScope s_bestOf) .none kV1 dc1 pm1 an1 cd1 ct1), sl1⟩) (c1 : PySem.W.codeIn K cd1 "best_of" = true) (k1 : PySem.W.keepIn K (.ref f1) = true)
    (a2 : PySem.W.nsIn K mainGlobals "envies" = some (some (.ref f2))) (l2 : K.lookup f2 = some ⟨oc2, od2, .func (PySem.W.fnOf "envies" "envies" (defArgs s_envies) (defBody s_envies) (defScope s_envies) .none kV2 dc2 pm2 an2 cd2 ct2), sl2⟩) (c2 : PySem.W.codeIn K cd2 "envies" = true) (k2 : PySem.W.keepIn K (.ref f2) = true)
    (a3 : PySem.W.nsIn K mainGlobals "envy_paper" = some (some (.ref f3))) (l3 : K.lookup f3 = some ⟨oc3, od3, .func (PySem.W.fnOf "envy_paper" "envy_paper" (defArgs s_envyPaper) (defBody s_envyPaper) (defScope s_envyPaper) .none kV3 dc3 pm3 an3 cd3 ct3), sl3⟩) (c3 : PySem.W.codeIn K cd3 "envy_paper" = true) (k3 : PySem.W.keepIn K (.ref f3) = true)
    (a4 : PySem.W.nsIn K mainGlobals "but_one_paper" = some (some (.ref f4))) (l4 : K.lookup f4 = some ⟨oc4, od4, .func (PySem.W.fnOf "but_one_paper" "but_one_paper" (defArgs s_butOnePaper) (defBody s_butOnePaper) (defScope s_butOnePaper) .none kV4 dc4 pm4 an4 cd4 ct4), sl4⟩) (c4 : PySem.W.codeIn K cd4 "but_one_paper" = true) (k4 : PySem.W.keepIn K (.ref f4) = true)
    (a5 : PySem.W.nsIn K mainGlobals "first_circle" = some (some (.ref f5))) (l5 : K.lookup f5 = some ⟨oc5, od5, .func (PySem.W.fnOf "first_circle" "first_circle" (defArgs s_firstCircle) (defBody s_firstCircle) (defScope s_firstCircle) .none kV5 dc5 pm5 an5 cd5 ct5), sl5⟩) (c5 : PySem.W.codeIn K cd5 "first_circle" = true) (k5 : PySem.W.keepIn K (.ref f5) = true)
    (a6 : PySem.W.nsIn K mainGlobals "turned" = some (some (.ref f6))) (l6 : K.lookup f6 = some ⟨oc6, od6, .func (PySem.W.fnOf "turned" "turned" (defArgs s_turned) (defBody s_turned) (defScope s_turned) .none kV6 dc6 pm6 an6 cd6 ct6), sl6⟩) (c6 : PySem.W.codeIn K cd6 "turned" = true) (k6 : PySem.W.keepIn K (.ref f6) = true)
    (a7 : PySem.W.nsIn K mainGlobals "share_out" = some (some (.ref f7))) (l7 : K.lookup f7 = some ⟨oc7, od7, .func (PySem.W.fnOf "share_out" "share_out" (defArgs s_shareOut) (defBody s_shareOut) (defScope s_shareOut) .none kV7 dc7 pm7 an7 cd7 ct7), sl7⟩) (c7 : PySem.W.codeIn K cd7 "share_out" = true) (k7 : PySem.W.keepIn K (.ref f7) = true)
    (a8 : PySem.W.nsIn K mainGlobals "no_envy_sharing" = some (some (.ref f8))) (l8 : K.lookup f8 = some ⟨oc8, od8, .func (PySem.W.fnOf "no_envy_sharing" "no_envy_sharing" (defArgs s_noEnvySharing) (defBody s_noEnvySharing) (defScope s_noEnvySharing) .none kV8 dc8 pm8 an8 cd8 ct8), sl8⟩) (c8 : PySem.W.codeIn K cd8 "no_envy_sharing" = true) (k8 : PySem.W.keepIn K (.ref f8) = true)
    (a9 : PySem.W.nsIn K mainGlobals "_law_start" = some (some (.ref f9))) (l9 : K.lookup f9 = some ⟨oc9, od9, .func (PySem.W.fnOf "_law_start" "_law_start" (defArgs s_LStart) (defBody s_LStart) (defScope s_LStart) .none kV9 dc9 pm9 an9 cd9 ct9), sl9⟩) (c9 : PySem.W.codeIn K cd9 "_law_start" = true) (k9 : PySem.W.keepIn K (.ref f9) = true)
    (a10 : PySem.W.nsIn K mainGlobals "_law_fill" = some (some (.ref f10))) (l10 : K.lookup f10 = some ⟨oc10, od10, .func (PySem.W.fnOf "_law_fill" "_law_fill" (defArgs s_LFill) (defBody s_LFill) (defScope s_LFill) .none kV10 dc10 pm10 an10 cd10 ct10), sl10⟩) (c10 : PySem.W.codeIn K cd10 "_law_fill" = true) (k10 : PySem.W.keepIn K (.ref f10) = true)
    (a11 : PySem.W.nsIn K mainGlobals "_law_take" = some (some (.ref f11))) (l11 : K.lookup f11 = some ⟨oc11, od11, .func (PySem.W.fnOf "_law_take" "_law_take" (defArgs s_LTake) (defBody s_LTake) (defScope s_LTake) .none kV11 dc11 pm11 an11 cd11 ct11), sl11⟩) (c11 : PySem.W.codeIn K cd11 "_law_take" = true) (k11 : PySem.W.keepIn K (.ref f11) = true)
    (a12 : PySem.W.nsIn K mainGlobals "_law_alike" = some (some (.ref f12))) (l12 : K.lookup f12 = some ⟨oc12, od12, .func (PySem.W.fnOf "_law_alike" "_law_alike" (defArgs s_LAlike) (defBody s_LAlike) (defScope s_LAlike) .none kV12 dc12 pm12 an12 cd12 ct12), sl12⟩) (c12 : PySem.W.codeIn K cd12 "_law_alike" = true) (k12 : PySem.W.keepIn K (.ref f12) = true)
    (a13 : PySem.W.nsIn K mainGlobals "_law_own" = some (some (.ref f13))) (l13 : K.lookup f13 = some ⟨oc13, od13, .func (PySem.W.fnOf "_law_own" "_law_own" (defArgs s_LOwn) (defBody s_LOwn) (defScope s_LOwn) .none kV13 dc13 pm13 an13 cd13 ct13), sl13⟩) (c13 : PySem.W.codeIn K cd13 "_law_own" = true) (k13 : PySem.W.keepIn K (.ref f13) = true)
    (a14 : PySem.W.nsIn K mainGlobals "_law_best" = some (some (.ref f14))) (l14 : K.lookup f14 = some ⟨oc14, od14, .func (PySem.W.fnOf "_law_best" "_law_best" (defArgs s_LBest) (defBody s_LBest) (defScope s_LBest) .none kV14 dc14 pm14 an14 cd14 ct14), sl14⟩) (c14 : PySem.W.codeIn K cd14 "_law_best" = true) (k14 : PySem.W.keepIn K (.ref f14) = true)
    (a15 : PySem.W.nsIn K mainGlobals "_law_paper" = some (some (.ref f15))) (l15 : K.lookup f15 = some ⟨oc15, od15, .func (PySem.W.fnOf "_law_paper" "_law_paper" (defArgs s_LPaper) (defBody s_LPaper) (defScope s_LPaper) .none kV15 dc15 pm15 an15 cd15 ct15), sl15⟩) (c15 : PySem.W.codeIn K cd15 "_law_paper" = true) (k15 : PySem.W.keepIn K (.ref f15) = true)
    (a16 : PySem.W.nsIn K mainGlobals "_law_tuples" = some (some (.ref f16))) (l16 : K.lookup f16 = some ⟨oc16, od16, .func (PySem.W.fnOf "_law_tuples" "_law_tuples" (defArgs s_LTuples) (defBody s_LTuples) (defScope s_LTuples) .none kV16 dc16 pm16 an16 cd16 ct16), sl16⟩) (c16 : PySem.W.codeIn K cd16 "_law_tuples" = true) (k16 : PySem.W.keepIn K (.ref f16) = true)
    (a17 : PySem.W.nsIn K mainGlobals "_law_shared" = some (some (.ref f17))) (l17 : K.lookup f17 = some ⟨oc17, od17, .func (PySem.W.fnOf "_law_shared" "_law_shared" (defArgs s_LShared) (defBody s_LShared) (defScope s_LShared) .none kV17 dc17 pm17 an17 cd17 ct17), sl17⟩) (c17 : PySem.W.codeIn K cd17 "_law_shared" = true) (k17 : PySem.W.keepIn K (.ref f17) = true)
    (a18 : PySem.W.nsIn K mainGlobals "_law_sharings" = some (some (.ref f18))) (l18 : K.lookup f18 = some ⟨oc18, od18, .func (PySem.W.fnOf "_law_sharings" "_law_sharings" (defArgs s_LSharings) (defBody s_LSharings) (defScope s_LSharings) .none kV18 dc18 pm18 an18 cd18 ct18), sl18⟩) (c18 : PySem.W.codeIn K cd18 "_law_sharings" = true) (k18 : PySem.W.keepIn K (.ref f18) = true)
    (a19 : PySem.W.nsIn K mainGlobals "law" = some (some (.ref f19))) (l19 : K.lookup f19 = some ⟨oc19, od19, .func (PySem.W.fnOf "law" "law" (defArgs s_LAW) (defBody s_LAW) (defScope s_LAW) .none kV19 dc19 pm19 an19 cd19 ct19), sl19⟩) (c19 : PySem.W.codeIn K cd19 "law" = true) (k19 : PySem.W.keepIn K (.ref f19) = true)
    (z_all : PySem.W.nsIn K mainGlobals "all" = some none)
    (z_any : PySem.W.nsIn K mainGlobals "any" = some none)
    (z_bool : PySem.W.nsIn K mainGlobals "bool" = some none)
    (z_enumerate : PySem.W.nsIn K mainGlobals "enumerate" = some none)
    (z_int : PySem.W.nsIn K mainGlobals "int" = some none)
    (z_isinstance : PySem.W.nsIn K mainGlobals "isinstance" = some none)
    (z_len : PySem.W.nsIn K mainGlobals "len" = some none)
    (z_max : PySem.W.nsIn K mainGlobals "max" = some none)
    (z_min : PySem.W.nsIn K mainGlobals "min" = some none)
    (z_range : PySem.W.nsIn K mainGlobals "range" = some none)
    (z_sorted : PySem.W.nsIn K mainGlobals "sorted" = some none)
    (z_str : PySem.W.nsIn K mainGlobals "str" = some none)
    (z_sum : PySem.W.nsIn K mainGlobals "sum" = some none)
    (z_tuple : PySem.W.nsIn K mainGlobals "tuple" = some none)
    : ∃ fd : FuncData, (∀ (s : Shared) (v : Value), BindsTo s fd ⟨[v], []⟩ [("script", v)]) ∧ ∀ base : Heap, K.In base → base.Ns mainGlobals mg → FnOk l.prog w K mg base CX0 18 fa fd ["script"] (spLaw K) := by
  have e := hfa.symm.trans (PySem.W.mg_of X GG a19)
  cases e
  have F0 := fun_mk (st := s_own) l0 c0 k0
  have b0 := F0.binds (ps := ["worths", "sharing", "i", "j"]) fun _ _ _ _ _ _ us hl => match us, hl with | [_, _, _, _], _ => rfl
  have F1 := fun_mk (st := s_bestOf) l1 c1 k1
  have b1 := F1.binds (ps := ["worths", "sharing", "i", "j"]) fun _ _ _ _ _ _ us hl => match us, hl with | [_, _, _, _], _ => rfl
  have F2 := fun_mk (st := s_envies) l2 c2 k2
  have b2 := F2.binds (ps := ["worths", "sharing", "i", "j"]) fun _ _ _ _ _ _ us hl => match us, hl with | [_, _, _, _], _ => rfl
  have F3 := fun_mk (st := s_envyPaper) l3 c3 k3
  have b3 := F3.binds (ps := ["worths", "sharing"]) fun _ _ _ _ _ _ us hl => match us, hl with | [_, _], _ => rfl
  have F4 := fun_mk (st := s_butOnePaper) l4 c4 k4
  have b4 := F4.binds (ps := ["worths", "sharing"]) fun _ _ _ _ _ _ us hl => match us, hl with | [_, _], _ => rfl
  have F5 := fun_mk (st := s_firstCircle) l5 c5 k5
  have b5 := F5.binds (ps := ["worths", "sharing"]) fun _ _ _ _ _ _ us hl => match us, hl with | [_, _], _ => rfl
  have F6 := fun_mk (st := s_turned) l6 c6 k6
  have b6 := F6.binds (ps := ["sharing", "circle"]) fun _ _ _ _ _ _ us hl => match us, hl with | [_, _], _ => rfl
  have F7 := fun_mk (st := s_shareOut) l7 c7 k7
  have b7 := F7.binds (ps := ["worths"]) fun _ _ _ _ _ _ us hl => match us, hl with | [_], _ => rfl
  have F8 := fun_mk (st := s_noEnvySharing) l8 c8 k8
  have b8 := F8.binds (ps := ["worths"]) fun _ _ _ _ _ _ us hl => match us, hl with | [_], _ => rfl
  have F9 := fun_mk (st := s_LStart) l9 c9 k9
  have b9 := F9.binds (ps := ["script"]) fun _ _ _ _ _ _ us hl => match us, hl with | [_], _ => rfl
  have F10 := fun_mk (st := s_LFill) l10 c10 k10
  have b10 := F10.binds (ps := ["c"]) fun _ _ _ _ _ _ us hl => match us, hl with | [_], _ => rfl
  have F11 := fun_mk (st := s_LTake) l11 c11 k11
  have b11 := F11.binds (ps := ["c", "many"]) fun _ _ _ _ _ _ us hl => match us, hl with | [_, _], _ => rfl
  have F12 := fun_mk (st := s_LAlike) l12 c12 k12
  have b12 := F12.binds (ps := ["value", "due"]) fun _ _ _ _ _ _ us hl => match us, hl with | [_, _], _ => rfl
  have F13 := fun_mk (st := s_LOwn) l13 c13 k13
  have b13 := F13.binds (ps := ["worths", "sharing", "i", "j"]) fun _ _ _ _ _ _ us hl => match us, hl with | [_, _, _, _], _ => rfl
  have F14 := fun_mk (st := s_LBest) l14 c14 k14
  have b14 := F14.binds (ps := ["worths", "sharing", "i", "j"]) fun _ _ _ _ _ _ us hl => match us, hl with | [_, _, _, _], _ => rfl
  have F15 := fun_mk (st := s_LPaper) l15 c15 k15
  have b15 := F15.binds (ps := ["worths", "sharing", "word", "but"]) fun _ _ _ _ _ _ us hl => match us, hl with | [_, _, _, _], _ => rfl
  have F16 := fun_mk (st := s_LTuples) l16 c16 k16
  have b16 := F16.binds (ps := ["n"]) fun _ _ _ _ _ _ us hl => match us, hl with | [_], _ => rfl
  have F17 := fun_mk (st := s_LShared) l17 c17 k17
  have b17 := F17.binds (ps := ["worths"]) fun _ _ _ _ _ _ us hl => match us, hl with | [_], _ => rfl
  have F18 := fun_mk (st := s_LSharings) l18 c18 k18
  have b18 := F18.binds (ps := ["n", "m"]) fun _ _ _ _ _ _ us hl => match us, hl with | [_, _], _ => rfl
  have F19 := fun_mk (st := s_LAW) l19 c19 k19
  have b19 := F19.binds (ps := ["script"]) fun _ _ _ _ _ _ us hl => match us, hl with | [_], _ => rfl
  let T : Txt K mg := {
    f_own := f0, d_own := _, F_own := F0, b_own := b0, g_own := PySem.W.mg_of X GG a0,
    f_bestOf := f1, d_bestOf := _, F_bestOf := F1, b_bestOf := b1, g_bestOf := PySem.W.mg_of X GG a1,
    f_envies := f2, d_envies := _, F_envies := F2, b_envies := b2, g_envies := PySem.W.mg_of X GG a2,
    f_envyPaper := f3, d_envyPaper := _, F_envyPaper := F3, b_envyPaper := b3, g_envyPaper := PySem.W.mg_of X GG a3,
    f_butOnePaper := f4, d_butOnePaper := _, F_butOnePaper := F4, b_butOnePaper := b4, g_butOnePaper := PySem.W.mg_of X GG a4,
    f_firstCircle := f5, d_firstCircle := _, F_firstCircle := F5, b_firstCircle := b5, g_firstCircle := PySem.W.mg_of X GG a5,
    f_turned := f6, d_turned := _, F_turned := F6, b_turned := b6, g_turned := PySem.W.mg_of X GG a6,
    f_shareOut := f7, d_shareOut := _, F_shareOut := F7, b_shareOut := b7, g_shareOut := PySem.W.mg_of X GG a7,
    f_noEnvySharing := f8, d_noEnvySharing := _, F_noEnvySharing := F8, b_noEnvySharing := b8, g_noEnvySharing := PySem.W.mg_of X GG a8,
    f_LStart := f9, d_LStart := _, F_LStart := F9, b_LStart := b9, g_LStart := PySem.W.mg_of X GG a9,
    f_LFill := f10, d_LFill := _, F_LFill := F10, b_LFill := b10, g_LFill := PySem.W.mg_of X GG a10,
    f_LTake := f11, d_LTake := _, F_LTake := F11, b_LTake := b11, g_LTake := PySem.W.mg_of X GG a11,
    f_LAlike := f12, d_LAlike := _, F_LAlike := F12, b_LAlike := b12, g_LAlike := PySem.W.mg_of X GG a12,
    f_LOwn := f13, d_LOwn := _, F_LOwn := F13, b_LOwn := b13, g_LOwn := PySem.W.mg_of X GG a13,
    f_LBest := f14, d_LBest := _, F_LBest := F14, b_LBest := b14, g_LBest := PySem.W.mg_of X GG a14,
    f_LPaper := f15, d_LPaper := _, F_LPaper := F15, b_LPaper := b15, g_LPaper := PySem.W.mg_of X GG a15,
    f_LTuples := f16, d_LTuples := _, F_LTuples := F16, b_LTuples := b16, g_LTuples := PySem.W.mg_of X GG a16,
    f_LShared := f17, d_LShared := _, F_LShared := F17, b_LShared := b17, g_LShared := PySem.W.mg_of X GG a17,
    f_LSharings := f18, d_LSharings := _, F_LSharings := F18, b_LSharings := b18, g_LSharings := PySem.W.mg_of X GG a18,
    f_LAW := fa, d_LAW := _, F_LAW := F19, b_LAW := b19, g_LAW := PySem.W.mg_of X GG a19,
    n_all := PySem.W.mg_none_of X GG z_all,
    n_any := PySem.W.mg_none_of X GG z_any,
    n_bool := PySem.W.mg_none_of X GG z_bool,
    n_enumerate := PySem.W.mg_none_of X GG z_enumerate,
    n_int := PySem.W.mg_none_of X GG z_int,
    n_isinstance := PySem.W.mg_none_of X GG z_isinstance,
    n_len := PySem.W.mg_none_of X GG z_len,
    n_max := PySem.W.mg_none_of X GG z_max,
    n_min := PySem.W.mg_none_of X GG z_min,
    n_range := PySem.W.mg_none_of X GG z_range,
    n_sorted := PySem.W.mg_none_of X GG z_sorted,
    n_str := PySem.W.mg_none_of X GG z_str,
    n_sum := PySem.W.mg_none_of X GG z_sum,
    n_tuple := PySem.W.mg_none_of X GG z_tuple }
  exact ⟨_, fun s v => .of_eq rfl, fun base _ _ => (ok_LAW (P := l.prog) (w := w) (base := base) T).imp (sp_law G)⟩
end K60

namespace K60
open PySem PySem.Spec PyProof.Rows L2 DV
def encN (s : List Nat) : List D := s.map fun (k : Nat) => D.int (k : Int)
def encR (r : List Int) : D := .tup (r.map D.int)
def encW (W : List (List Int)) : D := .tup (W.map encR)
def vals (ws : List Int) (s : List Nat) (j : Nat) : List Int := ((List.range s.length).filter fun g => s.getD g 0 == j).map fun g => ws.getD g 0
def ownR (ws : List Int) (s : List Nat) (j : Nat) : Int := (vals ws s j).sum
def bestR (ws : List Int) (s : List Nat) (j : Nat) : Int := maxI 0 (vals ws s j)
@[simp] theorem encN_length (s : List Nat) : (encN s).length = s.length := by simp [encN]
theorem encN_get {s : List Nat} {g : Nat} (h : g < s.length) : atI (encN s) (g : Int) = some (.int (s.getD g 0 : Nat)) := by
  unfold encN; rw [atI_map h]; simp [List.getD, h]
theorem encW_get {W : List (List Int)} {i : Nat} (h : i < W.length) : atI (W.map encR) (i : Int) = some (encR (W.getD i [])) := by
  rw [atI_map h]; simp [List.getD, h]
theorem encR_get {r : List Int} {i : Nat} (h : i < r.length) : atI (r.map D.int) (i : Int) = some (.int (r.getD i 0)) := by
  rw [atI_map h]; simp [List.getD, h]
theorem mapIdx_range {α β : Type} (f : Nat → α → β) (xs : List α) (z : α) : xs.mapIdx f = (List.range xs.length).map fun i => f i (xs.getD i z) := by
  apply List.ext_getElem
  · simp
  · intro i h1 h2
    simp at h1
    simp [List.getD, h1]
def isS (d : D) (s : List Nat) : Prop := d = .tup (encN s) ∨ d = .lst (encN s)
theorem isS.src {d : D} {s : List Nat} (h : isS d s) {S : Store} : srcOf d S = some (.seq (encN s)) := by rcases h with rfl | rfl <;> rfl
theorem isS.sq {d : D} {s : List Nat} (h : isS d s) {S : Store} : seqOf d S = some (encN s) := by rcases h with rfl | rfl <;> rfl
theorem isS.ix {d : D} {s : List Nat} (h : isS d s) {S : Store} {g : Nat} (hg : g < s.length) : fIx d (.int g) S = some (.int (s.getD g 0 : Nat), S) := by
  rcases h with rfl | rfl
  · rw [DV.ix_tup, encN_get hg]; rfl
  · rw [DV.ix_lst, encN_get hg]; rfl
theorem isS.enum {d : D} {s : List Nat} (h : isS d s) {e : Ev} {S S1 : Store} {m : ME} (hm : m e S = some (d, S1)) : mEnum m e S = some (Src.seq ((List.range s.length).map fun g => .tup [.int (g : Nat), .int (s.getD g 0 : Nat)]), S1) := by
  rw [r_Enum, hm, Option.bind_some]
  have : (encN s).mapIdx (fun i d => D.tup [.int (i : Nat), d]) = (List.range s.length).map fun g => .tup [.int (g : Nat), .int (s.getD g 0 : Nat)] := by
    unfold encN
    rw [mapIdx_range _ _ (.int ((0 : Nat) : Int)), List.length_map]; apply List.map_congr_left; intro g hg; have hg : g < s.length := by simpa using hg
    simp [List.getD, hg]
  rcases h with rfl | rfl <;> simp only [src_tup, src_lst, Option.bind_some, enum_seq, this]
theorem fSum_ints {ns : List Int} {S : Store} : fSum [.lst (ns.map D.int)] S = some (.int ns.sum, S) := by simp
theorem ibeq (a b : Nat) : ((a : Int) == (b : Int)) = (a == b) := by rw [Bool.eq_iff_iff]; simp [Int.natCast_inj]
theorem two_ix {W : List (List Int)} {i g : Nat} {S : Store} {mw mi mg : ME} {e : Ev} (h1 : mw e S = some (encW W, S)) (h2 : mi e S = some (.int (i : Nat), S)) (h3 : mg e S = some (.int (g : Nat), S)) (hi : i < W.length) (hg : g < (W.getD i []).length) :
    mBin fIx (mBin fIx mw mi) mg e S = some (.int ((W.getD i []).getD g 0), S) := by
  rw [r_Bin, r_Bin, h1]
  simp only [Option.bind_some]
  rw [h2]
  simp only [Option.bind_some, encW, DV.ix_tup]
  rw [encW_get hi]
  simp only [Option.bind_some]
  rw [h3]
  simp only [Option.bind_some, encR, DV.ix_tup]
  rw [encR_get hg]; rfl
theorem vals_D {ws : List Int} {s : List Nat} {j : Nat} : (List.filter (fun g => s.getD g 0 == j) (List.range s.length)).map (fun g => D.int (ws.getD g 0)) = (vals ws s j).map D.int := by simp [vals]
theorem fMax_ints {n : Int} {ns : List Int} {S : Store} : fMaxA [.lst (D.int n :: ns.map D.int)] S = some (.int (maxI n ns), S) := by
  have : intsOf (D.int n :: ns.map D.int) = some (n :: ns) := ints_map (n :: ns)
  simp only [fMaxA, fMinX, seq_lst, lst_lst, Option.bind_some, this]
theorem vals_lim {ws : List Int} {s : List Nat} {j : Nat} (hz : s.length < LIM) : 1 + (vals ws s j).length ≤ LIM := by
  have : (vals ws s j).length ≤ s.length := by rw [vals, List.length_map]; exact Nat.le_trans (List.length_filter_le _ _) (by simp)
  omega
abbrev cI (g : Nat) : D := .int (g : Int)
theorem rng_len {m : ME} {d : D} {e : Ev} {S : Store} {n : Nat} {xs : List D} (h : m e S = some (d, S)) (hs : ∀ y, d ≠ .str y) (h2 : seqOf d S = some xs) (hn : xs.length = n) (hz : n < LIM) : mRg1 (mCons (mCB fLen (mCons m mNil)) mNil) e S = some (.seq ((List.range n).map cI), S) :=
  rg1_of (one_of (cb_of (one_of h) (by rw [len_of hs h2, hn]))) (Nat.le_of_lt hz)
theorem isS.str {d : D} {s : List Nat} (h : isS d s) : ∀ y, d ≠ .str y := by rcases h with rfl | rfl <;> simp
section
variable {W : List (List Int)} {s : List Nat} {ds : D} {i j : Nat} {S : Store} (hd : isS ds s) (hi : i < W.length) (hl : s.length ≤ (W.getD i []).length) (hz : s.length < LIM)
include hd hi hl hz
theorem lim_vals : (List.map (fun g => D.int ((W.getD i []).getD g 0)) (List.filter (fun g => s.getD g 0 == j) (List.range s.length))).length ≤ LIM := by
  rw [List.length_map]; exact Nat.le_trans (List.length_filter_le _ _) (by simp only [List.length_range]; omega)
theorem M_own_eq : M_own [encW W, ds, .int i, .int j] S = some (.int (ownR (W.getD i []) s j), S) := by
  refine fn_rt (S' := S) rfl (ret_of (cb_of (one_of (val_lc (isS.enum hd rfl) (lcL_pure (α := Nat) (fun g => .tup [.int (g : Nat), .int (s.getD g 0 : Nat)]) (fun g => s.getD g 0 == j) (fun g => .int ((W.getD i []).getD g 0)) (List.range s.length) ?_) (lim_vals hd hi hl hz))) (by rw [vals_D, fSum_ints]; rfl))) (fin_pure fit_int)
  intro g hg
  have hg : g < s.length := by simpa using hg
  exact ⟨_, rfl, by simp [setAll, wipeE, ibeq], fun _ => two_ix rfl rfl rfl hi (by omega)⟩
theorem M_LOwn_eq : M_LOwn [encW W, ds, .int i, .int j] S = some (.int (ownR (W.getD i []) s j), S) := by
  refine fn_rt (S' := S) rfl (ret_of (cb_of (one_of (val_lc (rng_len rfl hd.str hd.sq (encN_length s) hz) (lcL_pure (α := Nat) cI (fun g => s.getD g 0 == j) (fun g => .int ((W.getD i []).getD g 0)) (List.range s.length) ?_) (lim_vals hd hi hl hz))) (by rw [vals_D, fSum_ints]; rfl))) (fin_pure fit_int)
  intro g hg
  have hg : g < s.length := by simpa using hg
  exact ⟨_, rfl, by simp [wipeE, hd.ix hg, ibeq], fun _ => two_ix rfl rfl rfl hi (by omega)⟩
theorem max_add : fAdd (.lst [.int 0]) (.lst (List.map (fun g => D.int ((W.getD i []).getD g 0)) (List.filter (fun g => s.getD g 0 == j) (List.range s.length)))) S = some (.lst (D.int 0 :: (vals (W.getD i []) s j).map D.int), S) := by
  rw [vals_D, r_addL, if_pos (by rw [List.length_map]; exact vals_lim hz)]; rfl
theorem M_bestOf_eq : M_bestOf [encW W, ds, .int i, .int j] S = some (.int (bestR (W.getD i []) s j), S) := by
  refine fn_rt (S' := S) rfl (ret_of (cb_of (one_of (bin_of (lst_of (one_of rfl) (by decide)) (val_lc (isS.enum hd rfl) (lcL_pure (α := Nat) (fun g => .tup [.int (g : Nat), .int (s.getD g 0 : Nat)]) (fun g => s.getD g 0 == j) (fun g => .int ((W.getD i []).getD g 0)) (List.range s.length) ?_) (lim_vals hd hi hl hz)) (max_add hd hi hl hz))) fMax_ints)) (fin_pure fit_int)
  intro g hg
  have hg : g < s.length := by simpa using hg
  exact ⟨_, rfl, by simp [setAll, wipeE, ibeq], fun _ => two_ix rfl rfl rfl hi (by omega)⟩
theorem M_LBest_eq : M_LBest [encW W, ds, .int i, .int j] S = some (.int (bestR (W.getD i []) s j), S) := by
  refine fn_rt (S' := S) rfl (ret_of (cb_of (one_of (bin_of (lst_of (one_of rfl) (by decide)) (val_lc (rng_len rfl hd.str hd.sq (encN_length s) hz) (lcL_pure (α := Nat) cI (fun g => s.getD g 0 == j) (fun g => .int ((W.getD i []).getD g 0)) (List.range s.length) ?_) (lim_vals hd hi hl hz)) (max_add hd hi hl hz))) fMax_ints)) (fin_pure fit_int)
  intro g hg
  have hg : g < s.length := by simpa using hg
  exact ⟨_, rfl, by simp [wipeE, hd.ix hg, ibeq], fun _ => two_ix rfl rfl rfl hi (by omega)⟩
end
def EN (W : List (List Int)) (s : List Nat) (i j : Nat) : Bool := decide (ownR (W.getD i []) s i < ownR (W.getD i []) s j)
theorem M_envies_eq {W : List (List Int)} {s : List Nat} {ds : D} {i j : Nat} {S : Store} (hd : isS ds s) (hi : i < W.length) (hl : s.length ≤ (W.getD i []).length) (hz : s.length < LIM) :
    M_envies [encW W, ds, .int i, .int j] S = some (.bl (EN W s i j), S) :=
  fn_rt (S' := S) rfl (ret_of (bin_of (call_of rfl (M_own_eq hd hi hl hz)) (call_of rfl (M_own_eq hd hi hl hz)) rfl)) (fin_pure fit_bl)
end K60

namespace K60
open PySem PySem.Spec PyProof.Rows L2 DV
/-- worths of n people and m goods -/
structure Wok (n m : Nat) (W : List (List Int)) : Prop where
  len : W.length = n
  n0 : 0 < n
  n3 : n ≤ 3
  m0 : 0 < m
  m5 : m ≤ 5
  row : ∀ i, i < n → (W.getD i []).length = m
  pos : ∀ i g, 0 ≤ (W.getD i []).getD g 0
  top : ∀ i g, (W.getD i []).getD g 0 ≤ 29
def papI (n : Nat) (P : Nat → Nat → Bool) : Option Nat := (List.range n).find? fun i => (List.range n).any (P i)
def papJ (n : Nat) (P : Nat → Nat → Bool) (i : Nat) : Nat := ((List.range n).find? (P i)).getD 0
def pap (n : Nat) (P : Nat → Nat → Bool) (word : Str) : D := match papI n P with
  | some i => .tup [.str "envies", cI i, cI (papJ n P i)]
  | none => .tup [.str word]
theorem pap_congr {n : Nat} {P Q : Nat → Nat → Bool} {word : Str} (h : ∀ i j, i < n → j < n → P i j = Q i j) : pap n P word = pap n Q word := by
  have h1 : ∀ i, i < n → (List.range n).any (P i) = (List.range n).any (Q i) := fun i hi => by
    rw [Bool.eq_iff_iff, List.any_eq_true, List.any_eq_true]
    constructor
    · rintro ⟨j, hj, hp⟩; exact ⟨j, hj, by rw [← h i j hi (by simpa using hj)]; exact hp⟩
    · rintro ⟨j, hj, hp⟩; exact ⟨j, hj, by rw [h i j hi (by simpa using hj)]; exact hp⟩
  have hf : ∀ (p q : Nat → Bool) (l : List Nat), (∀ x ∈ l, p x = q x) → l.find? p = l.find? q := by
    intro p q l
    induction l with
    | nil => intro _; rfl
    | cons a l ih => intro hh; rw [List.find?_cons, List.find?_cons, hh a (by simp), ih fun x hx => hh x (by simp [hx])]
  have hI : papI n P = papI n Q := hf _ _ _ fun i hi => h1 i (by simpa using hi)
  unfold pap
  rw [hI]
  split
  · rename_i i e
    have hi : i < n := by have := List.mem_of_find?_eq_some e; simpa using this
    have : papJ n P i = papJ n Q i := by unfold papJ; rw [hf (P i) (Q i) _ fun j hj => h i j hi (by simpa using hj)]
    rw [this]
  · rfl
/-- two loops and a test -/
theorem two_loops {n : Nat} {S : Store} {mo mj : MI} {vi vj : Nat} {body rest : MS} {e0 : Ev} {P : Nat → Nat → Bool} {word : Str} (I : Ev → Prop) (h0 : I e0) (ho : mo e0 S = some (.seq ((List.range n).map cI), S))
    (hjj : ∀ e i, i < n → I e → mj (e.set vi (some (cI i))) S = some (.seq ((List.range n).map cI), S))
    (hb : ∀ e i j, i < n → j < n → I e → ∀ e1, e1 = (e.set vi (some (cI i))).set vj (some (cI j)) → if P i j then body e1 S = some (.rt (.tup [.str "envies", cI i, cI j]), S) else ∃ e2, body e1 S = some (.nx e2, S) ∧ I e2 ∧ e2.set vi (some (cI i)) = e2)
    (hI : ∀ e i, i < n → I e → I (e.set vi (some (cI i))))
    (hr : ∀ e, I e → rest e S = some (.rt (.tup [.str word]), S)) :
    mSeq (mFor mo (.nm vi) (mFor mj (.nm vj) body)) rest e0 S = some (.rt (pap n P word), S) := by
  have inner := fun (e : Ev) (i : Nat) (hi : i < n) (he : I e) => forL_find (bind := (Tg.nm vj).f) (body := body) (S := S) (fun e => I e ∧ e.set vi (some (cI i)) = e) cI (P i) (fun j => .tup [.str "envies", cI i, cI j]) (List.range n) (e.set vi (some (cI i))) ⟨hI e i hi he, by simp⟩ fun j hj e2 he2 => ⟨_, rfl, by
    have hjn : j < n := by simpa using hj
    refine hb e2 i j hi hjn he2.1 _ ?_
    rw [he2.2]⟩
  have outer := forL_find (bind := (Tg.nm vi).f) (body := mFor mj (.nm vj) body) (S := S) I cI (fun i => (List.range n).any (P i)) (fun i => .tup [.str "envies", cI i, cI (papJ n P i)]) (List.range n) e0 h0 fun i hi e he => by
    have hin : i < n := by simpa using hi
    refine ⟨_, rfl, ?_⟩
    have := inner e i hin he
    split
    · rename_i hp
      obtain ⟨j, hj⟩ : ∃ j, (List.range n).find? (P i) = some j := by
        rw [← Option.isSome_iff_exists, List.find?_isSome]
        simpa using hp
      rw [for_of (hjj e i hin he) (this.1 j hj)]
      simp [papJ, hj]
    · rename_i hp
      have hj : (List.range n).find? (P i) = none := by
        rw [List.find?_eq_none]
        intro x hx hpx
        exact hp (List.any_eq_true.mpr ⟨x, hx, hpx⟩)
      obtain ⟨e', h1, h2⟩ := this.2 hj
      exact ⟨e', for_of (hjj e i hin he) h1, h2.1⟩
  unfold pap
  unfold papI
  split
  · rename_i i hi
    exact seq_rt (for_of ho (outer.1 i hi))
  · rename_i hi
    obtain ⟨e', h1, h2⟩ := outer.2 hi
    exact seq_nx (for_of ho h1) (hr e' h2)
def PB (W : List (List Int)) (s : List Nat) (i j : Nat) : Bool := i != j && decide (ownR (W.getD i []) s i < ownR (W.getD i []) s j - bestR (W.getD i []) s j)
theorem fitL_N (s : List Nat) (k : Nat) : D.fitL k (encN s) = true := fitL_map fun x _ => fit_int
theorem pap_fit {n : Nat} {P} {word : Str} (hw : PyData.strOk word = true) : D.fit 11 (pap n P word) = true := by
  unfold pap
  split
  · simp; decide +kernel
  · simp [hw]
section
variable {n m : Nat} {W : List (List Int)} {s : List Nat} {ds : D} {S : Store} (hW : Wok n m W) (hd : isS ds s) (hs : s.length ≤ m)
include hW hd hs
theorem lenW : fLen [encW W] S = some (cI n, S) := by
  have := len_of (d := encW W) (S := S) (by simp [encW]) (xs := W.map encR) rfl
  rw [this, List.length_map, hW.len]
theorem M_envyPaper_eq : M_envyPaper [encW W, ds] S = some (pap n (EN W s) "no envy", S) := by
  have h3 := hW.n3
  have h5 := hW.m5
  refine fn_rt (S' := S) rfl (seq_nx (asg_of (cb_of (one_of (cb_of (one_of rfl) (lenW hW hd hs))) rfl)) ?_) (fin_pure (pap_fit (by decide +kernel)))
  refine two_loops (fun e => ∃ a b, e = [some (encW W), some ds, some (.rng 0 (n : Int)), a, b]) ⟨none, none, rfl⟩ (it_rng rfl (by omega)) ?_ ?_ ?_ ?_
  · rintro e i hi ⟨a, b, rfl⟩; exact it_rng rfl (by omega)
  · rintro e i j hi hj ⟨a, b, rfl⟩ e1 rfl
    have := M_envies_eq (S := S) (i := i) (j := j) hd (by rw [hW.len]; exact hi) (by rw [hW.row i hi]; exact hs) (by show _ < 16777216; omega)
    split
    · rename_i hp
      exact ifs_of (tru_of (call_of rfl this) rfl) (by rw [hp]; rfl)
    · rename_i hp
      exact ⟨_, ifs_of (tru_of (call_of rfl this) rfl) (by rw [eq_false_of_ne_true hp]; rfl), ⟨_, _, rfl⟩, rfl⟩
  · rintro e i hi ⟨a, b, rfl⟩; exact ⟨_, _, rfl⟩
  · rintro e ⟨a, b, rfl⟩; rfl
end
end K60
namespace K60
open PySem PySem.Spec PyProof.Rows L2 DV
theorem PB_eq (W : List (List Int)) (s : List Nat) (i j : Nat) : PB W s i j = (i != j && decide (ownR (W.getD i []) s i < ownR (W.getD i []) s j - bestR (W.getD i []) s j)) := rfl
theorem ine (i j : Nat) : (!((i : Int) == (j : Int))) = (i != j) := by rw [ibeq]; rfl
section
variable {n m : Nat} {W : List (List Int)} {s : List Nat} {ds : D} {S : Store} (hW : Wok n m W) (hd : isS ds s) (hs : s.length ≤ m)
include hW hd hs
theorem M_butOnePaper_eq : M_butOnePaper [encW W, ds] S = some (pap n (PB W s) "but one", S) := by
  have h3 := hW.n3
  have h5 := hW.m5
  refine fn_rt (S' := S) rfl (seq_nx (asg_of (cb_of (one_of (cb_of (one_of rfl) (lenW hW hd hs))) rfl)) ?_) (fin_pure (pap_fit (by decide +kernel)))
  refine two_loops (fun e => ∃ a b c, e = [some (encW W), some ds, some (.rng 0 (n : Int)), a, b, c]) ⟨none, none, none, rfl⟩ (it_rng rfl (by omega)) ?_ ?_ ?_ ?_
  · rintro e i hi ⟨a, b, c, rfl⟩; exact it_rng rfl (by omega)
  · rintro e i j hi hj ⟨a, b, c, rfl⟩ e1 rfl
    have h1 := fun k => M_own_eq (S := S) (i := i) (j := k) hd (by rw [hW.len]; exact hi) (by rw [hW.row i hi]; exact hs) (by show _ < 16777216; omega)
    have h2 := M_bestOf_eq (S := S) (i := i) (j := j) hd (by rw [hW.len]; exact hi) (by rw [hW.row i hi]; exact hs) (by show _ < 16777216; omega)
    have hc : mAnd (mTV (mBin fNe (mV 3) (mV 4))) (mTV (mBin fGtD (mV 5) (mCall M_own (mCons (mV 0) (mCons (mV 1) (mCons (mV 3) (mCons (mV 3) mNil))))))) [some (encW W), some ds, some (.rng 0 (n : Int)), some (cI i), some (cI j), some (.int (ownR (W.getD i []) s j - bestR (W.getD i []) s j))] S = some (PB W s i j, S) := by
      refine and_of (tv_of (bin_of rfl rfl (by rw [r_ne, if_pos (by simp)]))) ?_
      rw [rt_int, rt_int, deq_int, ine, PB_eq]
      cases hij : i != j
      · rfl
      · simp only [if_true, Bool.true_and]
        exact tv_of (bin_of rfl (call_of rfl (h1 i)) rfl)
    have hA : ∀ {t : MS} {r}, t [some (encW W), some ds, some (.rng 0 (n : Int)), some (cI i), some (cI j), some (.int (ownR (W.getD i []) s j - bestR (W.getD i []) s j))] S = r → mSeq (mAsg (mBin fSub (mCall M_own (mCons (mV 0) (mCons (mV 1) (mCons (mV 3) (mCons (mV 4) mNil))))) (mCall M_bestOf (mCons (mV 0) (mCons (mV 1) (mCons (mV 3) (mCons (mV 4) mNil)))))) (.nm 5)) t [some (encW W), some ds, some (.rng 0 (n : Int)), some (cI i), some (cI j), c] S = r :=
      fun h => seq_nx (asg_of (bin_of (call_of rfl (h1 j)) (call_of rfl h2) rfl)) h
    split
    · rename_i hp
      exact hA (ifs_of hc (by rw [hp]; rfl))
    · rename_i hp
      exact ⟨_, hA (ifs_of hc (by rw [eq_false_of_ne_true hp]; rfl)), ⟨_, _, _, rfl⟩, rfl⟩
  · rintro e i hi ⟨a, b, c, rfl⟩; exact ⟨_, _, _, rfl⟩
  · rintro e ⟨a, b, c, rfl⟩; rfl
def PL (W : List (List Int)) (s : List Nat) (but : Int) (i j : Nat) : Bool := i != j && decide (ownR (W.getD i []) s i < ownR (W.getD i []) s j - but * bestR (W.getD i []) s j)
theorem M_LPaper_eq {word : Str} {but : Int} (hw : PyData.strOk word = true) (hb : I64 but) : M_LPaper [encW W, ds, .str word, .int but] S = some (pap n (PL W s but) word, S) := by
  have h3 := hW.n3
  have h5 := hW.m5
  refine fn_rt (S' := S) rfl (seq_nx (asg_of (cb_of (one_of rfl) (lenW hW hd hs))) ?_) (fin_pure (pap_fit hw))
  refine two_loops (fun e => ∃ a b c, e = [some (encW W), some ds, some (.str word), some (.int but), some (cI n), a, b, c]) ⟨none, none, none, rfl⟩ (rg1_of (one_of rfl) (by omega)) ?_ ?_ ?_ ?_
  · rintro e i hi ⟨a, b, c, rfl⟩; exact rg1_of (one_of rfl) (by omega)
  · rintro e i j hi hj ⟨a, b, c, rfl⟩ e1 rfl
    have h1 := fun k => M_LOwn_eq (S := S) (i := i) (j := k) hd (by rw [hW.len]; exact hi) (by rw [hW.row i hi]; exact hs) (by show _ < 16777216; omega)
    have h2 := M_LBest_eq (S := S) (i := i) (j := j) hd (by rw [hW.len]; exact hi) (by rw [hW.row i hi]; exact hs) (by show _ < 16777216; omega)
    have hc : mAnd (mTV (mBin fNe (mV 5) (mV 6))) (mTV (mBin fGtD (mV 7) (mCall M_LOwn (mCons (mV 0) (mCons (mV 1) (mCons (mV 5) (mCons (mV 5) mNil))))))) [some (encW W), some ds, some (.str word), some (.int but), some (cI n), some (cI i), some (cI j), some (.int (ownR (W.getD i []) s j - but * bestR (W.getD i []) s j))] S = some (PL W s but i j, S) := by
      refine and_of (tv_of (bin_of rfl rfl (by rw [r_ne, if_pos (by simp)]))) ?_
      rw [rt_int, rt_int, deq_int, ine]
      unfold PL
      cases hij : i != j
      · rfl
      · simp only [if_true, Bool.true_and]
        exact tv_of (bin_of rfl (call_of rfl (h1 i)) rfl)
    have hm : mBin fMul (mV 3) (mCall M_LBest (mCons (mV 0) (mCons (mV 1) (mCons (mV 5) (mCons (mV 6) mNil))))) [some (encW W), some ds, some (.str word), some (.int but), some (cI n), some (cI i), some (cI j), c] S = some (.int (but * bestR (W.getD i []) s j), S) :=
      bin_of rfl (call_of rfl h2) (by rw [r_mul, if_pos (.inl hb)])
    have hA : ∀ {t : MS} {r}, t [some (encW W), some ds, some (.str word), some (.int but), some (cI n), some (cI i), some (cI j), some (.int (ownR (W.getD i []) s j - but * bestR (W.getD i []) s j))] S = r → mSeq (mAsg (mBin fSub (mCall M_LOwn (mCons (mV 0) (mCons (mV 1) (mCons (mV 5) (mCons (mV 6) mNil))))) (mBin fMul (mV 3) (mCall M_LBest (mCons (mV 0) (mCons (mV 1) (mCons (mV 5) (mCons (mV 6) mNil))))))) (.nm 7)) t [some (encW W), some ds, some (.str word), some (.int but), some (cI n), some (cI i), some (cI j), c] S = r :=
      fun h => seq_nx (asg_of (bin_of (call_of rfl (h1 j)) hm rfl)) h
    split
    · rename_i hp
      exact hA (ifs_of hc (by rw [hp]; rfl))
    · rename_i hp
      exact ⟨_, hA (ifs_of hc (by rw [eq_false_of_ne_true hp]; rfl)), ⟨_, _, _, rfl⟩, rfl⟩
  · rintro e i hi ⟨a, b, c, rfl⟩; exact ⟨_, _, _, rfl⟩
  · rintro e ⟨a, b, c, rfl⟩; rfl
end
theorem bestR_nonneg {W : List (List Int)} {s : List Nat} {i j : Nat} : True := trivial
theorem PL0 (W : List (List Int)) (s : List Nat) (i j : Nat) : PL W s 0 i j = EN W s i j := by
  unfold PL EN
  by_cases h : i = j
  · subst h; simp
  · have : (i != j) = true := by simpa using h
    rw [this, Bool.true_and, Int.zero_mul, Int.sub_zero]
theorem PL1 (W : List (List Int)) (s : List Nat) (i j : Nat) : PL W s 1 i j = PB W s i j := by
  unfold PL PB
  rw [Int.one_mul]
end K60
namespace K60
open PySem PySem.Spec PyProof.Rows L2 DV
section
variable {S : Store}
theorem deq_blr {b : Bool} : deq (.bl b) (.bl b) = true := by cases b <;> rfl
theorem alike_str {k : Nat} {x : Str} (hx : PyData.strOk x = true) : MR_LAlike (k + 1) [.str x, .str x] S = some (.bl true, S) := by
  refine fn_rt (S' := S) rfl (seq_nx (ifs_of (b := false) (tru_of (isi_of rfl rfl (by decide +kernel)) rfl) rfl) (seq_nx (ifs_of (b := false) (tv_of (b := false) rfl) rfl) (seq_nx (ifs_of (b := false) (or_of (x := false) (tru_of (isi_of rfl rfl (by decide +kernel)) rfl) (tv_of (bin_of (isi_of rfl rfl rfl) (isi_of rfl rfl rfl) (ne_of (r := true) rfl rfl deq_blr)))) rfl)
    (ret_of (andv_of (x := true) (isi2_of (b := true) rfl rfl (by decide +kernel)) rfl (bin_of rfl rfl (eq_of (r := true) (by simp [hx]) (by simp [hx]) (by simp)))))))) (fin_pure fit_bl)
theorem alike_int {k : Nat} {x : Int} : MR_LAlike (k + 1) [.int x, .int x] S = some (.bl true, S) := by
  refine fn_rt (S' := S) rfl (seq_nx (ifs_of (b := false) (tru_of (isi_of rfl rfl (by decide +kernel)) rfl) rfl) (seq_nx (ifs_of (b := false) (tv_of (b := false) rfl) rfl) (seq_nx (ifs_of (b := false) (or_of (x := false) (tru_of (isi_of rfl rfl (by decide +kernel)) rfl) (tv_of (bin_of (isi_of rfl rfl rfl) (isi_of rfl rfl rfl) (ne_of (r := true) rfl rfl deq_blr)))) rfl)
    (ret_of (andv_of (x := true) (isi2_of (b := true) rfl rfl (by decide +kernel)) rfl (bin_of rfl rfl (eq_of (r := true) (by simp) (by simp) (by simp)))))))) (fin_pure fit_bl)
theorem alike_non {k : Nat} : MR_LAlike (k + 1) [.non, .non] S = some (.bl true, S) := by
  refine fn_rt (S' := S) rfl (seq_nx (ifs_of (b := false) (tru_of (isi_of rfl rfl (by decide +kernel)) rfl) rfl) (seq_rt (ifs_of (b := true) (tv_of (b := true) rfl) (ret_of (d := .bl true) (S1 := S) rfl)))) (fin_pure fit_bl)
theorem alike_tup {k : Nat} {xs : List D} (h : ∀ d ∈ xs, MR_LAlike k [d, d] S = some (.bl true, S)) (hz : xs.length < LIM) : MR_LAlike (k + 1) [.tup xs, .tup xs] S = some (.bl true, S) := by
  refine fn_rt (S' := S) (d := .bl true) rfl (seq_rt (ifs_of (b := true) (tru_of (isi_of rfl rfl (by decide +kernel)) rfl) (ret_of (andv_of (x := true) (isi_of rfl rfl (by decide +kernel)) rfl (andv_of (x := true) (bin_of (cb_of (one_of rfl) rfl) (cb_of (one_of rfl) rfl) (eq_of (r := true) (by simp) (by simp) (by simp))) rfl
    (cb_of (one_of (val_lc (rng_len rfl (by simp) rfl rfl hz) (lcL_map (α := Nat) cI (fun _ => .bl true) (List.range xs.length) ?_) ?_)) ?_)))))) (fin_pure fit_bl)
  · intro g hg
    have hg : g < xs.length := by simpa using hg
    refine ⟨_, rfl, ?_⟩
    refine call_of (ds := [xs[g], xs[g]]) (S1 := S) (cons_of (S1 := S) (bin_of (S2 := S) rfl rfl ?_) (one_of (bin_of (S2 := S) rfl rfl ?_))) (h _ (List.getElem_mem hg))
    · rw [DV.ix_tup, atI_of hg]; rfl
    · rw [DV.ix_tup, atI_of hg]; rfl
  · simp; exact Nat.le_of_lt hz
  · have : List.map (fun (_ : Nat) => D.bl true) (List.range xs.length) = ((List.range xs.length).map fun _ => true).map D.bl := by rw [List.map_map]; rfl
    rw [this, r_all]
    simp only [lst_lst, Option.bind_some, bls_map]
    have : ((List.range xs.length).map fun _ => true).all id = true := by simp
    rw [this]
end
theorem alike_pap {n : Nat} {P} {word : Str} {S : Store} (hw : PyData.strOk word = true) : M_LAlike [pap n P word, pap n P word] S = some (.bl true, S) := by
  unfold pap
  split
  · refine alike_tup ?_ (by show _ < 16777216; simp)
    intro d hd
    simp only [List.mem_cons, List.not_mem_nil, or_false] at hd
    rcases hd with rfl | rfl | rfl
    · exact alike_str (by decide +kernel)
    · exact alike_int
    · exact alike_int
  · refine alike_tup ?_ (by show _ < 16777216; simp)
    intro d hd
    simp only [List.mem_cons, List.not_mem_nil, or_false] at hd
    subst hd
    exact alike_str hw
theorem alike_N {s : List Nat} {S : Store} (hz : s.length < LIM) : M_LAlike [.tup (encN s), .tup (encN s)] S = some (.bl true, S) := by
  refine alike_tup ?_ (by simpa using hz)
  intro d hd
  obtain ⟨k, _, rfl⟩ := List.mem_map.mp hd
  exact alike_int
end K60

namespace K60
open PySem PySem.Spec PyProof.Rows L2 DV
def curO (cells : List Int) (pos : Nat) (a b : Int) : Store := [.lst [.lst (cells.map D.int), .int pos, .int a, .int b, .int 20]]
def Cur (S : Store) : Prop := ∃ cells pos a b, pos ≤ cells.length ∧ S = curO cells pos a b
theorem atI_last {cells : List Int} (h : cells ≠ []) : ∃ z : Int, atI (cells.map D.int) (-1) = some (.int z) := by
  have hl : 0 < cells.length := List.length_pos_iff.mpr h
  have e : ((cells.length : Int) + -1).toNat = cells.length - 1 := by omega
  refine ⟨cells[cells.length - 1], ?_⟩
  have hx : ixN (cells.map D.int).length (-1) = some (cells.length - 1) := by
    rw [List.length_map]
    unfold ixN
    rw [if_neg (by decide), if_pos (by omega)]
    congr 1
  unfold atI
  rw [hx]
  simp [List.getElem?_eq_getElem (show cells.length - 1 < cells.length by omega)]
def tail1 : MS := mIfS (mAnd (mTru (mBin fIx (mV 0) (mC (.int 0)))) (mTV (mBin fGeD (mBin fIx (mV 0) (mC (.int 1))) (mCB fLen (mCons (mBin fIx (mV 0) (mC (.int 0))) mNil))))) (mAsg (mBin fAdd (mV 1) (mBin fMod (mCB fInt (mCons (mBin fIx (mBin fIx (mV 0) (mC (.int 0))) (mUn fNeg (mC (.int 1)))) mNil)) (mC (.int 1000003)))) (.nm 1)) mSkip
def tail2 : MS := mSeq (mAsg (mBin fMod (mCB fInt (mCons (mBin fAdd (mBin fMul (mV 1) (mC (.int 48271))) (mBin fMul (mBin fIx (mV 0) (mC (.int 3))) (mC (.int 69621)))) mNil)) (mC (.int 2147483647))) (.nm 1))
    (mRet (mBin fAdd (mBin fDiv (mCB fInt (mCons (mBin fAdd (mBin fAdd (mBin fMul (mV 1) (mV 1)) (mBin fMul (mBin fIx (mV 0) (mC (.int 3))) (mC (.int 7919)))) (mC (.int 11))) mNil)) (mC (.int 64))) (mC (.int 36028797018963968))))
section
variable {cells : List Int} {pos : Nat} {a b x : Int}
theorem ix0 {i : Int} {d : D} {e : Ev} (h : atI [.lst (cells.map D.int), .int pos, .int a, .int b, .int 20] i = some d) (he : e[0]? = some (some (.ref 0))) : mBin fIx (mV 0) (mC (.int i)) e (curO cells pos a b) = some (d, curO cells pos a b) := by
  refine bin_of (a := .ref 0) (S1 := curO cells pos a b) ?_ rfl ?_
  · rw [r_V, he]
  · rw [DV.ix_ref, seq_ref]
    show (some [D.lst (cells.map D.int), .int pos, .int a, .int b, .int 20]).bind _ = _
    rw [Option.bind_some, h]; rfl
theorem tail1_eq : ∃ y : Int, tail1 [some (.ref 0), some (.int x)] (curO cells pos a b) = some (.nx [some (.ref 0), some (.int y)], curO cells pos a b) := by
  have ht : mTru (mBin fIx (mV 0) (mC (.int 0))) [some (.ref 0), some (.int x)] (curO cells pos a b) = some (!(cells.map D.int).isEmpty, curO cells pos a b) := tru_of (ix0 rfl rfl) rfl
  have hg : mTV (mBin fGeD (mBin fIx (mV 0) (mC (.int 1))) (mCB fLen (mCons (mBin fIx (mV 0) (mC (.int 0))) mNil))) [some (.ref 0), some (.int x)] (curO cells pos a b) = some (decide ((cells.length : Int) ≤ pos), curO cells pos a b) := by
    refine tv_of (bin_of (ix0 rfl rfl) (cb_of (one_of (ix0 rfl rfl)) rfl) ?_)
    simp
  by_cases hc : cells = []
  · exact ⟨x, ifs_of (b := false) (and_of ht (by rw [hc]; rfl)) rfl⟩
  · by_cases hp : (cells.length : Int) ≤ pos
    · obtain ⟨z, hz⟩ := atI_last hc
      have hz1 : mBin fIx (mBin fIx (mV 0) (mC (.int 0))) (mUn fNeg (mC (.int 1))) [some (.ref 0), some (.int x)] (curO cells pos a b) = some (.int z, curO cells pos a b) := by
        refine bin_of (ix0 rfl rfl) (S2 := curO cells pos a b) (b := .int (-1)) rfl ?_
        rw [DV.ix_lst, hz]; rfl
      refine ⟨x + z % 1000003, ifs_of (b := true) (and_of ht ?_) (asg_of (bin_of (S1 := curO cells pos a b) (S2 := curO cells pos a b) (b := .int (z % 1000003)) rfl (bin_of (cb_of (one_of hz1) r_int) rfl (mod_of (by decide))) rfl))⟩
      have : (!(cells.map D.int).isEmpty) = true := by cases cells <;> simp_all
      rw [this, if_pos rfl, hg, decide_eq_true hp]
    · refine ⟨x, ifs_of (b := false) (and_of ht ?_) rfl⟩
      have : (!(cells.map D.int).isEmpty) = true := by cases cells <;> simp_all
      rw [this, if_pos rfl, hg, decide_eq_false hp]
theorem tail2_eq : ∃ y : Int, tail2 [some (.ref 0), some (.int x)] (curO cells pos a b) = some (.rt (.int y), curO cells pos a b) := by
  have hm : ∀ z : Int, I64 (z % 2147483647) := fun z => by
    have h1 := Int.emod_nonneg z (b := 2147483647) (by decide)
    have h2 := Int.emod_lt_of_pos z (b := 2147483647) (by decide)
    have e : (2 : Int) ^ 64 = 18446744073709551616 := by decide
    simp only [I64, e]
    omega
  refine ⟨_, seq_nx (asg_of (bin_of (cb_of (one_of (bin_of (bin_of rfl rfl (mul_of (.inr (by decide)))) (bin_of (ix0 rfl rfl) rfl (mul_of (.inr (by decide)))) rfl)) rfl) rfl (mod_of (by decide)))) (ret_of (bin_of (bin_of (cb_of (one_of (bin_of (bin_of (bin_of rfl rfl (mul_of (.inl (hm _)))) (bin_of (ix0 rfl rfl) rfl (mul_of (.inr (by decide)))) rfl) rfl rfl)) rfl) rfl (div_of (by decide) (by decide))) rfl rfl))⟩
theorem fill_spec (hp : pos ≤ cells.length) : ∃ r pos' b', pos' ≤ cells.length ∧ M_LFill [.ref 0] (curO cells pos a b) = some (.int r, curO cells pos' a b') := by
  have hstep : mSetIx (mBin fAdd (mBin fIx (mV 0) (mC (.int 3))) (mC (.int 1))) (mV 0) (mC (.int 3)) [some (.ref 0), none] (curO cells pos a b) = some (.nx [some (.ref 0), none], curO cells pos a (b + 1)) :=
    setix_of (S3 := curO cells pos a b) (p := 0) (j := 3) (xs := [.lst (cells.map D.int), .int pos, .int a, .int b, .int 20]) (d := .int (b + 1)) (bin_of (ix0 rfl rfl) rfl rfl) rfl rfl rfl rfl
  have hnum : mAsg (mBin fAdd (mBin fMul (mBin fIx (mV 0) (mC (.int 3))) (mC (.int 69621))) (mC (.int 12345))) (.nm 1) [some (.ref 0), none] (curO cells pos a (b + 1)) = some (.nx [some (.ref 0), some (.int ((b + 1) * 69621 + 12345))], curO cells pos a (b + 1)) :=
    asg_of (bin_of (bin_of (ix0 rfl rfl) rfl (mul_of (.inr (by decide)))) rfl rfl)
  have hif : mTV (mBin fLtD (mBin fIx (mV 0) (mC (.int 1))) (mCB fLen (mCons (mBin fIx (mV 0) (mC (.int 0))) mNil))) [some (.ref 0), some (.int ((b + 1) * 69621 + 12345))] (curO cells pos a (b + 1)) = some (decide ((pos : Int) < cells.length), curO cells pos a (b + 1)) := by
    refine tv_of (bin_of (ix0 rfl rfl) (cb_of (one_of (ix0 rfl rfl)) rfl) ?_)
    simp
  by_cases hl : pos < cells.length
  · have hix : mBin fIx (mBin fIx (mV 0) (mC (.int 0))) (mBin fIx (mV 0) (mC (.int 1))) [some (.ref 0), some (.int ((b + 1) * 69621 + 12345))] (curO cells pos a (b + 1)) = some (.int cells[pos], curO cells pos a (b + 1)) := by
      refine bin_of (ix0 rfl rfl) (ix0 rfl rfl) ?_
      rw [DV.ix_lst, atI_map hl]; rfl
    have hst : mSetIx (mBin fAdd (mBin fIx (mV 0) (mC (.int 1))) (mC (.int 1))) (mV 0) (mC (.int 1)) [some (.ref 0), some (.int cells[pos])] (curO cells pos a (b + 1)) = some (.nx [some (.ref 0), some (.int cells[pos])], curO cells (pos + 1) a (b + 1)) :=
      setix_of (S3 := curO cells pos a (b + 1)) (p := 0) (j := 1) (xs := [.lst (cells.map D.int), .int pos, .int a, .int (b + 1), .int 20]) (d := .int ((pos : Int) + 1)) (bin_of (ix0 rfl rfl) rfl rfl) rfl rfl rfl rfl
    have hab : ∀ x : Int, ∃ y : Int, mIfS (mTV (mBin fLtD (mV 1) (mC (.int 0)))) (mAsg (mBin fSub (mBin fSub (mC (.int 0)) (mC (.int 1))) (mV 1)) (.nm 1)) mSkip [some (.ref 0), some (.int x)] (curO cells (pos + 1) a (b + 1)) = some (.nx [some (.ref 0), some (.int y)], curO cells (pos + 1) a (b + 1)) := fun x => by
      by_cases hx : x < 0
      · exact ⟨_, ifs_of (b := true) (tv_of (bin_of rfl rfl (lt_of (decide_eq_true hx)))) (asg_of (bin_of (bin_of rfl rfl rfl) rfl rfl))⟩
      · exact ⟨x, ifs_of (b := false) (tv_of (bin_of rfl rfl (lt_of (decide_eq_false hx)))) rfl⟩
    obtain ⟨y, hy⟩ := hab cells[pos]
    have hge : mTV (mBin fGeD (mV 1) (mBin fPow (mC (.int 10)) (mC (.int 18)))) [some (.ref 0), some (.int y)] (curO cells (pos + 1) a (b + 1)) = some (decide ((10 : Int) ^ 18 ≤ y), curO cells (pos + 1) a (b + 1)) := by
      refine tv_of (bin_of (b := .int ((10 : Int) ^ 18)) (S2 := curO cells (pos + 1) a (b + 1)) rfl (bin_of rfl rfl ?_) rfl)
      rw [r_pow, if_pos (by decide)]; rfl
    by_cases hb : (10 : Int) ^ 18 ≤ y
    · refine ⟨y, pos + 1, b + 1, hl, fn_rt rfl (seq_nx hstep (seq_nx hnum (seq_rt (ifs_of (b := true) (hif.trans (by rw [decide_eq_true (by omega)])) (seq_nx (asg_of hix) (seq_nx hst (seq_nx hy (ifs_of (b := true) (by rw [hge, decide_eq_true hb]) (ret_of rfl))))))))) rfl⟩
    · obtain ⟨y1, h1⟩ := tail1_eq (cells := cells) (pos := pos + 1) (a := a) (b := b + 1) (x := y)
      obtain ⟨z, h2⟩ := tail2_eq (cells := cells) (pos := pos + 1) (a := a) (b := b + 1) (x := y1)
      exact ⟨z, pos + 1, b + 1, hl, fn_rt rfl (seq_nx hstep (seq_nx hnum (seq_nx (ifs_of (b := true) (hif.trans (by rw [decide_eq_true (by omega)])) (seq_nx (asg_of hix) (seq_nx hst (seq_nx hy (ifs_of (b := false) (by rw [hge, decide_eq_false hb]) rfl))))) (seq_nx h1 h2)))) rfl⟩
  · obtain ⟨y, h1⟩ := tail1_eq (cells := cells) (pos := pos) (a := a) (b := b + 1) (x := (b + 1) * 69621 + 12345)
    obtain ⟨z, h2⟩ := tail2_eq (cells := cells) (pos := pos) (a := a) (b := b + 1) (x := y)
    exact ⟨z, pos, b + 1, hp, fn_rt rfl (seq_nx hstep (seq_nx hnum (seq_nx (ifs_of (b := false) (by rw [hif]; simp; omega) rfl) (seq_nx h1 h2)))) rfl⟩
theorem take_spec {m : Nat} (hp : pos ≤ cells.length) (h0 : 0 < m) (h1 : m < 1073741824) : ∃ d pos' a' b', d < m ∧ pos' ≤ cells.length ∧ M_LTake [.ref 0, .int m] (curO cells pos a b) = some (.int (d : Nat), curO cells pos' a' b') := by
  have rest : ∀ (pos : Nat) (a b : Int), pos ≤ cells.length → ∃ d pos' a' b', d < m ∧ pos' ≤ cells.length ∧ (mSeq (mAsg (mBin fMod (mCB fInt (mCons (mBin fIx (mV 0) (mC (.int 2))) mNil)) (mV 1)) (.nm 2))
    (mSeq (mSetIx (mBin fDiv (mBin fIx (mV 0) (mC (.int 2))) (mV 1)) (mV 0) (mC (.int 2)))
    (mRet (mV 2)))) [some (.ref 0), some (.int m), none] (curO cells pos a b) = some (.rt (.int (d : Nat)), curO cells pos' a' b') := fun pos a b hp => by
    have g1 := Int.emod_nonneg a (b := (m : Int)) (by omega)
    have g2 := Int.emod_lt_of_pos a (b := (m : Int)) (by omega)
    refine ⟨(a % m).toNat, pos, a / m, b, by omega, hp, ?_⟩
    refine seq_nx (asg_of (bin_of (cb_of (one_of (ix0 rfl rfl)) r_int) rfl (mod_of (by omega)))) (seq_nx (setix_of (S3 := curO cells pos a b) (p := 0) (j := 2) (xs := [.lst (cells.map D.int), .int pos, .int a, .int b, .int 20]) (d := .int (a / m)) (bin_of (ix0 rfl rfl) rfl (div_of (by omega) (by omega))) rfl rfl rfl rfl) (ret_of ?_))
    rw [Int.toNat_of_nonneg g1]; rfl
  have hc : mTV (mBin fLtD (mBin fIx (mV 0) (mC (.int 2))) (mV 1)) [some (.ref 0), some (.int m), none] (curO cells pos a b) = some (decide (a < m), curO cells pos a b) := tv_of (bin_of (ix0 rfl rfl) rfl rfl)
  by_cases h : a < m
  · obtain ⟨r, p1, b1, hp1, hf⟩ := fill_spec (a := a) (b := b) hp
    obtain ⟨d, p2, a2, b2, hd, hp2, hr⟩ := rest p1 r b1 hp1
    exact ⟨d, p2, a2, b2, hd, hp2, fn_rt rfl (seq_nx (ifs_of (b := true) (hc.trans (by rw [decide_eq_true h])) (setix_of (S3 := curO cells p1 a b1) (p := 0) (j := 2) (xs := [.lst (cells.map D.int), .int p1, .int a, .int b1, .int 20]) (d := .int r) (call_of rfl hf) rfl rfl rfl rfl)) hr) rfl⟩
  · obtain ⟨d, p2, a2, b2, hd, hp2, hr⟩ := rest pos a b hp
    exact ⟨d, p2, a2, b2, hd, hp2, fn_rt rfl (seq_nx (ifs_of (b := false) (hc.trans (by rw [decide_eq_false h])) rfl) hr) rfl⟩
end
end K60

namespace K60
open PySem PySem.Spec PyProof.Rows L2 DV
def tupsN : Nat → List (List Nat)
  | 2 => [[0, 1]]
  | 3 => [[0, 1], [0, 1, 2], [0, 2], [0, 2, 1], [1, 2]]
  | _ => []
def encT (s : List Nat) : D := .tup (encN s)
theorem nat5 : [0,2,4,1,3].mergeSort (fun a b : Nat => decide (a ≤ b)) = [0,1,2,3,4] := by
  simp [List.mergeSort, List.MergeSort.Internal.splitInTwo, List.merge]
def tupOf (r : Nat) : D := encT ((tupsN 3).getD r [])
theorem ord5 : ∀ a ∈ [0,2,4,1,3], ∀ b ∈ [0,2,4,1,3], decide (a ≤ b) = dle (tupOf a) (tupOf b) := by decide +kernel
theorem srt3 : ([[0,1],[0,2],[1,2],[0,1,2],[0,2,1]].map encT).mergeSort dle = (tupsN 3).map encT := by
  have := List.map_mergeSort (l := [0,2,4,1,3]) (f := tupOf) (r := fun a b : Nat => decide (a ≤ b)) (s := dle) ord5
  rw [nat5] at this
  exact this.symm
theorem srt2 : ([[0,1]].map encT).mergeSort dle = (tupsN 2).map encT := by simp [tupsN]
theorem srt1 : ([].map encT).mergeSort dle = (tupsN 1).map encT := by simp [tupsN]
def tupPre : Nat → List (List Nat)
  | 2 => [[0, 1]]
  | 3 => [[0,1],[0,2],[1,2],[0,1,2],[0,2,1]]
  | _ => []
/-- LTuples ahead of its return -/
def LTuplesA : MS := (mSeq (mPar 2 3 (mCons (mVal (mLst mNil)) (mCons (mVal (mLC (mRg1 (mCons (mV 0) mNil)) (.nm 6) mYes (mTup (mCons (mV 6) mNil)) [6])) mNil)))
    ((mFor (mRg1 (mCons (mBin fSub (mV 0) (mC (.int 1))) mNil)) (.nm 1) (mSeq (mAsg (mVal (mLst mNil)) (.nm 4))
    (mSeq (mFor (mIt (mV 3)) (.nm 5) (mAsg (mBin fAdd (mV 4) (mVal (mLC (mRg2 (mCons (mBin fAdd (mBin fIx (mV 5) (mC (.int 0))) (mC (.int 1))) (mCons (mV 0) mNil))) (.nm 7) (mTV (mBin fNotIn (mV 7) (mV 5))) (mBin fAdd (mV 5) (mTup (mCons (mV 7) mNil))) [7]))) (.nm 4)))
    (mSeq (mAsg (mV 4) (.nm 3))
    (mAsg (mBin fAdd (mV 2) (mV 3)) (.nm 2))))))))
theorem ltA1 (S : Store) : ∃ e, LTuplesA [some (cI 1), none, none, none, none, none, none, none] S = some (.nx e, S) ∧ e[2]? = some (some (.lst ((tupPre 1).map encT))) := ⟨_, rfl, rfl⟩
theorem ltA2 (S : Store) : ∃ e, LTuplesA [some (cI 2), none, none, none, none, none, none, none] S = some (.nx e, S) ∧ e[2]? = some (some (.lst ((tupPre 2).map encT))) := ⟨_, rfl, rfl⟩
theorem ltA3 (S : Store) : ∃ e, LTuplesA [some (cI 3), none, none, none, none, none, none, none] S = some (.nx e, S) ∧ e[2]? = some (some (.lst ((tupPre 3).map encT))) := ⟨_, rfl, rfl⟩
theorem seq_assoc {a b c : MS} {e e1 : Ev} {S S1 : Store} {r : Option (Fl × Store)} (h : mSeq a b e S = some (.nx e1, S1)) (h2 : c e1 S1 = r) : mSeq a (mSeq b c) e S = r := by
  unfold mSeq at h ⊢
  cases ha : a e S with
  | none => rw [ha] at h; cases h
  | some x =>
    obtain ⟨f, S2⟩ := x
    rw [ha] at h
    cases f with
    | nx e2 =>
      simp only [Option.bind_some] at h ⊢
      rw [h]
      exact h2
    | rt d => cases h
    | bk d => cases h
    | ct d => cases h
theorem ltFit (n : Nat) : D.fit 11 (.lst ((tupsN n).map encT)) = true := by
  rw [fit_lst]
  exact fitL_map fun x _ => by unfold encT; rw [fit_tup]; exact fitL_N x _
theorem M_LTuples_eq {n : Nat} (h0 : 0 < n) (h3 : n ≤ 3) (S : Store) : M_LTuples [cI n] S = some (.lst ((tupsN n).map encT), S) := by
  have fin' : ∀ e, LTuplesA [some (cI n), none, none, none, none, none, none, none] S = some (.nx e, S) → e[2]? = some (some (.lst ((tupPre n).map encT))) → ((tupPre n).map encT).mergeSort dle = (tupsN n).map encT →
      D.fitL 31 ((tupPre n).map encT) ∧ alikeB ((tupPre n).map encT) ∧ sortableB ((tupPre n).map encT) → M_LTuples [cI n] S = some (.lst ((tupsN n).map encT), S) := by
    intro e h1 h2 h3 h4
    refine fn_rt (S' := S) rfl (seq_assoc h1 (ret_of (d := .lst ((tupsN n).map encT)) (S1 := S) ?_)) (fin_pure (ltFit n))
    rw [r_Val, r_Sorted, r_V, h2]
    simp only [Option.bind_some, lst_lst]
    rw [if_pos h4, h3]; rfl
  rcases (show n = 1 ∨ n = 2 ∨ n = 3 by omega) with rfl | rfl | rfl
  · obtain ⟨e, h1, h2⟩ := ltA1 S; exact fin' e h1 h2 srt1 (by decide +kernel)
  · obtain ⟨e, h1, h2⟩ := ltA2 S; exact fin' e h1 h2 srt2 (by decide +kernel)
  · obtain ⟨e, h1, h2⟩ := ltA3 S; exact fin' e h1 h2 srt3 (by decide +kernel)
/-! ### circles -/
def isC (E : Nat → Nat → Bool) (one : List Nat) : Bool := (List.range one.length).all fun k => E (one.getD (if k = 0 then one.length - 1 else k - 1) 0) (one.getD k 0)
def circs (n : Nat) (E : Nat → Nat → Bool) : List (List Nat) := (tupsN n).filter (isC E)
def fcRow (E : Nat → Nat → Bool) (row : List Nat) : List Nat → List (List Nat) × List (List Nat) → List (List Nat) × List (List Nat)
  | [], fl => fl
  | j :: js, fl => fcRow E row js (if E (row.getLastD 0) j then if j == row.headD 0 then (fl.1 ++ [row], fl.2) else if decide (row.headD 0 < j) && !row.contains j then (fl.1, fl.2 ++ [row ++ [j]]) else fl else fl)
/-- rows that the search holds: not empty, of people, short -/
def rowOk (n : Nat) (row : List Nat) : Bool := !row.isEmpty && row.all (fun i => decide (i < n)) && decide (row.length ≤ n)
def fcGo (n : Nat) (E : Nat → Nat → Bool) : Nat → List (List Nat) × List (List Nat) → Option (List (List Nat))
  | 0, _ => none
  | k + 1, fl => if fl.2.isEmpty then some fl.1 else if !(fl.2.all (rowOk n) && decide (fl.1.length < 1000) && decide (fl.2.length < 1000)) then none else fcGo n E k (fcRow E (fl.2.getLastD []) (List.range n) (fl.1, fl.2.dropLast))
def fcOk (n : Nat) (E : Nat → Nat → Bool) : Bool := match fcGo n E 20 ([], (List.range n).map fun i => [i]) with
  | none => false
  | some f => if f.isEmpty then (circs n E).isEmpty else (match f with | [] => false | x :: xs => decide (minDD (encT x) (xs.map encT) = encT ((circs n E).headD []))) && decide (D.fitL 31 (f.map encT) = true) && alikeB (f.map encT) && !(circs n E).isEmpty
def mat (b : Nat → Bool) (n i j : Nat) : Bool := i != j && decide (i < n) && decide (j < n) && b (3 * i + j)
def bits (m : Nat) (k : Nat) : Bool := m.testBit k
def freeOf (n : Nat) (E : Nat → Nat → Bool) : List Nat := (List.range n).filter fun j => !(List.range n).any fun i => E i j
def allOk (n : Nat) (m : Nat) : Bool := fcOk n (mat (bits m) n) && (!(circs n (mat (bits m) n)).isEmpty || !(freeOf n (mat (bits m) n)).isEmpty)
theorem ok3 : ∀ m, m < 512 → allOk 3 m = true := by decide +kernel
theorem ok2 : ∀ m, m < 512 → allOk 2 m = true := by decide +kernel
theorem ok1 : ∀ m, m < 512 → allOk 1 m = true := by decide +kernel
theorem allOk_of {n m : Nat} (h0 : 0 < n) (h3 : n ≤ 3) (hm : m < 512) : allOk n m = true := by
  rcases (show n = 1 ∨ n = 2 ∨ n = 3 by omega) with rfl | rfl | rfl
  · exact ok1 m hm
  · exact ok2 m hm
  · exact ok3 m hm
/-- every matrix of at most three people is one of 512 -/
def code (E : Nat → Nat → Bool) : Nat := (if E 0 1 then 2 else 0) + (if E 0 2 then 4 else 0) + (if E 1 0 then 8 else 0) + (if E 1 2 then 32 else 0) + (if E 2 0 then 64 else 0) + (if E 2 1 then 128 else 0)
theorem code_lt (E : Nat → Nat → Bool) : code E < 512 := by
  unfold code
  repeat' split
  all_goals decide
theorem code_ok {n : Nat} {E : Nat → Nat → Bool} (h3 : n ≤ 3) (h : ∀ i, E i i = false) : ∀ i j, i < n → j < n → mat (bits (code E)) n i j = E i j := by
  intro i j hi hj
  have hb : ∀ a b c d e f : Bool, ∀ k ∈ [(1, a), (2, b), (3, c), (5, d), (6, e), (7, f)], Nat.testBit ((if a then 2 else 0) + (if b then 4 else 0) + (if c then 8 else 0) + (if d then 32 else 0) + (if e then 64 else 0) + (if f then 128 else 0)) k.1 = k.2 := by decide
  have := hb (E 0 1) (E 0 2) (E 1 0) (E 1 2) (E 2 0) (E 2 1)
  unfold mat bits
  rw [decide_eq_true hi, decide_eq_true hj, Bool.and_true, Bool.and_true]
  have hi3 : i < 3 := by omega
  have hj3 : j < 3 := by omega
  by_cases hij : i = j
  · subst hij; simp [h]
  · have hne : (i != j) = true := by simpa using hij
    rw [hne, Bool.true_and]
    unfold code
    rcases (show (i = 0 ∧ j = 1) ∨ (i = 0 ∧ j = 2) ∨ (i = 1 ∧ j = 0) ∨ (i = 1 ∧ j = 2) ∨ (i = 2 ∧ j = 0) ∨ (i = 2 ∧ j = 1) by omega) with ⟨rfl, rfl⟩ | ⟨rfl, rfl⟩ | ⟨rfl, rfl⟩ | ⟨rfl, rfl⟩ | ⟨rfl, rfl⟩ | ⟨rfl, rfl⟩
    · exact this (1, E 0 1) (by simp)
    · exact this (2, E 0 2) (by simp)
    · exact this (3, E 1 0) (by simp)
    · exact this (5, E 1 2) (by simp)
    · exact this (6, E 2 0) (by simp)
    · exact this (7, E 2 1) (by simp)
end K60

namespace K60
open PySem PySem.Spec PyProof.Rows L2 DV
/-- the envies of a sharing, as a matrix that is nothing outside the people -/
def EM (n : Nat) (W : List (List Int)) (s : List Nat) : Nat → Nat → Bool := mat (bits (code (EN W s))) n
theorem EN_self (W : List (List Int)) (s : List Nat) (i : Nat) : EN W s i i = false := by unfold EN; simp
theorem EM_eq {n : Nat} {W : List (List Int)} {s : List Nat} {i j : Nat} (h3 : n ≤ 3) (hi : i < n) (hj : j < n) : EM n W s i j = EN W s i j := code_ok h3 (EN_self W s) i j hi hj
theorem EM_ok {n : Nat} {W : List (List Int)} {s : List Nat} (h0 : 0 < n) (h3 : n ≤ 3) : allOk n (code (EN W s)) = true := allOk_of h0 h3 (code_lt _)
section
variable {n m : Nat} {W : List (List Int)} {s : List Nat} {ds : D} {S : Store} (hW : Wok n m W) (hd : isS ds s) (hs : s.length ≤ m)
include hW hd hs
theorem envies_EM {i j : Nat} (hi : i < n) (hj : j < n) : M_envies [encW W, ds, cI i, cI j] S = some (.bl (EM n W s i j), S) := by
  have h3 := hW.n3
  have h5 := hW.m5
  rw [EM_eq h3 hi hj]
  exact M_envies_eq hd (by rw [hW.len]; exact hi) (by rw [hW.row i hi]; exact hs) (by show _ < 16777216; omega)
end
/-! ### two lists behind a store -/
section
variable {S : Store} {A B C : Ob}
theorem st0 : (S ++ [A, B])[S.length]? = some A := by rw [List.getElem?_append_right (Nat.le_refl _)]; simp
theorem st1 : (S ++ [A, B])[S.length + 1]? = some B := by rw [List.getElem?_append_right (by omega)]; simp
theorem se0 : (S ++ [A, B]).set S.length C = S ++ [C, B] := by rw [List.set_append_right _ _ (Nat.le_refl _)]; simp
theorem se1 : (S ++ [A, B]).set (S.length + 1) C = S ++ [A, C] := by rw [List.set_append_right _ _ (by omega)]; simp
end
theorem push_of {p : Nat} {m : ME} {mo : ME} {e : Ev} {S S1 : Store} {xs : List D} {d : D} (h1 : mo e S = some (.ref p, S)) (h2 : S[p]? = some (.lst xs)) (h3 : m e S = some (d, S)) (h4 : xs.length < LIM) (h5 : S.set p (.lst (xs ++ [d])) = S1) : mDrop (mMt' fAppend mo (mCons m mNil)) e S = some (.nx e, S1) := by
  refine drop_of (d := .non) ?_
  unfold mMt'
  rw [h1]
  simp only [Option.bind_some]
  rw [h2]
  simp only
  rw [one_of h3]
  simp only [Option.bind_some]
  rw [h2]
  simp only [fAppend]
  rw [if_pos h4]
  simp only [Option.bind_some]
  rw [h5]
theorem last_of {row : List Nat} (h : row ≠ []) : atI (encN row) (-1) = some (cI (row.getLastD 0)) := by
  have hl : 0 < row.length := List.length_pos_iff.mpr h
  have hx : ixN (encN row).length (-1) = some (row.length - 1) := by
    rw [encN_length]
    unfold ixN
    rw [if_neg (by decide), if_pos (by omega)]
    exact congrArg some (by omega)
  unfold atI
  rw [hx]
  simp only [Option.bind_some, encN, List.getElem?_map]
  rw [List.getElem?_eq_getElem (by omega), ← List.getLast_eq_getElem h, List.getLastD_eq_getLast?, List.getLast?_eq_some_getLast h]; rfl
theorem head_of {row : List Nat} (h : row ≠ []) : atI (encN row) 0 = some (cI (row.headD 0)) := by
  cases row with
  | nil => exact absurd rfl h
  | cons a l => exact encN_get (s := a :: l) (g := 0) (by simp)
theorem has_of (row : List Nat) (j : Nat) : ((encN row).any fun z => deq z (cI j)) = row.contains j := by
  induction row with
  | nil => rfl
  | cons a l ih =>
    have e : encN (a :: l) = cI a :: encN l := rfl
    rw [e, List.any_cons, ih, List.contains_cons, deq_int, ibeq]
    rw [show (a == j) = (j == a) from by rw [Bool.eq_iff_iff, beq_iff_eq, beq_iff_eq]; exact ⟨Eq.symm, Eq.symm⟩]
def fcBody : MS := (mIfS (mTru (mCall M_envies (mCons (mV 0) (mCons (mV 1) (mCons (mBin fIx (mV 5) (mUn fNeg (mC (.int 1)))) (mCons (mV 6) mNil)))))) (mIfS (mTV (mBin fEq (mV 6) (mBin fIx (mV 5) (mC (.int 0))))) (mDrop (mMt' fAppend (mV 3) (mCons (mV 5) mNil))) (mIfS (mAnd (mTV (mBin fGtD (mV 6) (mBin fIx (mV 5) (mC (.int 0))))) (mTV (mBin fNotIn (mV 6) (mV 5)))) (mDrop (mMt' fAppend (mV 4) (mCons (mBin fAdd (mV 5) (mTup (mCons (mV 6) mNil))) mNil))) mSkip)) mSkip)
def fcSt (S : Store) (fl : List (List Nat) × List (List Nat)) : Store := S ++ [.lst (fl.1.map encT), .lst (fl.2.map encT)]
def fcEnv (W : List (List Int)) (ds : D) (n : Nat) (S : Store) (r a b : Option D) : Ev := [some (encW W), some ds, some (.rng 0 (n : Int)), some (.ref S.length), some (.ref (S.length + 1)), r, a, b]
section
variable {n m : Nat} {W : List (List Int)} {s : List Nat} {ds : D} {S : Store} (hW : Wok n m W) (hd : isS ds s) (hs : s.length ≤ m)
include hW hd hs
theorem fc_step {row : List Nat} {j : Nat} {fl : List (List Nat) × List (List Nat)} {b : Option D} (hr : rowOk n row = true) (hj : j < n) (h1 : fl.1.length < LIM) (h2 : fl.2.length < LIM) :
    fcBody (fcEnv W ds n S (some (encT row)) (some (cI j)) b) (fcSt S fl) = some (.nx (fcEnv W ds n S (some (encT row)) (some (cI j)) b), fcSt S (fcRow (EM n W s) row [j] fl)) := by
  simp only [rowOk, Bool.and_eq_true, List.all_eq_true, decide_eq_true_eq] at hr
  have hne : row ≠ [] := by have := hr.1.1; intro h; subst h; simp at this
  have hla : row.getLastD 0 < n := by
    rw [List.getLastD_eq_getLast?, List.getLast?_eq_some_getLast hne]
    exact hr.1.2 _ (List.getLast_mem hne)
  have hlen : row.length ≤ 3 := by have := hr.2; have := hW.n3; omega
  have hc : mTru (mCall M_envies (mCons (mV 0) (mCons (mV 1) (mCons (mBin fIx (mV 5) (mUn fNeg (mC (.int 1)))) (mCons (mV 6) mNil))))) (fcEnv W ds n S (some (encT row)) (some (cI j)) b) (fcSt S fl) = some (EM n W s (row.getLastD 0) j, fcSt S fl) := by
    refine tru_of (call_of (cons_of rfl (cons_of rfl (cons_of (d := cI (row.getLastD 0)) (bin_of (b := .int (-1)) (S2 := fcSt S fl) rfl rfl ?_) (one_of rfl)))) (envies_EM hW hd hs hla hj)) rfl
    unfold encT
    rw [DV.ix_tup, last_of hne]; rfl
  have hh : mBin fIx (mV 5) (mC (.int 0)) (fcEnv W ds n S (some (encT row)) (some (cI j)) b) (fcSt S fl) = some (cI (row.headD 0), fcSt S fl) := by
    refine bin_of (a := encT row) (S2 := fcSt S fl) rfl rfl ?_
    unfold encT
    rw [DV.ix_tup, head_of hne]; rfl
  have he : mTV (mBin fEq (mV 6) (mBin fIx (mV 5) (mC (.int 0)))) (fcEnv W ds n S (some (encT row)) (some (cI j)) b) (fcSt S fl) = some (j == row.headD 0, fcSt S fl) := by
    refine tv_of (bin_of rfl hh (eq_of (by simp) (by simp) ?_))
    rw [rt_int, rt_int, deq_int, ibeq]
  have hg : mAnd (mTV (mBin fGtD (mV 6) (mBin fIx (mV 5) (mC (.int 0))))) (mTV (mBin fNotIn (mV 6) (mV 5))) (fcEnv W ds n S (some (encT row)) (some (cI j)) b) (fcSt S fl) = some (decide (row.headD 0 < j) && !row.contains j, fcSt S fl) := by
    refine and_of (x := decide (row.headD 0 < j)) (tv_of (bin_of rfl hh (gt_of (by rw [decide_eq_decide]; omega)))) ?_
    cases decide (row.headD 0 < j)
    · rfl
    · simp only [if_true, Bool.true_and]
      refine tv_of (bin_of (a := cI j) (b := encT row) (S2 := fcSt S fl) rfl rfl ?_)
      unfold fNotIn fInB encT
      rw [seq_tup]
      simp only [Option.bind_some, if_true]
      rw [if_pos ⟨by simp, fitL_N row 32⟩, has_of]
  simp only [fcRow]
  cases hE : EM n W s (row.getLastD 0) j
  · refine ifs_of (b := false) (S1 := fcSt S fl) (hc.trans (by rw [hE])) ?_
    simp only [Bool.false_eq_true, if_false]; rfl
  · refine ifs_of (b := true) (S1 := fcSt S fl) (hc.trans (by rw [hE])) (ifs_of he ?_)
    cases hq : j == row.headD 0
    · simp only [Bool.false_eq_true, if_false, if_true]
      refine ifs_of hg ?_
      cases hp : decide (row.headD 0 < j) && !row.contains j
      · simp only [Bool.false_eq_true, if_false]; rfl
      · simp only [if_true]
        refine push_of (p := S.length + 1) (d := encT (row ++ [j])) rfl st1 ?_ (by simpa using h2) ?_
        · refine bin_of (a := encT row) (b := .tup [cI j]) (S1 := fcSt S fl) (S2 := fcSt S fl) rfl (tup_of (one_of rfl) (by show 1 ≤ 16777216; decide)) ?_
          unfold encT
          rw [r_addT, if_pos (by rw [encN_length]; show _ ≤ 16777216; simp; omega)]
          simp [encN]
        · unfold fcSt; rw [se1]; simp
    · simp only [if_true]
      exact push_of (p := S.length) (d := encT row) rfl st0 rfl (by simpa using h1) (by unfold fcSt; rw [se0]; simp)
theorem fc_row {row : List Nat} (hr : rowOk n row = true) : ∀ (js : List Nat) (fl : List (List Nat) × List (List Nat)) (a b : Option D), (∀ j ∈ js, j < n) → fl.1.length + js.length < LIM → fl.2.length + js.length < LIM →
    ∃ a', forL (Tg.nm 6).f fcBody (js.map cI) (fcEnv W ds n S (some (encT row)) a b) (fcSt S fl) = some (.nx (fcEnv W ds n S (some (encT row)) a' b), fcSt S (fcRow (EM n W s) row js fl))
  | [], fl, a, b, _, _, _ => ⟨a, rfl⟩
  | j :: js, fl, a, b, hj, h1, h2 => by
    simp only [List.length_cons] at h1 h2
    have st := fc_step (S := S) (b := b) hW hd hs hr (hj j (by simp)) (show fl.1.length < LIM by omega) (show fl.2.length < LIM by omega)
    have hg : ∀ fl : List (List Nat) × List (List Nat), (fcRow (EM n W s) row [j] fl).1.length ≤ fl.1.length + 1 ∧ (fcRow (EM n W s) row [j] fl).2.length ≤ fl.2.length + 1 := by
      intro fl
      simp only [fcRow]
      split
      · split
        · simp
        · split <;> simp
      · simp
    have g := hg fl
    obtain ⟨a', ih⟩ := fc_row hr js (fcRow (EM n W s) row [j] fl) (some (cI j)) b (fun x hx => hj x (by simp [hx])) (by omega) (by omega)
    refine ⟨a', ?_⟩
    have e1 : (Tg.nm 6).f (cI j) (fcEnv W ds n S (some (encT row)) a b) = some (fcEnv W ds n S (some (encT row)) (some (cI j)) b) := rfl
    simp only [List.map_cons, forL]
    rw [e1]
    simp only [Option.bind_some]
    rw [st]
    simp only [Option.bind_some]
    rw [ih]
    simp only [fcRow]
def fcW : MS := (mSeq (mAsg (mMt fPop (mV 4) mNil) (.nm 5)) (mFor (mIt (mV 2)) (.nm 6) fcBody))
theorem fc_while : ∀ (k : Nat) (fl : List (List Nat) × List (List Nat)) (f : List (List Nat)) (fuel : Nat) (r a b : Option D), fcGo n (EM n W s) k fl = some f → k ≤ fuel →
    ∃ r' a', whileGo (mTru (mV 4)) fcW fuel (fcEnv W ds n S r a b) (fcSt S fl) = some (.nx (fcEnv W ds n S r' a' b), fcSt S (f, []))
  | 0, fl, f, fuel, r, a, b, h, _ => by simp [fcGo] at h
  | k + 1, fl, f, 0, r, a, b, h, hf => by omega
  | k + 1, fl, f, fuel + 1, r, a, b, h, hf => by
    have hc : mTru (mV 4) (fcEnv W ds n S r a b) (fcSt S fl) = some (!(fl.2.map encT).isEmpty, fcSt S fl) := by
      refine tru_of (d := .ref (S.length + 1)) rfl ?_
      rw [tr_ref]
      unfold fcSt
      rw [st1]
    unfold fcGo at h
    simp only [whileGo]
    rw [hc]
    simp only [Option.bind_some]
    by_cases he : fl.2.isEmpty = true
    · rw [if_pos he] at h
      cases h
      have e2 : fl.2 = [] := by simpa using he
      refine ⟨r, a, ?_⟩
      rw [e2]
      simp only [List.map_nil, List.isEmpty_nil, Bool.not_true, Bool.false_eq_true, if_false]
      unfold fcSt
      rw [e2]
    · rw [if_neg he] at h
      split at h
      · cases h
      · rename_i hk
        simp only [Bool.not_eq_true', Bool.not_eq_false, Bool.and_eq_true, decide_eq_true_eq, List.all_eq_true] at hk
        have hne : fl.2 ≠ [] := by simpa using he
        have hrow : rowOk n (fl.2.getLastD []) = true := by
          rw [List.getLastD_eq_getLast?, List.getLast?_eq_some_getLast hne]
          exact hk.1.1 _ (List.getLast_mem hne)
        have hpop : mAsg (mMt fPop (mV 4) mNil) (.nm 5) (fcEnv W ds n S r a b) (fcSt S fl) = some (.nx (fcEnv W ds n S (some (encT (fl.2.getLastD []))) a b), fcSt S (fl.1, fl.2.dropLast)) := by
          refine asg_of (d := encT (fl.2.getLastD [])) ?_
          unfold mMt
          have e1 : mV 4 (fcEnv W ds n S r a b) (fcSt S fl) = some (.ref (S.length + 1), fcSt S fl) := rfl
          rw [e1]
          simp only [Option.bind_some, r_Nil]
          unfold fcSt
          rw [st1]
          have hl : 0 < fl.2.length := List.length_pos_iff.mpr hne
          have e3 : (List.map encT fl.2)[(List.map encT fl.2).length - 1]? = some (encT (fl.2.getLastD [])) := by
            rw [List.length_map, List.getElem?_map, List.getElem?_eq_getElem (by omega), ← List.getLast_eq_getElem hne, List.getLastD_eq_getLast?, List.getLast?_eq_some_getLast hne]; rfl
          simp only [fPop, Option.bind_some]
          rw [e3]
          simp only [Option.bind_some]
          rw [se1, List.map_dropLast]
        have hn3 := hW.n3
        obtain ⟨a1, hrw⟩ := fc_row (S := S) hW hd hs hrow (List.range n) (fl.1, fl.2.dropLast) a b (fun j hj => by simpa using hj) (by show _ < 16777216; simp; omega) (by show _ < 16777216; simp; omega)
        obtain ⟨r2, a2, ih⟩ := fc_while k _ f fuel (some (encT (fl.2.getLastD []))) a1 b h (by omega)
        refine ⟨r2, a2, ?_⟩
        have hne2 : (!(fl.2.map encT).isEmpty) = true := by cases hq : fl.2 with
          | nil => exact absurd hq hne
          | cons x l => rfl
        rw [hne2]
        simp only [if_true]
        have hbody : fcW (fcEnv W ds n S r a b) (fcSt S fl) = some (.nx (fcEnv W ds n S (some (encT (fl.2.getLastD []))) a1 b), fcSt S (fcRow (EM n W s) (fl.2.getLastD []) (List.range n) (fl.1, fl.2.dropLast))) :=
          seq_nx hpop (for_of (it_rng rfl (by omega)) hrw)
        rw [hbody]
        simp only [Option.bind_some]
        exact ih
end
end K60

namespace K60
open PySem PySem.Spec PyProof.Rows L2 DV
def circ (n : Nat) (E : Nat → Nat → Bool) : Option (List Nat) := (circs n E).head?
def encO : Option (List Nat) → D
  | some c => encT c
  | none => .non
theorem mem_tups {n : Nat} {E : Nat → Nat → Bool} {c : List Nat} (h : circ n E = some c) : c ∈ tupsN n ∧ isC E c = true := by
  have := List.mem_of_mem_head? h
  exact List.mem_filter.mp this
theorem fitT (c : List Nat) : D.fit 11 (encT c) = true := by unfold encT; rw [fit_tup]; exact fitL_N c _
theorem fitO (o : Option (List Nat)) : D.fit 11 (encO o) = true := by
  cases o with
  | none => rfl
  | some c => exact fitT c
section
variable {n m : Nat} {W : List (List Int)} {s : List Nat} {ds : D} {S : Store} (hW : Wok n m W) (hd : isS ds s) (hs : s.length ≤ m)
include hW hd hs
theorem M_firstCircle_eq : M_firstCircle [encW W, ds] S = some (encO (circ n (EM n W s)), S) := by
  have h3 := hW.n3
  have hok := EM_ok (W := W) (s := s) hW.n0 hW.n3
  simp only [allOk, Bool.and_eq_true] at hok
  have hf := hok.1
  change fcOk n (EM n W s) = true at hf
  unfold fcOk at hf
  split at hf
  · cases hf
  · rename_i f hgo
    obtain ⟨r, a, hw⟩ := fc_while (S := S) hW hd hs 20 _ f 1000000 none none none hgo (by decide)
    have hlc : mSto (mLC (mIt (mV 2)) (.nm 7) mYes (mTup (mCons (mV 7) mNil)) [7]) [some (encW W), some ds, some (.rng 0 (n : Int)), some (.ref S.length), none, none, none, none] (S ++ [.lst []]) = some (.ref (S ++ [Ob.lst []]).length, (S ++ [.lst []]) ++ [.lst ((List.range n).map fun i => encT [i])]) := by
      refine sto_lc (it_rng rfl (by omega)) (lcL_map (α := Nat) cI (fun i => encT [i]) (List.range n) ?_) (by simp; show _ ≤ 16777216; omega)
      intro g _
      exact ⟨_, rfl, tup_of (one_of rfl) (by show 1 ≤ 16777216; decide)⟩
    have e1 : (S ++ [Ob.lst []]).length = S.length + 1 := by simp
    have e2 : (S ++ [Ob.lst []]) ++ [Ob.lst ((List.range n).map fun i => encT [i])] = fcSt S ([], (List.range n).map fun i => [i]) := by
      unfold fcSt; rw [List.append_assoc, List.map_map]; rfl
    rw [e1, e2] at hlc
    have hret : mRet (mIf (mTru (mV 3)) (mCB fMinA (mCons (mV 3) mNil)) (mC .non)) (fcEnv W ds n S r a none) (fcSt S (f, [])) = some (.rt (encO (circ n (EM n W s))), fcSt S (f, [])) := by
      have ht : mTru (mV 3) (fcEnv W ds n S r a none) (fcSt S (f, [])) = some (!(f.map encT).isEmpty, fcSt S (f, [])) := by
        refine tru_of (d := .ref S.length) rfl ?_
        rw [tr_ref]; unfold fcSt; rw [st0]
      refine ret_of (if_of ht ?_)
      cases f with
      | nil =>
        simp only [List.isEmpty_nil, if_true] at hf
        have : circ n (EM n W s) = none := by unfold circ; rw [List.isEmpty_iff.mp hf]; rfl
        rw [this]; rfl
      | cons x xs =>
        simp only [List.isEmpty_cons, Bool.false_eq_true, if_false, Bool.and_eq_true, decide_eq_true_eq] at hf
        obtain ⟨⟨⟨f1, f2⟩, f3⟩, f4⟩ := hf
        have hc : circ n (EM n W s) = some ((circs n (EM n W s)).headD []) := by
          unfold circ
          cases hq : circs n (EM n W s) with
          | nil => rw [hq] at f4; cases f4
          | cons y ys => rfl
        rw [hc]
        simp only [List.map_cons, List.isEmpty_cons, Bool.not_false, if_true]
        refine cb_of (one_of (d := .ref S.length) rfl) ?_
        have hseq : seqOf (.ref S.length) (fcSt S (x :: xs, [])) = some ((x :: xs).map encT) := by rw [seq_ref]; unfold fcSt; rw [st0]
        unfold fMinA fMinX
        simp only [hseq, Option.bind_some, List.map_cons]
        have hi : intsOf (encT x :: xs.map encT) = none := rfl
        rw [hi]
        simp only
        rw [if_pos ⟨f2, f3⟩, f1]; rfl
    refine fn_rt rfl (seq_nx (asg_of (cb_of (one_of (cb_of (one_of rfl) (lenW hW hd hs))) rfl)) (seq_nx (asg_of (sto_of rfl (by show 0 ≤ 16777216; decide))) (seq_nx (asg_of hlc) (seq_nx hw hret)))) ?_
    unfold fcSt
    exact fin_pure_app (fitO _)
end
end K60

namespace K60
open PySem PySem.Spec PyProof.Rows L2 DV
/-- whose bundle passes to x; who gets the bundle of x -/
def pi' (c : List Nat) (x : Nat) : Nat := match c.findIdx? (· == x) with
  | some k => c.getD (if k + 1 = c.length then 0 else k + 1) 0
  | none => x
def sg (c : List Nat) (x : Nat) : Nat := match c.findIdx? (· == x) with
  | some k => c.getD (if k = 0 then c.length - 1 else k - 1) 0
  | none => x
def dkvs (c : List Nat) : List (D × D) := (List.range c.length).map fun k => (cI (c.getD (if k + 1 = c.length then 0 else k + 1) 0), cI (c.getD k 0))
def lkvs (c : List Nat) : List (D × D) := (List.range c.length).map fun k => (cI (c.getD k 0), cI (c.getD (if k = 0 then c.length - 1 else k - 1) 0))
theorem dk_ok : ∀ c ∈ tupsN 3, ∀ x, x < 3 → (dGet (dkvs c) (cI x)).getD (cI x) = cI (sg c x) ∧ (dGet (lkvs c) (cI x)).getD (cI x) = cI (sg c x) := by decide +kernel
theorem sp_ok : ∀ n, n < 4 → ∀ c ∈ tupsN n, (∀ x, x < n → sg c x < n ∧ pi' c x < n ∧ ∀ j, j < n → (sg c x == j) = (x == pi' c j)) ∧
   (∀ i, i < n → pi' c i = i ∨ ∃ k, k < c.length ∧ c.getD (if k = 0 then c.length - 1 else k - 1) 0 = i ∧ c.getD k 0 = pi' c i) ∧ (∃ i, i < n ∧ pi' c i ≠ i) ∧ c ∈ tupsN 3 ∧ c.length ≤ 3 := by decide +kernel
theorem turnA {c : List Nat} (hc : c ∈ tupsN 3) (ds : D) (S : Store) : mAsg (mDC (mEnum (mV 1)) (.tp [4, 3]) mYes (mBin fIx (mV 1) (mBin fMod (mBin fAdd (mV 4) (mC (.int 1))) (mCB fLen (mCons (mV 1) mNil)))) (mV 3) [4, 3]) (.nm 2) [some ds, some (encT c), none, none, none] S =
    some (.nx [some ds, some (encT c), some (.ref S.length), none, none], S ++ [.dct (dkvs c)]) := by
  simp only [tupsN, List.mem_cons, List.not_mem_nil, or_false] at hc
  rcases hc with rfl | rfl | rfl | rfl | rfl <;> rfl
theorem get2_at {S T : Store} {kvs : List (D × D)} {e : Ev} {p x : Nat} {y : D} {mo mi : ME} (h1 : mo e S = some (.ref p, S)) (h2 : S[p]? = some (.dct kvs)) (h3 : mi e S = some (cI x, S)) (h4 : (dGet kvs (cI x)).getD (cI x) = y) : mGet2 mo mi mi e S = some (y, S) := by
  unfold mGet2
  rw [h1]
  simp only [Option.bind_some]
  rw [h2]
  simp only
  rw [h3]
  simp only [Option.bind_some]
  rw [h3]
  simp only [Option.bind_some]
  rw [h2]
  simp only [keyOf]
  rw [h4]
theorem last1 {S : Store} {A : Ob} : (S ++ [A])[S.length]? = some A := by simp
theorem M_turned_eq {n : Nat} {c s : List Nat} {ds : D} {S : Store} (hn : n < 4) (hc : c ∈ tupsN n) (hd : isS ds s) (hs : ∀ x ∈ s, x < n) (hz : s.length < LIM) : M_turned [ds, encT c] S = some (.lst (encN (s.map (sg c))), S) := by
  obtain ⟨_, _, _, hc3, _⟩ := sp_ok n hn c hc
  refine fn_rt (d := .lst (encN (s.map (sg c)))) rfl (seq_nx (turnA hc3 ds S) (ret_of (d := .lst (encN (s.map (sg c)))) (S1 := S ++ [.dct (dkvs c)]) ?_)) (fin_pure_app (by rw [fit_lst]; exact fitL_N _ _))
  have : encN (s.map (sg c)) = s.map fun x => cI (sg c x) := by unfold encN; rw [List.map_map]; rfl
  rw [this]
  refine val_lc (L := s.map cI) (it_of rfl hd.src) (lcL_map (α := Nat) cI (fun x => cI (sg c x)) s ?_) (by rw [List.length_map]; exact Nat.le_of_lt hz)
  intro x hx
  refine ⟨_, rfl, get2_at (p := S.length) (x := x) (T := S) rfl last1 rfl ?_⟩
  exact (dk_ok c hc3 x (by have := hs x hx; omega)).1
/-! ### what turning does to the worths -/
theorem vals_turn {ws : List Int} {s : List Nat} {n j : Nat} {f g : Nat → Nat} (hs : ∀ x ∈ s, x < n) (h : ∀ x, x < n → (f x == j) = (x == g j)) : vals ws (s.map f) j = vals ws s (g j) := by
  unfold vals
  rw [List.length_map]
  congr 1
  apply List.filter_congr
  intro k hk
  have hk : k < s.length := by simpa using hk
  have : (s.map f).getD k 0 = f (s.getD k 0) := by simp [List.getD, hk]
  rw [this]
  apply h
  have : s.getD k 0 = s[k] := by simp [List.getD, hk]
  rw [this]; exact hs _ (List.getElem_mem hk)
theorem vals_snoc {ws : List Int} {s : List Nat} {j k : Nat} : vals ws (s ++ [j]) k = vals ws s k ++ (if j == k then [ws.getD s.length 0] else []) := by
  unfold vals
  rw [List.length_append, List.length_singleton, List.range_succ, List.filter_append, List.map_append]
  congr 1
  · congr 1
    apply List.filter_congr
    intro g hg
    have hg : g < s.length := by simpa using hg
    simp [List.getD, List.getElem?_append_left hg]
  · have : (s ++ [j]).getD s.length 0 = j := by simp [List.getD]
    simp only [List.filter_cons, this, List.filter_nil]
    split <;> rfl
theorem maxI_snoc (a w : Int) (l : List Int) : maxI a (l ++ [w]) = max (maxI a l) w := by unfold maxI; rw [List.foldl_append]; rfl
theorem maxI_ge (a : Int) (l : List Int) : a ≤ maxI a l := by
  unfold maxI
  induction l generalizing a with
  | nil => exact Int.le_refl a
  | cons x l ih => rw [List.foldl_cons]; exact Int.le_trans (Int.le_max_left a x) (ih _)
def ow (W : List (List Int)) (s : List Nat) (i j : Nat) : Int := ownR (W.getD i []) s j
def bs (W : List (List Int)) (s : List Nat) (i j : Nat) : Int := bestR (W.getD i []) s j
/-- no envy but for one good -/
def Ef (n : Nat) (W : List (List Int)) (s : List Nat) : Prop := ∀ i j, i < n → j < n → ow W s i j - bs W s i j ≤ ow W s i i
def phi (n : Nat) (W : List (List Int)) (s : List Nat) : Int := ((List.range n).map fun i => ow W s i i).sum
theorem sum_le {f g : Nat → Int} : ∀ {n : Nat}, (∀ i, i < n → f i ≤ g i) → ((List.range n).map f).sum ≤ ((List.range n).map g).sum
  | 0, _ => Int.le_refl 0
  | n + 1, h => by
    rw [List.range_succ, List.map_append, List.map_append, List.sum_append, List.sum_append]
    have := sum_le (f := f) (g := g) (n := n) fun i hi => h i (by omega)
    have := h n (by omega)
    simp only [List.map_cons, List.map_nil, List.sum_cons, List.sum_nil]
    omega
theorem sum_lt {f g : Nat → Int} : ∀ {n : Nat}, (∀ i, i < n → f i ≤ g i) → (∃ i, i < n ∧ f i < g i) → ((List.range n).map f).sum < ((List.range n).map g).sum
  | 0, _, ⟨i, hi, _⟩ => by omega
  | n + 1, h, ⟨i, hi, hlt⟩ => by
    rw [List.range_succ, List.map_append, List.map_append, List.sum_append, List.sum_append]
    have hn := h n (by omega)
    simp only [List.map_cons, List.map_nil, List.sum_cons, List.sum_nil]
    by_cases he : i = n
    · subst he
      have := sum_le (f := f) (g := g) (n := i) fun k hk => h k (by omega)
      omega
    · have := sum_lt (f := f) (g := g) (n := n) (fun k hk => h k (by omega)) ⟨i, by omega, hlt⟩
      omega
section
variable {n m : Nat} {W : List (List Int)} {s : List Nat} (hW : Wok n m W)
include hW
theorem sum_top {ws : List Int} (h : ∀ g, ws.getD g 0 ≤ 29) (s : List Nat) (j : Nat) : ownR ws s j ≤ 29 * ((s.filter (· == j)).length : Int) := by
  suffices H : ∀ l : List Nat, ownR ws l.reverse j ≤ 29 * ((l.reverse.filter (· == j)).length : Int) by simpa using H s.reverse
  intro l
  induction l with
  | nil => simp [ownR, vals]
  | cons x l ih =>
    rw [List.reverse_cons]
    unfold ownR at ih ⊢
    rw [vals_snoc, List.sum_append, List.filter_append, List.length_append]
    have := h l.reverse.length
    by_cases hx : x = j
    · subst hx
      simp only [BEq.rfl, if_true, List.sum_cons, List.sum_nil, List.filter_cons, List.filter_nil, List.length_cons, List.length_nil]
      omega
    · have hb : (x == j) = false := by simpa using hx
      simp only [hb, Bool.false_eq_true, if_false, List.sum_nil, List.filter_cons, List.filter_nil, List.length_nil]
      omega
omit hW in
theorem cnt_le (s : List Nat) : ∀ n : Nat, ((List.range n).map fun i => ((s.filter (· == i)).length : Int)).sum ≤ ((s.filter fun x => decide (x < n)).length : Int)
  | 0 => by simp
  | n + 1 => by
    rw [List.range_succ, List.map_append, List.sum_append]
    have ih := cnt_le s n
    have : (s.filter fun x => decide (x < n + 1)).length = (s.filter fun x => decide (x < n)).length + (s.filter (· == n)).length := by
      induction s with
      | nil => rfl
      | cons x l ihl =>
        simp only [List.filter_cons]
        have ihl := ihl (cnt_le l n)
        by_cases h1 : x < n
        · have h2 : (x == n) = false := by simp; omega
          rw [decide_eq_true h1, decide_eq_true (show x < n + 1 by omega), h2]
          simp only [if_true, Bool.false_eq_true, if_false, List.length_cons]; omega
        · by_cases h3 : x = n
          · subst h3
            rw [decide_eq_false h1, decide_eq_true (show x < x + 1 by omega)]
            simp only [BEq.rfl, if_true, Bool.false_eq_true, if_false, List.length_cons]; omega
          · have h2 : (x == n) = false := by simpa using h3
            rw [decide_eq_false h1, decide_eq_false (show ¬ x < n + 1 by omega), h2]
            simp only [Bool.false_eq_true, if_false]; omega
    simp only [List.map_cons, List.map_nil, List.sum_cons, List.sum_nil]
    omega
theorem phi_top (hs : s.length ≤ m) : phi n W s ≤ 145 := by
  have h1 : phi n W s ≤ ((List.range n).map fun i => 29 * ((s.filter (· == i)).length : Int)).sum := sum_le fun i _ => sum_top hW (hW.top i) s i
  have h2 : ∀ f : Nat → Int, ∀ n : Nat, ((List.range n).map fun i => 29 * f i).sum = 29 * ((List.range n).map f).sum := by
    intro f n
    induction n with
    | zero => rfl
    | succ n ih => rw [List.range_succ, List.map_append, List.map_append, List.sum_append, List.sum_append, ih]; simp only [List.map_cons, List.map_nil, List.sum_cons, List.sum_nil]; omega
  rw [h2] at h1
  have h3 := cnt_le s n
  have h4 : (s.filter fun x => decide (x < n)).length ≤ s.length := List.length_filter_le _ _
  have h5 := hW.m5
  omega
theorem turn_own {c : List Nat} (hc : c ∈ tupsN n) (hs : ∀ x ∈ s, x < n) {i j : Nat} (hj : j < n) : ow W (s.map (sg c)) i j = ow W s i (pi' c j) ∧ bs W (s.map (sg c)) i j = bs W s i (pi' c j) := by
  have h3 := hW.n3
  have hsp := (sp_ok n (by omega) c hc).1
  have := vals_turn (ws := W.getD i []) (s := s) (n := n) (j := j) (f := sg c) (g := pi' c) hs fun x hx => (hsp x hx).2.2 j hj
  unfold ow bs ownR bestR
  rw [this]
  exact ⟨rfl, rfl⟩
theorem turn_up {c : List Nat} (h : circ n (EM n W s) = some c) {i : Nat} (hi : i < n) : ow W s i i ≤ ow W s i (pi' c i) ∧ (pi' c i ≠ i → ow W s i i < ow W s i (pi' c i)) := by
  have h3 := hW.n3
  obtain ⟨hc, hI⟩ := mem_tups h
  obtain ⟨h1, h2, _, _, _⟩ := sp_ok n (by omega) c hc
  rcases h2 i hi with he | ⟨k, hk, e1, e2⟩
  · rw [he]; exact ⟨Int.le_refl _, fun hne => absurd rfl hne⟩
  · unfold isC at hI
    rw [List.all_eq_true] at hI
    have := hI k (by simpa using hk)
    rw [e1, e2, EM_eq h3 hi (h1 i hi).2.1] at this
    unfold EN at this
    have := of_decide_eq_true this
    exact ⟨Int.le_of_lt this, fun _ => this⟩
theorem turn_ef {c : List Nat} (h : circ n (EM n W s) = some c) (hs : ∀ x ∈ s, x < n) (he : Ef n W s) : Ef n W (s.map (sg c)) ∧ phi n W s < phi n W (s.map (sg c)) ∧ ∀ x ∈ s.map (sg c), x < n := by
  have h3 := hW.n3
  obtain ⟨hc, hI⟩ := mem_tups h
  obtain ⟨h1, _, ⟨i0, hi0, hne⟩, _, _⟩ := sp_ok n (by omega) c hc
  refine ⟨fun i j hi hj => ?_, ?_, ?_⟩
  · rw [(turn_own hW hc hs hj).1, (turn_own hW hc hs hj).2, (turn_own hW hc hs hi).1]
    have := he i (pi' c j) hi (h1 j hj).2.1
    have := (turn_up hW h hi).1
    omega
  · unfold phi
    refine sum_lt (fun i hi => ?_) ⟨i0, hi0, ?_⟩
    · rw [(turn_own hW hc hs hi).1]; exact (turn_up hW h hi).1
    · rw [(turn_own hW hc hs hi0).1]; exact (turn_up hW h hi0).2 hne
  · intro x hx
    obtain ⟨y, hy, rfl⟩ := List.mem_map.mp hx
    exact (h1 y (hs y hy)).1
theorem phi_nonneg : 0 ≤ phi n W s := by
  have : ((List.range n).map fun _ => (0 : Int)).sum ≤ phi n W s := sum_le fun i _ => by
    unfold ow ownR vals
    have : ∀ l : List Int, (∀ x ∈ l, 0 ≤ x) → 0 ≤ l.sum := by
      intro l
      induction l with
      | nil => intro _; exact Int.le_refl 0
      | cons x l ih => intro h; rw [List.sum_cons]; have := h x (by simp); have := ih fun y hy => h y (by simp [hy]); omega
    apply this
    intro x hx
    obtain ⟨g, _, rfl⟩ := List.mem_map.mp hx
    exact hW.pos i g
  have e : ∀ n : Nat, ((List.range n).map fun _ => (0 : Int)).sum = 0 := by
    intro n
    induction n with
    | zero => rfl
    | succ n ih => rw [List.range_succ, List.map_append, List.sum_append, ih]; rfl
  have := e n
  omega
def settle (n : Nat) (W : List (List Int)) : Nat → List Nat → Option (List Nat)
  | 0, _ => none
  | k + 1, s => match circ n (EM n W s) with
    | none => some s
    | some c => settle n W k (s.map (sg c))
theorem settle_ok : ∀ (k : Nat) (s : List Nat), s.length ≤ m → (∀ x ∈ s, x < n) → Ef n W s → 145 < phi n W s + k → ∃ s', settle n W k s = some s' ∧ s'.length = s.length ∧ (∀ x ∈ s', x < n) ∧ Ef n W s' ∧ circ n (EM n W s') = none
  | 0, s, hl, _, _, h => by have := phi_top hW hl; omega
  | k + 1, s, hl, hs, he, h => by
    unfold settle
    cases hq : circ n (EM n W s) with
    | none => exact ⟨s, rfl, rfl, hs, he, hq⟩
    | some c =>
      obtain ⟨a1, a2, a3⟩ := turn_ef hW hq hs he
      obtain ⟨s', b1, b2, b3, b4, b5⟩ := settle_ok k (s.map (sg c)) (by rw [List.length_map]; exact hl) a3 a1 (by omega)
      exact ⟨s', b1, by rw [b2, List.length_map], b3, b4, b5⟩
theorem free_ok (h : circ n (EM n W s) = none) : ∃ f fs, freeOf n (EM n W s) = f :: fs ∧ f < n ∧ ∀ i, i < n → ow W s i f ≤ ow W s i i := by
  have hok := EM_ok (W := W) (s := s) hW.n0 hW.n3
  simp only [allOk, Bool.and_eq_true, Bool.or_eq_true] at hok
  have h2 := hok.2
  change (!(circs n (EM n W s)).isEmpty) = true ∨ (!(freeOf n (EM n W s)).isEmpty) = true at h2
  have hc : circs n (EM n W s) = [] := by
    unfold circ at h
    exact List.head?_eq_none_iff.mp h
  rw [hc] at h2
  rcases h2 with h2 | h2
  · cases h2
  · cases hf : freeOf n (EM n W s) with
    | nil => rw [hf] at h2; cases h2
    | cons f fs =>
      refine ⟨f, fs, rfl, ?_⟩
      have hm : f ∈ freeOf n (EM n W s) := by rw [hf]; simp
      unfold freeOf at hm
      obtain ⟨h3, h4⟩ := List.mem_filter.mp hm
      have h3 : f < n := by simpa using h3
      refine ⟨h3, fun i hi => ?_⟩
      simp only [Bool.not_eq_true', List.any_eq_false] at h4
      have := h4 i (by simpa using hi)
      rw [EM_eq hW.n3 hi h3] at this
      unfold EN at this
      have := of_decide_eq_false (Bool.not_eq_true _ ▸ this)
      unfold ow; omega
theorem add_ef {f : Nat} (hf : f < n) (hu : ∀ i, i < n → ow W s i f ≤ ow W s i i) (he : Ef n W s) : Ef n W (s ++ [f]) := by
  intro i j hi hj
  have hp := hW.pos i s.length
  unfold ow bs ownR bestR
  rw [vals_snoc, vals_snoc, List.sum_append, List.sum_append]
  have h1 := he i j hi hj
  have h2 := hu i hi
  unfold ow bs ownR bestR at h1
  unfold ow ownR at h2
  have hii : 0 ≤ (if f == i then [(W.getD i []).getD s.length 0] else []).sum := by
    split
    · simpa using hp
    · simp
  by_cases hfj : f = j
  · subst hfj
    simp only [BEq.rfl, if_true, List.sum_cons, List.sum_nil, maxI_snoc]
    have := Int.le_max_right (maxI 0 (vals (W.getD i []) s f)) ((W.getD i []).getD s.length 0)
    omega
  · have hb : (f == j) = false := by simpa using hfj
    simp only [hb, Bool.false_eq_true, if_false, List.sum_nil, List.append_nil]
    omega
end
end K60

namespace K60
open PySem PySem.Spec PyProof.Rows L2 DV
def chain (n : Nat) (W : List (List Int)) : Nat → Option (List Nat)
  | 0 => some []
  | g + 1 => (chain n W g).bind fun s => (settle n W 200 s).bind fun s' => some (s' ++ [(freeOf n (EM n W s')).headD 0])
section
variable {n m : Nat} {W : List (List Int)} (hW : Wok n m W)
include hW
theorem chain_ok : ∀ g : Nat, g ≤ m → ∃ s, chain n W g = some s ∧ s.length = g ∧ (∀ x ∈ s, x < n) ∧ Ef n W s
  | 0, _ => ⟨[], rfl, rfl, fun x hx => by simp at hx, fun i j _ _ => by simp [ow, bs, ownR, bestR, vals, maxI]⟩
  | g + 1, hg => by
    obtain ⟨s, h1, h2, h3, h4⟩ := chain_ok g (by omega)
    obtain ⟨s', a1, a2, a3, a4, a5⟩ := settle_ok hW 200 s (by omega) h3 h4 (by have := phi_nonneg (s := s) hW; omega)
    obtain ⟨f, fs, b1, b2, b3⟩ := free_ok hW a5
    refine ⟨s' ++ [f], ?_, by rw [List.length_append, a2, h2]; rfl, ?_, add_ef hW b2 b3 a4⟩
    · unfold chain
      rw [h1, Option.bind_some, a1, Option.bind_some, b1]; rfl
    · intro x hx
      rcases List.mem_append.mp hx with hx | hx
      · exact a3 x hx
      · simp only [List.mem_singleton] at hx; omega
/-! ### share_out -/
def soEnv (W : List (List Int)) (s : List Nat) (a b c d e f : Option D) : Ev := [some (encW W), some (.lst (encN s)), a, b, c, d, e, f]
def soW : MS := (mSeq (mAsg (mCall M_turned (mCons (mV 1) (mCons (mV 3) mNil))) (.nm 1)) (mAsg (mCall M_firstCircle (mCons (mV 0) (mCons (mV 1) mNil))) (.nm 3)))
theorem so_while {S : Store} : ∀ (k : Nat) (s s' : List Nat) (fuel : Nat) (a c d e f : Option D), s.length ≤ m → (∀ x ∈ s, x < n) → settle n W k s = some s' → k ≤ fuel →
    whileGo (mTV (mBin fNotN (mV 3) (mC .non))) soW fuel (soEnv W s a (some (encO (circ n (EM n W s)))) c d e f) S = some (.nx (soEnv W s' a (some .non) c d e f), S)
  | 0, s, s', fuel, a, c, d, e, f, hl, hs, h, _ => by simp [settle] at h
  | k + 1, s, s', 0, a, c, d, e, f, hl, hs, h, hf => by omega
  | k + 1, s, s', fuel + 1, a, c, d, e, f, hl, hs, h, hf => by
    have h3 := hW.n3
    have h5 := hW.m5
    unfold settle at h
    simp only [whileGo]
    cases hq : circ n (EM n W s) with
    | none =>
      rw [hq] at h
      cases h
      rfl
    | some ci =>
      rw [hq] at h
      simp only at h
      obtain ⟨hc, _⟩ := mem_tups hq
      have hsp := (sp_ok n (by omega) ci hc).1
      have ht : M_turned [.lst (encN s), encT ci] S = some (.lst (encN (s.map (sg ci))), S) := M_turned_eq (by omega) hc (.inr rfl) hs (by show _ < 16777216; omega)
      have hf1 := M_firstCircle_eq (S := S) (s := s.map (sg ci)) (ds := .lst (encN (s.map (sg ci)))) hW (.inr rfl) (by rw [List.length_map]; exact hl)
      have hb : soW (soEnv W s a (some (encO (some ci))) c d e f) S = some (.nx (soEnv W (s.map (sg ci)) a (some (encO (circ n (EM n W (s.map (sg ci)))))) c d e f), S) :=
        seq_nx (asg_of (call_of rfl ht)) (asg_of (call_of rfl hf1))
      have hcnd : mTV (mBin fNotN (mV 3) (mC .non)) (soEnv W s a (some (encO (some ci))) c d e f) S = some (true, S) := rfl
      rw [hcnd]
      simp only [Option.bind_some, if_true]
      rw [hb]
      simp only [Option.bind_some]
      refine so_while k (s.map (sg ci)) s' fuel a c d e f (by rw [List.length_map]; exact hl) (fun x hx => ?_) h (by omega)
      obtain ⟨y, hy, rfl⟩ := List.mem_map.mp hx
      exact (hsp y (hs y hy)).1
theorem len0 {e : Ev} {S : Store} (he : e[0]? = some (some (encW W))) : mRg1 (mCons (mCB fLen (mCons (mBin fIx (mV 0) (mC (.int 0))) mNil)) mNil) e S = some (.seq ((List.range m).map cI), S) := by
  have h0 := hW.n0
  have h5 := hW.m5
  refine rng_len (d := encR (W.getD 0 [])) (xs := (W.getD 0 []).map D.int) ?_ (by unfold encR; simp) rfl (by rw [List.length_map, hW.row 0 h0]) (by show _ < 16777216; omega)
  refine bin_of (a := encW W) (b := .int ((0 : Nat) : Int)) (S1 := S) (S2 := S) ?_ rfl ?_
  · rw [r_V, he]
  · unfold encW
    rw [DV.ix_tup, encW_get (by rw [hW.len]; exact h0)]; rfl
theorem so_free {s : List Nat} {S : Store} {a b d e f : Option D} (hl : s.length ≤ m) :
    mVal (mLC (mIt (mV 4)) (.nm 6) (mNot (mTru (mCB fAny (mCons (mVal (mLC (mIt (mV 4)) (.nm 7) mYes (mCall M_envies (mCons (mV 0) (mCons (mV 1) (mCons (mV 7) (mCons (mV 6) mNil))))) [7])) mNil)))) (mV 6) [6]) (soEnv W s a b (some (.rng 0 (n : Int))) d e f) S = some (.lst (encN (freeOf n (EM n W s))), S) := by
  have h3 := hW.n3
  refine val_lc (it_rng rfl (by omega)) (lcL_pure (α := Nat) cI (fun j => !(List.range n).any fun i => EM n W s i j) cI (List.range n) ?_) ?_
  · intro j hj
    have hj : j < n := by simpa using hj
    refine ⟨_, rfl, ?_, fun _ => rfl⟩
    refine not_of (tru_of (d := .bl ((List.range n).any fun i => EM n W s i j)) (cb_of (one_of (d := .lst (((List.range n).map fun i => EM n W s i j).map D.bl)) (S1 := S) ?_) ?_) rfl)
    · rw [List.map_map]
      refine val_lc (it_rng rfl (by omega)) (lcL_map (α := Nat) cI (fun i => .bl (EM n W s i j)) (List.range n) ?_) (by simp; show _ ≤ 16777216; omega)
      intro i hi
      have hi : i < n := by simpa using hi
      exact ⟨_, rfl, call_of rfl (envies_EM hW (.inr rfl) hl hi hj)⟩
    · rw [r_any]
      simp only [lst_lst, Option.bind_some, bls_map, List.any_map]
      rfl
  · rw [encN_length]; exact Nat.le_trans (List.length_filter_le _ _) (by simp; show _ ≤ 16777216; omega)
theorem M_shareOut_eq {s : List Nat} (hs : chain n W m = some s) (S : Store) : M_shareOut [encW W] S = some (encT s, S) := by
  have h3 := hW.n3
  have h5 := hW.m5
  have loop := forL_range (bind := (Tg.nm 2).f) (body := (mSeq (mAsg (mCall M_firstCircle (mCons (mV 0) (mCons (mV 1) mNil))) (.nm 3))
    (mSeq (mWhile 1000000 (mTV (mBin fNotN (mV 3) (mC .non))) soW)
    (mSeq (mAsg (mCB fRng1 (mCons (mCB fLen (mCons (mV 0) mNil)) mNil)) (.nm 4))
    (mSeq (mAsg (mVal (mLC (mIt (mV 4)) (.nm 6) (mNot (mTru (mCB fAny (mCons (mVal (mLC (mIt (mV 4)) (.nm 7) mYes (mCall M_envies (mCons (mV 0) (mCons (mV 1) (mCons (mV 7) (mCons (mV 6) mNil))))) [7])) mNil)))) (mV 6) [6])) (.nm 5))
    (mAsg (mBin fAdd (mV 1) (mVal (mLst (mCons (mBin fIx (mV 5) (mC (.int 0))) mNil)))) (.nm 1)))))))
    (fun g e S' => S' = S ∧ ∃ s a b c d e' f', chain n W g = some s ∧ e = soEnv W s a b c d e' f') m (e := soEnv W [] none none none none none none) (S := S) ⟨rfl, [], _, _, _, _, _, _, rfl, rfl⟩ ?_
  · obtain ⟨e', S', h1, rfl, s', a, b, c, d, e2, f, h2, rfl⟩ := loop
    rw [h2] at hs
    cases hs
    refine fn_rt (S' := S') rfl (seq_nx (asg_of (lst_of rfl (by show 0 ≤ 16777216; decide))) (seq_nx (for_of (len0 hW rfl) h1) (ret_of (cb_of (one_of rfl) rfl)))) (fin_pure (fitT _))
  · rintro g hg e S' ⟨rfl, s, a, b, c, d, e', f', hc, rfl⟩
    obtain ⟨s0, q1, q2, q3, q4⟩ := chain_ok hW g (by omega)
    rw [hc] at q1
    cases q1
    obtain ⟨s', a1, a2, a3, a4, a5⟩ := settle_ok hW 200 s (by omega) q3 q4 (by have := phi_nonneg (s := s) hW; omega)
    obtain ⟨fr, fs, b1, b2, b3⟩ := free_ok hW a5
    refine ⟨soEnv W s (some (cI g)) b c d e' f', soEnv W (s' ++ [fr]) (some (cI g)) (some .non) (some (.rng 0 (n : Int))) (some (.lst (encN (freeOf n (EM n W s'))))) e' f', S', rfl, ?_, rfl, _, _, _, _, _, _, _, ?_, rfl⟩
    · refine seq_nx (asg_of (call_of rfl (M_firstCircle_eq hW (.inr rfl) (by omega)))) (seq_nx (so_while hW 200 s s' 1000000 _ _ _ _ _ (by omega) q3 a1 (by decide)) (seq_nx (asg_of (cb_of (one_of (cb_of (one_of rfl) (lenW hW (ds := .lst (encN s)) (s := s) (.inr rfl) (by omega)))) rfl)) (seq_nx (asg_of (so_free hW (by omega))) (asg_of (d := .lst (encN (s' ++ [fr]))) ?_))))
      refine bin_of (a := .lst (encN s')) (b := .lst [cI fr]) (S1 := S') (S2 := S') rfl (lst_of (one_of (bin_of (a := .lst (encN (freeOf n (EM n W s')))) (S2 := S') rfl rfl ?_)) (by show 1 ≤ 16777216; decide)) ?_
      · rw [b1]; exact (by rw [DV.ix_lst, head_of (by simp)]; rfl)
      · rw [r_addL, if_pos (by rw [encN_length]; show _ ≤ 16777216; simp; omega)]
        simp [encN]
    · unfold chain
      rw [hc, Option.bind_some, a1, Option.bind_some, b1]; rfl
end
end K60

namespace K60
open PySem PySem.Spec PyProof.Rows L2 DV
def rowE (n : Nat) (E : Nat → Nat → Bool) (i : Nat) : List Nat := (List.range n).filter (E i)
def encL (s : List Nat) : D := .lst (encN s)
theorem EM_out {n : Nat} {W : List (List Int)} {s : List Nat} {i j : Nat} (h : EM n W s i j = true) : i < n ∧ j < n := by
  unfold EM mat at h
  simp only [Bool.and_eq_true, decide_eq_true_eq] at h
  exact ⟨h.1.1.2, h.1.2⟩
theorem rowE_has {n : Nat} {W : List (List Int)} {s : List Nat} {i j : Nat} : (rowE n (EM n W s) i).contains j = EM n W s i j := by
  rw [Bool.eq_iff_iff, List.contains_iff_mem]
  unfold rowE
  rw [List.mem_filter]
  exact ⟨fun h => h.2, fun h => ⟨by simpa using (EM_out h).2, h⟩⟩
/-- the law's sharing: slots -/
def lsEnv (W : List (List Int)) (n : Nat) (s : List Nat) (x : List (Option D)) : Ev := some (encW W) :: some (cI n) :: some (encT s) :: x
theorem tups_ok : ∀ n, n < 4 → ∀ c ∈ tupsN n, c.isEmpty = false ∧ (∀ k, k < c.length → c.getD k 0 < n) := by decide +kernel
theorem pred_of {row : List Nat} {k : Nat} (hk : k < row.length) : atI (encN row) ((k : Int) - 1) = some (cI (row.getD (if k = 0 then row.length - 1 else k - 1) 0)) := by
  by_cases h : k = 0
  · subst h
    have hne : row ≠ [] := by intro h; subst h; simp at hk
    rw [show ((0 : Nat) : Int) - 1 = -1 from rfl, last_of hne, if_pos rfl]
    congr 2
    rw [List.getLastD_eq_getLast?, List.getLast?_eq_some_getLast hne, List.getLast_eq_getElem hne]
    simp [List.getD, List.getElem?_eq_getElem (show row.length - 1 < row.length by omega)]
  · rw [if_neg h, show ((k : Int) - 1) = ((k - 1 : Nat) : Int) by omega, encN_get (by omega)]
def rowsD (n : Nat) (E : Nat → Nat → Bool) (i : Nat) : List D := (List.range i).map fun k => encL (rowE n E k)
def lsB : MS := (mFor (mRg1 (mCons (mV 1) mNil)) (.nm 7) (mDrop (mMt' fAppend (mV 6) (mCons (mVal (mLC (mRg1 (mCons (mV 1) mNil)) (.nm 13) (mTV (mBin fGtD (mCall M_LOwn (mCons (mV 0) (mCons (mV 2) (mCons (mV 7) (mCons (mV 13) mNil))))) (mCall M_LOwn (mCons (mV 0) (mCons (mV 2) (mCons (mV 7) (mCons (mV 7) mNil))))))) (mV 13) [13])) mNil))))
def lsC : MS := (mAsg (mVal (mLC (mIt (mCall M_LTuples (mCons (mV 1) mNil))) (.nm 12) (mTru (mCB fAll (mCons (mVal (mLC (mRg1 (mCons (mCB fLen (mCons (mV 12) mNil)) mNil)) (.nm 11) mYes (mBin fIn (mBin fIx (mV 12) (mV 11)) (mBin fIx (mV 6) (mBin fIx (mV 12) (mBin fSub (mV 11) (mC (.int 1)))))) [11])) mNil))) (mV 12) [12])) (.nm 8))
def lsG : MS := (mFor (mRg1 (mCons (mCB fLen (mCons (mV 9) mNil)) mNil)) (.nm 11) (mSetK (mBin fIx (mV 9) (mBin fSub (mV 11) (mC (.int 1)))) (mV 10) (mBin fIx (mV 9) (mV 11))))
def lsTurn : MS := (mSeq (mAsg (mSto (mLst mNil)) (.nm 6))
    (mSeq lsB
    (mSeq lsC
    (mSeq (mIfS (mNot (mTru (mV 8))) mBk mSkip)
    (mSeq (mAsg (mBin fIx (mV 8) (mC (.int 0))) (.nm 9))
    (mSeq (mAsg mDict (.nm 10))
    (mSeq lsG
    (mAsg (mCB fTuple (mCons (mVal (mLC (mIt (mV 2)) (.nm 12) mYes (mGet2 (mV 10) (mV 12) (mV 12)) [12])) mNil)) (.nm 2)))))))))
def lsFree : ME := (mVal (mLC (mRg1 (mCons (mV 1) mNil)) (.nm 7) (mNot (mTru (mCB fAny (mCons (mVal (mLC (mIt (mV 6)) (.nm 14) mYes (mBin fIn (mV 7) (mV 14)) [14])) mNil)))) (mV 7) [7]))
theorem putK_of {m mo mi : ME} {e : Ev} {S : Store} {v k : D} {q : Nat} {kvs : List (D × D)} {kk : Key} {S1 : Store} (h1 : m e S = some (v, S)) (h2 : mo e S = some (.ref q, S)) (h3 : mi e S = some (k, S)) (h4 : keyOf k = some kk) (h5 : S[q]? = some (.dct kvs)) (h6 : kvs.length < LIM) (h7 : S.set q (.dct (dPut kvs k v)) = S1) :
    mSetK m mo mi e S = some (.nx e, S1) := by
  unfold mSetK
  rw [h1]
  simp only [Option.bind_some]
  rw [h2]
  simp only [Option.bind_some]
  rw [h3]
  simp only [Option.bind_some]
  rw [h4]
  simp only
  rw [h5]
  simp only
  rw [if_pos h6, h7]
theorem sl1 {S : Store} {A B : Ob} : (S ++ [A]).set S.length B = S ++ [B] := by rw [List.set_append_right _ _ (Nat.le_refl _)]; simp
theorem lk_ok : ∀ c ∈ tupsN 3, ∀ k, k < c.length → dPut ((lkvs c).take k) (cI (c.getD k 0)) (cI (c.getD (if k = 0 then c.length - 1 else k - 1) 0)) = (lkvs c).take (k + 1) := by decide +kernel
section
variable {n m : Nat} {W : List (List Int)} {s : List Nat} (hW : Wok n m W) (hl : s.length ≤ m)
include hW hl
theorem lown {i j : Nat} {S : Store} (hi : i < n) : M_LOwn [encW W, encT s, cI i, cI j] S = some (.int (ow W s i j), S) := by
  have h5 := hW.m5
  exact M_LOwn_eq (.inl rfl) (by rw [hW.len]; exact hi) (by rw [hW.row i hi]; exact hl) (by show _ < 16777216; omega)
theorem lsB_eq {S : Store} {a3 a4 a5 a8 a9 a10 a11 a12 a14 a7 a13 : Option D} : ∃ b7,
    lsB (lsEnv W n s [a3, a4, a5, some (.ref S.length), a7, a8, a9, a10, a11, a12, a13, a14]) (S ++ [.lst []]) = some (.nx (lsEnv W n s [a3, a4, a5, some (.ref S.length), b7, a8, a9, a10, a11, a12, a13, a14]), S ++ [.lst (rowsD n (EM n W s) n)]) := by
  have h3 := hW.n3
  have loop := forL_range (bind := (Tg.nm 7).f) (body := (mDrop (mMt' fAppend (mV 6) (mCons (mVal (mLC (mRg1 (mCons (mV 1) mNil)) (.nm 13) (mTV (mBin fGtD (mCall M_LOwn (mCons (mV 0) (mCons (mV 2) (mCons (mV 7) (mCons (mV 13) mNil))))) (mCall M_LOwn (mCons (mV 0) (mCons (mV 2) (mCons (mV 7) (mCons (mV 7) mNil))))))) (mV 13) [13])) mNil))))
    (fun i e S' => S' = S ++ [.lst (rowsD n (EM n W s) i)] ∧ ∃ b7, e = lsEnv W n s [a3, a4, a5, some (.ref S.length), b7, a8, a9, a10, a11, a12, a13, a14]) n (e := lsEnv W n s [a3, a4, a5, some (.ref S.length), a7, a8, a9, a10, a11, a12, a13, a14]) (S := S ++ [.lst []]) ⟨rfl, _, rfl⟩ ?_
  · obtain ⟨e', S', h1, rfl, b7, rfl⟩ := loop
    exact ⟨b7, for_of (rg1_of (one_of rfl) (by omega)) h1⟩
  · rintro i hi e S' ⟨rfl, b7, rfl⟩
    refine ⟨_, _, S ++ [.lst (rowsD n (EM n W s) (i + 1))], rfl, push_of (p := S.length) (xs := rowsD n (EM n W s) i) (d := encL (rowE n (EM n W s) i)) rfl last1 ?_ ?_ ?_, rfl, _, rfl⟩
    · refine val_lc (rg1_of (one_of rfl) (by omega)) (lcL_pure (α := Nat) cI (EM n W s i) cI (List.range n) ?_) (by rw [encN_length]; unfold rowE; exact Nat.le_trans (List.length_filter_le _ _) (by simp; show _ ≤ 16777216; omega))
      intro j hj
      have hj : j < n := by simpa using hj
      refine ⟨_, rfl, ?_, fun _ => rfl⟩
      rw [EM_eq h3 hi hj]
      exact tv_of (bin_of (call_of rfl (lown hW hl hi)) (call_of rfl (lown hW hl hi)) rfl)
    · unfold rowsD; simp; show _ < 16777216; omega
    · rw [sl1]; unfold rowsD; rw [List.range_succ, List.map_append]; rfl
theorem row_at {T : Store} {q i : Nat} {mo mi : ME} {e : Ev} (hq : T[q]? = some (.lst (rowsD n (EM n W s) n))) (h1 : mo e T = some (.ref q, T)) (h2 : mi e T = some (cI i, T)) (hi : i < n) : mBin fIx mo mi e T = some (encL (rowE n (EM n W s) i), T) := by
  refine bin_of h1 h2 ?_
  rw [DV.ix_ref, seq_ref, hq]
  simp only [Option.bind_some]
  unfold rowsD
  rw [atI_map (by simpa using hi)]
  simp
theorem in_of {T : Store} {a b : ME} {e : Ev} {j : Nat} {l : List Nat} {d : D} (h1 : a e T = some (cI j, T)) (h2 : b e T = some (d, T)) (hd : isS d l) : mBin fIn a b e T = some (.bl (l.contains j), T) := by
  refine bin_of h1 h2 ?_
  unfold fIn fInB
  rw [hd.sq]
  simp only [Option.bind_some, Bool.false_eq_true, if_false]
  rw [if_pos ⟨by simp, fitL_N l 32⟩, has_of]
theorem lsC_eq {T : Store} {q : Nat} {a3 a4 a5 a7 a8 a9 a10 a11 a12 a13 a14 : Option D} (hq : T[q]? = some (.lst (rowsD n (EM n W s) n))) :
    lsC (lsEnv W n s [a3, a4, a5, some (.ref q), a7, a8, a9, a10, a11, a12, a13, a14]) T = some (.nx (lsEnv W n s [a3, a4, a5, some (.ref q), a7, some (.lst ((circs n (EM n W s)).map encT)), a9, a10, a11, a12, a13, a14]), T) := by
  have h3 := hW.n3
  refine asg_of (val_lc (L := (tupsN n).map encT) (it_of (call_of rfl (M_LTuples_eq hW.n0 h3 T)) rfl) (lcL_pure encT (isC (EM n W s)) encT (tupsN n) ?_) ?_)
  · intro c hc
    obtain ⟨hne, hlt⟩ := tups_ok n (by omega) c hc
    have hlen := (sp_ok n (by omega) c hc).2.2.2.2
    refine ⟨_, rfl, ?_, fun _ => rfl⟩
    refine tru_of (d := .bl (isC (EM n W s) c)) (cb_of (one_of (d := .lst (((List.range c.length).map fun k => EM n W s (c.getD (if k = 0 then c.length - 1 else k - 1) 0) (c.getD k 0)).map D.bl)) (S1 := T) ?_) ?_) rfl
    · rw [List.map_map]
      refine val_lc (rng_len (d := encT c) (xs := encN c) rfl (by unfold encT; simp) rfl (by simp) (by show _ < 16777216; omega)) (lcL_map (α := Nat) cI (fun k => .bl (EM n W s (c.getD (if k = 0 then c.length - 1 else k - 1) 0) (c.getD k 0))) (List.range c.length) ?_) (by simp; show _ ≤ 16777216; omega)
      intro k hk
      have hk : k < c.length := by simpa using hk
      refine ⟨_, rfl, ?_⟩
      rw [← rowE_has]
      refine in_of hW hl (bin_of (a := encT c) (b := cI k) (S1 := T) (S2 := T) rfl rfl ?_) (row_at hW hl hq rfl (bin_of (a := encT c) (b := .int ((k : Int) - 1)) (S1 := T) (S2 := T) rfl rfl ?_) (hlt _ ?_)) (.inr rfl)
      · unfold encT; rw [DV.ix_tup, encN_get hk]; rfl
      · unfold encT; rw [DV.ix_tup, pred_of hk]; rfl
      · split <;> omega
    · rw [r_all]
      simp only [lst_lst, Option.bind_some, bls_map, List.all_map]
      rfl
  · rw [List.length_map]
    refine Nat.le_trans (List.length_filter_le _ _) ?_
    rcases (show n = 0 ∨ n = 1 ∨ n = 2 ∨ n = 3 by omega) with rfl | rfl | rfl | rfl <;> (simp [tupsN]; try (show _ ≤ 16777216; omega))
theorem lsG_eq {T : Store} {c : List Nat} (hc : c ∈ tupsN n) {a3 a4 a5 a6 a7 a8 a11 a12 a13 a14 : Option D} : ∃ b11,
    lsG (lsEnv W n s [a3, a4, a5, a6, a7, a8, some (encT c), some (.ref T.length), a11, a12, a13, a14]) (T ++ [.dct []]) = some (.nx (lsEnv W n s [a3, a4, a5, a6, a7, a8, some (encT c), some (.ref T.length), b11, a12, a13, a14]), T ++ [.dct (lkvs c)]) := by
  have h3 := hW.n3
  obtain ⟨_, _, _, hc3, hlen⟩ := sp_ok n (by omega) c hc
  have loop := forL_range (bind := (Tg.nm 11).f) (body := (mSetK (mBin fIx (mV 9) (mBin fSub (mV 11) (mC (.int 1)))) (mV 10) (mBin fIx (mV 9) (mV 11))))
    (fun k e S' => S' = T ++ [.dct ((lkvs c).take k)] ∧ ∃ b11, e = lsEnv W n s [a3, a4, a5, a6, a7, a8, some (encT c), some (.ref T.length), b11, a12, a13, a14]) c.length (e := lsEnv W n s [a3, a4, a5, a6, a7, a8, some (encT c), some (.ref T.length), a11, a12, a13, a14]) (S := T ++ [.dct []]) ⟨rfl, _, rfl⟩ ?_
  · obtain ⟨e', S', h1, rfl, b11, rfl⟩ := loop
    refine ⟨b11, ?_⟩
    have := for_of (mi := mRg1 (mCons (mCB fLen (mCons (mV 9) mNil)) mNil)) (rng_len (d := encT c) (xs := encN c) rfl (by unfold encT; simp) rfl (by simp) (by show _ < 16777216; omega)) h1
    rw [List.take_of_length_le (by simp [lkvs])] at this
    exact this
  · rintro k hk e S' ⟨rfl, b11, rfl⟩
    refine ⟨_, _, T ++ [.dct ((lkvs c).take (k + 1))], rfl, putK_of (q := T.length) (v := cI (c.getD (if k = 0 then c.length - 1 else k - 1) 0)) (k := cI (c.getD k 0)) (kvs := (lkvs c).take k) (bin_of (a := encT c) (b := .int ((k : Int) - 1)) rfl rfl ?_) rfl (bin_of (a := encT c) (b := cI k) rfl rfl ?_) rfl last1 ?_ ?_, rfl, _, rfl⟩
    · unfold encT; rw [DV.ix_tup, pred_of hk]; rfl
    · unfold encT; rw [DV.ix_tup, encN_get hk]; rfl
    · rw [List.length_take]; show _ < 16777216; omega
    · rw [sl1, lk_ok c hc3 k hk]
theorem lsH_eq {T : Store} {c : List Nat} (hc : c ∈ tupsN n) (hs : ∀ x ∈ s, x < n) {a3 a4 a5 a6 a7 a8 a9 a11 a12 a13 a14 : Option D} :
    (mAsg (mCB fTuple (mCons (mVal (mLC (mIt (mV 2)) (.nm 12) mYes (mGet2 (mV 10) (mV 12) (mV 12)) [12])) mNil)) (.nm 2)) (lsEnv W n s [a3, a4, a5, a6, a7, a8, a9, some (.ref T.length), a11, a12, a13, a14]) (T ++ [.dct (lkvs c)]) =
      some (.nx (lsEnv W n (s.map (sg c)) [a3, a4, a5, a6, a7, a8, a9, some (.ref T.length), a11, a12, a13, a14]), T ++ [.dct (lkvs c)]) := by
  have h3 := hW.n3
  have h5 := hW.m5
  obtain ⟨_, _, _, hc3, hlen⟩ := sp_ok n (by omega) c hc
  have e : encT (s.map (sg c)) = .tup (s.map fun x => cI (sg c x)) := by unfold encT encN; rw [List.map_map]; rfl
  refine asg_of (d := encT (s.map (sg c))) (cb_of (one_of (d := .lst (s.map fun x => cI (sg c x))) (S1 := T ++ [.dct (lkvs c)]) ?_) ?_)
  · refine val_lc (L := s.map cI) (it_of (d := encT s) rfl rfl) (lcL_map (α := Nat) cI (fun x => cI (sg c x)) s ?_) (by rw [List.length_map]; show _ ≤ 16777216; omega)
    intro x hx
    exact ⟨_, rfl, get2_at (p := T.length) (x := x) (T := T) rfl last1 rfl (dk_ok c hc3 x (by have := hs x hx; omega)).2⟩
  · rw [r_tuple, e]; rfl
omit hW hl in
theorem cons_len {α : Type} {x : List α} {k : Nat} (h : x.length = k + 1) : ∃ a l, x = a :: l ∧ l.length = k := by
  cases x with
  | nil => cases h
  | cons a l => exact ⟨a, l, rfl, by simpa using h⟩
omit hW hl in
theorem len12 {x : List (Option D)} (h : x.length = 12) : ∃ a3 a4 a5 a6 a7 a8 a9 a10 a11 a12 a13 a14, x = [a3, a4, a5, a6, a7, a8, a9, a10, a11, a12, a13, a14] := by
  obtain ⟨a3, x3, rfl, h3⟩ := cons_len h
  obtain ⟨a4, x4, rfl, h4⟩ := cons_len h3
  obtain ⟨a5, x5, rfl, h5⟩ := cons_len h4
  obtain ⟨a6, x6, rfl, h6⟩ := cons_len h5
  obtain ⟨a7, x7, rfl, h7⟩ := cons_len h6
  obtain ⟨a8, x8, rfl, h8⟩ := cons_len h7
  obtain ⟨a9, x9, rfl, h9⟩ := cons_len h8
  obtain ⟨a10, x10, rfl, h10⟩ := cons_len h9
  obtain ⟨a11, x11, rfl, h11⟩ := cons_len h10
  obtain ⟨a12, x12, rfl, h12⟩ := cons_len h11
  obtain ⟨a13, x13, rfl, h13⟩ := cons_len h12
  obtain ⟨a14, x14, rfl, h14⟩ := cons_len h13
  have h : x14 = [] := List.length_eq_zero_iff.mp h14
  subst h
  exact ⟨_, _, _, _, _, _, _, _, _, _, _, _, rfl⟩
theorem lsTurn_none {S : Store} (hq : circ n (EM n W s) = none) (x : List (Option D)) (hx : x.length = 12) : ∃ e2 S2 p, lsTurn (lsEnv W n s x) S = some (.bk e2, S2) ∧ (∃ T, S2 = S ++ T) ∧ S2[p]? = some (.lst (rowsD n (EM n W s) n)) ∧ ∃ a3 a4 a5 y, y.length = 8 ∧ x[0]? = some a3 ∧ e2 = lsEnv W n s (a3 :: a4 :: a5 :: some (.ref p) :: y) := by
  · obtain ⟨a3, a4, a5, a6, a7, a8, a9, a10, a11, a12, a13, a14, rfl⟩ := len12 hx
    obtain ⟨b7, hB⟩ := lsB_eq (S := S) hW hl (a3 := a3) (a4 := a4) (a5 := a5) (a8 := a8) (a9 := a9) (a10 := a10) (a11 := a11) (a12 := a12) (a14 := a14) (a7 := a7) (a13 := a13)
    have hC := lsC_eq (T := S ++ [.lst (rowsD n (EM n W s) n)]) (q := S.length) hW hl last1 (a3 := a3) (a4 := a4) (a5 := a5) (a7 := b7) (a8 := a8) (a9 := a9) (a10 := a10) (a11 := a11) (a12 := a12) (a13 := a13) (a14 := a14)
    have hc : circs n (EM n W s) = [] := List.head?_eq_none_iff.mp hq
    rw [hc] at hC
    exact ⟨_, _, S.length, seq_nx (asg_of (sto_of rfl (by show 0 ≤ 16777216; decide))) (seq_nx hB (seq_nx hC (seq_bk (ifs_of (b := true) (not_of (b := false) (tru_of rfl rfl)) rfl)))), ⟨_, rfl⟩, last1, _, _, _, _, rfl, rfl, rfl⟩
theorem lsTurn_some {S : Store} {c : List Nat} (hq : circ n (EM n W s) = some c) (hs : ∀ x ∈ s, x < n) (x : List (Option D)) (hx : x.length = 12) : ∃ S2 y, lsTurn (lsEnv W n s x) S = some (.nx (lsEnv W n (s.map (sg c)) y), S2) ∧ (∃ T, S2 = S ++ T) ∧ y.length = 12 ∧ y[0]? = x[0]? := by
  · obtain ⟨a3, a4, a5, a6, a7, a8, a9, a10, a11, a12, a13, a14, rfl⟩ := len12 hx
    obtain ⟨hc, _⟩ := mem_tups hq
    obtain ⟨b7, hB⟩ := lsB_eq (S := S) hW hl (a3 := a3) (a4 := a4) (a5 := a5) (a8 := a8) (a9 := a9) (a10 := a10) (a11 := a11) (a12 := a12) (a14 := a14) (a7 := a7) (a13 := a13)
    have hC := lsC_eq (T := S ++ [.lst (rowsD n (EM n W s) n)]) (q := S.length) hW hl last1 (a3 := a3) (a4 := a4) (a5 := a5) (a7 := b7) (a8 := a8) (a9 := a9) (a10 := a10) (a11 := a11) (a12 := a12) (a13 := a13) (a14 := a14)
    have hcs : ∃ cs, circs n (EM n W s) = c :: cs := by
      unfold circ at hq
      cases h : circs n (EM n W s) with
      | nil => rw [h] at hq; cases hq
      | cons y ys => rw [h] at hq; cases hq; exact ⟨ys, rfl⟩
    obtain ⟨cs, hcs⟩ := hcs
    rw [hcs] at hC
    have hE : (mAsg (mBin fIx (mV 8) (mC (.int 0))) (.nm 9)) (lsEnv W n s [a3, a4, a5, some (.ref S.length), b7, some (.lst ((c :: cs).map encT)), a9, a10, a11, a12, a13, a14]) (S ++ [.lst (rowsD n (EM n W s) n)]) = some (.nx (lsEnv W n s [a3, a4, a5, some (.ref S.length), b7, some (.lst ((c :: cs).map encT)), some (encT c), a10, a11, a12, a13, a14]), S ++ [.lst (rowsD n (EM n W s) n)]) := by
      refine asg_of (bin_of (a := .lst ((c :: cs).map encT)) (b := .int ((0 : Nat) : Int)) (S1 := S ++ [.lst (rowsD n (EM n W s) n)]) (S2 := S ++ [.lst (rowsD n (EM n W s) n)]) rfl rfl ?_)
      rw [DV.ix_lst, atI_map (by simp)]; rfl
    obtain ⟨b11, hG⟩ := lsG_eq hW hl (T := S ++ [.lst (rowsD n (EM n W s) n)]) hc (a3 := a3) (a4 := a4) (a5 := a5) (a6 := some (.ref S.length)) (a7 := b7) (a8 := some (.lst ((c :: cs).map encT))) (a11 := a11) (a12 := a12) (a13 := a13) (a14 := a14)
    have hH := lsH_eq hW hl (T := S ++ [.lst (rowsD n (EM n W s) n)]) hc hs (a3 := a3) (a4 := a4) (a5 := a5) (a6 := some (.ref S.length)) (a7 := b7) (a8 := some (.lst ((c :: cs).map encT))) (a9 := some (encT c)) (a11 := b11) (a12 := a12) (a13 := a13) (a14 := a14)
    refine ⟨_, _, seq_nx (asg_of (sto_of rfl (by show 0 ≤ 16777216; decide))) (seq_nx hB (seq_nx hC (seq_nx (ifs_of (b := false) (not_of (b := true) (tru_of rfl rfl)) rfl) (seq_nx hE (seq_nx (asg_of rfl) (seq_nx hG hH)))))), ⟨[.lst (rowsD n (EM n W s) n), .dct (lkvs c)], by rw [List.append_assoc]; rfl⟩, rfl, rfl⟩
end
end K60

namespace K60
open PySem PySem.Spec PyProof.Rows L2 DV
theorem z1 {n : Nat} {W : List (List Int)} (s s' : List Nat) (h : settle n W ([] : List Nat).length s = some s') : False := by cases h
theorem z2 {W n s b3 b4 x t} : (Tg.nm 4).f (cI t) (lsEnv W n s (b3 :: b4 :: x)) = some (lsEnv W n s (b3 :: some (cI t) :: x)) := rfl
theorem z3 {n : Nat} {W : List (List Int)} {s : List Nat} {L : List Nat} : settle n W (L.length + 1) s = (match circ n (EM n W s) with | none => some s | some c => settle n W L.length (s.map (sg c))) := rfl
theorem z4 {t : Nat} {L : List Nat} {e e1 : Ev} {S : Store} (h1 : (Tg.nm 4).f (cI t) e = some e1) : forL (Tg.nm 4).f lsTurn ((t :: L).map cI) e S = (lsTurn e1 S).bind fun x => match x.1 with
      | .nx e2 => forL (Tg.nm 4).f lsTurn (L.map cI) e2 x.2
      | .ct e2 => forL (Tg.nm 4).f lsTurn (L.map cI) e2 x.2
      | .bk e2 => some (.nx e2, x.2)
      | .rt d => some (.rt d, x.2) := by
  rw [List.map_cons]
  simp only [forL]
  rw [h1]
  rfl
theorem ls_loop {n m : Nat} {W : List (List Int)} (hW : Wok n m W) {S0 : Store} {a3 : Option D} : ∀ (L : List Nat) (s s' : List Nat) (S : Store) (x : List (Option D)), s.length ≤ m → (∀ x ∈ s, x < n) → settle n W L.length s = some s' → (∃ T, S = S0 ++ T) → x.length = 12 → x[0]? = some a3 →
    ∃ e2 S2 p, forL (Tg.nm 4).f lsTurn (L.map cI) (lsEnv W n s x) S = some (.nx e2, S2) ∧ (∃ T, S2 = S0 ++ T) ∧ S2[p]? = some (.lst (rowsD n (EM n W s') n)) ∧ ∃ a4 a5 y, y.length = 8 ∧ e2 = lsEnv W n s' (a3 :: a4 :: a5 :: some (.ref p) :: y) := by
  intro L
  induction L with
  | nil => intro s s' S x _ _ h _ _ _; exact (z1 s s' h).elim
  | cons t L ih =>
    intro s s' S x hl hs h ⟨T, hT⟩ hx hx0
    · obtain ⟨b3, y3, rfl, hy3⟩ := cons_len hx
      obtain ⟨b4, x, rfl, hy4⟩ := cons_len hy3
      have hx0 : b3 = a3 := by simpa using hx0
      subst hx0
      rw [z4 z2]
      simp only [List.length_cons] at h
      rw [z3] at h
      cases hq : circ n (EM n W s) with
      | none =>
        rw [hq] at h
        cases h
        obtain ⟨e2, S2, p, g1, ⟨T2, g2⟩, g3, c3, c4, c5, y, g4, g6, g5⟩ := lsTurn_none (S := S) hW hl hq (b3 :: some (cI t) :: x) (by simp [hy4])
        rw [g1]
        simp only [List.getElem?_cons_zero, Option.some.injEq] at g6
        subst g6
        exact ⟨e2, S2, p, rfl, ⟨T ++ T2, by rw [g2, hT, List.append_assoc]⟩, g3, c4, c5, y, g4, g5⟩
      | some c =>
        rw [hq] at h
        obtain ⟨S2, y, g1, ⟨T2, g2⟩, g3, g4⟩ := lsTurn_some (S := S) hW hl hq hs (b3 :: some (cI t) :: x) (by simp [hy4])
        rw [g1]
        simp only [Option.bind_some]
        refine ih (s.map (sg c)) s' S2 y (by rw [List.length_map]; exact hl) ?_ h ⟨T ++ T2, by rw [g2, hT, List.append_assoc]⟩ g3 (by rw [g4]; rfl)
        obtain ⟨hc, _⟩ := mem_tups hq
        have h3 := hW.n3
        have hsp := (sp_ok n (by omega) c hc).1
        intro z hz
        obtain ⟨y, hy, rfl⟩ := List.mem_map.mp hz
        exact (hsp y (hs y hy)).1
section
variable {n m : Nat} {W : List (List Int)} {s : List Nat} (hW : Wok n m W) (hl : s.length ≤ m)
include hW hl
theorem lsFree_eq {T : Store} {p : Nat} (hq : T[p]? = some (.lst (rowsD n (EM n W s) n))) {a3 a4 a5 a7 a8 a9 a10 a11 a12 a13 a14 : Option D} :
    lsFree (lsEnv W n s [a3, a4, a5, some (.ref p), a7, a8, a9, a10, a11, a12, a13, a14]) T = some (.lst (encN (freeOf n (EM n W s))), T) := by
  have h3 := hW.n3
  refine val_lc (rg1_of (one_of rfl) (by omega)) (lcL_pure (α := Nat) cI (fun j => !(List.range n).any fun i => EM n W s i j) cI (List.range n) ?_) (by rw [encN_length]; exact Nat.le_trans (List.length_filter_le _ _) (by simp; show _ ≤ 16777216; omega))
  intro j hj
  have hj : j < n := by simpa using hj
  refine ⟨_, rfl, ?_, fun _ => rfl⟩
  refine not_of (tru_of (d := .bl ((List.range n).any fun i => EM n W s i j)) (cb_of (one_of (d := .lst (((List.range n).map fun i => EM n W s i j).map D.bl)) (S1 := T) ?_) ?_) rfl)
  · rw [List.map_map]
    have := val_live (t := .nm 14) (tt := mYes) (elt := mBin fIn (mV 7) (mV 14)) (vs := [14]) (S1 := T) (q := p) (fun k => encL (rowE n (EM n W s) k)) (fun _ => true) (fun i => .bl (EM n W s i j)) (List.range n)
      (it_of (m := mV 6) (e := lsEnv W n s [a3, a4, a5, some (.ref p), some (cI j), a8, a9, a10, a11, a12, a13, a14]) (S := T) rfl (by rw [src_live hq]; unfold rowsD; rw [List.length_map])) hq ?_ (by simp; show _ ≤ 16777216; omega)
    · rw [List.filter_eq_self.2 (fun _ _ => rfl)] at this
      exact this
    · intro k hk
      refine ⟨_, rfl, rfl, fun _ => ?_⟩
      rw [← rowE_has]
      exact in_of hW hl rfl rfl (.inr rfl)
  · rw [r_any]
    simp only [lst_lst, Option.bind_some, bls_map, List.any_map]
    rfl
end
theorem len8 {x : List (Option D)} (h : x.length = 8) : ∃ a7 a8 a9 a10 a11 a12 a13 a14, x = [a7, a8, a9, a10, a11, a12, a13, a14] := by
  obtain ⟨a3, x3, rfl, h3⟩ := cons_len h
  obtain ⟨a4, x4, rfl, h4⟩ := cons_len h3
  obtain ⟨a5, x5, rfl, h5⟩ := cons_len h4
  obtain ⟨a6, x6, rfl, h6⟩ := cons_len h5
  obtain ⟨a7, x7, rfl, h7⟩ := cons_len h6
  obtain ⟨a8, x8, rfl, h8⟩ := cons_len h7
  obtain ⟨a9, x9, rfl, h9⟩ := cons_len h8
  obtain ⟨a10, x10, rfl, h10⟩ := cons_len h9
  have h : x10 = [] := List.length_eq_zero_iff.mp h10
  subst h
  exact ⟨_, _, _, _, _, _, _, _, rfl⟩
def lsGood : MS := (mSeq (mFor (mRg1 (mCons (mC (.int 200)) mNil)) (.nm 4) lsTurn)
    (mSeq (mAsg lsFree (.nm 5))
    (mAsg (mBin fAdd (mV 2) (mTup (mCons (mBin fIx (mV 5) (mC (.int 0))) mNil))) (.nm 2))))
section
variable {n m : Nat} {W : List (List Int)} (hW : Wok n m W)
include hW
theorem lsGood_eq {s s' : List Nat} {S : Store} {x : List (Option D)} (hl : s.length ≤ m) (hs : ∀ x ∈ s, x < n) (h : settle n W 200 s = some s') (hl' : s'.length ≤ m) (hx : x.length = 12) {f : Nat} {fs : List Nat} (hf : freeOf n (EM n W s') = f :: fs) :
    ∃ y T, lsGood (lsEnv W n s x) S = some (.nx (lsEnv W n (s' ++ [f]) y), S ++ T) ∧ y.length = 12 := by
  have h5 := hW.m5
  obtain ⟨a3, x3, rfl, hx3⟩ := cons_len hx
  obtain ⟨e2, S2, p, g1, ⟨T, g2⟩, g3, a4, a5, y, g4, rfl⟩ := ls_loop hW (S0 := S) (a3 := a3) (List.range 200) s s' S (a3 :: x3) hl hs (by rw [List.length_range]; exact h) ⟨[], by simp⟩ hx rfl
  obtain ⟨a7, a8, a9, a10, a11, a12, a13, a14, rfl⟩ := len8 g4
  have hfr := lsFree_eq hW hl' g3 (a3 := a3) (a4 := a4) (a5 := a5) (a7 := a7) (a8 := a8) (a9 := a9) (a10 := a10) (a11 := a11) (a12 := a12) (a13 := a13) (a14 := a14)
  subst g2
  refine ⟨[a3, a4, some (.lst (encN (freeOf n (EM n W s')))), some (.ref p), a7, a8, a9, a10, a11, a12, a13, a14], T, ?_, rfl⟩
  refine seq_nx (for_of (rg1_of (n := 200) (one_of rfl) (by decide)) g1) (seq_nx (asg_of hfr) (asg_of (d := encT (s' ++ [f])) ?_))
  refine bin_of (a := encT s') (b := .tup [cI f]) (S1 := S ++ T) (S2 := S ++ T) rfl (tup_of (one_of (bin_of (a := .lst (encN (freeOf n (EM n W s')))) (S2 := S ++ T) rfl rfl ?_)) (by show 1 ≤ 16777216; decide)) ?_
  · rw [hf]; exact (by rw [DV.ix_lst, head_of (by simp)]; rfl)
  · unfold encT
    rw [r_addT, if_pos (by rw [encN_length]; show _ ≤ 16777216; simp; omega)]
    simp [encN]
theorem M_LShared_eq {s : List Nat} (hs : chain n W m = some s) (S : Store) : M_LShared [encW W] S = some (encT s, S) := by
  have h3 := hW.n3
  have h5 := hW.m5
  have loop := forL_range (bind := (Tg.nm 3).f) (body := lsGood)
    (fun g e S' => (∃ T, S' = S ++ T) ∧ ∃ s x, chain n W g = some s ∧ e = lsEnv W n s x ∧ x.length = 12) m (e := lsEnv W n [] [none, none, none, none, none, none, none, none, none, none, none, none]) (S := S) ⟨⟨[], by simp⟩, [], _, rfl, rfl, rfl⟩ ?_
  · obtain ⟨e', S', h1, ⟨T, rfl⟩, s', x, h2, rfl, hx⟩ := loop
    rw [h2] at hs
    cases hs
    refine fn_rt (d := encT s) (S' := S ++ T) rfl (seq_nx (asg_of (cb_of (one_of rfl) (lenW hW (ds := encT []) (s := []) (.inl rfl) (by simp)))) (seq_nx (asg_of (d := encT []) (tup_of rfl (by show 0 ≤ 16777216; decide))) (seq_nx (for_of (len0 hW rfl) h1) (ret_of rfl)))) (fin_pure_app (fitT _))
  · rintro g hg e S' ⟨⟨T, rfl⟩, s, x, hc, rfl, hx⟩
    obtain ⟨s0, q1, q2, q3, q4⟩ := chain_ok hW g (by omega)
    rw [hc] at q1
    cases q1
    obtain ⟨s', a1, a2, a3, a4, a5⟩ := settle_ok hW 200 s (by omega) q3 q4 (by have := phi_nonneg (s := s) hW; omega)
    obtain ⟨fr, fs, b1, b2, b3⟩ := free_ok hW a5
    obtain ⟨z, x3, rfl, hx3⟩ := cons_len hx
    obtain ⟨y, T2, g1, g2⟩ := lsGood_eq hW (x := some (cI g) :: x3) (S := S ++ T) (by omega) q3 a1 (by omega) (by simp [hx3]) b1
    refine ⟨_, _, _, rfl, g1, ⟨T ++ T2, by rw [List.append_assoc]⟩, s' ++ [fr], y, ?_, rfl, g2⟩
    unfold chain
    rw [hc, Option.bind_some, a1, Option.bind_some, b1]; rfl
end
end K60

namespace K60
open PySem PySem.Spec PyProof.Rows L2 DV
def rowsOf (n : Nat) : Nat → List (List Nat)
  | 0 => [[]]
  | g + 1 => (rowsOf n g).flatMap fun r => (List.range n).map fun i => r ++ [i]
theorem rows_len (n : Nat) : ∀ g : Nat, (rowsOf n g).length = n ^ g
  | 0 => rfl
  | g + 1 => by
    unfold rowsOf
    have : ∀ l : List (List Nat), (l.flatMap fun r => (List.range n).map fun i => r ++ [i]).length = l.length * n := by
      intro l
      induction l with
      | nil => simp
      | cons a l ih => rw [List.flatMap_cons, List.length_append, ih, List.length_map, List.length_range, List.length_cons, Nat.succ_mul, Nat.add_comm]
    rw [this, rows_len n g, Nat.pow_succ]
theorem rows_lim {n g : Nat} (h3 : n ≤ 3) (h5 : g ≤ 5) : (rowsOf n g).length ≤ 243 := by
  rw [rows_len]
  exact Nat.le_trans (Nat.pow_le_pow_left h3 g) (Nat.le_trans (Nat.pow_le_pow_right (by decide) h5) (by decide))
theorem rows_ok {n : Nat} : ∀ (g : Nat) (r : List Nat), r ∈ rowsOf n g → r.length = g ∧ ∀ x ∈ r, x < n
  | 0, r, h => by
    simp only [rowsOf, List.mem_singleton] at h
    subst h; exact ⟨rfl, fun x hx => by simp at hx⟩
  | g + 1, r, h => by
    unfold rowsOf at h
    obtain ⟨q, hq, hr⟩ := List.mem_flatMap.mp h
    obtain ⟨i, hi, rfl⟩ := List.mem_map.mp hr
    obtain ⟨h1, h2⟩ := rows_ok g q hq
    refine ⟨by simp [h1], fun x hx => ?_⟩
    rcases List.mem_append.mp hx with hx | hx
    · exact h2 x hx
    · simp only [List.mem_singleton] at hx; subst hx; simpa using hi
theorem snoc_of {r : List Nat} {i : Nat} {S : Store} {ma mi : ME} {e : Ev} (h1 : ma e S = some (encT r, S)) (h2 : mi e S = some (cI i, S)) (hz : r.length < LIM) : mBin fAdd ma (mTup (mCons mi mNil)) e S = some (encT (r ++ [i]), S) := by
  refine bin_of h1 (tup_of (one_of h2) (by show 1 ≤ 16777216; decide)) ?_
  unfold encT
  rw [r_addT, if_pos (by rw [encN_length]; exact hz)]
  simp [encN]
theorem pap_fit32 {n : Nat} {P} {word : Str} (hw : PyData.strOk word = true) : D.fit 32 (pap n P word) = true := by
  unfold pap
  split
  · simp; decide +kernel
  · simp [hw]
theorem pap_eq {n : Nat} {P} {word : Str} (hw : ((Str.ofString "envies") == word) = false) : deq (pap n P word) (.tup [.str word]) = (papI n P).isNone := by
  unfold pap
  cases papI n P with
  | none => simp
  | some i => simp [hw]
theorem noE_word : ((Str.ofString "envies") == (Str.ofString "no envy")) = false := by decide +kernel
theorem bOne_word : ((Str.ofString "envies") == (Str.ofString "but one")) = false := by decide +kernel
theorem noE_ok : PyData.strOk (Str.ofString "no envy") = true := by decide +kernel
theorem bOne_ok : PyData.strOk (Str.ofString "but one") = true := by decide +kernel
def noE (n : Nat) (W : List (List Int)) (r : List Nat) : Bool := (papI n (EN W r)).isNone
theorem rt_pap {n : Nat} {P} {word : Str} {S : Store} : readTop (pap n P word) S = pap n P word := by unfold pap; split <;> rfl
section
variable {n m : Nat} {W : List (List Int)} (hW : Wok n m W)
include hW
theorem fitRows (g : Nat) : D.fit 11 (.lst ((rowsOf n g).map encT)) = true := by
  rw [fit_lst]
  exact fitL_map fun x _ => by unfold encT; rw [fit_tup]; exact fitL_N x _
theorem M_noEnvy_eq (S : Store) : M_noEnvySharing [encW W] S = some (encO ((rowsOf n m).find? (noE n W)), S) := by
  have h3 := hW.n3
  have h5 := hW.m5
  have loop := forL_range (bind := (Tg.nm 2).f) (body := (mAsg (mVal (mLC2 (mIt (mV 1)) (.nm 3) mYes (mRg1 (mCons (mCB fLen (mCons (mV 0) mNil)) mNil)) (.nm 4) mYes (mBin fAdd (mV 3) (mTup (mCons (mV 4) mNil))) [3, 4] [4])) (.nm 1)))
    (fun g e S' => S' = S ∧ ∃ a b c, e = [some (encW W), some (.lst ((rowsOf n g).map encT)), a, b, c]) m (e := [some (encW W), some (.lst ((rowsOf n 0).map encT)), none, none, none]) (S := S) ⟨rfl, _, _, _, rfl⟩ ?_
  · obtain ⟨e', S', h1, rfl, a, b, c, rfl⟩ := loop
    have find := forL_find (bind := (Tg.nm 3).f) (body := (mIfS (mTV (mBin fEq (mCall M_envyPaper (mCons (mV 0) (mCons (mV 3) mNil))) (mTup (mCons (mC (.str "no envy")) mNil)))) (mRet (mV 3)) mSkip)) (S := S')
      (fun e => ∃ b, e = [some (encW W), some (.lst ((rowsOf n m).map encT)), a, b, c]) encT (noE n W) encT (rowsOf n m) [some (encW W), some (.lst ((rowsOf n m).map encT)), a, b, c] ⟨_, rfl⟩ ?_
    · cases hf : (rowsOf n m).find? (noE n W) with
      | some r =>
        refine fn_rt (d := encT r) (S' := S') rfl (seq_nx (asg_of (d := .lst [.tup []]) (lst_of (one_of (tup_of rfl (by show 0 ≤ 16777216; decide))) (by show 1 ≤ 16777216; decide))) (seq_nx (for_of (len0 hW rfl) h1) (seq_rt (for_of (L := (rowsOf n m).map encT) (it_of rfl rfl) (find.1 r hf))))) (fin_pure (fitT r))
      | none =>
        obtain ⟨e', h2, b', rfl⟩ := find.2 hf
        refine fn_rt (d := .non) (S' := S') rfl (seq_nx (asg_of (d := .lst [.tup []]) (lst_of (one_of (tup_of rfl (by show 0 ≤ 16777216; decide))) (by show 1 ≤ 16777216; decide))) (seq_nx (for_of (len0 hW rfl) h1) (seq_nx (for_of (L := (rowsOf n m).map encT) (it_of rfl rfl) h2) (ret_of rfl)))) (fin_pure rfl)
    · rintro r hr e ⟨b, rfl⟩
      obtain ⟨r1, r2⟩ := rows_ok m r hr
      have hp := M_envyPaper_eq (S := S') (ds := encT r) hW (.inl rfl) (by omega)
      have hc : mTV (mBin fEq (mCall M_envyPaper (mCons (mV 0) (mCons (mV 3) mNil))) (mTup (mCons (mC (.str "no envy")) mNil))) [some (encW W), some (.lst ((rowsOf n m).map encT)), a, some (encT r), c] S' = some (noE n W r, S') :=
        tv_of (bin_of (call_of rfl hp) (tup_of (one_of rfl) (by show 1 ≤ 16777216; decide)) (eq_of (by rw [rt_pap]; exact pap_fit32 noE_ok) (by simp [noE_ok]) (by rw [rt_pap, rt_tup, pap_eq noE_word]; rfl)))
      refine ⟨_, rfl, ?_⟩
      split
      · rename_i hq
        exact ifs_of (hc.trans (by rw [hq])) (if_pos rfl)
      · rename_i hq
        exact ⟨_, ifs_of (hc.trans (by rw [eq_false_of_ne_true hq])) (if_neg (by simp)), _, rfl⟩
  · rintro g hg e S' ⟨rfl, a, b, c, rfl⟩
    refine ⟨_, [some (encW W), some (.lst ((rowsOf n (g + 1)).map encT)), some (cI g), b, c], S', rfl, asg_of ?_, rfl, _, _, _, rfl⟩
    have e1 : (rowsOf n (g + 1)).map encT = (rowsOf n g).flatMap fun r => (List.range n).map fun i => encT (r ++ [i]) := by
      rw [show rowsOf n (g + 1) = (rowsOf n g).flatMap fun r => (List.range n).map fun i => r ++ [i] from rfl, List.map_flatMap]
      congr 1; funext r
      rw [List.map_map]; rfl
    have hz := rows_lim (n := n) (g := g + 1) h3 (by omega)
    rw [e1]
    refine val_lc2 encT (fun r => (List.range n).map fun i => encT (r ++ [i])) (rowsOf n g) (it_of rfl rfl) ?_ (by rw [← e1, List.length_map]; show _ ≤ 16777216; omega)
    intro r hr
    obtain ⟨r1, r2⟩ := rows_ok g r hr
    refine ⟨_, rfl, in_lc (rng_len (d := encW W) (xs := W.map encR) rfl (by unfold encW; simp) rfl (by rw [List.length_map, hW.len]) (by show _ < 16777216; omega)) (lcL_map (α := Nat) cI (fun i => encT (r ++ [i])) (List.range n) ?_)⟩
    intro i hi
    exact ⟨_, rfl, snoc_of rfl rfl (by show _ < 16777216; omega)⟩
theorem M_LSharings_eq (S : Store) : M_LSharings [cI n, cI m] S = some (.lst ((rowsOf n m).map encT), S) := by
  have h3 := hW.n3
  have h5 := hW.m5
  have loop := forL_range (bind := (Tg.nm 3).f) (body := (mSeq (mAsg (mVal (mLst mNil)) (.nm 4))
    (mSeq (mFor (mIt (mV 2)) (.nm 5) (mAsg (mBin fAdd (mV 4) (mVal (mLC (mRg1 (mCons (mV 0) mNil)) (.nm 6) mYes (mBin fAdd (mV 5) (mTup (mCons (mV 6) mNil))) [6]))) (.nm 4)))
    (mAsg (mV 4) (.nm 2)))))
    (fun g e S' => S' = S ∧ ∃ a b c d, e = [some (cI n), some (cI m), some (.lst ((rowsOf n g).map encT)), a, b, c, d]) m (e := [some (cI n), some (cI m), some (.lst ((rowsOf n 0).map encT)), none, none, none, none]) (S := S) ⟨rfl, _, _, _, _, rfl⟩ ?_
  · obtain ⟨e', S', h1, rfl, a, b, c, d, rfl⟩ := loop
    exact fn_rt (S' := S') rfl (seq_nx (asg_of (d := .lst [.tup []]) (lst_of (one_of (tup_of rfl (by show 0 ≤ 16777216; decide))) (by show 1 ≤ 16777216; decide))) (seq_nx (for_of (rg1_of (one_of rfl) (by omega)) h1) (ret_of rfl))) (fin_pure (fitRows hW m))
  · rintro g hg e S' ⟨rfl, a, b, c, d, rfl⟩
    have hz := rows_lim (n := n) (g := g + 1) h3 (by omega)
    have hz0 := rows_lim (n := n) (g := g) h3 (by omega)
    have hfl : ∀ l : List (List Nat), (l.flatMap fun r => (List.range n).map fun i => r ++ [i]).length = l.length * n := by
      intro l
      induction l with
      | nil => simp
      | cons a l ih => rw [List.flatMap_cons, List.length_append, ih, List.length_map, List.length_range, List.length_cons, Nat.succ_mul, Nat.add_comm]
    have each := forL_each (bind := (Tg.nm 5).f) (body := (mAsg (mBin fAdd (mV 4) (mVal (mLC (mRg1 (mCons (mV 0) mNil)) (.nm 6) mYes (mBin fAdd (mV 5) (mTup (mCons (mV 6) mNil))) [6]))) (.nm 4))) encT
      (fun done e S2 => S2 = S' ∧ ∃ c d, e = [some (cI n), some (cI m), some (.lst ((rowsOf n g).map encT)), some (cI g), some (.lst ((done.flatMap fun r => (List.range n).map fun i => r ++ [i]).map encT)), c, d]) (rowsOf n g) ?_ (rowsOf n g) []
      [some (cI n), some (cI m), some (.lst ((rowsOf n g).map encT)), some (cI g), some (.lst []), c, d] S' rfl ⟨rfl, _, _, rfl⟩
    · obtain ⟨e', S2, h1, rfl, c', d', rfl⟩ := each
      refine ⟨_, _, S2, rfl, seq_nx (asg_of (d := .lst []) (lst_of rfl (by show 0 ≤ 16777216; decide))) (seq_nx (for_of (L := (rowsOf n g).map encT) (it_of rfl rfl) h1) (asg_of rfl)), rfl, _, _, _, _, rfl⟩
    · rintro done r rest hall e S2 ⟨rfl, c, d, rfl⟩
      have hr : r ∈ rowsOf n g := by rw [← hall]; simp
      obtain ⟨r1, r2⟩ := rows_ok g r hr
      have hdl : done.length < 243 := by
        have := congrArg List.length hall
        rw [List.length_append, List.length_cons] at this
        omega
      have hdn : done.length * n ≤ 729 := Nat.le_trans (Nat.mul_le_mul (Nat.le_of_lt hdl) h3) (by decide)
      refine ⟨_, [some (cI n), some (cI m), some (.lst ((rowsOf n g).map encT)), some (cI g), some (.lst (((done ++ [r]).flatMap fun r => (List.range n).map fun i => r ++ [i]).map encT)), some (encT r), d], S2, rfl, asg_of ?_, rfl, _, _, rfl⟩
      refine bin_of (a := .lst ((done.flatMap fun r => (List.range n).map fun i => r ++ [i]).map encT)) (b := .lst ((List.range n).map fun i => encT (r ++ [i]))) (S1 := S2) (S2 := S2) rfl (val_lc (rg1_of (one_of rfl) (by omega)) (lcL_map (α := Nat) cI (fun i => encT (r ++ [i])) (List.range n) ?_) (by simp; show _ ≤ 16777216; omega)) ?_
      · intro i hi
        exact ⟨_, rfl, snoc_of rfl rfl (by show _ < 16777216; omega)⟩
      · rw [r_addL, if_pos (by rw [List.length_map, hfl, List.length_map, List.length_range]; show _ ≤ 16777216; omega), List.flatMap_append, List.map_append]
        simp
end
end K60
namespace K60
open PySem PySem.Spec PyProof.Rows L2 DV
theorem M_LStart_eq (ns : List Int) (hn : ns.length ≤ 63) : ∃ S', M_LStart [.fr (ns.map D.int)] [] = some (.ref 0, S') ∧ Cur S' := by
  obtain ⟨a, b, hc⟩ : ∃ a b, DV.cutD (ns.map D.int) none (some 63) = ((ns.drop a).take b).map D.int := ⟨_, _, by unfold DV.cutD; rw [← List.map_drop, ← List.map_take]⟩
  have hs : mVal (mSlL (mV 0) mO0 (mO1 (mC (.int 63)))) [some (.fr (ns.map D.int)), none] [] = some (.lst (((ns.drop a).take b).map D.int), []) := by
    rw [r_Val, r_SlL]
    simp only [r_V, List.getElem?_cons_zero, Option.bind_some, r_O0, r_O1, r_C, lst_fr, hc]
  have hz : ((ns.drop a).take b).length ≤ 63 := by rw [List.length_take, List.length_drop]; omega
  refine ⟨curO ((ns.drop a).take b) 0 0 0, fn_rt rfl (ret_of (sto_of (S1 := []) (ds := [.lst (((ns.drop a).take b).map D.int), .int 0, .int 0, .int 0, .int 20]) (cons_of (val_lc (L := ((ns.drop a).take b).map D.int) (it_of hs rfl) (lcL_map (α := Int) D.int D.int _ ?_) (by rw [List.length_map]; show _ ≤ 16777216; omega)) rfl) (by show 5 ≤ 16777216; decide))) rfl, ⟨_, _, _, _, Nat.zero_le _, rfl⟩⟩
  intro x _
  exact ⟨_, rfl, cb_of (one_of rfl) r_int⟩
theorem take_cur {S : Store} {k : Nat} (h : Cur S) (h0 : 0 < k) (h1 : k < 1073741824) : ∃ d S', d < k ∧ M_LTake [.ref 0, cI k] S = some (cI d, S') ∧ Cur S' := by
  obtain ⟨cells, pos, a, b, hp, rfl⟩ := h
  obtain ⟨d, p2, a2, b2, g1, g2, g3⟩ := take_spec (a := a) (b := b) hp h0 h1
  exact ⟨d, _, g1, g3, _, _, _, _, g2, rfl⟩
/-- a tuple of drawn digits -/
theorem tups_cur {S : Store} {e : Ev} {k l v vk : Nat} {mk : ML} (hk : mk e S = some ([cI l], S)) (h : Cur S) (hl : l ≤ 5) (h0 : 0 < k) (h1 : k < 1073741824) (hv : 12 = v) (he : e[1]? = some (some (.ref 0))) (hev : e[vk]? = some (some (cI k))) (hne : vk ≠ 12) :
    ∃ (s : List Nat) (S' : Store), s.length = l ∧ (∀ x ∈ s, x < k) ∧ mCB fTuple (mCons (mVal (mLC (mRg1 mk) (.nm 12) mYes (mCall M_LTake (mCons (mV 1) (mCons (mV vk) mNil))) [12])) mNil) e S = some (encT s, S') ∧ Cur S' := by
  have hw1 : ((wipeE e [12]).set 12 none)[1]? = some (some (.ref 0)) := by
    simp only [wipeE]
    rw [List.getElem?_set_ne (by decide), List.getElem?_set_ne (by decide), he]
  obtain ⟨ys, S', g1, g2, g3, g4⟩ := lcL_inv (bind := (Tg.nm 12).f) (elt := mCall M_LTake (mCons (mV 1) (mCons (mV vk) mNil))) (e0 := wipeE e [12]) Cur (fun y => ∃ d : Nat, y = cI d ∧ d < k) ((List.range l).map cI) S h (fun d _ S h => by
    obtain ⟨z, S', q1, q2, q3⟩ := take_cur h h0 h1
    refine ⟨(wipeE e [12]).set 12 (some d), cI z, S', rfl, call_of (ds := [.ref 0, cI k]) (S1 := S) (cons_of (d := .ref 0) (S1 := S) ?_ (one_of (d := cI k) (S1 := S) ?_)) q2, ⟨z, rfl, q1⟩, q3⟩
    · rw [r_V]
      simp only [wipeE]
      rw [List.getElem?_set_ne (by decide), List.getElem?_set_ne (by decide), he]
    · rw [r_V]
      simp only [wipeE]
      rw [List.getElem?_set_ne (Ne.symm hne), List.getElem?_set_ne (Ne.symm hne), hev])
  obtain ⟨s, rfl, hs⟩ := exists_map (f := cI) (Q := fun d => d < k) g3
  rw [List.length_map, List.length_map, List.length_range] at g2
  refine ⟨s, S', g2, hs, cb_of (one_of (val_lc (rg1_of hk (by omega)) g1 (by rw [List.length_map]; show _ ≤ 16777216; omega))) ?_, g4⟩
  rw [r_tuple]; rfl
theorem alikeN {s : List Nat} {S : Store} (hz : s.length ≤ 5) : M_LAlike [encT s, encT s] S = some (.bl true, S) := alike_N (by show _ < 16777216; omega)
theorem alikeO {o : Option (List Nat)} {S : Store} (hz : ∀ s, o = some s → s.length ≤ 5) : M_LAlike [encO o, encO o] S = some (.bl true, S) := by
  cases o with
  | none => exact alike_non
  | some s => exact alikeN (hz s rfl)
/-- the law's variables behind its draws -/
def lawEnv (W : List (List Int)) (n m : Nat) (sc a2 a4 a5 a6 a9 a10 a11 a12 : Option D) : Ev := [sc, some (.ref 0), a2, some (encW W), a4, a5, a6, some (cI n), some (cI m), a9, a10, a11, a12]
def lawTurn : MS := (mSeq (mAsg (mCB fTuple (mCons (mVal (mLC (mRg1 (mCons (mV 8) mNil)) (.nm 12) mYes (mCall M_LTake (mCons (mV 1) (mCons (mV 7) mNil))) [12])) mNil)) (.nm 9))
    (mSeq (mIfS (mNot (mTru (mCall M_LAlike (mCons (mCall M_envyPaper (mCons (mV 3) (mCons (mV 9) mNil))) (mCons (mCall M_LPaper (mCons (mV 3) (mCons (mV 9) (mCons (mC (.str "no envy")) (mCons (mC (.int 0)) mNil))))) mNil))))) (mRet (mC (.bl false))) mSkip)
    (mIfS (mNot (mTru (mCall M_LAlike (mCons (mCall M_butOnePaper (mCons (mV 3) (mCons (mV 9) mNil))) (mCons (mCall M_LPaper (mCons (mV 3) (mCons (mV 9) (mCons (mC (.str "but one")) (mCons (mC (.int 1)) mNil))))) mNil))))) (mRet (mC (.bl false))) mSkip)))
theorem papL0 {n : Nat} {W : List (List Int)} {s : List Nat} {word : Str} : pap n (PL W s 0) word = pap n (EN W s) word := pap_congr fun i j _ _ => PL0 W s i j
theorem papL1 {n : Nat} {W : List (List Int)} {s : List Nat} {word : Str} : pap n (PL W s 1) word = pap n (PB W s) word := pap_congr fun i j _ _ => PL1 W s i j
theorem i64s : I64 0 ∧ I64 1 := by decide
section
variable {n m : Nat} {W : List (List Int)} (hW : Wok n m W)
include hW
theorem lawTurn_eq {S : Store} (h : Cur S) {sc a2 a4 a5 a6 a9 a10 a11 a12 : Option D} : ∃ (s : List Nat) (S' : Store), Cur S' ∧ lawTurn (lawEnv W n m sc a2 a4 a5 a6 a9 a10 a11 a12) S = some (.nx (lawEnv W n m sc a2 a4 a5 a6 (some (encT s)) a10 a11 a12), S') := by
  have h3 := hW.n3
  have h5 := hW.m5
  obtain ⟨s, S', s1, s2, s3, s4⟩ := tups_cur (S := S) (e := lawEnv W n m sc a2 a4 a5 a6 a9 a10 a11 a12) (k := n) (l := m) (v := 12) (vk := 7) (mk := mCons (mV 8) mNil) (one_of rfl) h h5 hW.n0 (by omega) rfl rfl rfl (by decide)
  have e1 := M_envyPaper_eq (S := S') (ds := encT s) hW (.inl rfl) (by omega)
  have e2 := M_LPaper_eq (S := S') (ds := encT s) (word := "no envy") (but := 0) hW (.inl rfl) (by omega) noE_ok i64s.1
  have e3 := M_butOnePaper_eq (S := S') (ds := encT s) hW (.inl rfl) (by omega)
  have e4 := M_LPaper_eq (S := S') (ds := encT s) (word := "but one") (but := 1) hW (.inl rfl) (by omega) bOne_ok i64s.2
  rw [papL0] at e2
  rw [papL1] at e4
  refine ⟨s, S', s4, seq_nx (asg_of s3) (seq_nx (ifs_of (b := false) (not_of (b := true) (tru_of (call_of (cons_of (call_of rfl e1) (one_of (call_of rfl e2))) (alike_pap noE_ok)) rfl)) rfl) (ifs_of (b := false) (not_of (b := true) (tru_of (call_of (cons_of (call_of rfl e3) (one_of (call_of rfl e4))) (alike_pap bOne_ok)) rfl)) rfl))⟩
theorem ef_pap {s : List Nat} (h : Ef n W s) : papI n (PB W s) = none := by
  unfold papI
  rw [List.find?_eq_none]
  intro i hi
  have hi : i < n := by simpa using hi
  intro hc
  obtain ⟨j, hj, hp⟩ := List.any_eq_true.mp hc
  have hj : j < n := by simpa using hj
  unfold PB at hp
  simp only [Bool.and_eq_true, decide_eq_true_eq] at hp
  have := h i j hi hj
  unfold ow bs at this
  omega
def lawEnd : MS := (mSeq (mAsg (mCall M_shareOut (mCons (mV 3) mNil)) (.nm 5))
    (mSeq (mIfS (mOr (mNot (mTru (mCall M_LAlike (mCons (mV 5) (mCons (mCall M_LShared (mCons (mV 3) mNil)) mNil))))) (mTV (mBin fNe (mCall M_butOnePaper (mCons (mV 3) (mCons (mV 5) mNil))) (mTup (mCons (mC (.str "but one")) mNil))))) (mRet (mC (.bl false))) mSkip)
    (mSeq (mAsg (mVal (mLC (mIt (mCall M_LSharings (mCons (mV 7) (mCons (mV 8) mNil)))) (.nm 10) (mTV (mBin fEq (mCall M_LPaper (mCons (mV 3) (mCons (mV 10) (mCons (mC (.str "no envy")) (mCons (mC (.int 0)) mNil))))) (mTup (mCons (mC (.str "no envy")) mNil)))) (mV 10) [10])) (.nm 6))
    (mRet (mCall M_LAlike (mCons (mCall M_noEnvySharing (mCons (mV 3) mNil)) (mCons (mIf (mTru (mV 6)) (mBin fIx (mV 6) (mC (.int 0))) (mC .non)) mNil)))))))
theorem lawEnd_eq {S : Store} {sc a2 a4 a5 a6 a9 a10 a11 a12 : Option D} : lawEnd (lawEnv W n m sc a2 a4 a5 a6 a9 a10 a11 a12) S = some (.rt (.bl true), S) := by
  have h3 := hW.n3
  have h5 := hW.m5
  obtain ⟨s, q1, q2, q3, q4⟩ := chain_ok hW m (Nat.le_refl m)
  have g1 := M_shareOut_eq hW q1 S
  have g2 := M_LShared_eq hW q1 S
  have g3 := M_butOnePaper_eq (S := S) (ds := encT s) hW (.inl rfl) (by omega)
  have g4 := M_noEnvy_eq hW S
  have hn : mNot (mTru (mCall M_LAlike (mCons (mV 5) (mCons (mCall M_LShared (mCons (mV 3) mNil)) mNil)))) (lawEnv W n m sc a2 a4 (some (encT s)) a6 a9 a10 a11 a12) S = some (false, S) := not_of (b := true) (tru_of (call_of (cons_of rfl (one_of (call_of rfl g2))) (alikeN (by omega))) rfl)
  have hb : mTV (mBin fNe (mCall M_butOnePaper (mCons (mV 3) (mCons (mV 5) mNil))) (mTup (mCons (mC (.str "but one")) mNil))) (lawEnv W n m sc a2 a4 (some (encT s)) a6 a9 a10 a11 a12) S = some (false, S) := by
    refine tv_of (bin_of (call_of rfl g3) (tup_of (one_of rfl) (by show 1 ≤ 16777216; decide)) (ne_of (r := true) (by rw [rt_pap]; exact pap_fit32 bOne_ok) (by simp [bOne_ok]) ?_))
    rw [rt_pap, rt_tup, pap_eq bOne_word, ef_pap hW q4]; rfl
  have hf : mVal (mLC (mIt (mCall M_LSharings (mCons (mV 7) (mCons (mV 8) mNil)))) (.nm 10) (mTV (mBin fEq (mCall M_LPaper (mCons (mV 3) (mCons (mV 10) (mCons (mC (.str "no envy")) (mCons (mC (.int 0)) mNil))))) (mTup (mCons (mC (.str "no envy")) mNil)))) (mV 10) [10]) (lawEnv W n m sc a2 a4 (some (encT s)) a6 a9 a10 a11 a12) S = some (.lst (((rowsOf n m).filter (noE n W)).map encT), S) := by
    have hz := rows_lim (n := n) (g := m) h3 h5
    refine val_lc (L := (rowsOf n m).map encT) (it_of (call_of rfl (M_LSharings_eq hW S)) rfl) (lcL_pure encT (noE n W) encT (rowsOf n m) ?_) (by rw [List.length_map]; exact Nat.le_trans (List.length_filter_le _ _) (by show _ ≤ 16777216; omega))
    intro r hr
    obtain ⟨r1, r2⟩ := rows_ok m r hr
    have e2 := M_LPaper_eq (S := S) (ds := encT r) (word := "no envy") (but := 0) hW (.inl rfl) (by omega) noE_ok i64s.1
    rw [papL0] at e2
    exact ⟨_, rfl, tv_of (bin_of (call_of rfl e2) (tup_of (one_of rfl) (by show 1 ≤ 16777216; decide)) (eq_of (by rw [rt_pap]; exact pap_fit32 noE_ok) (by simp [noE_ok]) (by rw [rt_pap, rt_tup, pap_eq noE_word]; rfl))), fun _ => rfl⟩
  have hi : mIf (mTru (mV 6)) (mBin fIx (mV 6) (mC (.int 0))) (mC .non) (lawEnv W n m sc a2 a4 (some (encT s)) (some (.lst (((rowsOf n m).filter (noE n W)).map encT))) a9 a10 a11 a12) S = some (encO ((rowsOf n m).find? (noE n W)), S) := by
    rw [← List.head?_filter]
    cases (rowsOf n m).filter (noE n W) with
    | nil => rfl
    | cons r l =>
      refine if_of (b := true) (tru_of rfl rfl) (bin_of (a := .lst ((r :: l).map encT)) (b := .int ((0 : Nat) : Int)) (S1 := S) (S2 := S) rfl rfl ?_)
      rw [DV.ix_lst, atI_map (by simp)]; rfl
  refine seq_nx (asg_of (call_of rfl g1)) (seq_nx (ifs_of (b := false) (or_of (x := false) hn hb) rfl) (seq_nx (asg_of hf) (ret_of (call_of (cons_of (call_of rfl g4) (one_of hi)) (alikeO ?_)))))
  intro r hr
  have := (rows_ok m r (List.mem_of_find?_eq_some hr)).1
  omega
end
end K60
namespace K60
open PySem PySem.Spec PyProof.Rows L2 DV
theorem most_of {d : Nat} (h : d < 3) : ∃ k : Nat, 0 < k ∧ k ≤ 30 ∧ atI [D.int 3, D.int 9, D.int 30] (d : Int) = some (cI k) := by
  rcases (show d = 0 ∨ d = 1 ∨ d = 2 by omega) with rfl | rfl | rfl
  · exact ⟨3, by decide, by decide, rfl⟩
  · exact ⟨9, by decide, by decide, rfl⟩
  · exact ⟨30, by decide, by decide, rfl⟩
theorem getD_row {W : List (List Int)} {P : List Int → Prop} (hP : ∀ r ∈ W, P r) {i : Nat} (hi : i < W.length) : P (W.getD i []) := by
  have : W.getD i [] = W[i] := by simp [List.getD, hi]
  rw [this]; exact hP _ (List.getElem_mem hi)
theorem good : Good := by
  intro ns hn
  obtain ⟨S0, h0, c0⟩ := M_LStart_eq ns hn
  obtain ⟨n0, S1, hn0, t1, c1⟩ := take_cur (k := 3) c0 (by decide) (by decide)
  obtain ⟨m0, S2, hm0, t2, c2⟩ := take_cur (k := 5) c1 (by decide) (by decide)
  obtain ⟨d, S3, hd, t3, c3⟩ := take_cur (k := 3) c2 (by decide) (by decide)
  obtain ⟨k, k0, k1, kd⟩ := most_of hd
  have sN : (1 : Int) + (n0 : Int) = ((n0 + 1 : Nat) : Int) := by omega
  have sM : (1 : Int) + (m0 : Int) = ((m0 + 1 : Nat) : Int) := by omega
  generalize hn' : n0 + 1 = n at sN
  generalize hm' : m0 + 1 = m at sM
  have st1 : mAsg (mCall M_LStart (mCons (mV 0) mNil)) (.nm 1) ([D.fr (ns.map D.int)].map some ++ List.replicate (13 - 1) none) [] = some (.nx [some (.fr (ns.map D.int)), some (.ref 0), none, none, none, none, none, none, none, none, none, none, none], S0) := asg_of (call_of rfl h0)
  have st2 : mAsg (mTup (mCons (mBin fAdd (mC (.int 1)) (mCall M_LTake (mCons (mV 1) (mCons (mC (.int 3)) mNil)))) (mCons (mBin fAdd (mC (.int 1)) (mCall M_LTake (mCons (mV 1) (mCons (mC (.int 5)) mNil)))) mNil))) (.tp [7, 8]) [some (.fr (ns.map D.int)), some (.ref 0), none, none, none, none, none, none, none, none, none, none, none] S0 =
      some (.nx [some (.fr (ns.map D.int)), some (.ref 0), none, none, none, none, none, some (cI n), some (cI m), none, none, none, none], S2) := by
    have : mTup (mCons (mBin fAdd (mC (.int 1)) (mCall M_LTake (mCons (mV 1) (mCons (mC (.int 3)) mNil)))) (mCons (mBin fAdd (mC (.int 1)) (mCall M_LTake (mCons (mV 1) (mCons (mC (.int 5)) mNil)))) mNil)) [some (.fr (ns.map D.int)), some (.ref 0), none, none, none, none, none, none, none, none, none, none, none] S0 = some (.tup [cI n, cI m], S2) :=
      tup_of (cons_of (bin_of rfl (call_of rfl t1) (by rw [r_add, sN])) (one_of (bin_of rfl (call_of rfl t2) (by rw [r_add, sM])))) (by show 2 ≤ 16777216; decide)
    rw [r_Asg, this]; rfl
  have st3 : mAsg (mBin fIx (mVal (mLst (mCons (mC (.int 3)) (mCons (mC (.int 9)) (mCons (mC (.int 30)) mNil))))) (mCall M_LTake (mCons (mV 1) (mCons (mC (.int 3)) mNil)))) (.nm 2) [some (.fr (ns.map D.int)), some (.ref 0), none, none, none, none, none, some (cI n), some (cI m), none, none, none, none] S2 =
      some (.nx [some (.fr (ns.map D.int)), some (.ref 0), some (cI k), none, none, none, none, some (cI n), some (cI m), none, none, none, none], S3) :=
    asg_of (bin_of (a := .lst [.int 3, .int 9, .int 30]) (S1 := S2) (lst_of rfl (by show 3 ≤ 16777216; decide)) (call_of rfl t3) (by rw [DV.ix_lst, kd]; rfl))
  obtain ⟨ys, S4, g1, g2, g3, g4⟩ := lcL_inv (bind := (Tg.nm 11).f) (elt := mCB fTuple (mCons (mVal (mLC (mRg1 (mCons (mV 8) mNil)) (.nm 12) mYes (mCall M_LTake (mCons (mV 1) (mCons (mV 2) mNil))) [12])) mNil))
    (e0 := wipeE [some (.fr (ns.map D.int)), some (.ref 0), some (cI k), none, none, none, none, some (cI n), some (cI m), none, none, none, none] [11]) Cur
    (fun y => ∃ r : List Nat, y = encT r ∧ (r.length = m ∧ ∀ x ∈ r, x < k)) ((List.range n).map cI) S3 c3 (fun x _ S h => by
      obtain ⟨r, S', q1, q2, q3, q4⟩ := tups_cur (S := S) (e := [some (.fr (ns.map D.int)), some (.ref 0), some (cI k), none, none, none, none, some (cI n), some (cI m), none, none, some x, none]) (k := k) (l := m) (v := 12) (vk := 2) (mk := mCons (mV 8) mNil) (one_of rfl) h (by omega) k0 (by omega) rfl rfl rfl (by decide)
      exact ⟨_, encT r, S', rfl, q3, ⟨r, rfl, q1, q2⟩, q4⟩)
  obtain ⟨rs, rfl, hrs⟩ := exists_map (f := encT) (Q := fun r : List Nat => r.length = m ∧ ∀ x ∈ r, x < k) g3
  rw [List.length_map, List.length_map, List.length_range] at g2
  have hWe : rs.map encT = (rs.map fun r => r.map fun x : Nat => (x : Int)).map encR := by
    rw [List.map_map]
    apply List.map_congr_left
    intro r _
    unfold encT encN
    simp [encR]
  generalize hWd : (rs.map fun r => r.map fun x : Nat => (x : Int)) = W at hWe
  have hWl : W.length = n := by rw [← hWd, List.length_map, g2]
  have hWr : ∀ r ∈ W, r.length = m ∧ ∀ g : Nat, 0 ≤ r.getD g 0 ∧ r.getD g 0 ≤ 29 := by
    rw [← hWd]
    intro r hr
    obtain ⟨q, hq, rfl⟩ := List.mem_map.mp hr
    obtain ⟨q1, q2⟩ := hrs q hq
    refine ⟨by rw [List.length_map, q1], fun g => ?_⟩
    by_cases hg : g < q.length
    · have : (q.map fun x : Nat => (x : Int)).getD g 0 = (q[g] : Int) := by simp [List.getD, hg]
      rw [this]
      have := q2 _ (List.getElem_mem hg)
      omega
    · have : (q.map fun x : Nat => (x : Int)).getD g 0 = 0 := by simp [List.getD, hg]
      rw [this]; decide
  have hout : ∀ i g : Nat, ¬ i < W.length → (W.getD i []).getD g 0 = 0 := by
    intro i g hi
    have : W.getD i [] = [] := by simp [List.getD, hi]
    rw [this]; rfl
  have hW : Wok n m W := {
    len := hWl
    n0 := by omega
    n3 := by omega
    m0 := by omega
    m5 := by omega
    row := fun i hi => (getD_row hWr (by omega)).1
    pos := fun i g => by
      by_cases hi : i < W.length
      · exact ((getD_row hWr hi).2 g).1
      · rw [hout i g hi]; decide
    top := fun i g => by
      by_cases hi : i < W.length
      · exact ((getD_row hWr hi).2 g).2
      · rw [hout i g hi]; decide }
  have st4 : mAsg (mCB fTuple (mCons (mVal (mLC (mRg1 (mCons (mV 7) mNil)) (.nm 11) mYes (mCB fTuple (mCons (mVal (mLC (mRg1 (mCons (mV 8) mNil)) (.nm 12) mYes (mCall M_LTake (mCons (mV 1) (mCons (mV 2) mNil))) [12])) mNil)) [11])) mNil)) (.nm 3) [some (.fr (ns.map D.int)), some (.ref 0), some (cI k), none, none, none, none, some (cI n), some (cI m), none, none, none, none] S3 =
      some (.nx (lawEnv W n m (some (.fr (ns.map D.int))) (some (cI k)) none none none none none none none), S4) := by
    refine asg_of (d := encW W) (cb_of (one_of (val_lc (rg1_of (one_of rfl) (by omega)) g1 (by rw [List.length_map]; show _ ≤ 16777216; omega))) ?_)
    rw [r_tuple, hWe]; rfl
  obtain ⟨e', S5, l1, c5, sc, a2, a4, a5, a6, a9, a10, a11, a12, rfl⟩ := forL_range (bind := (Tg.nm 4).f) (body := lawTurn)
    (fun _ e S => Cur S ∧ ∃ sc a2 a4 a5 a6 a9 a10 a11 a12, e = lawEnv W n m sc a2 a4 a5 a6 a9 a10 a11 a12) 4 (e := lawEnv W n m (some (.fr (ns.map D.int))) (some (cI k)) none none none none none none none) (S := S4) ⟨g4, _, _, _, _, _, _, _, _, _, rfl⟩ (by
      rintro i _ e S ⟨hc, sc, a2, a4, a5, a6, a9, a10, a11, a12, rfl⟩
      obtain ⟨s, S', q1, q2⟩ := lawTurn_eq hW hc (sc := sc) (a2 := a2) (a4 := some (cI i)) (a5 := a5) (a6 := a6) (a9 := a9) (a10 := a10) (a11 := a11) (a12 := a12)
      exact ⟨_, _, S', rfl, q2, q1, _, _, _, _, _, _, _, _, _, rfl⟩)
  refine ⟨S5, fn_rt (S' := S5) (d := .bl true) rfl (seq_nx st1 (seq_nx st2 (seq_nx st3 (seq_nx st4 (seq_nx (for_of (rg1_of (n := 4) (one_of rfl) (by decide)) l1) (lawEnd_eq hW)))))) rfl⟩
end K60

open PySem PySem.W PyProof.Rows
set_option maxHeartbeats 0 in
theorem PySem.Challenge.cw_shareworth_k60_whole_goods_holds : PySem.Challenge.rw_shareworth_k60_whole_goods.Holds := by
  w_on; o_law; k_head; (case hw => w_witness2)
  k_fill
  refine L2.walk_of (l := PySem.Challenge.rw_shareworth_k60_whole_goods) (n := 63) (k := 18) (x := "script") (CX := fun _ => L2.CX0) (sp := fun w => K60.spLaw _) rfl (by decide) rfl ⟨rfl, by decide, by decide⟩ (fun w h Y => PySem.W.kIn_of Y) ?F (fun _ _ a ns hl _ hS => ⟨a, ns, rfl, hS, hl, fun _ => rfl⟩) (fun _ _ _ _ _ h => h)
  case F =>
    intro w mg fa h KX G hmg
    refine' K60.all_mk K60.good KX G hmg ?a0 ?l0 ?c0 ?k0 ?a1 ?l1 ?c1 ?k1 ?a2 ?l2 ?c2 ?k2 ?a3 ?l3 ?c3 ?k3 ?a4 ?l4 ?c4 ?k4 ?a5 ?l5 ?c5 ?k5 ?a6 ?l6 ?c6 ?k6 ?a7 ?l7 ?c7 ?k7 ?a8 ?l8 ?c8 ?k8 ?a9 ?l9 ?c9 ?k9 ?a10 ?l10 ?c10 ?k10 ?a11 ?l11 ?c11 ?k11 ?a12 ?l12 ?c12 ?k12 ?a13 ?l13 ?c13 ?k13 ?a14 ?l14 ?c14 ?k14 ?a15 ?l15 ?c15 ?k15 ?a16 ?l16 ?c16 ?k16 ?a17 ?l17 ?c17 ?k17 ?a18 ?l18 ?c18 ?k18 ?a19 ?l19 ?c19 ?k19 ?z_all ?z_any ?z_bool ?z_enumerate ?z_int ?z_isinstance ?z_len ?z_max ?z_min ?z_range ?z_sorted ?z_str ?z_sum ?z_tuple
    (case a0 => k_is); (case l0 => k_is); (case c0 => k_is); (case k0 => k_is)
    (case a1 => k_is); (case l1 => k_is); (case c1 => k_is); (case k1 => k_is)
    (case a2 => k_is); (case l2 => k_is); (case c2 => k_is); (case k2 => k_is)
    (case a3 => k_is); (case l3 => k_is); (case c3 => k_is); (case k3 => k_is)
    (case a4 => k_is); (case l4 => k_is); (case c4 => k_is); (case k4 => k_is)
    (case a5 => k_is); (case l5 => k_is); (case c5 => k_is); (case k5 => k_is)
    (case a6 => k_is); (case l6 => k_is); (case c6 => k_is); (case k6 => k_is)
    (case a7 => k_is); (case l7 => k_is); (case c7 => k_is); (case k7 => k_is)
    (case a8 => k_is); (case l8 => k_is); (case c8 => k_is); (case k8 => k_is)
    (case a9 => k_is); (case l9 => k_is); (case c9 => k_is); (case k9 => k_is)
    (case a10 => k_is); (case l10 => k_is); (case c10 => k_is); (case k10 => k_is)
    (case a11 => k_is); (case l11 => k_is); (case c11 => k_is); (case k11 => k_is)
    (case a12 => k_is); (case l12 => k_is); (case c12 => k_is); (case k12 => k_is)
    (case a13 => k_is); (case l13 => k_is); (case c13 => k_is); (case k13 => k_is)
    (case a14 => k_is); (case l14 => k_is); (case c14 => k_is); (case k14 => k_is)
    (case a15 => k_is); (case l15 => k_is); (case c15 => k_is); (case k15 => k_is)
    (case a16 => k_is); (case l16 => k_is); (case c16 => k_is); (case k16 => k_is)
    (case a17 => k_is); (case l17 => k_is); (case c17 => k_is); (case k17 => k_is)
    (case a18 => k_is); (case l18 => k_is); (case c18 => k_is); (case k18 => k_is)
    (case a19 => k_is); (case l19 => k_is); (case c19 => k_is); (case k19 => k_is)
    (case z_all => k_is)
    (case z_any => k_is)
    (case z_bool => k_is)
    (case z_enumerate => k_is)
    (case z_int => k_is)
    (case z_isinstance => k_is)
    (case z_len => k_is)
    (case z_max => k_is)
    (case z_min => k_is)
    (case z_range => k_is)
    (case z_sorted => k_is)
    (case z_str => k_is)
    (case z_sum => k_is)
    (case z_tuple => k_is)
