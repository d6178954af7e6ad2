import PyProof.Rows.All
import Wide.All
import OpenK.AllK
import Wide.FinOn
import HandS.ForMost
import HandS.Deep
import HandS.Flow
import HandS.Style
import HandS.TupAny
import HandS.IsInst
import HandS.TryOnly
import KE.SortData
import KE.DataMinMax
import HandS.SortInts
import HandS.DictComp
import KE.GoesMore
import HandS.Conv
import PySem.Challenge.RW_shareworth_k62_rooms_and_rent
set_option Elab.async false
set_option linter.all false
set_option maxRecDepth 100000
/-! DV: values with content, a store, what a piece of Python computes over them; each rule of HandS as one about these. -/
namespace DV
open PySem PySem.Spec PyProof.Rows L2

/-- a value by its content; lists that are never changed are content, others are places of the store -/
inductive D where
  | non
  | bl (b : Bool)
  | int (i : Int)
  | str (x : Str)
  | tup (xs : List D)
  | lst (xs : List D)
  | ref (i : Nat)
  /-- a list that is only read (the script) -/
  | fr (xs : List D)
  | rng (lo hi : Int)

mutual
def D.beq : D → D → Bool
  | .non, .non => true
  | .bl a, .bl b => a == b
  | .int a, .int b => a == b
  | .str a, .str b => decide (a = b)
  | .tup a, .tup b => D.beqL a b
  | .lst a, .lst b => D.beqL a b
  | .ref a, .ref b => a == b
  | .fr a, .fr b => D.beqL a b
  | .rng a b, .rng c d => a == c && b == d
  | _, _ => false
def D.beqL : List D → List D → Bool
  | [], [] => true
  | a :: as, b :: bs => D.beq a b && D.beqL as bs
  | _, _ => false
end
mutual
theorem D.beq_iff : ∀ a b : D, D.beq a b = true ↔ a = b
  | .non, b => by cases b <;> simp [D.beq]
  | .bl _, b => by cases b <;> simp [D.beq]
  | .int _, b => by cases b <;> simp [D.beq]
  | .str _, b => by cases b <;> simp [D.beq]
  | .tup as, b => by
    cases b with
    | tup bs => simp [D.beq, D.beqL_iff as bs]
    | _ => simp [D.beq]
  | .lst as, b => by
    cases b with
    | lst bs => simp [D.beq, D.beqL_iff as bs]
    | _ => simp [D.beq]
  | .ref _, b => by cases b <;> simp [D.beq]
  | .fr as, b => by
    cases b with
    | fr bs => simp [D.beq, D.beqL_iff as bs]
    | _ => simp [D.beq]
  | .rng _ _, b => by cases b <;> simp [D.beq]
theorem D.beqL_iff : ∀ a b : List D, D.beqL a b = true ↔ a = b
  | [], b => by cases b <;> simp [D.beqL]
  | a :: as, b => by
    cases b with
    | nil => simp [D.beqL]
    | cons b bs => simp [D.beqL, D.beq_iff a b, D.beqL_iff as bs]
end
instance : DecidableEq D := fun a b => decidable_of_iff _ (D.beq_iff a b)

/-- what stands at a place of the store -/
inductive Ob where
  | lst (xs : List D)
  | dct (kvs : List (D × D))
  | dtt (kvs : List (D × D))
  | ins (C : Addr) (fs : List (Str × D))
  deriving DecidableEq
abbrev Store := List Ob
abbrev Ev := List (Option D)

/-! ### how content lies in the abstract heap -/
/-- the places' addresses; addresses that are hidden -/
structure Wd where
  rho : List Addr
  B : Addr → Prop
def Out (w : Wd) (a : Addr) : Prop := a ∉ w.rho ∧ ¬ w.B a

mutual
inductive Rp (K : PySem.W.Frag) (w : Wd) (H : Hp) : D → V → Prop
  | non : Rp K w H .non .non
  | bl (b : Bool) : Rp K w H (.bl b) (.bl b)
  | int (i : Int) : Rp K w H (.int i) (.int i)
  | str (x : Str) : Rp K w H (.str x) (.str x)
  | tup {a : Addr} {vs : List V} {ds : List D} : Out w a → Rd H a (.tup vs) → RpL K w H ds vs → Rp K w H (.tup ds) (.ref a)
  | tupK {a : Addr} {vs : List V} {ds : List D} : SqT K (fun _ => none) a vs → RpL K w H ds vs → Rp K w H (.tup ds) (.ref a)
  | lst {a : Addr} {vs : List V} {ds : List D} : Out w a → H a = some (.lst vs) → RpL K w H ds vs → Rp K w H (.lst ds) (.ref a)
  | fr {a : Addr} {vs : List V} {ds : List D} : Out w a → Rd H a (.lst vs) → RpL K w H ds vs → Rp K w H (.fr ds) (.ref a)
  | frK {a : Addr} {vs : List V} {ds : List D} : SqL K (fun _ => none) a vs → RpL K w H ds vs → Rp K w H (.fr ds) (.ref a)
  | ref {i : Nat} {a : Addr} : w.rho[i]? = some a → Rp K w H (.ref i) (.ref a)
  | rng {a : Addr} {lo hi : Int} : Out w a → H a = some (.rng lo hi) → Rp K w H (.rng lo hi) (.ref a)
inductive RpL (K : PySem.W.Frag) (w : Wd) (H : Hp) : List D → List V → Prop
  | nil : RpL K w H [] []
  | cons {d : D} {v : V} {ds : List D} {vs : List V} : Rp K w H d v → RpL K w H ds vs → RpL K w H (d :: ds) (v :: vs)
end

section
variable {K : PySem.W.Frag} {w w' w'' : Wd} {H H' H'' : Hp} {d : D} {v : V} {ds : List D} {vs : List V}
theorem RpL.length : ∀ {ds : List D} {vs : List V}, RpL K w H ds vs → ds.length = vs.length
  | _, _, .nil => rfl
  | _, _, .cons _ t => by simp [RpL.length t]
theorem RpL.get : ∀ {ds : List D} {vs : List V} {i : Nat} {d : D}, RpL K w H ds vs → ds[i]? = some d → ∃ v, vs[i]? = some v ∧ Rp K w H d v
  | _, _, _, _, .nil, e => by simp at e
  | _, _, 0, _, .cons r _, e => by simp at e; subst e; exact ⟨_, rfl, r⟩
  | _, _, i + 1, d, .cons _ t, e => by
    obtain ⟨u, h1, h2⟩ := RpL.get (i := i) (d := d) t (by simpa using e)
    exact ⟨u, by simpa using h1, h2⟩
theorem RpL.get' : ∀ {ds : List D} {vs : List V} {i : Nat} {v : V}, RpL K w H ds vs → vs[i]? = some v → ∃ d, ds[i]? = some d ∧ Rp K w H d v
  | _, _, _, _, .nil, e => by simp at e
  | _, _, 0, _, .cons r _, e => by simp at e; subst e; exact ⟨_, rfl, r⟩
  | _, _, i + 1, d, .cons _ t, e => by
    obtain ⟨u, h1, h2⟩ := RpL.get' (i := i) (v := d) t (by simpa using e)
    exact ⟨u, by simpa using h1, h2⟩
theorem RpL.append : ∀ {ds es : List D} {vs us : List V}, RpL K w H ds vs → RpL K w H es us → RpL K w H (ds ++ es) (vs ++ us)
  | _, _, _, _, .nil, s => s
  | _, _, _, _, .cons r t, s => .cons r (RpL.append t s)
theorem RpL.take : ∀ {ds : List D} {vs : List V} (n : Nat), RpL K w H ds vs → RpL K w H (ds.take n) (vs.take n)
  | _, _, 0, _ => .nil
  | _, _, _ + 1, .nil => .nil
  | _, _, n + 1, .cons r t => .cons r (RpL.take n t)
theorem RpL.drop : ∀ {ds : List D} {vs : List V} (n : Nat), RpL K w H ds vs → RpL K w H (ds.drop n) (vs.drop n)
  | _, _, 0, r => r
  | _, _, _ + 1, .nil => .nil
  | _, _, n + 1, .cons _ t => RpL.drop n t
theorem RpL.set {d : D} {v : V} (r : Rp K w H d v) : ∀ {ds : List D} {vs : List V} (i : Nat), RpL K w H ds vs → RpL K w H (ds.set i d) (vs.set i v)
  | _, _, _, .nil => .nil
  | _, _, 0, .cons _ t => .cons r t
  | _, _, i + 1, .cons q t => .cons q (RpL.set r i t)
theorem RpL.dropLast : ∀ {ds : List D} {vs : List V}, RpL K w H ds vs → RpL K w H ds.dropLast vs.dropLast := fun {ds vs} h => by
  rw [List.dropLast_eq_take, List.dropLast_eq_take, h.length]; exact h.take _
theorem RpL.eraseIdx : ∀ {ds : List D} {vs : List V} (i : Nat), RpL K w H ds vs → RpL K w H (ds.eraseIdx i) (vs.eraseIdx i)
  | _, _, _, .nil => .nil
  | _, _, 0, .cons _ t => t
  | _, _, i + 1, .cons q t => .cons q (RpL.eraseIdx i t)
theorem RpL.reverse : ∀ {ds : List D} {vs : List V}, RpL K w H ds vs → RpL K w H ds.reverse vs.reverse
  | _, _, .nil => .nil
  | _, _, .cons r t => by
    rw [List.reverse_cons, List.reverse_cons]
    exact (RpL.reverse t).append (.cons r .nil)
theorem RpL.rep (h : RpL K w H ds vs) : ∀ k : Nat, RpL K w H (List.replicate k ds).flatten (List.replicate k vs).flatten
  | 0 => .nil
  | k + 1 => by rw [List.replicate_succ, List.replicate_succ, List.flatten_cons, List.flatten_cons]; exact h.append (RpL.rep h k)
theorem RpL.map_int {ns : List Int} : RpL K w H (ns.map D.int) (ns.map V.int) := by
  induction ns with
  | nil => exact .nil
  | cons n r ih => exact .cons (.int n) ih

theorem SqT.none_mono {a : Addr} (h : SqT K (fun _ => none) a vs) : SqT K H a vs := by
  rcases h with h | h
  · rcases h with h | ⟨_, h⟩ <;> cases h
  · exact .inr h
theorem Rp.tup_inv (r : Rp K w H (.tup ds) v) : ∃ a vs, v = .ref a ∧ SqT K H a vs ∧ RpL K w H ds vs := by
  cases r with
  | tup _ h l => exact ⟨_, _, rfl, .inl h, l⟩
  | tupK h l => exact ⟨_, _, rfl, SqT.none_mono h, l⟩
theorem Rp.lst_inv (r : Rp K w H (.lst ds) v) : ∃ a vs, v = .ref a ∧ Out w a ∧ H a = some (.lst vs) ∧ RpL K w H ds vs := by
  cases r with
  | lst o h l => exact ⟨_, _, rfl, o, h, l⟩
theorem SqL.none_mono {a : Addr} (h : SqL K (fun _ => none) a vs) : SqL K H a vs := by
  rcases h with h | h
  · rcases h with h | ⟨_, h⟩ <;> cases h
  · exact .inr h
theorem Rp.fr_inv (r : Rp K w H (.fr ds) v) : ∃ a vs, v = .ref a ∧ SqL K H a vs ∧ RpL K w H ds vs := by
  cases r with
  | fr o h l => exact ⟨_, _, rfl, .inl h, l⟩
  | frK h l => exact ⟨_, _, rfl, SqL.none_mono h, l⟩
theorem Rp.of_SqL {a : Addr} (o : ∀ u, H a = some u → Out w a) (h : SqL K H a vs) (l : RpL K w H ds vs) : Rp K w H (.fr ds) (.ref a) := by
  rcases h with h | h
  · refine .fr ?_ h l
    rcases h with h | ⟨u, h⟩
    · exact o _ h
    · exact o _ h
  · exact .frK (.inr h) l
theorem Rp.ref_inv {i : Nat} (r : Rp K w H (.ref i) v) : ∃ a, v = .ref a ∧ w.rho[i]? = some a := by
  cases r with
  | ref h => exact ⟨_, rfl, h⟩
theorem Rp.rng_inv {lo hi : Int} (r : Rp K w H (.rng lo hi) v) : ∃ a, v = .ref a ∧ H a = some (.rng lo hi) := by
  cases r with
  | rng o h => exact ⟨_, rfl, h⟩
theorem Rp.int_inv {i : Int} (r : Rp K w H (.int i) v) : v = .int i := by cases r; rfl
theorem Rp.bl_inv {b : Bool} (r : Rp K w H (.bl b) v) : v = .bl b := by cases r; rfl
theorem Rp.non_inv (r : Rp K w H .non v) : v = .non := by cases r; rfl
theorem Rp.str_inv {x : Str} (r : Rp K w H (.str x) v) : v = .str x := by cases r; rfl
theorem RpL.ints : ∀ {ns : List Int} {vs : List V}, RpL K w H (ns.map D.int) vs → vs = ns.map V.int
  | [], _, h => by cases h; rfl
  | n :: ns, _, h => by
    cases h with
    | cons r t => rw [r.int_inv, RpL.ints t]; rfl

/-- a step from one heap to a later one -/
structure Stp (w : Wd) (H : Hp) (w' : Wd) (H' : Hp) : Prop where
  B : ∀ b o, H b = some o → b ∉ w.rho → (w'.B b ↔ w.B b)
  pre : ∃ more, w'.rho = w.rho ++ more
  keep : ∀ b o, H b = some o → b ∉ w.rho → H' b = some o ∧ b ∉ w'.rho
theorem Stp.refl : Stp w H w H := ⟨fun _ _ _ _ => Iff.rfl, ⟨[], by simp⟩, fun _ _ h n => ⟨h, n⟩⟩
theorem Stp.trans (a : Stp w H w' H') (b : Stp w' H' w'' H'') : Stp w H w'' H'' :=
  ⟨fun x o h n => by obtain ⟨h1, n1⟩ := a.keep x o h n; exact (b.B x o h1 n1).trans (a.B x o h n), by obtain ⟨m1, e1⟩ := a.pre; obtain ⟨m2, e2⟩ := b.pre; exact ⟨m1 ++ m2, by rw [e2, e1, List.append_assoc]⟩,
    fun x o h n => by obtain ⟨h1, n1⟩ := a.keep x o h n; exact b.keep x o h1 n1⟩
theorem Stp.out (s : Stp w H w' H') {a : Addr} {o : HO} (h : H a = some o) (n : Out w a) : Out w' a := ⟨(s.keep a o h n.1).2, fun z => n.2 ((s.B a o h n.1).mp z)⟩
theorem Stp.rd (s : Stp w H w' H') {a : Addr} {o : HO} (h : Rd H a o) (n : Out w a) : Rd H' a o ∧ Out w' a := by
  rcases h with h | ⟨u, h⟩
  · exact ⟨.inl (s.keep _ _ h n.1).1, s.out h n⟩
  · exact ⟨.inr ⟨u, (s.keep _ _ h n.1).1⟩, s.out h n⟩
/-- the same where what is hidden may change -/
structure Wst (w : Wd) (H : Hp) (w' : Wd) (H' : Hp) : Prop where
  pre : ∃ more, w'.rho = w.rho ++ more
  back : ∀ b o, H b = some o → b ∉ w.rho → w'.B b → w.B b
  keep : ∀ b o, H b = some o → b ∉ w.rho → ¬ w.B b → H' b = some o ∧ b ∉ w'.rho
theorem Stp.toW (s : Stp w H w' H') : Wst w H w' H' := ⟨s.pre, fun b o h n => (s.B b o h n).mp, fun b o h n _ => s.keep b o h n⟩
theorem Wst.trans (a : Wst w H w' H') (b : Wst w' H' w'' H'') : Wst w H w'' H'' :=
  ⟨by obtain ⟨m1, e1⟩ := a.pre; obtain ⟨m2, e2⟩ := b.pre; exact ⟨m1 ++ m2, by rw [e2, e1, List.append_assoc]⟩,
    fun x o h n z => Classical.byContradiction fun hn => by
      obtain ⟨h1, n1⟩ := a.keep x o h n hn
      exact hn (a.back x o h n (b.back x o h1 n1 z)),
    fun x o h n hn => by
      obtain ⟨h1, n1⟩ := a.keep x o h n hn
      exact b.keep x o h1 n1 fun z => hn (a.back x o h n z)⟩
theorem Wst.out (s : Wst w H w' H') {a : Addr} {o : HO} (h : H a = some o) (n : Out w a) : Out w' a := ⟨(s.keep a o h n.1 n.2).2, fun z => n.2 (s.back a o h n.1 z)⟩
theorem Wst.rd (s : Wst w H w' H') {a : Addr} {o : HO} (h : Rd H a o) (n : Out w a) : Rd H' a o ∧ Out w' a := by
  rcases h with h | ⟨u, h⟩
  · exact ⟨.inl (s.keep _ _ h n.1 n.2).1, s.out h n⟩
  · exact ⟨.inr ⟨u, (s.keep _ _ h n.1 n.2).1⟩, s.out h n⟩
mutual
theorem Rp.monoW (s : Wst w H w' H') : ∀ {d : D} {v : V}, Rp K w H d v → Rp K w' H' d v
  | _, _, .non => .non
  | _, _, .bl b => .bl b
  | _, _, .int i => .int i
  | _, _, .str x => .str x
  | _, _, .tup o h l => .tup (s.rd h o).2 (s.rd h o).1 (RpL.monoW s l)
  | _, _, .tupK h l => .tupK h (RpL.monoW s l)
  | _, _, .lst o h l => .lst (s.out h o) (s.keep _ _ h o.1 o.2).1 (RpL.monoW s l)
  | _, _, .fr o h l => .fr (s.rd h o).2 (s.rd h o).1 (RpL.monoW s l)
  | _, _, .frK h l => .frK h (RpL.monoW s l)
  | _, _, .rng o h => .rng (s.out h o) (s.keep _ _ h o.1 o.2).1
  | _, _, .ref h => .ref (by obtain ⟨m, e⟩ := s.pre; rw [e, List.getElem?_append_left (List.getElem?_eq_some_iff.mp h).1]; exact h)
theorem RpL.monoW (s : Wst w H w' H') : ∀ {ds : List D} {vs : List V}, RpL K w H ds vs → RpL K w' H' ds vs
  | _, _, .nil => .nil
  | _, _, .cons r t => .cons (Rp.monoW s r) (RpL.monoW s t)
end
theorem Rp.mono (s : Stp w H w' H') {d : D} {v : V} (r : Rp K w H d v) : Rp K w' H' d v := r.monoW s.toW
theorem RpL.mono (s : Stp w H w' H') {ds : List D} {vs : List V} (r : RpL K w H ds vs) : RpL K w' H' ds vs := r.monoW s.toW

/-- a key of a dict -/
inductive RKey : D → Key → Prop
  | int (i : Int) : RKey (.int i) (.inl i)
  | str (x : Str) : RKey (.str x) (.inr x)
inductive RKeys : List D → List Key → Prop
  | nil : RKeys [] []
  | cons {d : D} {k : Key} {ds : List D} {ks : List Key} : RKey d k → RKeys ds ks → RKeys (d :: ds) (k :: ks)
inductive RDk (K : PySem.W.Frag) (w : Wd) (H : Hp) : List (D × D) → List (Key × V) → Prop
  | nil : RDk K w H [] []
  | cons {d e : D} {k : Key} {v : V} {ds : List (D × D)} {ks : List (Key × V)} : RKey d k → Rp K w H e v → RDk K w H ds ks → RDk K w H ((d, e) :: ds) ((k, v) :: ks)
inductive RDt (K : PySem.W.Frag) (w : Wd) (H : Hp) : List (D × D) → List (List Key × V) → Prop
  | nil : RDt K w H [] []
  | cons {t : List D} {e : D} {k : List Key} {v : V} {ds : List (D × D)} {ks : List (List Key × V)} : RKeys t k → Rp K w H e v → RDt K w H ds ks → RDt K w H ((.tup t, e) :: ds) ((k, v) :: ks)
inductive RFs (K : PySem.W.Frag) (w : Wd) (H : Hp) : List (Str × D) → List (Str × V) → Prop
  | nil : RFs K w H [] []
  | cons {f : Str} {d : D} {v : V} {ds : List (Str × D)} {vs : List (Str × V)} : Rp K w H d v → RFs K w H ds vs → RFs K w H ((f, d) :: ds) ((f, v) :: vs)
inductive RpO (K : PySem.W.Frag) (w : Wd) (H : Hp) : Ob → HO → Prop
  | lst {ds : List D} {vs : List V} : RpL K w H ds vs → RpO K w H (.lst ds) (.lst vs)
  | dK {kvs : List (D × D)} {ks : List (Key × V)} : RDk K w H kvs ks → RpO K w H (.dct kvs) (.dK ks)
  | dT {kvs : List (D × D)} {ks : List (List Key × V)} : RDt K w H kvs ks → RpO K w H (.dtt kvs) (.dT ks)
  | ins {C dx : Addr} {fs : List (Str × D)} {vs : List (Str × V)} : RFs K w H fs vs → RpO K w H (.ins C fs) (.ins C dx vs)
theorem RDk.mono (s : Stp w H w' H') : ∀ {ds : List (D × D)} {vs : List (Key × V)}, RDk K w H ds vs → RDk K w' H' ds vs
  | _, _, .nil => .nil
  | _, _, .cons k r t => .cons k (r.mono s) (RDk.mono s t)
theorem RDt.mono (s : Stp w H w' H') : ∀ {ds : List (D × D)} {vs : List (List Key × V)}, RDt K w H ds vs → RDt K w' H' ds vs
  | _, _, .nil => .nil
  | _, _, .cons k r t => .cons k (r.mono s) (RDt.mono s t)
theorem RFs.mono (s : Stp w H w' H') : ∀ {ds : List (Str × D)} {vs : List (Str × V)}, RFs K w H ds vs → RFs K w' H' ds vs
  | _, _, .nil => .nil
  | _, _, .cons r t => .cons (r.mono s) (RFs.mono s t)
theorem RpO.mono (s : Stp w H w' H') {o : Ob} {h : HO} (r : RpO K w H o h) : RpO K w' H' o h := by
  cases r with
  | lst r => exact .lst (r.mono s)
  | dK r => exact .dK (r.mono s)
  | dT r => exact .dT (r.mono s)
  | ins r => exact .ins (r.mono s)

/-- the store lies in the heap -/
structure Ok (K : PySem.W.Frag) (w : Wd) (S : Store) (H : Hp) : Prop where
  len : w.rho.length = S.length
  nd : w.rho.Nodup
  ob : ∀ (i : Nat) (a : Addr) (o : Ob), w.rho[i]? = some a → S[i]? = some o → ∃ h, H a = some h ∧ RpO K w H o h
  nb : ∀ a ∈ w.rho, ¬ w.B a
  bt : ∀ a, w.B a → ∃ o, H a = some o
variable {S S' S'' : Store}
theorem Ok.at (k : Ok K w S H) {i : Nat} {a : Addr} (h : w.rho[i]? = some a) : ∃ o h, S[i]? = some o ∧ H a = some h ∧ RpO K w H o h := by
  have hl := (List.getElem?_eq_some_iff.mp h).1
  rw [k.len] at hl
  obtain ⟨x, h1, h2⟩ := k.ob i a _ h (List.getElem?_eq_getElem hl)
  exact ⟨_, x, List.getElem?_eq_getElem hl, h1, h2⟩
theorem Ok.new (k : Ok K w S H) {p : Addr} (h : H p = none) : Out w p := by
  refine ⟨fun z => ?_, fun z => ?_⟩
  · obtain ⟨i, hi, e⟩ := List.getElem_of_mem z
    obtain ⟨o, x, _, h1, _⟩ := k.at (i := i) (a := p) (by rw [List.getElem?_eq_getElem hi, e])
    rw [h] at h1; cases h1
  · obtain ⟨o, e⟩ := k.bt p z
    rw [h] at e; cases e
/-- a new thing outside the store -/
theorem Stp.new {p : Addr} {o : HO} (h : H p = none) : Stp w H w (upd H p o) :=
  ⟨fun _ _ _ _ => Iff.rfl, ⟨[], by simp⟩, fun b u e n => ⟨by rw [upd_ne (ne_of_none e h)]; exact e, n⟩⟩
theorem Ok.laid (k : Ok K w S H) {p : Addr} {o : HO} (h : H p = none) : Ok K w S (upd H p o) where
  len := k.len
  nd := k.nd
  ob := fun i a x h1 h2 => by
    obtain ⟨u, e, r⟩ := k.ob i a x h1 h2
    exact ⟨u, by rw [upd_ne (ne_of_none e h)]; exact e, r.mono (Stp.new h)⟩
  nb := k.nb
  bt := fun a z => by
    obtain ⟨u, e⟩ := k.bt a z
    exact ⟨u, by rw [upd_ne (ne_of_none e h)]; exact e⟩
/-- a new thing in the store -/
def Wd.add (w : Wd) (p : Addr) : Wd := ⟨w.rho ++ [p], w.B⟩
theorem Stp.add {p : Addr} {o : HO} (h : H p = none) : Stp w H (w.add p) (upd H p o) :=
  ⟨fun _ _ _ _ => Iff.rfl, ⟨[p], rfl⟩, fun b u e n => ⟨by rw [upd_ne (ne_of_none e h)]; exact e, by
    show b ∉ w.rho ++ [p]
    simp only [List.mem_append, List.mem_singleton, not_or]
    exact ⟨n, ne_of_none e h⟩⟩⟩
theorem Ok.add (k : Ok K w S H) {p : Addr} {o : HO} {x : Ob} (h : H p = none) (r : RpO K w H x o) : Ok K (w.add p) (S ++ [x]) (upd H p o) where
  len := by simp [Wd.add, k.len]
  nd := by
    show (w.rho ++ [p]).Nodup
    rw [List.nodup_append]
    exact ⟨k.nd, by simp, fun a ha b hb => by
      simp only [List.mem_singleton] at hb
      subst hb
      intro e
      subst e
      exact (k.new h).1 ha⟩
  ob := fun i a y h1 h2 => by
    have h1 : (w.rho ++ [p])[i]? = some a := h1
    by_cases hi : i < S.length
    · rw [List.getElem?_append_left (by rw [k.len]; exact hi)] at h1
      rw [List.getElem?_append_left hi] at h2
      obtain ⟨u, e, q⟩ := k.ob i a y h1 h2
      exact ⟨u, by rw [upd_ne (ne_of_none e h)]; exact e, q.mono (Stp.add h)⟩
    · rw [List.getElem?_append_right (by omega)] at h2
      rw [List.getElem?_append_right (by rw [k.len]; omega)] at h1
      have e : i = S.length := by
        have := (List.getElem?_eq_some_iff.mp h2).1
        simp at this
        omega
      subst e
      simp [k.len] at h1 h2
      subst h1
      subst h2
      exact ⟨o, upd_same, r.mono (Stp.add h)⟩
  nb := fun a ha => by
    have ha : a ∈ w.rho ++ [p] := ha
    rcases List.mem_append.mp ha with z | z
    · exact k.nb a z
    · have e : a = p := by simpa using z
      subst e
      exact (k.new h).2
  bt := fun a z => by
    obtain ⟨u, e⟩ := k.bt a z
    exact ⟨u, by rw [upd_ne (ne_of_none e h)]; exact e⟩
/-- a thing of the store is changed -/
theorem Stp.put {a : Addr} {o : HO} (ha : a ∈ w.rho) : Stp w H w (upd H a o) :=
  ⟨fun _ _ _ _ => Iff.rfl, ⟨[], by simp⟩, fun b u e n => ⟨by rw [upd_ne (fun z => n (by rw [z]; exact ha))]; exact e, n⟩⟩
theorem Ok.put (k : Ok K w S H) {i : Nat} {a : Addr} {o : HO} {x : Ob} (h : w.rho[i]? = some a) (r : RpO K w H x o) : Ok K w (S.set i x) (upd H a o) where
  len := by simp [k.len]
  nd := k.nd
  ob := fun j b y h1 h2 => by
    have hm : a ∈ w.rho := List.mem_of_getElem? h
    by_cases hj : i = j
    · subst hj
      rw [h] at h1
      cases h1
      have hl := (List.getElem?_eq_some_iff.mp h).1
      rw [List.getElem?_set_self (by rw [← k.len]; exact hl)] at h2
      cases h2
      exact ⟨o, upd_same, r.mono (Stp.put hm)⟩
    · rw [List.getElem?_set_ne hj] at h2
      obtain ⟨u, e, q⟩ := k.ob j b y h1 h2
      have hba : b ≠ a := fun z => hj (by
        subst z
        obtain ⟨l1, e1⟩ := List.getElem?_eq_some_iff.mp h
        obtain ⟨l2, e2⟩ := List.getElem?_eq_some_iff.mp h1
        exact (List.getElem_inj k.nd).mp (e1.trans e2.symm))
      exact ⟨u, by rw [upd_ne hba]; exact e, q.mono (Stp.put hm)⟩
  nb := k.nb
  bt := fun b z => by
    obtain ⟨u, e⟩ := k.bt b z
    have hba : b ≠ a := fun q => k.nb a (List.mem_of_getElem? h) (q ▸ z)
    exact ⟨u, by rw [upd_ne hba]; exact e⟩

/-- the slots -/
def RpE (K : PySem.W.Frag) (w : Wd) (H : Hp) (e : Ev) (σ : L2.St) : Prop := e.length = σ.length ∧ ∀ (i : Nat) (d : D), e[i]? = some (some d) → ∃ v, σ[i]? = some (some v) ∧ Rp K w H d v
variable {e : Ev} {σ : L2.St}
theorem RpE.mono (s : Stp w H w' H') (r : RpE K w H e σ) : RpE K w' H' e σ := ⟨r.1, fun i d h => by
  obtain ⟨v, h1, h2⟩ := r.2 i d h
  exact ⟨v, h1, h2.mono s⟩⟩
theorem RpE.set {i : Nat} (r : RpE K w H e σ) (q : Rp K w H d v) : RpE K w H (e.set i (some d)) (σ.set i (some v)) := ⟨by simp [r.1], fun j x h => by
  by_cases hj : i = j
  · subst hj
    by_cases hl : i < e.length
    · rw [List.getElem?_set_self hl] at h
      cases h
      exact ⟨v, by rw [List.getElem?_set_self (by rw [← r.1]; exact hl)], q⟩
    · rw [List.getElem?_eq_none (by simpa using hl)] at h; cases h
  · rw [List.getElem?_set_ne hj] at h
    rw [List.getElem?_set_ne hj]
    exact r.2 j x h⟩
theorem RpE.forget {i : Nat} (r : RpE K w H e σ) : RpE K w H (e.set i none) (σ.set i none) := ⟨by simp [r.1], fun j x h => by
  by_cases hj : i = j
  · subst hj
    by_cases hl : i < e.length
    · rw [List.getElem?_set_self hl] at h
      cases h
    · rw [List.getElem?_eq_none (by simpa using hl)] at h; cases h
  · rw [List.getElem?_set_ne hj] at h
    rw [List.getElem?_set_ne hj]
    exact r.2 j x h⟩
end

/-! ### the judgements -/
abbrev ME := Ev → Store → Option (D × Store)
abbrev MT := Ev → Store → Option (Bool × Store)
abbrev ML := Ev → Store → Option (List D × Store)
def tD (K : PySem.W.Frag) (m : ME) : TE := fun σ H Q => ∃ w e S d S', RpE K w H e σ ∧ Ok K w S H ∧ m e S = some (d, S') ∧ ∀ w' H' v, Stp w H w' H' → Ok K w' S' H' → Rp K w' H' d v → Q v H'
def tB (K : PySem.W.Frag) (m : MT) : TT := fun σ H Q => ∃ w e S b S', RpE K w H e σ ∧ Ok K w S H ∧ m e S = some (b, S') ∧ ∀ w' H', Stp w H w' H' → Ok K w' S' H' → Q b H'
def tL (K : PySem.W.Frag) (m : ML) : TA := fun σ H Q => ∃ w e S ds S', RpE K w H e σ ∧ Ok K w S H ∧ m e S = some (ds, S') ∧ ∀ w' H' vs, Stp w H w' H' → Ok K w' S' H' → RpL K w' H' ds vs → Q vs H'
/-- a new list that nobody else holds -/
def tF (K : PySem.W.Frag) (m : ML) : TE := fun σ H Q => ∃ w e S ds S', RpE K w H e σ ∧ Ok K w S H ∧ m e S = some (ds, S') ∧ ∀ w' H' p vs, Stp w H w' H' → Ok K w' S' H' → H' p = none → RpL K w' H' ds vs → Q (.ref p) (upd H' p (.lst vs))
abbrev AE (X : Cx) (e : Expr) (m : ME) : Prop := PE X e (tD X.K m)
abbrev AT (X : Cx) (e : Expr) (m : MT) : Prop := PT X e (tB X.K m)
abbrev AW (X : Cx) (e : Expr) (m : MT) : Prop := PW X e (tB X.K m)
abbrev AA (X : Cx) (es : List Expr) (m : ML) : Prop := PA X es (tL X.K m)
abbrev AF (X : Cx) (e : Expr) (m : ML) : Prop := PE X e (tF X.K m)

inductive Fl where
  | nx (e : Ev)
  | rt (d : D)
  | bk (e : Ev)
  | ct (e : Ev)
abbrev MS := Ev → Store → Option (Fl × Store)
def FlOk (K : PySem.W.Frag) (D : Ends) (w : Wd) (H : Hp) : Fl → Prop
  | .nx e => ∀ σ, RpE K w H e σ → D.nx σ H
  | .rt d => ∀ v, Rp K w H d v → D.rt v H
  | .bk e => ∀ σ, RpE K w H e σ → D.bk σ H
  | .ct e => ∀ σ, RpE K w H e σ → D.ct σ H
def tS (K : PySem.W.Frag) (m : MS) : TS := fun D σ H => ∃ w e S f S', RpE K w H e σ ∧ Ok K w S H ∧ m e S = some (f, S') ∧ ∀ w' H', Stp w H w' H' → Ok K w' S' H' → FlOk K D w' H' f
abbrev AS (X : Cx) (st : Stmt) (m : MS) : Prop := PS X st (tS X.K m)
abbrev ASs (X : Cx) (st : List Stmt) (m : MS) : Prop := PSs X st (tS X.K m)

theorem PE.imp {X : Cx} {e : Expr} {t t' : TE} (h : PE X e t) (i : ∀ σ H Q, t' σ H Q → t σ H Q) : PE X e t' := ⟨fun pins s σ H Q I q => h.run pins s σ H Q I (i σ H Q q)⟩
theorem PT.imp {X : Cx} {e : Expr} {t t' : TT} (h : PT X e t) (i : ∀ σ H Q, t' σ H Q → t σ H Q) : PT X e t' := ⟨fun pins s σ H Q I q => h.run pins s σ H Q I (i σ H Q q)⟩
theorem PW.imp {X : Cx} {e : Expr} {t t' : TT} (h : PW X e t) (i : ∀ σ H Q, t' σ H Q → t σ H Q) : PW X e t' := ⟨fun u pins s σ H Q I q => h.run u pins s σ H Q I (i σ H Q q)⟩
theorem PA.imp {X : Cx} {e : List Expr} {t t' : TA} (h : PA X e t) (i : ∀ σ H Q, t' σ H Q → t σ H Q) : PA X e t' := ⟨fun u pins s σ H Q I q => h.run u pins s σ H Q I (i σ H Q q)⟩
theorem PS.imp {X : Cx} {st : Stmt} {t t' : TS} (h : PS X st t) (i : ∀ D σ H, t' D σ H → t D σ H) : PS X st t' := ⟨fun pins s σ H D I q => h.run pins s σ H D I (i D σ H q)⟩
theorem PSs.imp {X : Cx} {st : List Stmt} {t t' : TS} (h : PSs X st t) (i : ∀ D σ H, t' D σ H → t D σ H) : PSs X st t' := ⟨fun pins s σ H D I q => h.run pins s σ H D I (i D σ H q)⟩
theorem PI.imp {X : Cx} {tg it : Expr} {t t' : TI} (h : PI X tg it t) (i : ∀ σ H R, t' σ H R → t σ H R) : PI X tg it t' := ⟨fun pins s σ H R I q => h.run pins s σ H R I (i σ H R q)⟩

/-! ### expressions -/
section
variable {X : Cx} {pos : Pos}
def mV (i : Nat) : ME := fun e S => match e[i]? with
  | some (some d) => some (d, S)
  | _ => none
def mC (d : D) : ME := fun _ S => some (d, S)
theorem ae_var {i : Nat} {x : Str} (h : PE X (.Name x pos) (tVar i)) : AE X (.Name x pos) (mV i) := PE.imp h fun σ H Q ⟨w, e, S, d, S', r, k, hm, q⟩ => by
  unfold mV at hm
  split at hm
  · rename_i d' he
    cases hm
    obtain ⟨v, h1, h2⟩ := r.2 i d he
    exact ⟨v, h1, q w H v .refl k h2⟩
  · cases hm
theorem av (i : Nat) {x : Str} (hN : X.N[i]? = some x := by rfl) (hv : Vis X.env.scope x := by first | exact Or.inl rfl | exact Or.inr (Or.inl rfl) | exact Or.inr (Or.inr rfl)) (hd : (x == ("__debug__" : Str)) = false := by decide)
    (hcd : (x == ("__classdict__" : Str)) = false := by decide) : AE X (.Name x pos) (mV i) := ae_var (pe_var hN hv hd hcd)
theorem ae_const {e : Expr} {d : D} {v : V} (h : PE X e (tC v)) (r : ∀ w H, Rp X.K w H d v) : AE X e (mC d) := PE.imp h fun σ H Q ⟨w, e, S, d', S', _, k, hm, q⟩ => by
  cases hm
  exact q w H v .refl k (r w H)
theorem ae_int {i j} : AE X (.Constant (.int i) j pos) (mC (.int i)) := ae_const pe_int fun _ _ => .int i
theorem ae_bl {b j} : AE X (.Constant (.bool b) j pos) (mC (.bl b)) := ae_const pe_bl fun _ _ => .bl b
theorem ae_non {j} : AE X (.Constant .none j pos) (mC .non) := ae_const pe_non fun _ _ => .non
theorem ae_str {x j} : AE X (.Constant (.str x) j pos) (mC (.str x)) := ae_const pe_str fun _ _ => .str x

/-- two in a row -/
def mBin (f : D → D → Store → Option (D × Store)) (ma mb : ME) : ME := fun e S => (ma e S).bind fun (a, S1) => (mb e S1).bind fun (b, S2) => f a b S2
/-- an operator by values does what f says -/
def OpS (K : PySem.W.Frag) (r : R2) (f : D → D → Store → Option (D × Store)) : Prop := ∀ (w : Wd) (S : Store) (H : Hp) (a b d : D) (x y : V) (S' : Store) (Q : VK), Ok K w S H → Rp K w H a x → Rp K w H b y → f a b S = some (d, S') →
  (∀ w' H' v, Stp w H w' H' → Ok K w' S' H' → Rp K w' H' d v → Q v H') → r x y H Q
theorem bin_imp {K : PySem.W.Frag} {r : R2} {f : D → D → Store → Option (D × Store)} {ma mb : ME} (h : OpS K r f) {σ : L2.St} {H : Hp} {Q : VK} (q : tD K (mBin f ma mb) σ H Q) : tOp r (tD K ma) (tD K mb) σ H Q := by
  obtain ⟨w, e, S, d, S', re, k, hm, q⟩ := q
  unfold mBin at hm
  obtain ⟨⟨a, S1⟩, h1, hm⟩ := Option.bind_eq_some_iff.mp hm
  obtain ⟨⟨b, S2⟩, h2, hm⟩ := Option.bind_eq_some_iff.mp hm
  refine ⟨w, e, S, a, S1, re, k, h1, fun w1 H1 x s1 k1 ra => ⟨w1, e, S1, b, S2, re.mono s1, k1, h2, fun w2 H2 y s2 k2 rb => ?_⟩⟩
  exact h w2 S2 H2 a b d x y S' Q k2 (ra.mono s2) rb hm fun w' H' v s3 k3 rd => q w' H' v ((s1.trans s2).trans s3) k3 rd
theorem ae_op {a b : Expr} {op : Operator} {r : R2} {f : D → D → Store → Option (D × Store)} {ma mb : ME} (ho : OpR X (binaryOp op) r) (h : OpS X.K r f) (ha : AE X a ma) (hb : AE X b mb) : AE X (.BinOp a op b pos) (mBin f ma mb) :=
  PE.imp (pe_op ho ha hb) fun _ _ _ => bin_imp h
theorem ae_cmp {a b : Expr} {op : CmpOp} {r : R2} {f : D → D → Store → Option (D × Store)} {ma mb : ME} (ho : OpR X (compareOp op) r) (h : OpS X.K r f) (ha : AE X a ma) (hb : AE X b mb) (hm : behindInMarks op b = false) : AE X (.Compare a [op] [b] pos) (mBin f ma mb) :=
  PE.imp (pe_cmpR ho ha hb hm) fun _ _ _ => bin_imp h
theorem ae_ix {a b : Expr} {r : R2} {f : D → D → Store → Option (D × Store)} {ma mb : ME} (ho : IxR X r) (h : OpS X.K r f) (ha : AE X a ma) (hb : AE X b mb) (hs : PlainIx b) : AE X (.Subscript a b pos) (mBin f ma mb) :=
  PE.imp (pe_ix ho ha hb hs) fun _ _ _ => bin_imp h
theorem OpS.or {K : PySem.W.Frag} {r r' : R2} {f g : D → D → Store → Option (D × Store)} (h : OpS K r f) (h' : OpS K r' g) : OpS K (fun x y H Q => r x y H Q ∨ r' x y H Q) fun a b S => (f a b S).or (g a b S) := fun w S H a b d x y S' Q k ra rb hm q => by
  have hm : (f a b S).or (g a b S) = some (d, S') := hm
  cases hf : f a b S with
  | some z =>
    rw [hf] at hm
    have hm : z = (d, S') := by simpa using hm
    exact .inl (h w S H a b d x y S' Q k ra rb (hf.trans (congrArg some hm)) q)
  | none =>
    rw [hf] at hm
    exact .inr (h' w S H a b d x y S' Q k ra rb (by simpa using hm) q)
/-- a value as a test -/
def mTV (m : ME) : MT := fun e S => (m e S).bind fun (d, S1) => match d with
  | .bl b => some (b, S1)
  | _ => none
theorem at_val {e : Expr} {m : ME} (h : AE X e m) (he : ∀ whole, isTrue e X.env whole = (do let v ← whole; standAt e.pos; holding [v] (truthy v)) := by intro _; rfl) : AT X e (mTV m) :=
  PT.imp (pt_val h he) fun σ H Q ⟨w, e, S, b, S', re, k, hm, q⟩ => by
    unfold mTV at hm
    obtain ⟨⟨d, S1⟩, h1, hm⟩ := Option.bind_eq_some_iff.mp hm
    simp only at hm
    split at hm
    · cases hm
      exact ⟨w, e, S, _, _, re, k, h1, fun w' H' v s' k' r' => ⟨_, r'.bl_inv, q w' H' s' k'⟩⟩
    · cases hm
theorem tTest_imp {K : PySem.W.Frag} {m : ME} {σ : L2.St} {H : Hp} {Q : Bool → Hp → Prop} (h : tB K (mTV m) σ H Q) : tTest (tD K m) σ H Q := by
  obtain ⟨w, e, S, b, S', re, k, hm, q⟩ := h
  unfold mTV at hm
  obtain ⟨⟨d, S1⟩, h1, hm⟩ := Option.bind_eq_some_iff.mp hm
  simp only at hm
  split at hm
  · cases hm
    exact ⟨w, e, S, _, _, re, k, h1, fun w' H' v s' k' r' => ⟨_, r'.bl_inv, q w' H' s' k'⟩⟩
  · cases hm
theorem at_cmp {a b : Expr} {op : CmpOp} {r : R2} {f : D → D → Store → Option (D × Store)} {ma mb : ME} (ho : OpR X (compareOp op) r) (h : OpS X.K r f) (ha : AE X a ma) (hb : AE X b mb) (hm : behindInMarks op b = false) : AT X (.Compare a [op] [b] pos) (mTV (mBin f ma mb)) :=
  PT.imp (pt_cmpR ho ha hb hm) fun σ H Q q => by
    obtain ⟨w, e, S, b, S', re, k, hm, q⟩ := tTest_imp (K := X.K) q
    exact bin_imp h ⟨w, e, S, b, S', re, k, hm, q⟩
end
end DV

namespace DV
open PySem PySem.Spec PyProof.Rows L2

abbrev LIM : Nat := 16777216
theorem lim_eq : sizeLine = LIM := sizeLine_eq
/-- the items of a list or tuple -/
def seqOf : D → Store → Option (List D)
  | .tup xs, _ => some xs
  | .lst xs, _ => some xs
  | .fr xs, _ => some xs
  | .ref i, S => match S[i]? with
    | some (.lst xs) => some xs
    | _ => none
  | _, _ => none
section
variable {K : PySem.W.Frag} {w w' : Wd} {H H' : Hp} {S S' : Store} {d : D} {v : V} {ds : List D}
theorem Ok.lst (k : Ok K w S H) {i : Nat} {a : Addr} {ds : List D} (h : w.rho[i]? = some a) (hs : S[i]? = some (.lst ds)) : ∃ vs, H a = some (.lst vs) ∧ RpL K w H ds vs := by
  obtain ⟨x, h1, h2⟩ := k.ob i a _ h hs
  cases h2 with
  | lst r => exact ⟨_, h1, r⟩
theorem seq_rd (k : Ok K w S H) (r : Rp K w H d v) (h : seqOf d S = some ds) : ∃ a vs, v = .ref a ∧ (SqL K H a vs ∨ SqT K H a vs) ∧ RpL K w H ds vs := by
  unfold seqOf at h
  split at h
  · cases h
    obtain ⟨a, vs, e, h1, h2⟩ := r.tup_inv
    exact ⟨a, vs, e, .inr h1, h2⟩
  · cases h
    obtain ⟨a, vs, e, _, h1, h2⟩ := r.lst_inv
    exact ⟨a, vs, e, .inl (.of h1), h2⟩
  · cases h
    obtain ⟨a, vs, e, h1, h2⟩ := r.fr_inv
    exact ⟨a, vs, e, .inl h1, h2⟩
  · split at h
    · cases h
      obtain ⟨a, e, h1⟩ := r.ref_inv
      obtain ⟨vs, h2, h3⟩ := k.lst h1 (by assumption)
      exact ⟨a, vs, e, .inl (.of h2), h3⟩
    · cases h
  · cases h
/-- lists alone -/
def lstOf : D → Store → Option (List D)
  | .lst xs, _ => some xs
  | .fr xs, _ => some xs
  | .ref i, S => match S[i]? with
    | some (.lst xs) => some xs
    | _ => none
  | _, _ => none
theorem lst_rd (k : Ok K w S H) (r : Rp K w H d v) (h : lstOf d S = some ds) : ∃ a vs, v = .ref a ∧ SqL K H a vs ∧ RpL K w H ds vs := by
  unfold lstOf at h
  split at h
  · cases h
    obtain ⟨a, vs, e, _, h1, h2⟩ := r.lst_inv
    exact ⟨a, vs, e, .of h1, h2⟩
  · cases h
    obtain ⟨a, vs, e, h1, h2⟩ := r.fr_inv
    exact ⟨a, vs, e, h1, h2⟩
  · split at h
    · cases h
      obtain ⟨a, e, h1⟩ := r.ref_inv
      obtain ⟨vs, h2, h3⟩ := k.lst h1 (by assumption)
      exact ⟨a, vs, e, .of h2, h3⟩
    · cases h
  · cases h
/-- .. tracked ones -/
def lstTr : D → Store → Option (List D)
  | .lst xs, _ => some xs
  | .ref i, S => match S[i]? with
    | some (.lst xs) => some xs
    | _ => none
  | _, _ => none
theorem lst_tr (k : Ok K w S H) (r : Rp K w H d v) (h : lstTr d S = some ds) : ∃ a vs, v = .ref a ∧ H a = some (.lst vs) ∧ RpL K w H ds vs := by
  unfold lstTr at h
  split at h
  · cases h
    obtain ⟨a, vs, e, _, h1, h2⟩ := r.lst_inv
    exact ⟨a, vs, e, h1, h2⟩
  · split at h
    · cases h
      obtain ⟨a, e, h1⟩ := r.ref_inv
      obtain ⟨vs, h2, h3⟩ := k.lst h1 (by assumption)
      exact ⟨a, vs, e, h2, h3⟩
    · cases h
  · cases h
/-- the same value goes on -/
def Post (K : PySem.W.Frag) (w : Wd) (H : Hp) (S' : Store) (d : D) (Q : VK) : Prop := ∀ w' H' v, Stp w H w' H' → Ok K w' S' H' → Rp K w' H' d v → Q v H'
theorem Post.here {Q : VK} (q : Post K w H S d Q) (k : Ok K w S H) (r : Rp K w H d v) : Q v H := q w H v .refl k r
theorem Post.newT {Q : VK} {ds : List D} (q : Post K w H S (.tup ds) Q) (k : Ok K w S H) {p : Addr} {vs : List V} (hp : H p = none) (r : RpL K w H ds vs) : Q (.ref p) (upd H p (.tup vs)) :=
  q w _ _ (.new hp) (k.laid hp) (.tup (k.new hp) (.inl upd_same) (r.mono (.new hp)))
theorem Post.newL {Q : VK} {ds : List D} (q : Post K w H S (.lst ds) Q) (k : Ok K w S H) {p : Addr} {vs : List V} (hp : H p = none) (r : RpL K w H ds vs) : Q (.ref p) (upd H p (.lst vs)) :=
  q w _ _ (.new hp) (k.laid hp) (.lst (k.new hp) upd_same (r.mono (.new hp)))
theorem Post.addL {Q : VK} {ds : List D} (q : Post K w H (S ++ [.lst ds]) (.ref S.length) Q) (k : Ok K w S H) {p : Addr} {vs : List V} (hp : H p = none) (r : RpL K w H ds vs) : Q (.ref p) (upd H p (.lst vs)) :=
  q _ _ _ (.add hp) (k.add hp (.lst r)) (.ref (by
    show (w.rho ++ [p])[S.length]? = some p
    rw [← k.len, List.getElem?_append_right (Nat.le_refl _)]
    simp))
end

/-! ### operators -/
section
variable {X : Cx} {K : PySem.W.Frag}
def fAdd : D → D → Store → Option (D × Store)
  | .int i, .int j, S => some (.int (i + j), S)
  | .tup a, .tup b, S => if a.length + b.length ≤ LIM then some (.tup (a ++ b), S) else none
  | .str a, .str b, S => if a.length + b.length ≤ LIM then some (.str (a ++ b), S) else none
  | a, b, S => (lstTr a S).bind fun xs => (lstTr b S).bind fun ys => if xs.length + ys.length ≤ LIM then some (.lst (xs ++ ys), S) else none
theorem opS_add : ∃ r, OpR X (binaryOp .Add) r ∧ OpS X.K r fAdd := by
  refine ⟨_, op_add.or (op_catA.or (op_add_str.or op_cat)), ?_⟩
  intro w S H a b d x y S' Q k ra rb hm q
  unfold fAdd at hm
  split at hm
  · cases hm
    exact .inl ⟨_, _, ra.int_inv, rb.int_inv, q w H _ .refl k (.int _)⟩
  · split at hm
    · cases hm
      rename_i hz
      obtain ⟨p, vs, e1, h1, r1⟩ := ra.tup_inv
      obtain ⟨p2, us, e2, h2, r2⟩ := rb.tup_inv
      subst e1 e2
      refine .inr (.inl ⟨p, p2, vs, us, rfl, rfl, h1, h2, by rw [lim_eq, ← r1.length, ← r2.length]; exact hz, fun e => ?_, fun _ e => ?_, fun _ _ z hz => ?_⟩)
      · subst e
        cases r1
        exact q w H _ .refl k rb
      · subst e
        cases r2
        rw [List.append_nil] at q
        exact q w H _ .refl k ra
      · exact Post.newT q k hz (r1.append r2)
    · cases hm
  · split at hm
    · cases hm
      rename_i hz
      exact .inr (.inr (.inl ⟨_, _, ra.str_inv, rb.str_inv, by rw [lim_eq]; exact hz, q w H _ .refl k (.str _)⟩))
    · cases hm
  · obtain ⟨xs, h1, hm⟩ := Option.bind_eq_some_iff.mp hm
    obtain ⟨ys, h2, hm⟩ := Option.bind_eq_some_iff.mp hm
    split at hm
    · cases hm
      rename_i hz
      obtain ⟨p, vs, e1, h1, r1⟩ := lst_tr k ra h1
      obtain ⟨p2, us, e2, h2, r2⟩ := lst_tr k rb h2
      refine .inr (.inr (.inr ⟨p, p2, vs, us, e1, e2, h1, h2, by rw [lim_eq, ← r1.length, ← r2.length]; assumption, fun z hz => ?_⟩))
      exact Post.newL q k hz (r1.append r2)
    · cases hm
def fSub : D → D → Store → Option (D × Store)
  | .int i, .int j, S => some (.int (i - j), S)
  | _, _, _ => none
theorem opS_sub : ∃ r, OpR X (binaryOp .Sub) r ∧ OpS X.K r fSub := ⟨_, op_sub, by
  intro w S H a b d x y S' Q k ra rb hm q
  unfold fSub at hm
  split at hm
  · cases hm
    exact ⟨_, _, ra.int_inv, rb.int_inv, q w H _ .refl k (.int _)⟩
  · cases hm⟩
abbrev I64 (i : Int) : Prop := -(2 ^ 64) < i ∧ i < 2 ^ 64
/-- a bound that nothing here comes near -/
@[irreducible] def BIG : Nat := 2 ^ 8000
theorem BIG_eq : BIG = 2 ^ 8000 := by unfold BIG; rfl
abbrev MulOk (i j : Int) : Prop := (I64 i ∨ I64 j) ∨ (i.natAbs < BIG ∧ j.natAbs < BIG)
theorem mulOk_int {i j : Int} (h : MulOk i j) : IntMulOk i j := by
  rcases h with (⟨h1, h2⟩ | ⟨h1, h2⟩) | ⟨h1, h2⟩
  · exact .of_left (intBits_le_64 h1 h2)
  · exact .of_right (intBits_le_64 h1 h2)
  · have bits : ∀ {k : Int}, k.natAbs < BIG → Builtin.Int.intBits k ≤ 8000 := by
      intro k hk
      rw [BIG_eq] at hk
      unfold Builtin.Int.intBits
      split
      · exact Nat.zero_le _
      · rcases Nat.eq_zero_or_pos k.natAbs with h0 | hp
        · rw [h0]; decide
        · have := (Nat.log2_lt (by omega)).mpr hk
          omega
    exact IntMulOk.of_bits (Nat.le_trans (bits h1) (by decide)) (Nat.le_trans (bits h2) (by decide))
theorem op_mulB {X : Cx} : OpR X (binaryOp .Mult) (rI MulOk fun i j => .int (i * j)) := opI fun _ _ _ _ _ _ _ hc q => mul_int q (mulOk_int hc)
theorem op_fdivB {X : Cx} : OpR X (binaryOp .FloorDiv) (rI (fun _ j => 0 < j ∧ j.natAbs < BIG) fun i j => .int (i / j)) := opI fun i j _ _ _ _ _ hc q => by
  have h1 : (0 : Int) < j := hc.1
  have h2 : j.natAbs < BIG := hc.2
  refine floordiv_int (by omega) (by rw [Int.fdiv_eq_ediv_of_nonneg i (by omega)]; exact q) (.inl (PyProof.noPylong_of_log2 ?_))
  rw [BIG_eq] at h2
  have := (Nat.log2_lt (show j.natAbs ≠ 0 by omega)).mpr h2
  omega
def fMul : D → D → Store → Option (D × Store)
  | .int i, .int j, S => if MulOk i j then some (.int (i * j), S) else none
  | a, .int j, S => (lstTr a S).bind fun xs => if -(2 ^ 63) ≤ j ∧ j < 2 ^ 63 ∧ xs.length * j.toNat ≤ LIM then some (.lst (List.replicate j.toNat xs).flatten, S) else none
  | _, _, _ => none
theorem opS_mul : ∃ r, OpR X (binaryOp .Mult) r ∧ OpS X.K r fMul := by
  refine ⟨_, op_mulB.or op_rep, ?_⟩
  intro w S H a b d x y S' Q k ra rb hm q
  unfold fMul at hm
  split at hm
  · split at hm
    · cases hm
      rename_i hz
      exact .inl ⟨_, _, ra.int_inv, rb.int_inv, hz, q w H _ .refl k (.int _)⟩
    · cases hm
  · obtain ⟨xs, h1, hm⟩ := Option.bind_eq_some_iff.mp hm
    split at hm
    · cases hm
      rename_i hz
      obtain ⟨p, vs, e1, h1, r1⟩ := lst_tr k ra h1
      refine .inr ⟨p, _, vs, e1, rb.int_inv, h1, hz.1, hz.2.1, by rw [lim_eq, ← r1.length]; exact hz.2.2, fun z hz => ?_⟩
      exact Post.newL q k hz (r1.rep _)
    · cases hm
  · cases hm
def fMod : D → D → Store → Option (D × Store)
  | .int i, .int j, S => if 0 < j then some (.int (i % j), S) else none
  | _, _, _ => none
theorem opS_mod : ∃ r, OpR X (binaryOp .Mod) r ∧ OpS X.K r fMod := ⟨_, op_mod, by
  intro w S H a b d x y S' Q k ra rb hm q
  unfold fMod at hm
  split at hm
  · split at hm
    · cases hm
      exact ⟨_, _, ra.int_inv, rb.int_inv, by assumption, q w H _ .refl k (.int _)⟩
    · cases hm
  · cases hm⟩
def fDiv : D → D → Store → Option (D × Store)
  | .int i, .int j, S => if 0 < j ∧ j.natAbs < BIG then some (.int (i / j), S) else none
  | _, _, _ => none
theorem opS_div : ∃ r, OpR X (binaryOp .FloorDiv) r ∧ OpS X.K r fDiv := ⟨_, op_fdivB, by
  intro w S H a b d x y S' Q k ra rb hm q
  unfold fDiv at hm
  split at hm
  · split at hm
    · cases hm
      exact ⟨_, _, ra.int_inv, rb.int_inv, by assumption, q w H _ .refl k (.int _)⟩
    · cases hm
  · cases hm⟩
def fPow : D → D → Store → Option (D × Store)
  | .int i, .int j, S => if 0 ≤ j ∧ j ≤ 1000000 ∧ i.natAbs < 2 ^ 64 then some (.int (i ^ j.toNat), S) else none
  | _, _, _ => none
theorem opS_pow : ∃ r, OpR X (binaryOp .Pow) r ∧ OpS X.K r fPow := ⟨_, op_pow, by
  intro w S H a b d x y S' Q k ra rb hm q
  unfold fPow at hm
  split at hm
  · split at hm
    · cases hm
      exact ⟨_, _, ra.int_inv, rb.int_inv, by assumption, q w H _ .refl k (.int _)⟩
    · cases hm
  · cases hm⟩
/-- an operator of two ints that gives a bool -/
def fII (p : Int → Int → Bool) : D → D → Store → Option (D × Store)
  | .int i, .int j, S => some (.bl (p i j), S)
  | _, _, _ => none
theorem fII_s (p : Int → Int → Bool) : OpS K (rI0 fun i j => .bl (p i j)) (fII p) := by
  intro w S H a b d x y S' Q k ra rb hm q
  unfold fII at hm
  split at hm
  · cases hm
    exact ⟨_, _, ra.int_inv, rb.int_inv, q w H _ .refl k (.bl _)⟩
  · cases hm
abbrev fLt := fII fun i j => decide (i < j)
abbrev fLe := fII fun i j => decide (i ≤ j)
abbrev fGt := fII fun i j => decide (j < i)
abbrev fGe := fII fun i j => decide (j ≤ i)
/-- x is None -/
def fIsN : D → D → Store → Option (D × Store)
  | .non, .non, S => some (.bl true, S)
  | .bl _, .non, S | .int _, .non, S | .str _, .non, S | .tup _, .non, S | .lst _, .non, S | .ref _, .non, S => some (.bl false, S)
  | .bl a, .bl b, S => some (.bl (decide (a = b)), S)
  | _, _, _ => none
theorem isN_aux {w : Wd} {H : Hp} {a : D} {x : V} (r : Rp K w H a x) (h : a ≠ .non) : decide (x = V.non) = false := by
  apply decide_eq_false
  rintro rfl
  cases r
  exact h rfl
theorem fIsN_s : OpS K (fun x y H Q => (y = .non ∧ Q (.bl (decide (x = .non))) H) ∨ rIsB x y H Q) fIsN := by
  intro w S H a b d x y S' Q k ra rb hm q
  unfold fIsN at hm
  split at hm
  all_goals first
    | cases hm; done
    | (cases hm; rw [rb.non_inv]; refine .inl ⟨rfl, ?_⟩; first | (rw [isN_aux ra (by simp)]; exact q w H _ .refl k (.bl _)) | (rw [ra.non_inv]; exact q w H _ .refl k (.bl _)))
    | (cases hm; exact .inr ⟨_, _, ra.bl_inv, rb.bl_inv, q w H _ .refl k (.bl _)⟩)
def fNotN : D → D → Store → Option (D × Store) := fun a b S => (fIsN a b S).bind fun (d, S) => match d with
  | .bl k => some (.bl (!k), S)
  | _ => none
theorem fNotN_s : OpS K (fun x y H Q => (y = .non ∧ Q (.bl (!decide (x = .non))) H) ∨ rNotB x y H Q) fNotN := by
  intro w S H a b d x y S' Q k ra rb hm q
  unfold fNotN at hm
  obtain ⟨⟨d1, S1⟩, h1, hm⟩ := Option.bind_eq_some_iff.mp hm
  simp only at hm
  split at hm
  · cases hm
    unfold fIsN at h1
    split at h1
    all_goals first
      | cases h1; done
      | (cases h1; rw [rb.non_inv]; refine .inl ⟨rfl, ?_⟩; first | (rw [isN_aux ra (by simp)]; exact q w H _ .refl k (.bl _)) | (rw [ra.non_inv]; exact q w H _ .refl k (.bl _)))
      | (cases h1; exact .inr ⟨_, _, ra.bl_inv, rb.bl_inv, q w H _ .refl k (.bl _)⟩)
  · cases hm
end
end DV

namespace DV
open PySem PySem.Spec PyProof.Rows L2

/-! ### content as data; equality -/
mutual
def D.py : D → PyData
  | .non => .none
  | .bl b => .bool b
  | .int i => .int i
  | .str x => .str x
  | .tup xs => .tuple (D.pyL xs)
  | .lst xs => .list (D.pyL xs)
  | _ => .none
def D.pyL : List D → List PyData
  | [] => []
  | x :: xs => D.py x :: D.pyL xs
end
theorem D.pyL_map : ∀ xs : List D, D.pyL xs = xs.map D.py
  | [] => by simp [D.pyL]
  | x :: xs => by simp [D.pyL, D.pyL_map xs]
mutual
/-- plain content, not too deep -/
def D.fit (n : Nat) : D → Bool
  | .non => true
  | .bl _ => true
  | .int _ => true
  | .str x => PyData.strOk x
  | .tup xs => match n with
    | 0 => false
    | n + 1 => D.fitL n xs
  | .lst xs => match n with
    | 0 => false
    | n + 1 => D.fitL n xs
  | _ => false
def D.fitL (n : Nat) : List D → Bool
  | [] => true
  | x :: xs => D.fit n x && D.fitL n xs
end
theorem D.fitL_all {n : Nat} : ∀ xs : List D, D.fitL n xs = xs.all (D.fit n)
  | [] => by simp [D.fitL]
  | x :: xs => by simp [D.fitL, D.fitL_all xs]
mutual
theorem D.fit_lay : ∀ (d : D) (n : Nat), D.fit n d = true → d.py.canLay0 = true ∧ d.py.depth ≤ n
  | .non, n, _ => by simp [D.py, PyData.canLay0, PyData.depth]
  | .bl _, n, _ => by simp [D.py, PyData.canLay0, PyData.depth]
  | .int _, n, _ => by simp [D.py, PyData.canLay0, PyData.depth]
  | .str x, n, h => by
    simp only [D.fit] at h
    simp [D.py, PyData.canLay0, PyData.depth, h]
  | .tup xs, 0, h => by simp [D.fit] at h
  | .tup xs, n + 1, h => by
    simp only [D.fit] at h
    have := D.fitL_lay xs n h
    simp only [D.py, PyData.canLay0, PyData.depth]
    exact ⟨this.1, by omega⟩
  | .lst xs, 0, h => by simp [D.fit] at h
  | .lst xs, n + 1, h => by
    simp only [D.fit] at h
    have := D.fitL_lay xs n h
    simp only [D.py, PyData.canLay0, PyData.depth]
    exact ⟨this.1, by omega⟩
  | .ref _, n, h => by simp [D.fit] at h
  | .fr _, n, h => by simp [D.fit] at h
  | .rng _ _, n, h => by simp [D.fit] at h
theorem D.fitL_lay : ∀ (ds : List D) (n : Nat), D.fitL n ds = true → PyData.canLayAll0 (D.pyL ds) = true ∧ PyData.depthAll (D.pyL ds) ≤ n
  | [], n, _ => by simp [D.pyL, PyData.canLayAll0, PyData.depthAll]
  | d :: ds, n, h => by
    simp only [D.fitL, Bool.and_eq_true] at h
    have h1 := D.fit_lay d n h.1
    have h2 := D.fitL_lay ds n h.2
    simp only [D.pyL, PyData.canLayAll0, PyData.depthAll, Bool.and_eq_true]
    exact ⟨⟨h1.1, h2.1⟩, by omega⟩
end
theorem D.fit_shaped {d : D} {n : Nat} (h : D.fit n d = true) (hn : n ≤ 64 := by decide) : SeqAt.shaped d.py = true := by
  have := D.fit_lay d n h
  show (d.py.canLay0 && decide (d.py.depth ≤ 64)) = true
  rw [Bool.and_eq_true]
  exact ⟨this.1, decide_eq_true (by omega)⟩
theorem D.fitL_shaped {ds : List D} {n : Nat} (h : D.fitL n ds = true) (hn : n < 64 := by decide) : SeqAt.shaped (.list (D.pyL ds)) = true ∧ SeqAt.shaped (.tuple (D.pyL ds)) = true := by
  have := D.fitL_lay ds n h
  constructor
  · show (PyData.canLayAll0 (D.pyL ds) && decide (PyData.depthAll (D.pyL ds) + 1 ≤ 64)) = true
    rw [Bool.and_eq_true]
    exact ⟨this.1, decide_eq_true (by omega)⟩
  · show (PyData.canLayAll0 (D.pyL ds) && decide (PyData.depthAll (D.pyL ds) + 1 ≤ 64)) = true
    rw [Bool.and_eq_true]
    exact ⟨this.1, decide_eq_true (by omega)⟩
section
variable {K : PySem.W.Frag} {w w' : Wd} {H H' : Hp} {S S' : Store}
mutual
theorem Rp.dp : ∀ (d : D) (n : Nat) (v : V), Rp K w H d v → D.fit n d = true → Dp K H v d.py
  | .non, _, _, r, _ => by rw [r.non_inv]; simp only [D.py]; exact .non
  | .bl b, _, _, r, _ => by rw [r.bl_inv]; simp only [D.py]; exact .bl b
  | .int b, _, _, r, _ => by rw [r.int_inv]; simp only [D.py]; exact .int b
  | .str b, _, _, r, _ => by rw [r.str_inv]; simp only [D.py]; exact .str b
  | .tup xs, 0, _, r, h => by simp [D.fit] at h
  | .tup xs, n + 1, _, r, h => by
    obtain ⟨a, vs, rfl, h1, h2⟩ := r.tup_inv
    simp only [D.fit] at h
    simp only [D.py]
    exact .tup h1 (RpL.dp xs n vs h2 h)
  | .lst xs, 0, _, r, h => by simp [D.fit] at h
  | .lst xs, n + 1, _, r, h => by
    obtain ⟨a, vs, rfl, _, h1, h2⟩ := r.lst_inv
    simp only [D.fit] at h
    simp only [D.py]
    exact .lst (.of h1) (RpL.dp xs n vs h2 h)
  | .ref _, n, _, _, h => by simp [D.fit] at h
  | .fr _, n, _, _, h => by simp [D.fit] at h
  | .rng _ _, n, _, _, h => by simp [D.fit] at h
theorem RpL.dp : ∀ (ds : List D) (n : Nat) (vs : List V), RpL K w H ds vs → D.fitL n ds = true → DpAll K H vs (D.pyL ds)
  | [], _, _, r, _ => by cases r; simp only [D.pyL]; exact .nil
  | d :: ds, n, _, r, h => by
    cases r with
    | cons r t =>
      simp only [D.fitL, Bool.and_eq_true] at h
      simp only [D.pyL]
      exact .cons (Rp.dp d n _ r h.1) (RpL.dp ds n _ t h.2)
end
end
/-- Python's == of content -/
def deq (a b : D) : Bool := PyData.eqv a.py b.py
def deqL (a b : List D) : Bool := PyData.eqvAll (D.pyL a) (D.pyL b)
/-- lists of the store are read one level deep -/
def readTop : D → Store → D
  | .ref i, S => match S[i]? with
    | some (.lst xs) => .lst xs
    | _ => .ref i
  | .fr xs, _ => .lst xs
  | d, _ => d
section
variable {K : PySem.W.Frag} {w w' : Wd} {H H' : Hp} {S S' : Store}
theorem Rp.dpTop {d : D} {v : V} {n : Nat} (k : Ok K w S H) (r : Rp K w H d v) (h : D.fit n (readTop d S) = true) : Dp K H v (readTop d S).py := by
  unfold readTop at h ⊢
  split at h
  · rename_i i
    split at h
    · rename_i xs hs
      obtain ⟨a, rfl, h1⟩ := r.ref_inv
      obtain ⟨vs, h2, h3⟩ := k.lst h1 hs
      cases n with
      | zero => simp [D.fit] at h
      | succ n =>
        simp only [D.fit] at h
        simp only [hs, D.py]
        exact .lst (.of h2) (RpL.dp xs n vs h3 h)
    · simp [D.fit] at h
  · rename_i xs
    obtain ⟨a, vs, rfl, h1, h2⟩ := r.fr_inv
    cases n with
    | zero => simp [D.fit] at h
    | succ n =>
      simp only [D.fit] at h
      simp only [D.py]
      exact .lst h1 (RpL.dp xs n vs h2 h)
  · exact Rp.dp _ n _ r h
end
def fEq : D → D → Store → Option (D × Store) := fun a b S => if D.fit 32 (readTop a S) ∧ D.fit 32 (readTop b S) then some (.bl (deq (readTop a S) (readTop b S)), S) else none
def fNe : D → D → Store → Option (D × Store) := fun a b S => if D.fit 32 (readTop a S) ∧ D.fit 32 (readTop b S) then some (.bl (!deq (readTop a S) (readTop b S)), S) else none
section
variable {X : Cx} {K : PySem.W.Frag}
theorem fEq_s : OpS K (rEqD K) fEq := by
  intro w S H a b d x y S' Q k ra rb hm q
  unfold fEq at hm
  split at hm
  · rename_i hf
    cases hm
    exact ⟨_, _, ra.dpTop k hf.1, rb.dpTop k hf.2, D.fit_shaped hf.1, D.fit_shaped hf.2, q w H _ .refl k (.bl _)⟩
  · cases hm
theorem fNe_s : OpS K (rNeD K) fNe := by
  intro w S H a b d x y S' Q k ra rb hm q
  unfold fNe at hm
  split at hm
  · rename_i hf
    cases hm
    exact ⟨_, _, ra.dpTop k hf.1, rb.dpTop k hf.2, D.fit_shaped hf.1, D.fit_shaped hf.2, q w H _ .refl k (.bl _)⟩
  · cases hm
/-- x in a list or tuple; in a dict of ints and texts -/
def rInA (K : PySem.W.Frag) (neg : Bool) : R2 := fun x y H Q => ∃ d ds, Dp K H x d ∧ (Dp K H y (.list ds) ∨ Dp K H y (.tuple ds)) ∧ SeqAt.shaped d = true ∧ SeqAt.shaped (.list ds) = true ∧ Q (.bl (if neg then !(ds.any fun z => PyData.eqv z d) else ds.any fun z => PyData.eqv z d)) H
theorem op_inA (hu : X.A.units + 65 < cLine) : OpR X (compareOp .In) (rInA X.K false) := by
  intro pins s σ H x y v u Q I rx ry h
  obtain ⟨d, ds, hd, he, sd, se, q⟩ := h
  obtain ⟨as, r1⟩ := Dp.reads I d x v hd rx
  have hl : PyData.canLayAll0 ds = true := SeqAt.canLay_of_shaped se
  rcases he with he | he
  · obtain ⟨bs, r2⟩ := Dp.reads I (.list ds) y u he ry
    exact SeqAt.in_list_reads r2 r1 hl (SeqAt.canLay_of_shaped sd) (room_in_shaped sd hu) ⟨.bl _, H, I, rfl, q⟩
  · obtain ⟨bs, r2⟩ := Dp.reads I (.tuple ds) y u he ry
    exact SeqAt.in_tuple_reads r2 r1 hl (SeqAt.canLay_of_shaped sd) (room_in_shaped sd hu) ⟨.bl _, H, I, rfl, q⟩
theorem op_notInA (hu : X.A.units + 65 < cLine) : OpR X (compareOp .NotIn) (rInA X.K true) := by
  intro pins s σ H x y v u Q I rx ry h
  obtain ⟨d, ds, hd, he, sd, se, q⟩ := h
  obtain ⟨as, r1⟩ := Dp.reads I d x v hd rx
  have hl : PyData.canLayAll0 ds = true := SeqAt.canLay_of_shaped se
  rcases he with he | he
  · obtain ⟨bs, r2⟩ := Dp.reads I (.list ds) y u he ry
    exact SeqAt.notIn_list_reads r2 r1 hl (SeqAt.canLay_of_shaped sd) (room_in_shaped sd hu) ⟨.bl _, H, I, rfl, q⟩
  · obtain ⟨bs, r2⟩ := Dp.reads I (.tuple ds) y u he ry
    exact SeqAt.notIn_tuple_reads r2 r1 hl (SeqAt.canLay_of_shaped sd) (room_in_shaped sd hu) ⟨.bl _, H, I, rfl, q⟩
def fInB (neg : Bool) : D → D → Store → Option (D × Store) := fun a b S => (seqOf b S).bind fun xs => if D.fit 32 a ∧ D.fitL 32 xs then some (.bl (if neg then !(xs.any fun z => deq z a) else xs.any fun z => deq z a), S) else none
abbrev fIn := fInB false
abbrev fNotIn := fInB true
theorem fInB_s (neg : Bool) : OpS K (rInA K neg) (fInB neg) := by
  intro w S H a b d x y S' Q k ra rb hm q
  unfold fInB at hm
  obtain ⟨xs, h1, hm⟩ := Option.bind_eq_some_iff.mp hm
  split at hm
  · rename_i hf
    cases hm
    obtain ⟨p, vs, rfl, h2, h3⟩ := seq_rd k rb h1
    have hd : Dp K H x a.py := Rp.dp a 32 x ra hf.1
    have hl : DpAll K H vs (D.pyL xs) := RpL.dp xs 32 vs h3 hf.2
    refine ⟨a.py, D.pyL xs, hd, ?_, D.fit_shaped hf.1, (D.fitL_shaped hf.2).1, ?_⟩
    · rcases h2 with h2 | h2
      · exact .inl (.lst h2 hl)
      · exact .inr (.tup h2 hl)
    · have e : ((D.pyL xs).any fun z => PyData.eqv z a.py) = xs.any fun z => deq z a := by
        rw [D.pyL_map, List.any_map]; rfl
      rw [e]
      exact q w H _ .refl k (.bl _)
  · cases hm

/-! ### places and slices -/
def fIx : D → D → Store → Option (D × Store)
  | .str z, .int i, S => if z.length ≤ LIM then (atI z.cps.toList i).bind fun c => some (.str ⟨#[c]⟩, S) else none
  | a, .int i, S => (seqOf a S).bind fun xs => (atI xs i).bind fun d => some (d, S)
  | _, _, _ => none
theorem atI_rp {w : Wd} {H : Hp} {ds : List D} {vs : List V} {i : Int} {d : D} (r : RpL K w H ds vs) (h : atI ds i = some d) : ∃ v, atI vs i = some v ∧ Rp K w H d v := by
  unfold atI at h ⊢
  obtain ⟨j, h1, h2⟩ := Option.bind_eq_some_iff.mp h
  obtain ⟨v, h3, h4⟩ := r.get h2
  exact ⟨v, by rw [← r.length, h1]; exact h3, h4⟩
theorem fIx_s : OpS K (rIx K) fIx := by
  intro w S H a b d x y S' Q k ra rb hm q
  unfold fIx at hm
  split at hm
  · split at hm
    · obtain ⟨c, h1, hm⟩ := Option.bind_eq_some_iff.mp hm
      cases hm
      exact .inr (.inr ⟨_, _, _, ra.str_inv, rb.int_inv, by rw [lim_eq]; assumption, h1, q w H _ .refl k (.str _)⟩)
    · cases hm
  · obtain ⟨xs, h1, hm⟩ := Option.bind_eq_some_iff.mp hm
    obtain ⟨d', h2, hm⟩ := Option.bind_eq_some_iff.mp hm
    cases hm
    obtain ⟨p, vs, rfl, h3, h4⟩ := seq_rd k ra h1
    obtain ⟨v, h5, h6⟩ := atI_rp h4 h2
    rcases h3 with h3 | h3
    · exact .inl ⟨p, vs, _, v, rfl, rb.int_inv, h3, h5, q w H _ .refl k h6⟩
    · exact .inr (.inl ⟨p, vs, _, v, rfl, rb.int_inv, h3, h5, q w H _ .refl k h6⟩)
  · cases hm
/-- the items of xs[lo:hi] -/
def cutD (xs : List D) (lo hi : Option Int) : List D := (xs.drop (HT.sIx xs.length 0 lo)).take (HT.sIx xs.length xs.length hi - HT.sIx xs.length 0 lo)
theorem cut_rp {w : Wd} {H : Hp} {ds : List D} {vs : List V} {lo hi : Option Int} (r : RpL K w H ds vs) : RpL K w H (cutD ds lo hi) (cutV vs lo hi) := by
  unfold cutD cutV
  rw [r.length]
  exact (r.drop _).take _
abbrev MO := Ev → Store → Option (Option Int × Store)
def tO (K : PySem.W.Frag) (m : MO) : TO := fun σ H Q => ∃ w e S o S', RpE K w H e σ ∧ Ok K w S H ∧ m e S = some (o, S') ∧ ∀ w' H', Stp w H w' H' → Ok K w' S' H' → Q o H'
theorem PO.imp {X : Cx} {e : Option Expr} {t t' : TO} (h : PO X e t) (i : ∀ σ H Q, t' σ H Q → t σ H Q) : PO X e t' := ⟨fun pins s σ H Q I q => h.run pins s σ H Q I (i σ H Q q)⟩
abbrev AO (X : Cx) (e : Option Expr) (m : MO) : Prop := PO X e (tO X.K m)
def mO0 : MO := fun _ S => some (none, S)
def mO1 (m : ME) : MO := fun e S => (m e S).bind fun (d, S1) => match d with
  | .int i => some (some i, S1)
  | _ => none
theorem ao_none : AO X none mO0 := PO.imp po_none fun σ H Q ⟨w, e, S, o, S', re, k, hm, q⟩ => by
  cases hm
  exact q w H .refl k
theorem ao_some {e : Expr} {m : ME} (h : AE X e m) : AO X (some e) (mO1 m) := PO.imp (po_some h) fun σ H Q ⟨w, e, S, o, S', re, k, hm, q⟩ => by
  unfold mO1 at hm
  obtain ⟨⟨d, S1⟩, h1, hm⟩ := Option.bind_eq_some_iff.mp hm
  simp only at hm
  split at hm
  · cases hm
    exact ⟨w, e, S, _, _, re, k, h1, fun w' H' v s' k' r' => ⟨_, r'.int_inv, q w' H' s' k'⟩⟩
  · cases hm
/-- a tuple's slice -/
def fSlT : D → Option Int → Option Int → Option D
  | .tup xs, lo, hi => some (.tup (cutD xs lo hi))
  | _, _, _ => none
def mSl (f : D → Option Int → Option Int → Option D) (m : ME) (ml mh : MO) : ME := fun e S => (m e S).bind fun (d, S1) => (ml e S1).bind fun (lo, S2) => (mh e S2).bind fun (hi, S3) => (f d lo hi).bind fun r => some (r, S3)
theorem cut_whole {xs : List D} {lo hi : Option Int} (h : HT.sIx xs.length 0 lo = 0 ∧ HT.sIx xs.length xs.length hi = xs.length) : cutD xs lo hi = xs := by
  unfold cutD
  rw [h.1, h.2, Nat.sub_zero, List.drop_zero, List.take_length]
theorem ae_slT {a : Expr} {lo hi : Option Expr} {m : ME} {ml mh : MO} {p2 pos : Pos} (ha : AE X a m) (hl : AO X lo ml) (hh : AO X hi mh) : AE X (.Subscript a (.Slice lo hi none p2) pos) (mSl fSlT m ml mh) :=
  PE.imp (pe_slice sl_tupA ha hl hh) fun σ H Q ⟨w, e, S, d, S', re, k, hm, q⟩ => by
    unfold mSl at hm
    obtain ⟨⟨d1, S1⟩, h1, hm⟩ := Option.bind_eq_some_iff.mp hm
    obtain ⟨⟨o1, S2⟩, h2, hm⟩ := Option.bind_eq_some_iff.mp hm
    obtain ⟨⟨o2, S3⟩, h3, hm⟩ := Option.bind_eq_some_iff.mp hm
    obtain ⟨r, h4, hm⟩ := Option.bind_eq_some_iff.mp hm
    cases hm
    refine ⟨w, e, S, d1, S1, re, k, h1, fun w1 H1 x s1 k1 r1 => ⟨w1, e, S1, o1, S2, re.mono s1, k1, h2, fun w2 H2 s2 k2 => ⟨w2, e, S2, o2, _, (re.mono s1).mono s2, k2, h3, fun w3 H3 s3 k3 => ?_⟩⟩⟩
    unfold fSlT at h4
    split at h4
    · cases h4
      have r3 := (r1.mono s2).mono s3
      obtain ⟨a, vs, rfl, h5, h6⟩ := r3.tup_inv
      refine ⟨a, vs, rfl, h5, fun hw => ?_, fun hw p hp => ?_⟩
      · rw [← h6.length] at hw
        rw [cut_whole hw] at q
        exact q w3 H3 _ ((s1.trans s2).trans s3) k3 r3
      · exact Post.newT (fun w' H' v s k r => q w' H' v (((s1.trans s2).trans s3).trans s) k r) k3 hp (cut_rp h6)
    · cases h4
/-- a list's slice: a new list -/
def mSlL (m : ME) (ml mh : MO) : ML := fun e S => (m e S).bind fun (d, S1) => (ml e S1).bind fun (lo, S2) => (mh e S2).bind fun (hi, S3) => (lstOf d S3).bind fun xs => some (cutD xs lo hi, S3)
theorem af_slL {a : Expr} {lo hi : Option Expr} {m : ME} {ml mh : MO} {p2 pos : Pos} (ha : AE X a m) (hl : AO X lo ml) (hh : AO X hi mh) : AF X (.Subscript a (.Slice lo hi none p2) pos) (mSlL m ml mh) :=
  PE.imp (pe_slice sl_list ha hl hh) fun σ H Q ⟨w, e, S, d, S', re, k, hm, q⟩ => by
    unfold mSlL at hm
    obtain ⟨⟨d1, S1⟩, h1, hm⟩ := Option.bind_eq_some_iff.mp hm
    obtain ⟨⟨o1, S2⟩, h2, hm⟩ := Option.bind_eq_some_iff.mp hm
    obtain ⟨⟨o2, S3⟩, h3, hm⟩ := Option.bind_eq_some_iff.mp hm
    obtain ⟨r, h4, hm⟩ := Option.bind_eq_some_iff.mp hm
    cases hm
    refine ⟨w, e, S, d1, S1, re, k, h1, fun w1 H1 x s1 k1 r1 => ⟨w1, e, S1, o1, S2, re.mono s1, k1, h2, fun w2 H2 s2 k2 => ⟨w2, e, S2, o2, _, (re.mono s1).mono s2, k2, h3, fun w3 H3 s3 k3 => ?_⟩⟩⟩
    have r3 := (r1.mono s2).mono s3
    obtain ⟨a, vs, rfl, h5, h6⟩ := lst_rd k3 r3 h4
    exact ⟨a, vs, rfl, h5, fun p hp => q w3 H3 p _ ((s1.trans s2).trans s3) k3 hp (cut_rp h6)⟩
/-- a new list as content, or in the store -/
def mVal (m : ML) : ME := fun e S => (m e S).bind fun (ds, S1) => some (.lst ds, S1)
def mSto (m : ML) : ME := fun e S => (m e S).bind fun (ds, S1) => some (.ref S1.length, S1 ++ [.lst ds])
theorem ae_val {e : Expr} {m : ML} (h : AF X e m) : AE X e (mVal m) := PE.imp h fun σ H Q ⟨w, e, S, d, S', re, k, hm, q⟩ => by
  unfold mVal at hm
  obtain ⟨⟨ds, S1⟩, h1, hm⟩ := Option.bind_eq_some_iff.mp hm
  cases hm
  exact ⟨w, e, S, ds, _, re, k, h1, fun w' H' p vs s' k' hp r => Post.newL (fun w2 H2 v s2 k2 r2 => q w2 H2 v (s'.trans s2) k2 r2) k' hp r⟩
theorem ae_sto {e : Expr} {m : ML} (h : AF X e m) : AE X e (mSto m) := PE.imp h fun σ H Q ⟨w, e, S, d, S', re, k, hm, q⟩ => by
  unfold mSto at hm
  obtain ⟨⟨ds, S1⟩, h1, hm⟩ := Option.bind_eq_some_iff.mp hm
  cases hm
  exact ⟨w, e, S, ds, _, re, k, h1, fun w' H' p vs s' k' hp r => Post.addL (fun w2 H2 v s2 k2 r2 => q w2 H2 v (s'.trans s2) k2 r2) k' hp r⟩

/-! ### argument lists, displays -/
def mNil : ML := fun _ S => some ([], S)
def mCons (m : ME) (ms : ML) : ML := fun e S => (m e S).bind fun (d, S1) => (ms e S1).bind fun (ds, S2) => some (d :: ds, S2)
theorem aa_nil : AA X [] mNil := PA.imp pa_nil fun σ H Q ⟨w, e, S, d, S', re, k, hm, q⟩ => by
  cases hm
  exact q w H [] .refl k .nil
theorem aa_cons {e : Expr} {es : List Expr} {m : ME} {ms : ML} (h : AE X e m) (hr : AA X es ms) (hs : starEach (e :: es) X.env = (false, eval e X.env) :: starEach es X.env := by rfl) : AA X (e :: es) (mCons m ms) :=
  PA.imp (pa_cons h hr hs) fun σ H Q ⟨w, e, S, d, S', re, k, hm, q⟩ => by
    unfold mCons at hm
    obtain ⟨⟨d1, S1⟩, h1, hm⟩ := Option.bind_eq_some_iff.mp hm
    obtain ⟨⟨ds, S2⟩, h2, hm⟩ := Option.bind_eq_some_iff.mp hm
    cases hm
    exact ⟨w, e, S, d1, S1, re, k, h1, fun w1 H1 x s1 k1 r1 => ⟨w1, e, S1, ds, _, re.mono s1, k1, h2, fun w2 H2 vs s2 k2 r2 => q w2 H2 _ (s1.trans s2) k2 (.cons (r1.mono s2) r2)⟩⟩
def mTup (ms : ML) : ME := fun e S => (ms e S).bind fun (ds, S1) => if ds.length ≤ LIM then some (.tup ds, S1) else none
theorem ae_tup {es : List Expr} {ms : ML} {x1} {pos : Pos} (h : AA X es ms) : AE X (.Tuple es x1 pos) (mTup ms) := PE.imp (pe_tup h) fun σ H Q ⟨w, e, S, d, S', re, k, hm, q⟩ => by
  unfold mTup at hm
  obtain ⟨⟨ds, S1⟩, h1, hm⟩ := Option.bind_eq_some_iff.mp hm
  simp only at hm
  split at hm
  · cases hm
    rename_i hz
    exact ⟨w, e, S, ds, _, re, k, h1, fun w1 H1 vs s1 k1 r1 => ⟨by rw [lim_eq, ← r1.length]; exact hz, fun p hp => Post.newT (fun w2 H2 v s2 k2 r2 => q w2 H2 v (s1.trans s2) k2 r2) k1 hp r1⟩⟩
  · cases hm
def mLst (ms : ML) : ML := fun e S => (ms e S).bind fun (ds, S1) => if ds.length ≤ LIM then some (ds, S1) else none
theorem af_lst {es : List Expr} {ms : ML} {pos : Pos} (h : AA X es ms) : AF X (.List es pos) (mLst ms) := PE.imp (pe_lst h) fun σ H Q ⟨w, e, S, d, S', re, k, hm, q⟩ => by
  unfold mLst at hm
  obtain ⟨⟨ds, S1⟩, h1, hm⟩ := Option.bind_eq_some_iff.mp hm
  simp only at hm
  split at hm
  · cases hm
    rename_i hz
    exact ⟨w, e, S, _, _, re, k, h1, fun w1 H1 vs s1 k1 r1 => ⟨by rw [lim_eq, ← r1.length]; exact hz, fun p hp => q w1 H1 p vs s1 k1 hp r1⟩⟩
  · cases hm
end
end DV

namespace DV
open PySem PySem.Spec PyProof.Rows L2
section
variable {X : Cx} {K : PySem.W.Frag}
/-! ### tests -/
def truth : D → Store → Option Bool
  | .non, _ => some false
  | .bl b, _ => some b
  | .int i, _ => some (i != 0)
  | .str y, _ => if y.length ≤ LIM then some ((y.length : Int) != 0) else none
  | .ref i, S => match S[i]? with
    | some (.lst xs) => some !xs.isEmpty
    | some (.dct kvs) => some !kvs.isEmpty
    | _ => none
  | .tup xs, _ => some !xs.isEmpty
  | .lst xs, _ => some !xs.isEmpty
  | .fr xs, _ => some !xs.isEmpty
  | .rng _ _, _ => none
theorem empty_rp {w : Wd} {H : Hp} {ds : List D} {vs : List V} (r : RpL K w H ds vs) : (!ds.isEmpty) = !vs.isEmpty := by cases r <;> rfl
theorem empty_rk {w : Wd} {H : Hp} {ds : List (D × D)} {vs : List (Key × V)} (r : RDk K w H ds vs) : (!ds.isEmpty) = !vs.isEmpty := by cases r <;> rfl
theorem truth_ok {w : Wd} {S : Store} {H : Hp} {d : D} {v : V} {b : Bool} (k : Ok K w S H) (r : Rp K w H d v) (h : truth d S = some b) (hd : ∀ i kvs, d = .ref i → S[i]? = some (.dct kvs) → ∃ a ks, w.rho[i]? = some a ∧ H a = some (.dK ks)) : TruV K v H b := by
  unfold truth at h
  split at h
  · cases h; rw [r.non_inv]; rfl
  · cases h; rw [r.bl_inv]; rfl
  · cases h; rw [r.int_inv]; rfl
  · split at h
    · cases h; rw [r.str_inv]; exact ⟨by rw [lim_eq]; assumption, rfl⟩
    · cases h
  · split at h
    · cases h
      obtain ⟨a, rfl, h1⟩ := r.ref_inv
      obtain ⟨vs, h2, h3⟩ := k.lst h1 (by assumption)
      exact .inl ⟨vs, .of h2, empty_rp h3⟩
    · cases h
      obtain ⟨a, rfl, h1⟩ := r.ref_inv
      obtain ⟨a', ks, h2, h3⟩ := hd _ _ rfl (by assumption)
      rw [h1] at h2; cases h2
      obtain ⟨x, h4, h5⟩ := k.ob _ _ _ h1 (by assumption)
      rw [h3] at h4; cases h4
      cases h5 with
      | dK q => exact .inr (.inr ⟨ks, h3, empty_rk q⟩)
    · cases h
  · cases h
    obtain ⟨a, vs, rfl, h1, h2⟩ := r.tup_inv
    exact .inr (.inl ⟨vs, h1, empty_rp h2⟩)
  · cases h
    obtain ⟨a, vs, rfl, _, h1, h2⟩ := r.lst_inv
    exact .inl ⟨vs, .of h1, empty_rp h2⟩
  · cases h
    obtain ⟨a, vs, rfl, h1, h2⟩ := r.fr_inv
    exact .inl ⟨vs, h1, empty_rp h2⟩
  · cases h
/-- without dicts -/
def truth' (d : D) (S : Store) : Option Bool := match d with
  | .ref i => match S[i]? with
    | some (.lst xs) => some !xs.isEmpty
    | _ => none
  | d => truth d S
theorem truth'_ok {w : Wd} {S : Store} {H : Hp} {d : D} {v : V} {b : Bool} (k : Ok K w S H) (r : Rp K w H d v) (h : truth' d S = some b) : TruV K v H b := by
  unfold truth' at h
  split at h
  · rename_i i
    split at h
    · rename_i xs hs
      refine truth_ok k r (show (match S[i]? with | some (.lst xs) => some !xs.isEmpty | some (.dct kvs) => some !kvs.isEmpty | _ => none) = some b by rw [hs]; exact h) fun j kvs e h2 => ?_
      cases e
      rw [hs] at h2; cases h2
    · cases h
  · rename_i hne
    exact truth_ok k r h fun j kvs e h2 => absurd e (hne j)
def mTru (m : ME) : MT := fun e S => (m e S).bind fun (d, S1) => (truth' d S1).bind fun b => some (b, S1)
theorem at_truth {a : Expr} {m : ME} (ha : AE X a m) (he : ∀ whole, isTrue a X.env whole = (do let v ← whole; standAt a.pos; holding [v] (truthy v)) := by intro _; rfl) : AT X a (mTru m) :=
  PT.imp (pt_truth ha he) fun σ H Q ⟨w, e, S, b, S', re, k, hm, q⟩ => by
    unfold mTru at hm
    obtain ⟨⟨d, S1⟩, h1, hm⟩ := Option.bind_eq_some_iff.mp hm
    obtain ⟨b1, h2, hm⟩ := Option.bind_eq_some_iff.mp hm
    cases hm
    exact ⟨w, e, S, d, _, re, k, h1, fun w' H' v s' k' r' => ⟨_, truth'_ok k' r' h2, q w' H' s' k'⟩⟩
def mAnd (a b : MT) : MT := fun e S => (a e S).bind fun (c, S1) => if c then b e S1 else some (false, S1)
def mOr (a b : MT) : MT := fun e S => (a e S).bind fun (c, S1) => if c then some (true, S1) else b e S1
def mNot (a : MT) : MT := fun e S => (a e S).bind fun (c, S1) => some (!c, S1)
section
variable {a b : Expr} {rest : List Expr} {pos : Pos} {ma mb : MT}
theorem aw_and1 (ha : AT X a ma) : AW X (.BoolOp .And [a] pos) ma := pw_and1 ha
theorem aw_or1 (ha : AT X a ma) : AW X (.BoolOp .Or [a] pos) ma := pw_or1 ha
theorem aw_and (ha : AT X a ma) (hb : AW X (.BoolOp .And (b :: rest) pos) mb) : AW X (.BoolOp .And (a :: b :: rest) pos) (mAnd ma mb) :=
  PW.imp (pw_and ha hb) fun σ H Q ⟨w, e, S, c, S', re, k, hm, q⟩ => by
    unfold mAnd at hm
    obtain ⟨⟨d, S1⟩, h1, hm⟩ := Option.bind_eq_some_iff.mp hm
    refine ⟨w, e, S, d, S1, re, k, h1, fun w1 H1 s1 k1 => ?_⟩
    cases d with
    | true => exact ⟨w1, e, S1, c, S', re.mono s1, k1, hm, fun w2 H2 s2 k2 => q w2 H2 (s1.trans s2) k2⟩
    | false => cases hm; exact q w1 H1 s1 k1
theorem aw_or (ha : AT X a ma) (hb : AW X (.BoolOp .Or (b :: rest) pos) mb) : AW X (.BoolOp .Or (a :: b :: rest) pos) (mOr ma mb) :=
  PW.imp (pw_or ha hb) fun σ H Q ⟨w, e, S, c, S', re, k, hm, q⟩ => by
    unfold mOr at hm
    obtain ⟨⟨d, S1⟩, h1, hm⟩ := Option.bind_eq_some_iff.mp hm
    refine ⟨w, e, S, d, S1, re, k, h1, fun w1 H1 s1 k1 => ?_⟩
    cases d with
    | false => exact ⟨w1, e, S1, c, S', re.mono s1, k1, hm, fun w2 H2 s2 k2 => q w2 H2 (s1.trans s2) k2⟩
    | true => cases hm; exact q w1 H1 s1 k1
theorem at_not (ha : AT X a ma) : AT X (.UnaryOp .Not a pos) (mNot ma) :=
  PT.imp (pt_not ha) fun σ H Q ⟨w, e, S, c, S', re, k, hm, q⟩ => by
    unfold mNot at hm
    obtain ⟨⟨d, S1⟩, h1, hm⟩ := Option.bind_eq_some_iff.mp hm
    cases hm
    exact ⟨w, e, S, d, _, re, k, h1, fun w1 H1 s1 k1 => q w1 H1 s1 k1⟩
end
/-- x and y, x or y, not x as values, by truth -/
def mAndV (a b : ME) : ME := fun e S => (a e S).bind fun (d, S1) => (truth' d S1).bind fun c => if c then b e S1 else some (d, S1)
def mOrV (a b : ME) : ME := fun e S => (a e S).bind fun (d, S1) => (truth' d S1).bind fun c => if c then some (d, S1) else b e S1
def mNotV (a : ME) : ME := fun e S => (a e S).bind fun (d, S1) => (truth' d S1).bind fun c => some (.bl (!c), S1)
section
variable {a b : Expr} {rest : List Expr} {pos : Pos} {ma mb : ME}
theorem ae_one {op} {m : ME} (h : AE X a m) : AE X (.BoolOp op [a] pos) m := pe_one h
theorem ae_and (ha : AE X a ma) (hb : AE X (.BoolOp .And (b :: rest) pos) mb) : AE X (.BoolOp .And (a :: b :: rest) pos) (mAndV ma mb) :=
  PE.imp (pe_andT ha hb) fun σ H Q ⟨w, e, S, c, S', re, k, hm, q⟩ => by
    unfold mAndV at hm
    obtain ⟨⟨d, S1⟩, h1, hm⟩ := Option.bind_eq_some_iff.mp hm
    obtain ⟨t, h2, hm⟩ := Option.bind_eq_some_iff.mp hm
    refine ⟨w, e, S, d, S1, re, k, h1, fun w1 H1 v s1 k1 r1 => ⟨t, truth'_ok k1 r1 h2, ?_⟩⟩
    cases t with
    | true => exact ⟨w1, e, S1, c, S', re.mono s1, k1, hm, fun w2 H2 v s2 k2 r2 => q w2 H2 v (s1.trans s2) k2 r2⟩
    | false => cases hm; exact q w1 H1 v s1 k1 r1
theorem ae_or (ha : AE X a ma) (hb : AE X (.BoolOp .Or (b :: rest) pos) mb) : AE X (.BoolOp .Or (a :: b :: rest) pos) (mOrV ma mb) :=
  PE.imp (pe_orT ha hb) fun σ H Q ⟨w, e, S, c, S', re, k, hm, q⟩ => by
    unfold mOrV at hm
    obtain ⟨⟨d, S1⟩, h1, hm⟩ := Option.bind_eq_some_iff.mp hm
    obtain ⟨t, h2, hm⟩ := Option.bind_eq_some_iff.mp hm
    refine ⟨w, e, S, d, S1, re, k, h1, fun w1 H1 v s1 k1 r1 => ⟨t, truth'_ok k1 r1 h2, ?_⟩⟩
    cases t with
    | false => exact ⟨w1, e, S1, c, S', re.mono s1, k1, hm, fun w2 H2 v s2 k2 r2 => q w2 H2 v (s1.trans s2) k2 r2⟩
    | true => cases hm; exact q w1 H1 v s1 k1 r1
theorem ae_not (ha : AE X a ma) : AE X (.UnaryOp .Not a pos) (mNotV ma) :=
  PE.imp (pe_notT ha) fun σ H Q ⟨w, e, S, c, S', re, k, hm, q⟩ => by
    unfold mNotV at hm
    obtain ⟨⟨d, S1⟩, h1, hm⟩ := Option.bind_eq_some_iff.mp hm
    obtain ⟨t, h2, hm⟩ := Option.bind_eq_some_iff.mp hm
    cases hm
    exact ⟨w, e, S, d, _, re, k, h1, fun w1 H1 v s1 k1 r1 => ⟨t, truth'_ok k1 r1 h2, q w1 H1 _ s1 k1 (.bl _)⟩⟩
def mIf (c : MT) (a b : ME) : ME := fun e S => (c e S).bind fun (t, S1) => if t then a e S1 else b e S1
theorem ae_if {c : Expr} {mc : MT} (hc : AT X c mc) (ha : AE X a ma) (hb : AE X b mb) : AE X (.IfExp c a b pos) (mIf mc ma mb) :=
  PE.imp (pe_ifExp hc ha hb) fun σ H Q ⟨w, e, S, d, S', re, k, hm, q⟩ => by
    unfold mIf at hm
    obtain ⟨⟨t, S1⟩, h1, hm⟩ := Option.bind_eq_some_iff.mp hm
    refine ⟨w, e, S, t, S1, re, k, h1, fun w1 H1 s1 k1 => ?_⟩
    cases t with
    | true => exact ⟨w1, e, S1, d, S', re.mono s1, k1, hm, fun w2 H2 v s2 k2 r2 => q w2 H2 v (s1.trans s2) k2 r2⟩
    | false => exact ⟨w1, e, S1, d, S', re.mono s1, k1, hm, fun w2 H2 v s2 k2 r2 => q w2 H2 v (s1.trans s2) k2 r2⟩
def fNeg : D → Option D
  | .int i => some (.int (-i))
  | _ => none
def mUn (f : D → Option D) (a : ME) : ME := fun e S => (a e S).bind fun (d, S1) => (f d).bind fun r => some (r, S1)
theorem ae_neg (ha : AE X a ma) : AE X (.UnaryOp .USub a pos) (mUn fNeg ma) :=
  PE.imp (pe_un un_neg ha) fun σ H Q ⟨w, e, S, c, S', re, k, hm, q⟩ => by
    unfold mUn at hm
    obtain ⟨⟨d, S1⟩, h1, hm⟩ := Option.bind_eq_some_iff.mp hm
    obtain ⟨t, h2, hm⟩ := Option.bind_eq_some_iff.mp hm
    cases hm
    unfold fNeg at h2
    split at h2
    · cases h2
      exact ⟨w, e, S, _, _, re, k, h1, fun w1 H1 v s1 k1 r1 => ⟨_, r1.int_inv, q w1 H1 _ s1 k1 (.int _)⟩⟩
    · cases h2
/-- a < b < c -/
def mChain (f g : D → D → Store → Option (D × Store)) (ma mb mc : ME) : ME := fun e S => (ma e S).bind fun (a, S1) => (mb e S1).bind fun (b, S2) => (f a b S2).bind fun (z, S3) => match z with
  | .bl true => (mc e S3).bind fun (c, S4) => g b c S4
  | .bl false => some (.bl false, S3)
  | _ => none
end
/-! ### calls of built-ins -/
def mCB (f : List D → Store → Option (D × Store)) (ms : ML) : ME := fun e S => (ms e S).bind fun (ds, S1) => f ds S1
def CallS (K : PySem.W.Frag) (r : List V → Hp → VK → Prop) (f : List D → Store → Option (D × Store)) : Prop := ∀ (w : Wd) (S : Store) (H : Hp) (ds : List D) (vs : List V) (d : D) (S' : Store) (Q : VK), Ok K w S H → RpL K w H ds vs → f ds S = some (d, S') → Post K w H S' d Q → r vs H Q
theorem cb_imp {K : PySem.W.Frag} {r : List V → Hp → VK → Prop} {f : List D → Store → Option (D × Store)} {ms : ML} (h : CallS K r f) {σ : L2.St} {H : Hp} {Q : VK} (q : tD K (mCB f ms) σ H Q) : tCB r (tL K ms) σ H Q := by
  obtain ⟨w, e, S, d, S', re, k, hm, q⟩ := q
  unfold mCB at hm
  obtain ⟨⟨ds, S1⟩, h1, hm⟩ := Option.bind_eq_some_iff.mp hm
  exact ⟨w, e, S, ds, S1, re, k, h1, fun w1 H1 vs s1 k1 r1 => h w1 S1 H1 ds vs d S' Q k1 r1 hm fun w2 H2 v s2 k2 r2 => q w2 H2 v (s1.trans s2) k2 r2⟩
section
variable {x : Str} {p pos : Pos} {e : Expr} {es : List Expr} {ms : ML} {id T : String} {r : List V → Hp → VK → Prop} {f : List D → Store → Option (D × Store)}
theorem ae_callB (hc : CallR X (.builtin id) r) (h : CallS X.K r f) (hm : X.mg x = none) (ha : AA X (e :: es) ms) (hg : Gl X x := by rfl) (hv : bootBuiltins x = some (.builtin id) := by decide +kernel) (hn : x ≠ "__name__" := by decide) (hdb : (x == ("__debug__" : Str)) = false := by decide)
    (he : starEach (e :: es) X.env = (false, eval e X.env) :: starEach es X.env := by rfl) (hpl : (backTo pos (starEach es X.env)).any (·.1) = false := by rfl) : AE X (.Call (.Name x p) (e :: es) [] pos) (mCB f ms) :=
  PE.imp (pe_callB hc hg hm hv ha hn hdb he hpl) fun _ _ _ => cb_imp h
theorem ae_callTy (hc : CallR X (.type T) r) (h : CallS X.K r f) (hm : X.mg x = none) (ha : AA X (e :: es) ms) (hg : Gl X x := by rfl) (hv : bootBuiltins x = some (.type T) := by decide +kernel) (hn : x ≠ "__name__" := by decide) (hdb : (x == ("__debug__" : Str)) = false := by decide)
    (he : starEach (e :: es) X.env = (false, eval e X.env) :: starEach es X.env := by rfl) (hpl : (backTo pos (starEach es X.env)).any (·.1) = false := by rfl) : AE X (.Call (.Name x p) (e :: es) [] pos) (mCB f ms) :=
  PE.imp (pe_callTy hc hg hm hv ha hn hdb he hpl) fun _ _ _ => cb_imp h
end
theorem RpL.one_inv {w : Wd} {H : Hp} {d : D} {vs : List V} (r : RpL K w H [d] vs) : ∃ v, vs = [v] ∧ Rp K w H d v := by
  cases r with
  | cons r t => cases t; exact ⟨_, rfl, r⟩
theorem RpL.two_inv {w : Wd} {H : Hp} {d1 d2 : D} {vs : List V} (r : RpL K w H [d1, d2] vs) : ∃ v1 v2, vs = [v1, v2] ∧ Rp K w H d1 v1 ∧ Rp K w H d2 v2 := by
  cases r with
  | cons r t => obtain ⟨v, e, q⟩ := t.one_inv; exact ⟨_, _, by rw [e], r, q⟩
def fLen : List D → Store → Option (D × Store)
  | [.str y], S => if y.length ≤ LIM then some (.int y.length, S) else none
  | [d], S => (seqOf d S).bind fun xs => some (.int xs.length, S)
  | _, _ => none
theorem fLen_s : CallS K (fun xs H Q => ∃ x n, xs = [x] ∧ LenV K x H n ∧ Q (.int n) H) fLen := by
  intro w S H ds vs d S' Q k r hm q
  unfold fLen at hm
  split at hm
  · split at hm
    · cases hm
      obtain ⟨v, rfl, r1⟩ := r.one_inv
      rw [r1.str_inv]
      exact ⟨_, _, rfl, ⟨by rw [lim_eq]; assumption, rfl⟩, q w H _ .refl k (.int _)⟩
    · cases hm
  · obtain ⟨xs, h1, hm⟩ := Option.bind_eq_some_iff.mp hm
    cases hm
    obtain ⟨v, rfl, r1⟩ := r.one_inv
    obtain ⟨a, us, rfl, h2, h3⟩ := seq_rd k r1 h1
    refine ⟨_, us.length, rfl, ?_, ?_⟩
    · rcases h2 with h2 | h2
      · exact .inl ⟨us, h2, rfl⟩
      · exact .inr ⟨us, h2, rfl⟩
    · rw [← h3.length]
      exact q w H _ .refl k (.int _)
  · cases hm
def fInt : List D → Store → Option (D × Store)
  | [.int i], S => some (.int i, S)
  | [.bl b], S => some (.int (if b then 1 else 0), S)
  | _, _ => none
theorem fInt_s : CallS K (fun xs H Q => (∃ i, xs = [.int i] ∧ Q (.int i) H) ∨ ∃ k, xs = [.bl k] ∧ Q (.int (if k then 1 else 0)) H) fInt := by
  intro w S H ds vs d S' Q k r hm q
  unfold fInt at hm
  split at hm
  · cases hm
    obtain ⟨v, rfl, r1⟩ := r.one_inv
    exact .inl ⟨_, by rw [r1.int_inv], q w H _ .refl k (.int _)⟩
  · cases hm
    obtain ⟨v, rfl, r1⟩ := r.one_inv
    exact .inr ⟨_, by rw [r1.bl_inv], q w H _ .refl k (.int _)⟩
  · cases hm
def fAbs : List D → Store → Option (D × Store)
  | [.int i], S => some (.int (if i < 0 then -i else i), S)
  | _, _ => none
theorem fAbs_s : CallS K (fun xs H Q => ∃ i, xs = [.int i] ∧ Q (.int (if i < 0 then -i else i)) H) fAbs := by
  intro w S H ds vs d S' Q k r hm q
  unfold fAbs at hm
  split at hm
  · cases hm
    obtain ⟨v, rfl, r1⟩ := r.one_inv
    exact ⟨_, by rw [r1.int_inv], q w H _ .refl k (.int _)⟩
  · cases hm
/-- all ints -/
def intsOf : List D → Option (List Int)
  | [] => some []
  | .int i :: r => (intsOf r).bind fun ns => some (i :: ns)
  | _ => none
theorem intsOf_map : ∀ ns : List Int, intsOf (ns.map D.int) = some ns
  | [] => rfl
  | n :: ns => by simp [intsOf, intsOf_map ns]
theorem intsOf_iff : ∀ {ds : List D} {ns : List Int}, intsOf ds = some ns → ds = ns.map D.int
  | [], _, h => by cases h; rfl
  | d :: ds, ns, h => by
    unfold intsOf at h
    split at h
    · rename_i e; cases e
    · rename_i i r e
      cases e
      obtain ⟨ms, h1, h2⟩ := Option.bind_eq_some_iff.mp h
      cases h2
      rw [intsOf_iff h1]; rfl
    · cases h
def blsOf : List D → Option (List Bool)
  | [] => some []
  | .bl i :: r => (blsOf r).bind fun ns => some (i :: ns)
  | _ => none
theorem blsOf_map : ∀ ns : List Bool, blsOf (ns.map D.bl) = some ns
  | [] => rfl
  | n :: ns => by simp [blsOf, blsOf_map ns]
theorem blsOf_iff : ∀ {ds : List D} {ns : List Bool}, blsOf ds = some ns → ds = ns.map D.bl
  | [], _, h => by cases h; rfl
  | d :: ds, ns, h => by
    unfold blsOf at h
    split at h
    · rename_i e; cases e
    · rename_i i r e
      cases e
      obtain ⟨ms, h1, h2⟩ := Option.bind_eq_some_iff.mp h
      cases h2
      rw [blsOf_iff h1]; rfl
    · cases h
theorem RpL.bls : ∀ {w : Wd} {H : Hp} {ns : List Bool} {vs : List V}, RpL K w H (ns.map D.bl) vs → vs = ns.map V.bl
  | _, _, [], _, h => by cases h; rfl
  | _, _, n :: ns, _, h => by
    cases h with
    | cons r t => rw [r.bl_inv, RpL.bls t]; rfl
def fSum : List D → Store → Option (D × Store)
  | [d], S => (lstOf d S).bind fun xs => (intsOf xs).bind fun ns => some (.int ns.sum, S)
  | _, _ => none
theorem fSum_s : CallS K (rSum K) fSum := by
  intro w S H ds vs d S' Q k r hm q
  unfold fSum at hm
  split at hm
  · obtain ⟨xs, h1, hm⟩ := Option.bind_eq_some_iff.mp hm
    obtain ⟨ns, h2, hm⟩ := Option.bind_eq_some_iff.mp hm
    cases hm
    obtain ⟨v, rfl, r1⟩ := r.one_inv
    obtain ⟨a, us, rfl, h3, h4⟩ := lst_rd k r1 h1
    rw [intsOf_iff h2] at h4
    rw [h4.ints] at h3
    exact ⟨a, ns, rfl, h3, q w H _ .refl k (.int _)⟩
  · cases hm
def maxI : Int → List Int → Int := fun m l => l.foldl max m
def minI : Int → List Int → Int := fun m l => l.foldl min m
theorem maxI_eq : ∀ (l : List Int) (a m : Int), m ∈ a :: l → (∀ y ∈ a :: l, y ≤ m) → m = maxI a l
  | [], a, m, h, _ => by simpa [maxI] using h
  | b :: l, a, m, h, g => by
    show m = maxI (max a b) l
    refine maxI_eq l (max a b) m ?_ fun y hy => ?_
    · have g1 := g a (by simp)
      have g2 := g b (by simp)
      simp only [List.mem_cons] at h ⊢
      rcases h with h | h | h
      · left; omega
      · left; omega
      · right; exact h
    · simp only [List.mem_cons] at hy
      rcases hy with rfl | hy
      · have g1 := g a (by simp)
        have g2 := g b (by simp)
        omega
      · exact g y (by simp [hy])
theorem minI_eq : ∀ (l : List Int) (a m : Int), m ∈ a :: l → (∀ y ∈ a :: l, m ≤ y) → m = minI a l
  | [], a, m, h, _ => by simpa [minI] using h
  | b :: l, a, m, h, g => by
    show m = minI (min a b) l
    refine minI_eq l (min a b) m ?_ fun y hy => ?_
    · have g1 := g a (by simp)
      have g2 := g b (by simp)
      simp only [List.mem_cons] at h ⊢
      rcases h with h | h | h
      · left; omega
      · left; omega
      · right; exact h
    · simp only [List.mem_cons] at hy
      rcases hy with rfl | hy
      · have g1 := g a (by simp)
        have g2 := g b (by simp)
        omega
      · exact g y (by simp [hy])
def fMax : List D → Store → Option (D × Store)
  | [.int i, .int j], S => some (.int (if j > i then j else i), S)
  | [d], S => (lstOf d S).bind fun xs => (intsOf xs).bind fun ns => match ns with
    | [] => none
    | n :: ns => some (.int (maxI n ns), S)
  | _, _ => none
theorem fMax_s : CallS K (fun xs H Q => (∃ i j, xs = [.int i, .int j] ∧ Q (.int (if j > i then j else i)) H) ∨ rMax K xs H Q) fMax := by
  intro w S H ds vs d S' Q k r hm q
  unfold fMax at hm
  split at hm
  · cases hm
    obtain ⟨v1, v2, rfl, r1, r2⟩ := r.two_inv
    exact .inl ⟨_, _, by rw [r1.int_inv, r2.int_inv], q w H _ .refl k (.int _)⟩
  · obtain ⟨xs, h1, hm⟩ := Option.bind_eq_some_iff.mp hm
    obtain ⟨ns, h2, hm⟩ := Option.bind_eq_some_iff.mp hm
    obtain ⟨v, rfl, r1⟩ := r.one_inv
    obtain ⟨a, us, rfl, h3, h4⟩ := lst_rd k r1 h1
    rw [intsOf_iff h2] at h4
    rw [h4.ints] at h3
    split at hm
    · cases hm
    · cases hm
      refine .inr ⟨a, _, rfl, h3, by simp, fun m h5 h6 => ?_⟩
      rw [maxI_eq _ _ m h5 h6]
      exact q w H _ .refl k (.int _)
  · cases hm
def fMin : List D → Store → Option (D × Store)
  | [.int i, .int j], S => some (.int (if j < i then j else i), S)
  | [d], S => (lstOf d S).bind fun xs => (intsOf xs).bind fun ns => match ns with
    | [] => none
    | n :: ns => some (.int (minI n ns), S)
  | _, _ => none
theorem fMin_s : CallS K (fun xs H Q => (∃ i j, xs = [.int i, .int j] ∧ Q (.int (if j < i then j else i)) H) ∨ rMin K xs H Q) fMin := by
  intro w S H ds vs d S' Q k r hm q
  unfold fMin at hm
  split at hm
  · cases hm
    obtain ⟨v1, v2, rfl, r1, r2⟩ := r.two_inv
    exact .inl ⟨_, _, by rw [r1.int_inv, r2.int_inv], q w H _ .refl k (.int _)⟩
  · obtain ⟨xs, h1, hm⟩ := Option.bind_eq_some_iff.mp hm
    obtain ⟨ns, h2, hm⟩ := Option.bind_eq_some_iff.mp hm
    obtain ⟨v, rfl, r1⟩ := r.one_inv
    obtain ⟨a, us, rfl, h3, h4⟩ := lst_rd k r1 h1
    rw [intsOf_iff h2] at h4
    rw [h4.ints] at h3
    split at hm
    · cases hm
    · cases hm
      refine .inr ⟨a, _, rfl, h3, by simp, fun m h5 h6 => ?_⟩
      rw [minI_eq _ _ m h5 h6]
      exact q w H _ .refl k (.int _)
  · cases hm
def fAny : List D → Store → Option (D × Store)
  | [d], S => (lstOf d S).bind fun xs => (blsOf xs).bind fun bs => some (.bl (bs.any id), S)
  | _, _ => none
def fAll : List D → Store → Option (D × Store)
  | [d], S => (lstOf d S).bind fun xs => (blsOf xs).bind fun bs => some (.bl (bs.all id), S)
  | _, _ => none
theorem fAny_s : CallS K (rAny K) fAny := by
  intro w S H ds vs d S' Q k r hm q
  unfold fAny at hm
  split at hm
  · obtain ⟨xs, h1, hm⟩ := Option.bind_eq_some_iff.mp hm
    obtain ⟨ns, h2, hm⟩ := Option.bind_eq_some_iff.mp hm
    cases hm
    obtain ⟨v, rfl, r1⟩ := r.one_inv
    obtain ⟨a, us, rfl, h3, h4⟩ := lst_rd k r1 h1
    rw [blsOf_iff h2] at h4
    rw [h4.bls] at h3
    exact ⟨a, ns, rfl, h3, q w H _ .refl k (.bl _)⟩
  · cases hm
theorem fAll_s : CallS K (rAll K) fAll := by
  intro w S H ds vs d S' Q k r hm q
  unfold fAll at hm
  split at hm
  · obtain ⟨xs, h1, hm⟩ := Option.bind_eq_some_iff.mp hm
    obtain ⟨ns, h2, hm⟩ := Option.bind_eq_some_iff.mp hm
    cases hm
    obtain ⟨v, rfl, r1⟩ := r.one_inv
    obtain ⟨a, us, rfl, h3, h4⟩ := lst_rd k r1 h1
    rw [blsOf_iff h2] at h4
    rw [h4.bls] at h3
    exact ⟨a, ns, rfl, h3, q w H _ .refl k (.bl _)⟩
  · cases hm
def fTuple : List D → Store → Option (D × Store)
  | [d], S => (seqOf d S).bind fun xs => some (.tup xs, S)
  | _, _ => none
theorem fTuple_s : CallS K (fun xs H Q => ∃ p ys, xs = [.ref p] ∧ ((SqL K H p ys ∧ ∀ l, H l = none → Q (.ref l) (upd H l (.tup ys))) ∨ (SqT K H p ys ∧ Q (.ref p) H))) fTuple := by
  intro w S H ds vs d S' Q k r hm q
  unfold fTuple at hm
  split at hm
  · obtain ⟨xs, h1, hm⟩ := Option.bind_eq_some_iff.mp hm
    cases hm
    obtain ⟨v, rfl, r1⟩ := r.one_inv
    rename_i dd
    cases dd with
    | tup ys =>
      obtain ⟨a, us, rfl, h3, h4⟩ := r1.tup_inv
      cases h1
      exact ⟨a, us, rfl, .inr ⟨h3, q w H _ .refl k r1⟩⟩
    | lst ys =>
      obtain ⟨a, us, rfl, h3, h4⟩ := lst_rd k r1 (show lstOf _ S = some xs from h1)
      exact ⟨a, us, rfl, .inl ⟨h3, fun p hp => Post.newT q k hp h4⟩⟩
    | fr ys =>
      obtain ⟨a, us, rfl, h3, h4⟩ := lst_rd k r1 (show lstOf _ S = some xs from h1)
      exact ⟨a, us, rfl, .inl ⟨h3, fun p hp => Post.newT q k hp h4⟩⟩
    | ref ys =>
      obtain ⟨a, us, rfl, h3, h4⟩ := lst_rd k r1 (show lstOf _ S = some xs from h1)
      exact ⟨a, us, rfl, .inl ⟨h3, fun p hp => Post.newT q k hp h4⟩⟩
    | _ => cases h1
  · cases hm
/-- list(x): a new list -/
def mListOf (m : ME) : ML := fun e S => (m e S).bind fun (d, S1) => (seqOf d S1).bind fun xs => some (xs, S1)
theorem af_list {x : Str} {p pos : Pos} {a : Expr} {m : ME} (hm : X.mg x = none) (ha : AE X a m) (hg : Gl X x := by rfl) (hv : bootBuiltins x = some (.type "list") := by decide +kernel) (hn : x ≠ "__name__" := by decide) (hdb : (x == ("__debug__" : Str)) = false := by decide)
    (he : starEach [a] X.env = (false, eval a X.env) :: starEach [] X.env := by rfl) (hpl : (backTo pos (starEach [] X.env)).any (·.1) = false := by rfl) : AF X (.Call (.Name x p) [a] [] pos) (mListOf m) :=
  PE.imp (pe_callTy call_list_of hg hm hv (pa_cons ha pa_nil he) hn hdb he hpl) fun σ H Q ⟨w, e, S, d, S', re, k, hm, q⟩ => by
    unfold mListOf at hm
    obtain ⟨⟨d1, S1⟩, h1, hm⟩ := Option.bind_eq_some_iff.mp hm
    obtain ⟨xs, h2, hm⟩ := Option.bind_eq_some_iff.mp hm
    cases hm
    refine ⟨w, e, S, d1, _, re, k, h1, fun w1 H1 v s1 k1 r1 => ?_⟩
    obtain ⟨a, us, rfl, h3, h4⟩ := seq_rd k1 r1 h2
    exact ⟨a, us, rfl, h3, fun p hp => q w1 H1 p us s1 k1 hp h4⟩
/-- range(a, b) as a value -/
def fRng2 : List D → Store → Option (D × Store)
  | [.int a, .int b], S => some (.rng a b, S)
  | _, _ => none
theorem fRng2_s : CallS K (fun vs H Q => ∃ i j, vs = [V.int i, V.int j] ∧ ∀ p, H p = none → Q (.ref p) (upd H p (.rng i j))) fRng2 := by
  intro w S H ds vs d S' Q k r hm q
  unfold fRng2 at hm
  split at hm
  · cases hm
    obtain ⟨v1, v2, rfl, r1, r2⟩ := r.two_inv
    exact ⟨_, _, by rw [r1.int_inv, r2.int_inv], fun p hp => q w _ _ (.new hp) (k.laid hp) (.rng (k.new hp) upd_same)⟩
  · cases hm
theorem cr_range1 : CallR X (.type "range") (fun vs H Q => ∃ j, vs = [V.int j] ∧ ∀ p, H p = none → Q (.ref p) (upd H p (.rng 0 j))) := by
  intro pins s σ H vs us Q I r h
  obtain ⟨j, rfl, q⟩ := h
  obtain ⟨u2, rfl, rj⟩ := vals1 r
  obtain ⟨u, rfl⟩ := rj
  refine call_range_1 ⟨.ref s.heap.objs.size, upd H s.heap.objs.size (.rng 0 j), I.laid (fun b o e => Heap.get?_push_of_some _ e) (Nat.le_refl _) ?_, rfl, q _ (I.hok.fresh (Nat.le_refl _))⟩
  exact ⟨_, _, _, Heap.get?_push_size _ rfl⟩
def fRng1 : List D → Store → Option (D × Store)
  | [.int b], S => some (.rng 0 b, S)
  | _, _ => none
theorem fRng1_s : CallS K (fun vs H Q => ∃ j, vs = [V.int j] ∧ ∀ p, H p = none → Q (.ref p) (upd H p (.rng 0 j))) fRng1 := by
  intro w S H ds vs d S' Q k r hm q
  unfold fRng1 at hm
  split at hm
  · cases hm
    obtain ⟨v1, rfl, r1⟩ := r.one_inv
    exact ⟨_, by rw [r1.int_inv], fun p hp => q w _ _ (.new hp) (k.laid hp) (.rng (k.new hp) upd_same)⟩
  · cases hm
/-! ### isinstance -/
def tyOf : D → Store → Option String
  | .non, _ => some "NoneType"
  | .bl _, _ => some "bool"
  | .int _, _ => some "int"
  | .str _, _ => some "str"
  | .tup _, _ => some "tuple"
  | .lst _, _ => some "list"
  | .fr _, _ => some "list"
  | .ref i, S => match S[i]? with
    | some (.lst _) => some "list"
    | _ => none
  | .rng _ _, _ => none
theorem tyOf_ok {w : Wd} {S : Store} {H : Hp} {d : D} {v : V} {t : String} (k : Ok K w S H) (r : Rp K w H d v) (h : tyOf d S = some t) : TyX K H v (.type t) := by
  unfold tyOf at h
  split at h
  · cases h; rw [r.non_inv]; exact .base .non
  · cases h; rw [r.bl_inv]; exact .base (.bl _)
  · cases h; rw [r.int_inv]; exact .base (.int _)
  · cases h; rw [r.str_inv]; exact .base (.str _)
  · cases h
    obtain ⟨a, vs, rfl, h1, h2⟩ := r.tup_inv
    rcases h1 with (h1 | ⟨o, h1⟩) | ⟨o, its, n, h1, h3, _⟩
    · exact .base (.tup h1)
    · exact .fTuple h1
    · exact .kTuple h1 h3
  · cases h
    obtain ⟨a, vs, rfl, _, h1, h2⟩ := r.lst_inv
    exact .base (.lst h1)
  · cases h
    obtain ⟨a, vs, rfl, h1, h2⟩ := r.fr_inv
    rcases h1 with (h1 | ⟨o, h1⟩) | ⟨o, its, n, h1, h3, _⟩
    · exact .base (.lst h1)
    · exact .base (.frz h1)
    · exact .kList h1 h3
  · split at h
    · cases h
      obtain ⟨a, rfl, h1⟩ := r.ref_inv
      obtain ⟨vs, h2, h3⟩ := k.lst h1 (by assumption)
      exact .base (.lst h2)
    · cases h
  · cases h
def isT (t T : String) : Bool := t == T || (t == "bool" && T == "int")
def tyNames : List String := ["NoneType", "bool", "int", "str", "tuple", "list"]
def tyAsk : List String := ["bool", "int", "str", "tuple", "list"]
theorem isT_ok : ∀ t ∈ tyNames, ∀ T ∈ tyAsk, kitB t T = some (isT t T) := by decide +kernel
theorem tyOf_mem {d : D} {S : Store} {t : String} (h : tyOf d S = some t) : t ∈ tyNames := by
  unfold tyOf at h
  split at h
  all_goals first
    | (cases h; decide; done)
    | (split at h <;> first | (cases h; decide; done) | cases h)
    | cases h
def mIsi (T : String) (m : ME) : ME := fun e S => (m e S).bind fun (d, S1) => (tyOf d S1).bind fun t => some (.bl (isT t T), S1)
theorem ae_isi {x : Str} {T : String} {a : Expr} {m : ME} {p p2 pos : Pos} (hmi : X.mg "isinstance" = none) (hmT : X.mg x = none) (ha : AE X a m) (hT : T ∈ tyAsk := by decide) (hgi : Gl X "isinstance" := by rfl) (hgT : Gl X x := by rfl) (hv : bootBuiltins x = some (.type T) := by decide +kernel)
    (hn : x ≠ "__name__" := by decide) (hdb : (x == ("__debug__" : Str)) = false := by decide) (hvi : bootBuiltins "isinstance" = some (.builtin "isinstance") := by decide +kernel)
    (he : starEach [a, .Name x p2] X.env = (false, eval a X.env) :: starEach [.Name x p2] X.env := by rfl) (he2 : starEach [.Name x p2] X.env = (false, eval (.Name x p2) X.env) :: starEach [] X.env := by rfl) (hpl : (backTo pos (starEach [.Name x p2] X.env)).any (·.1) = false := by rfl) :
    AE X (.Call (.Name "isinstance" p) [a, .Name x p2] [] pos) (mIsi T m) :=
  PE.imp (pe_callB call_isi hgi hmi hvi (pa_cons ha (pa_cons (pe_bltn (v := .ty T) hgT hmT hv rfl hn hdb) pa_nil he2) he) (by decide) (by decide) he hpl) fun σ H Q ⟨w, e, S, d, S', re, k, hm, q⟩ => by
    unfold mIsi at hm
    obtain ⟨⟨d1, S1⟩, h1, hm⟩ := Option.bind_eq_some_iff.mp hm
    obtain ⟨t, h2, hm⟩ := Option.bind_eq_some_iff.mp hm
    cases hm
    refine ⟨w, e, S, d1, _, re, k, h1, fun w1 H1 v s1 k1 r1 => ?_⟩
    exact ⟨v, .ty T, .type t, .type T, _, rfl, .ty T, tyOf_ok k1 r1 h2, kit_ty (isT_ok t (tyOf_mem h2) T hT), q w1 H1 _ s1 k1 (.bl _)⟩
/-- isinstance(x, (T1, T2)) -/
def mIsi2 (T1 T2 : String) (m : ME) : ME := fun e S => (m e S).bind fun (d, S1) => (tyOf d S1).bind fun t => some (.bl (isT t T1 || isT t T2), S1)
theorem ae_isi2 {x y : Str} {T1 T2 : String} {a : Expr} {m : ME} {p p2 p3 pt pos : Pos} {kk} (hmi : X.mg "isinstance" = none) (hmT : X.mg x = none) (hmT2 : X.mg y = none) (ha : AE X a m) (hT : T1 ∈ tyAsk := by decide) (hT2 : T2 ∈ tyAsk := by decide) (hgi : Gl X "isinstance" := by rfl) (hgT : Gl X x := by rfl) (hgT2 : Gl X y := by rfl)
    (hv : bootBuiltins x = some (.type T1) := by decide +kernel) (hv2 : bootBuiltins y = some (.type T2) := by decide +kernel)
    (hn : x ≠ "__name__" := by decide) (hdb : (x == ("__debug__" : Str)) = false := by decide) (hn2 : y ≠ "__name__" := by decide) (hdb2 : (y == ("__debug__" : Str)) = false := by decide) (hvi : bootBuiltins "isinstance" = some (.builtin "isinstance") := by decide +kernel)
    (he : starEach [a, .Tuple [.Name x p2, .Name y p3] kk pt] X.env = (false, eval a X.env) :: starEach [.Tuple [.Name x p2, .Name y p3] kk pt] X.env := by rfl) (he2 : starEach [.Tuple [.Name x p2, .Name y p3] kk pt] X.env = (false, eval (.Tuple [.Name x p2, .Name y p3] kk pt) X.env) :: starEach [] X.env := by rfl)
    (he3 : starEach [.Name x p2, .Name y p3] X.env = (false, eval (.Name x p2) X.env) :: starEach [.Name y p3] X.env := by rfl) (he4 : starEach [.Name y p3] X.env = (false, eval (.Name y p3) X.env) :: starEach [] X.env := by rfl)
    (hpl : (backTo pos (starEach [.Tuple [.Name x p2, .Name y p3] kk pt] X.env)).any (·.1) = false := by rfl) :
    AE X (.Call (.Name "isinstance" p) [a, .Tuple [.Name x p2, .Name y p3] kk pt] [] pos) (mIsi2 T1 T2 m) :=
  PE.imp (pe_callB call_isiT hgi hmi hvi (pa_cons ha (pa_cons (pe_tup (pa_cons (pe_bltn (v := .ty T1) hgT hmT hv rfl hn hdb) (pa_cons (pe_bltn (v := .ty T2) hgT2 hmT2 hv2 rfl hn2 hdb2) pa_nil he4) he3)) pa_nil he2) he) (by decide) (by decide) he hpl) fun σ H Q ⟨w, e, S, d, S', re, k, hm, q⟩ => by
    unfold mIsi2 at hm
    obtain ⟨⟨d1, S1⟩, h1, hm⟩ := Option.bind_eq_some_iff.mp hm
    obtain ⟨t, h2, hm⟩ := Option.bind_eq_some_iff.mp hm
    cases hm
    refine ⟨w, e, S, d1, _, re, k, h1, fun w1 H1 v s1 k1 r1 => ?_⟩
    refine ⟨by rw [lim_eq]; show 2 ≤ LIM; decide, fun tp htp => ?_⟩
    have k2 := k1.laid (o := .tup [.ty T1, .ty T2]) htp
    have s2 : Stp w1 H1 w1 (upd H1 tp (.tup [.ty T1, .ty T2])) := .new htp
    refine ⟨v, tp, [.ty T1, .ty T2], .type t, [.type T1, .type T2], _, rfl, upd_same, .cons (.ty T1) (.cons (.ty T2) .nil), tyOf_ok k2 (r1.mono s2) h2, ?_, q w1 _ _ (s1.trans s2) k2 (.bl _)⟩
    have a1 := kit_ty (K := X.K) (isT_ok t (tyOf_mem h2) T1 hT)
    have a2 := kit_ty (K := X.K) (isT_ok t (tyOf_mem h2) T2 hT2)
    refine kitAny_cons a1 (fun e => ?_) (fun e => by rw [e]; rfl)
    refine kitAny_cons a2 (fun e2 => ?_) (fun e2 => by rw [e, e2]; rfl)
    rw [e, e2]; rfl
end
end DV

namespace DV
open PySem PySem.Spec PyProof.Rows L2
section
variable {X : Cx} {K : PySem.W.Frag}
/-! ### statements -/
def mSkip : MS := fun e S => some (.nx e, S)
def mSeq (a b : MS) : MS := fun e S => (a e S).bind fun (f, S1) => match f with
  | .nx e1 => b e1 S1
  | f => some (f, S1)
theorem ass_nil : ASs X [] mSkip := PSs.imp pss_nil fun D σ H ⟨w, e, S, f, S', re, k, hm, q⟩ => by
  cases hm
  exact q w H .refl k σ re
theorem tS_seq {ma mb : MS} {D : Ends} {σ : L2.St} {H : Hp} (h : tS K (mSeq ma mb) D σ H) : tSeq (tS K ma) (tS K mb) D σ H := by
  obtain ⟨w, e, S, f, S', re, k, hm, q⟩ := h
  unfold mSeq at hm
  obtain ⟨⟨f1, S1⟩, h1, hm⟩ := Option.bind_eq_some_iff.mp hm
  refine ⟨w, e, S, f1, S1, re, k, h1, fun w1 H1 s1 k1 => ?_⟩
  cases f1 with
  | nx e1 => exact fun σ1 re1 => ⟨w1, e1, S1, f, S', re1, k1, hm, fun w2 H2 s2 k2 => q w2 H2 (s1.trans s2) k2⟩
  | rt d => cases hm; exact q w1 H1 s1 k1
  | bk e1 => cases hm; exact q w1 H1 s1 k1
  | ct e1 => cases hm; exact q w1 H1 s1 k1
theorem ass_cons {st : Stmt} {rest : List Stmt} {ma mb : MS} (ha : AS X st ma) (hb : ASs X rest mb) : ASs X (st :: rest) (mSeq ma mb) := PSs.imp (pss_cons ha hb) fun _ _ _ => tS_seq
theorem ass_one {st : Stmt} {ma : MS} (ha : AS X st ma) : ASs X [st] ma := pss_one ha
section
variable {pos : Pos} {e : Expr} {m : ME}
theorem as_pass : AS X (.Pass pos) mSkip := PS.imp ps_pass fun D σ H ⟨w, e, S, f, S', re, k, hm, q⟩ => by
  cases hm
  exact q w H .refl k σ re
def mBk : MS := fun e S => some (.bk e, S)
def mCt : MS := fun e S => some (.ct e, S)
theorem as_break : AS X (.Break pos) mBk := PS.imp ps_break fun D σ H ⟨w, e, S, f, S', re, k, hm, q⟩ => by
  cases hm
  exact q w H .refl k σ re
theorem as_continue : AS X (.Continue pos) mCt := PS.imp ps_continue fun D σ H ⟨w, e, S, f, S', re, k, hm, q⟩ => by
  cases hm
  exact q w H .refl k σ re
def mRet (m : ME) : MS := fun e S => (m e S).bind fun (d, S1) => some (.rt d, S1)
theorem as_ret (h : AE X e m) : AS X (.Return (some e) pos) (mRet m) := PS.imp (ps_ret h) fun D σ H ⟨w, e, S, f, S', re, k, hm, q⟩ => by
  unfold mRet at hm
  obtain ⟨⟨d, S1⟩, h1, hm⟩ := Option.bind_eq_some_iff.mp hm
  cases hm
  exact ⟨w, e, S, d, _, re, k, h1, fun w1 H1 v s1 k1 r1 => q w1 H1 s1 k1 v r1⟩
theorem as_retN : AS X (.Return none pos) (mRet (mC .non)) := PS.imp ps_retN fun D σ H ⟨w, e, S, f, S', re, k, hm, q⟩ => by
  cases hm
  exact q w H .refl k _ .non
def mDrop (m : ME) : MS := fun e S => (m e S).bind fun (d, S1) => some (.nx e, S1)
theorem as_expr (h : AE X e m) (hs : swapsWith e none pos.line X.env = pure false := by rfl) : AS X (.Expr e pos) (mDrop m) := PS.imp (ps_expr h hs) fun D σ H ⟨w, e, S, f, S', re, k, hm, q⟩ => by
  unfold mDrop at hm
  obtain ⟨⟨d, S1⟩, h1, hm⟩ := Option.bind_eq_some_iff.mp hm
  cases hm
  exact ⟨w, e, S, d, _, re, k, h1, fun w1 H1 v s1 k1 r1 => q w1 H1 s1 k1 σ (re.mono s1)⟩
def mIfS (c : MT) (a b : MS) : MS := fun e S => (c e S).bind fun (t, S1) => if t then a e S1 else b e S1
theorem as_if {c : Expr} {sa sb : List Stmt} {mc : MT} {ma mb : MS} (hc : AT X c mc) (ha : ASs X sa ma) (hb : ASs X sb mb) : AS X (.If c sa sb pos) (mIfS mc ma mb) := PS.imp (ps_if hc ha hb) fun D σ H ⟨w, e, S, f, S', re, k, hm, q⟩ => by
  unfold mIfS at hm
  obtain ⟨⟨t, S1⟩, h1, hm⟩ := Option.bind_eq_some_iff.mp hm
  refine ⟨w, e, S, t, S1, re, k, h1, fun w1 H1 s1 k1 => ?_⟩
  cases t with
  | true => exact ⟨w1, e, S1, f, S', re.mono s1, k1, hm, fun w2 H2 s2 k2 => q w2 H2 (s1.trans s2) k2⟩
  | false => exact ⟨w1, e, S1, f, S', re.mono s1, k1, hm, fun w2 H2 s2 k2 => q w2 H2 (s1.trans s2) k2⟩
/-- targets -/
inductive Tg where
  | nm (i : Nat)
  | tp (is : List Nat)
def gNames : List Nat → TGs
  | [] => gNil
  | i :: is => gCons (gName i) (gNames is)
def gSeq (K : PySem.W.Frag) (n : Nat) (t : TGs) : TG := fun v σ H Q => gTup K n t v σ H Q ∨ gLst K n t v σ H Q
def Tg.g (K : PySem.W.Frag) : Tg → TG
  | .nm i => gName i
  | .tp is => gSeq K is.length (gNames is)
def setAll : List Nat → List D → Ev → Ev
  | i :: is, d :: ds, e => setAll is ds (e.set i (some d))
  | _, _, e => e
def Tg.f : Tg → D → Ev → Option Ev
  | .nm i, d, e => some (e.set i (some d))
  | .tp is, .tup ds, e => if ds.length = is.length then some (setAll is ds e) else none
  | .tp is, .lst ds, e => if ds.length = is.length then some (setAll is ds e) else none
  | .tp _, _, _ => none
def Tg.slots : Tg → List Nat
  | .nm i => [i]
  | .tp is => is
theorem wipe_set {σ : L2.St} {i : Nat} {o : Option V} : ∀ {vs : List Nat}, i ∈ vs → wipe (σ.set i o) vs = wipe σ vs
  | [], h => by simp at h
  | v :: vs, h => by
    unfold wipe
    by_cases hv : i = v
    · subst hv
      by_cases hm : i ∈ vs
      · rw [wipe_set hm]
      · have comm : ∀ (l : List Nat) (τ : L2.St), i ∉ l → wipe (τ.set i o) l = (wipe τ l).set i o := by
          intro l
          induction l with
          | nil => intro τ _; rfl
          | cons x xs ih =>
            intro τ hx
            simp only [List.mem_cons, not_or] at hx
            unfold wipe
            rw [ih τ hx.2, List.set_comm _ _ hx.1]
        rw [comm vs σ hm, List.set_set]
    · have hm : i ∈ vs := by
        rcases List.mem_cons.mp h with z | z
        · exact absurd z hv
        · exact z
      rw [wipe_set hm]
theorem gNames_ok {w : Wd} {H : Hp} : ∀ (is : List Nat) (ds : List D) (vs : List V) (e : Ev) (σ : L2.St) (Q : L2.St → Hp → Prop), ds.length = is.length → RpE K w H e σ → RpL K w H ds vs →
    (∀ σ', RpE K w H (setAll is ds e) σ' → (∀ us, (∀ t ∈ is, t ∈ us) → wipe σ' us = wipe σ us) → Q σ' H) → gNames is vs σ H Q
  | [], [], _, e, σ, Q, _, re, r, q => by
    cases r
    exact ⟨rfl, q σ re fun _ _ => rfl⟩
  | i :: is, d :: ds, _, e, σ, Q, hl, re, r, q => by
    cases r with
    | cons r t =>
      refine ⟨_, _, rfl, ?_⟩
      show gNames is _ (σ.set i (some _)) H Q
      refine gNames_ok is ds _ (e.set i (some d)) _ Q (by simpa using hl) (re.set r) t fun σ' re' hw => q σ' re' fun us hus => ?_
      rw [hw us fun t ht => hus t (by simp [ht]), wipe_set (hus i (by simp))]
  | [], _ :: _, _, _, _, _, h, _, _, _ => by simp at h
  | _ :: _, [], _, _, _, _, h, _, _, _ => by simp at h
theorem Tg.ok {w : Wd} {H : Hp} {S : Store} (t : Tg) {d : D} {v : V} {e e' : Ev} {σ : L2.St} {Q : L2.St → Hp → Prop} (k : Ok K w S H) (re : RpE K w H e σ) (r : Rp K w H d v) (h : t.f d e = some e')
    (q : ∀ σ', RpE K w H e' σ' → (∀ us, (∀ i ∈ t.slots, i ∈ us) → wipe σ' us = wipe σ us) → Q σ' H) : t.g K v σ H Q := by
  cases t with
  | nm i =>
    cases h
    exact q _ (re.set r) fun us hus => wipe_set (hus i (by simp [Tg.slots]))
  | tp is =>
    unfold Tg.f at h
    split at h
    · rename_i heq; cases heq
    · rename_i heq
      cases heq
      split at h
      · rename_i hl
        cases h
        obtain ⟨a, vs, rfl, h1, h2⟩ := r.tup_inv
        exact .inl ⟨a, vs, rfl, h1, by rw [← h2.length]; exact hl, gNames_ok _ _ vs _ σ Q hl re h2 q⟩
      · cases h
    · rename_i heq
      cases heq
      split at h
      · rename_i hl
        cases h
        obtain ⟨a, vs, rfl, _, h1, h2⟩ := r.lst_inv
        exact .inr ⟨a, vs, rfl, .of h1, by rw [← h2.length]; exact hl, gNames_ok _ _ vs _ σ Q hl re h2 q⟩
      · cases h
    · cases h
abbrev AG (X : Cx) (tg : Expr) (t : Tg) : Prop := PG X tg (t.g X.K)
theorem ag_name (i : Nat) {x : Str} {pos : Pos} (hN : X.N.Nodup) (hi : X.N[i]? = some x := by rfl) (hx : Loc X.env.scope x := by first | exact Or.inl rfl | exact Or.inr rfl) (hf : X.fn x = true ∨ X.env.scope.names.lookup x = some .local := by first | exact .inl rfl | exact .inr rfl) : AG X (.Name x pos) (.nm i) := pg_name hN hi hx hf
theorem ag_tup {es : List Expr} {k : Nat} {is : List Nat} {pos : Pos} (hc : X.calm = true) (h : PGs X es (gNames is)) (hn : (assignEach es X.env).length = is.length := by rfl) (hst : (assignEach es X.env).findIdx? (·.1) = none := by rfl) : AG X (.Tuple es k pos) (.tp is) :=
  ⟨fun pins s σ H v u Q I r hw => hw.elim (fun hw => (pg_tup (k := k) (pos := pos) hc h hn hst).run pins s σ H v u Q I r hw) fun hw => (pg_lst (k := k) (pos := pos) hc h hn hst).run pins s σ H v u Q I r hw⟩
theorem agn_nil : PGs X [] (gNames []) := pgs_nil
/-- target = e -/
def mAsg (m : ME) (t : Tg) : MS := fun e S => (m e S).bind fun (d, S1) => (t.f d e).bind fun e1 => some (.nx e1, S1)
theorem asg_imp {m : ME} {t : Tg} {D : Ends} {σ : L2.St} {H : Hp} (h : tS K (mAsg m t) D σ H) : tAsg (tD K m) (t.g K) D σ H := by
  obtain ⟨w, e, S, f, S', re, k, hm, q⟩ := h
  unfold mAsg at hm
  obtain ⟨⟨d, S1⟩, h1, hm⟩ := Option.bind_eq_some_iff.mp hm
  obtain ⟨e1, h2, hm⟩ := Option.bind_eq_some_iff.mp hm
  cases hm
  exact ⟨w, e, S, d, _, re, k, h1, fun w1 H1 v s1 k1 r1 => t.ok k1 (re.mono s1) r1 h2 fun σ' re' _ => q w1 H1 s1 k1 σ' re'⟩
theorem as_asg {tg : Expr} {t : Tg} (he : AE X e m) (hg : AG X tg t) (hs : swapsWithSole [tg] e pos.line X.env = pure false := by rfl) (hw : swappedStores [tg] e X.env = pure none := by rfl) (h1 : (assignEach [tg] X.env).map (·.2) = [assign tg X.env] := by rfl) : AS X (.Assign [tg] e pos) (mAsg m t) := PS.imp (ps_asg he hg hs hw h1) fun _ _ _ => asg_imp
theorem as_set {i : Nat} {x : Str} {pos' : Pos} (hN : X.N.Nodup) (he : AE X e m) (hi : X.N[i]? = some x := by rfl) (hx : Loc X.env.scope x := by first | exact Or.inl rfl | exact Or.inr rfl) (hs : swapsWith e (some (.Name x pos')) pos.line X.env = pure false := by rfl) (hf : X.fn x = true ∨ X.env.scope.names.lookup x = some .local := by first | exact .inl rfl | exact .inr rfl) :
    AS X (.Assign [.Name x pos'] e pos) (mAsg m (.nm i)) := PS.imp (ps_set hN hi hx he hs hf) fun D σ H q => asg_imp q
/-- x += e -/
def mAug (i : Nat) (m : ME) (f : D → D → Store → Option (D × Store)) : MS := fun e S => match e[i]? with
  | some (some x) => (m e S).bind fun (y, S1) => (f x y S1).bind fun (z, S2) => some (.nx (e.set i (some z)), S2)
  | _ => none
def IpS (K : PySem.W.Frag) (r : TIp) (f : D → D → Store → Option (D × Store)) : Prop := OpS K r f
theorem as_aug {i : Nat} {x : Str} {op : Operator} {r : TIp} {f : D → D → Store → Option (D × Store)} {pos' : Pos} (hN : X.N.Nodup) (ho : PIp X op r) (h : IpS X.K r f) (he : AE X e m) (hi : X.N[i]? = some x := by rfl) (hx : Loc X.env.scope x := by first | exact Or.inl rfl | exact Or.inr rfl)
    (hf : X.fn x = true ∨ X.env.scope.names.lookup x = some .local := by first | exact .inl rfl | exact .inr rfl) : AS X (.AugAssign (.Name x pos') op e pos) (mAug i m f) := PS.imp (ps_aug hN hi hx he ho hf) fun D σ H ⟨w, e, S, fl, S', re, k, hm, q⟩ => by
  unfold mAug at hm
  split at hm
  · rename_i d hd
    obtain ⟨⟨y, S1⟩, h1, hm⟩ := Option.bind_eq_some_iff.mp hm
    obtain ⟨⟨z, S2⟩, h2, hm⟩ := Option.bind_eq_some_iff.mp hm
    cases hm
    obtain ⟨v, hv, rv⟩ := re.2 i d hd
    refine ⟨v, hv, w, e, S, y, S1, re, k, h1, fun w1 H1 u s1 k1 r1 => ?_⟩
    exact h w1 S1 H1 d y z v u _ _ k1 (rv.mono s1) r1 h2 fun w2 H2 x2 s2 k2 r2 => q w2 H2 (s1.trans s2) k2 _ (((re.mono s1).mono s2).set r2)
  · cases hm
def fAddI : D → D → Store → Option (D × Store)
  | .int i, .int j, S => some (.int (i + j), S)
  | _, _, _ => none
theorem ipS_add : IpS K (ipI fun i j => i + j) fAddI := by
  intro w S H a b d x y S' Q k ra rb hm q
  unfold fAddI at hm
  split at hm
  · cases hm
    exact ⟨_, _, ra.int_inv, rb.int_inv, q w H _ .refl k (.int _)⟩
  · cases hm
theorem ipS_sub : IpS K (ipI fun i j => i - j) fSub := by
  intro w S H a b d x y S' Q k ra rb hm q
  unfold fSub at hm
  split at hm
  · cases hm
    exact ⟨_, _, ra.int_inv, rb.int_inv, q w H _ .refl k (.int _)⟩
  · cases hm
/-- o[i] = e, a list of the store -/
def mSetIx (m mo mi : ME) : MS := fun e S => (m e S).bind fun (v, S1) => (mo e S1).bind fun (o, S2) => (mi e S2).bind fun (i, S3) => match o, i with
  | .ref p, .int k => match S3[p]? with
    | some (.lst xs) => (ixN xs.length k).bind fun j => some (.nx e, S3.set p (.lst (xs.set j v)))
    | _ => none
  | _, _ => none
theorem as_setIx {o i : Expr} {mo mi : ME} {pos' : Pos} (he : AE X e m) (ho : AE X o mo) (hi : AE X i mi) (hs : swapsWithSole [.Subscript o i pos'] e pos.line X.env = pure false := by rfl) (hw : swappedStores [.Subscript o i pos'] e X.env = pure none := by rfl)
    (ha : ∀ v, assign (.Subscript o i pos') X.env v = (do
      let ov ← holding [v] (eval o X.env)
      let iv ← holding [v, ov] (eval i X.env)
      standAt pos'
      holding [v, ov, iv] (setItem ov iv v)
      release [v, ov, iv] []) := by intro _; rfl) (h1 : (assignEach [.Subscript o i pos'] X.env).map (·.2) = [assign (.Subscript o i pos') X.env] := by rfl) :
    AS X (.Assign [.Subscript o i pos'] e pos) (mSetIx m mo mi) := PS.imp (ps_asg he (pg_sub ho hi set_list ha) hs hw h1) fun D σ H ⟨w, e, S, fl, S', re, k, hm, q⟩ => by
  unfold mSetIx at hm
  obtain ⟨⟨v, S1⟩, h1, hm⟩ := Option.bind_eq_some_iff.mp hm
  obtain ⟨⟨o1, S2⟩, h2, hm⟩ := Option.bind_eq_some_iff.mp hm
  obtain ⟨⟨i1, S3⟩, h3, hm⟩ := Option.bind_eq_some_iff.mp hm
  simp only at hm
  split at hm
  · split at hm
    · rename_i xs hx
      obtain ⟨j, h4, hm⟩ := Option.bind_eq_some_iff.mp hm
      cases hm
      refine ⟨w, e, S, v, S1, re, k, h1, fun w1 H1 u s1 k1 r1 => ⟨w1, e, S1, _, S2, re.mono s1, k1, h2, fun w2 H2 u2 s2 k2 r2 => ⟨w2, e, S2, _, S3, (re.mono s1).mono s2, k2, h3, fun w3 H3 u3 s3 k3 r3 => ?_⟩⟩⟩
      obtain ⟨a, rfl, ha⟩ := (r2.mono s3).ref_inv
      obtain ⟨vs, h5, h6⟩ := k3.lst ha hx
      refine ⟨a, vs, _, j, rfl, r3.int_inv, h5, by rw [← h6.length]; exact h4, ?_⟩
      have rv := ((r1.mono s2).mono s3)
      have st : Stp w3 H3 w3 (upd H3 a (.lst (vs.set j u))) := .put (List.mem_of_getElem? ha)
      exact q w3 _ (((s1.trans s2).trans s3).trans st) (k3.put ha (.lst (h6.set rv j))) σ ((((re.mono s1).mono s2).mono s3).mono st)
    · cases hm
  · cases hm
end

/-! ### what is walked -/
structure Src where
  n : Nat
  get : Nat → Store → Option (Option D)
def Src.seq (xs : List D) : Src := ⟨xs.length, fun i _ => some xs[i]?⟩
def Src.live (p n : Nat) : Src := ⟨n, fun i S => match S[p]? with
  | some (.lst xs) => some xs[i]?
  | _ => none⟩
def Src.enum (s : Src) : Src := ⟨s.n, fun i S => (s.get i S).map fun o => o.map fun d => .tup [.int (i : Nat), d]⟩
abbrev MI := Ev → Store → Option (Src × Store)
def WalkOk (K : PySem.W.Frag) (w0 : Wd) (H0 : Hp) (J : It) (src : Src) : Prop := ∀ (i : Nat) (w : Wd) (H : Hp) (S : Store), Wst w0 H0 w H → Ok K w S H →
  (∀ d, src.get i S = some (some d) → J.go i H ∧ ∀ x H', J.yld i H x H' → Stp w H w H' ∧ Ok K w S H' ∧ Rp K w H' d x) ∧ (src.get i S = some none → J.stop i H)
def tI (K : PySem.W.Frag) (m : MI) : TI := fun σ H R => ∃ w e S src S', RpE K w H e σ ∧ Ok K w S H ∧ m e S = some (src, S') ∧ ∀ w' H' J, Stp w H w' H' → Ok K w' S' H' → WalkOk K w' H' J src → R J H'
abbrev AI (X : Cx) (tg it : Expr) (m : MI) : Prop := PI X tg it (tI X.K m)
theorem pi_any {tg l : Expr} {tl : TE} (hl : PE X l tl) : PI X tg l (fun σ H R => tl σ H fun x H1 => ∃ a, x = .ref a ∧ (((∃ xs, SqL X.K H1 a xs) ∧ R (Itl X.K a) H1) ∨ ((∃ xs, SqT X.K H1 a xs) ∧ R (Itt X.K a) H1) ∨
    ∃ lo hi, H1 a = some (.rng lo hi) ∧ -(2 ^ 62) ≤ lo ∧ lo < 2 ^ 62 ∧ -(2 ^ 62) ≤ hi ∧ hi < 2 ^ 62 ∧ R (Itr lo (hi - lo).toNat) H1)) := by
  refine ⟨fun pins s σ H R I h => ?_⟩
  refine thn (hl.run pins s σ H _ I h) fun v s1 ⟨x, H1, I1, r1, q1⟩ => ?_
  obtain ⟨a, e, q⟩ := q1
  subst e
  cases r1
  rcases q with ⟨⟨xs, hq⟩, q⟩ | ⟨⟨xs, hq⟩, q⟩ | ⟨lo, hi, hq, h1, h2, h3, h4, q⟩
  · obtain ⟨its, rv, p, hz⟩ := I1.list hq
    refine wpAny_pyIter_list p.isList ?_
    refine ⟨s1.heap.objs.size, [s1.heap.objs.size], _, _, H1, rfl, I1.kept (t' := s1.toks) fun b o e => Heap.get?_push_of_some _ e, turn_list a _, ⟨_, Heap.get?_push_size _ rfl, rfl, rfl⟩, fun b hb => ?_, q⟩
    have e : b = s1.heap.objs.size := by simpa using hb
    subst e
    exact I1.fpOk (Nat.le_refl _) (I1.hok.fresh (Nat.le_refl _))
  · obtain ⟨its, rv, p, hz⟩ := I1.tuple hq
    refine wpAny_pyIter_tuple (show s1.heap.IsTuple a its.toArray from p) ?_
    refine ⟨s1.heap.objs.size, [s1.heap.objs.size], _, _, H1, rfl, I1.kept (t' := s1.toks) fun b o e => Heap.get?_push_of_some _ e, turn_tuple a _, ⟨_, Heap.get?_push_size _ rfl, rfl, rfl⟩, fun b hb => ?_, q⟩
    have e : b = s1.heap.objs.size := by simpa using hb
    subst e
    exact I1.fpOk (Nat.le_refl _) (I1.hok.fresh (Nat.le_refl _))
  · obtain ⟨t, u, v, ho⟩ := I1.hok a _ hq
    refine wpAny_pyIter_range ho (small_one h1 h2 h3 h4) ?_
    refine ⟨s1.heap.objs.size, [s1.heap.objs.size], _, _, H1, rfl, I1.kept (t' := s1.toks) fun b o e => Heap.get?_push_of_some _ e, turn_range _ lo (hi - lo).toNat, ?_, fun b hb => ?_, q⟩
    · have e1 : lo + ((0 : Nat) : Int) * 1 = lo := by simp
      have e2 : (((hi - lo).toNat : Nat) : Int) - ((0 : Nat) : Int) = Builtin.Range.rangeSize lo hi 1 := by rw [rangeSize_one]; split <;> omega
      show IsRangeIter _ _ (lo + ((0 : Nat) : Int) * 1) ((((hi - lo).toNat : Nat) : Int) - ((0 : Nat) : Int)) 1
      rw [e1, e2]
      exact Heap.get?_push_size _ rfl
    · have e : b = s1.heap.objs.size := by simpa using hb
      subst e
      exact I1.fpOk (Nat.le_refl _) (I1.hok.fresh (Nat.le_refl _))
def rngL (lo hi : Int) : List D := (List.range (hi - lo).toNat).map fun i => .int (lo + (i : Nat))
abbrev I62 (i : Int) : Prop := -(2 ^ 62) ≤ i ∧ i < 2 ^ 62
def srcOf : D → Store → Option Src
  | .tup xs, _ => some (.seq xs)
  | .lst xs, _ => some (.seq xs)
  | .fr xs, _ => some (.seq xs)
  | .rng lo hi, _ => if I62 lo ∧ I62 hi then some (.seq (rngL lo hi)) else none
  | .ref p, S => match S[p]? with
    | some (.lst xs) => some (.live p xs.length)
    | _ => none
  | _, _ => none
section
variable {w : Wd} {H : Hp} {S : Store}
theorem walk_L {a : Addr} {vs : List V} {ds : List D} (h : SqL K H a vs) (ho : ∀ o, H a = some o → Out w a) (r : RpL K w H ds vs) : WalkOk K w H (Itl K a) (.seq ds) := fun i w1 H1 S1 s1 k1 => by
  have h1 : SqL K H1 a vs := by
    rcases h with h | h
    · refine .inl ?_
      rcases h with h | ⟨u, h⟩
      · exact .inl (s1.keep _ _ h (ho _ h).1 (ho _ h).2).1
      · exact .inr ⟨u, (s1.keep _ _ h (ho _ h).1 (ho _ h).2).1⟩
    · exact .inr h
  refine ⟨fun d hd => ?_, fun hn => ?_⟩
  · have hd : ds[i]? = some d := Option.some.inj hd
    obtain ⟨v, hv, rv⟩ := r.get hd
    exact ⟨⟨vs, v, h1, hv⟩, fun x H' y => by
      obtain ⟨rfl, y⟩ := y
      have := y vs h1
      rw [hv] at this
      cases this
      exact ⟨.refl, k1, rv.monoW s1⟩⟩
  · have hn : ds[i]? = none := Option.some.inj hn
    exact ⟨vs, h1, by rw [← r.length]; exact List.getElem?_eq_none_iff.mp hn⟩
theorem walk_T {a : Addr} {vs : List V} {ds : List D} (h : SqT K H a vs) (ho : ∀ o, H a = some o → Out w a) (r : RpL K w H ds vs) : WalkOk K w H (Itt K a) (.seq ds) := fun i w1 H1 S1 s1 k1 => by
  have h1 : SqT K H1 a vs := by
    rcases h with h | h
    · refine .inl ?_
      rcases h with h | ⟨u, h⟩
      · exact .inl (s1.keep _ _ h (ho _ h).1 (ho _ h).2).1
      · exact .inr ⟨u, (s1.keep _ _ h (ho _ h).1 (ho _ h).2).1⟩
    · exact .inr h
  refine ⟨fun d hd => ?_, fun hn => ?_⟩
  · have hd : ds[i]? = some d := Option.some.inj hd
    obtain ⟨v, hv, rv⟩ := r.get hd
    exact ⟨⟨vs, v, h1, hv⟩, fun x H' y => by
      obtain ⟨rfl, y⟩ := y
      have := y vs h1
      rw [hv] at this
      cases this
      exact ⟨.refl, k1, rv.monoW s1⟩⟩
  · have hn : ds[i]? = none := Option.some.inj hn
    exact ⟨vs, h1, by rw [← r.length]; exact List.getElem?_eq_none_iff.mp hn⟩
theorem walk_S {a : Addr} {p n : Nat} (h : w.rho[p]? = some a) : WalkOk K w H (Itl K a) (.live p n) := fun i w1 H1 S1 s1 k1 => by
  have h1 : w1.rho[p]? = some a := by
    obtain ⟨m, e⟩ := s1.pre
    rw [e, List.getElem?_append_left (List.getElem?_eq_some_iff.mp h).1]; exact h
  refine ⟨fun d hd => ?_, fun hn => ?_⟩
  · simp only [Src.live] at hd
    split at hd
    · rename_i xs hx
      have hd : xs[i]? = some d := Option.some.inj hd
      obtain ⟨vs, h2, r⟩ := k1.lst h1 hx
      obtain ⟨v, hv, rv⟩ := r.get hd
      exact ⟨⟨vs, v, .of h2, hv⟩, fun x H' y => by
        obtain ⟨rfl, y⟩ := y
        have := y vs (.of h2)
        rw [hv] at this
        cases this
        exact ⟨.refl, k1, rv⟩⟩
    · cases hd
  · simp only [Src.live] at hn
    split at hn
    · rename_i xs hx
      have hn : xs[i]? = none := Option.some.inj hn
      obtain ⟨vs, h2, r⟩ := k1.lst h1 hx
      exact ⟨vs, .of h2, by rw [← r.length]; exact List.getElem?_eq_none_iff.mp hn⟩
    · cases hn
theorem walk_R {lo : Int} {n : Nat} : WalkOk K w H (Itr lo n) (.seq ((List.range n).map fun (i : Nat) => .int (lo + (i : Nat)))) := fun i w1 H1 S1 s1 k1 => by
  refine ⟨fun d hd => ?_, fun hn => ?_⟩
  · have hd : ((List.range n).map fun (i : Nat) => D.int (lo + (i : Nat)))[i]? = some d := Option.some.inj hd
    have hi : i < n := by
      have := (List.getElem?_eq_some_iff.mp hd).1
      simpa using this
    rw [List.getElem?_map, List.getElem?_range hi] at hd
    cases hd
    exact ⟨hi, fun x H' ⟨e1, e2⟩ => by subst e1 e2; exact ⟨.refl, k1, .int _⟩⟩
  · have hn : ((List.range n).map fun (i : Nat) => D.int (lo + (i : Nat)))[i]? = none := Option.some.inj hn
    have := List.getElem?_eq_none_iff.mp hn
    show n ≤ i
    simpa using this
theorem Rp.tup_inv' {d : List D} {v : V} (r : Rp K w H (.tup d) v) : ∃ a vs, v = .ref a ∧ SqT K H a vs ∧ RpL K w H d vs ∧ (SqT K (fun _ => none) a vs ∨ Out w a) := by
  cases r with
  | tup o h l => exact ⟨_, _, rfl, .inl h, l, .inr o⟩
  | tupK h l => exact ⟨_, _, rfl, SqT.none_mono h, l, .inl h⟩
end
/-- K's own things are no tracked ones -/
theorem walkT_of {w : Wd} {H : Hp} {a : Addr} {vs : List V} {ds : List D} (h : SqT K (fun _ => none) a vs) (r : RpL K w H ds vs) : WalkOk K w H (Itt K a) (.seq ds) := fun i w1 H1 S1 s1 k1 => by
  have h1 : SqT K H1 a vs := SqT.none_mono h
  refine ⟨fun d hd => ?_, fun hn => ?_⟩
  · have hd : ds[i]? = some d := Option.some.inj hd
    obtain ⟨v, hv, rv⟩ := r.get hd
    exact ⟨⟨vs, v, h1, hv⟩, fun x H' y => by
      obtain ⟨rfl, y⟩ := y
      have := y vs h1
      rw [hv] at this
      cases this
      exact ⟨.refl, k1, rv.monoW s1⟩⟩
  · have hn : ds[i]? = none := Option.some.inj hn
    exact ⟨vs, h1, by rw [← r.length]; exact List.getElem?_eq_none_iff.mp hn⟩
theorem walkL_of {w : Wd} {H : Hp} {a : Addr} {vs : List V} {ds : List D} (h : SqL K (fun _ => none) a vs) (r : RpL K w H ds vs) : WalkOk K w H (Itl K a) (.seq ds) := fun i w1 H1 S1 s1 k1 => by
  have h1 : SqL K H1 a vs := SqL.none_mono h
  refine ⟨fun d hd => ?_, fun hn => ?_⟩
  · have hd : ds[i]? = some d := Option.some.inj hd
    obtain ⟨v, hv, rv⟩ := r.get hd
    exact ⟨⟨vs, v, h1, hv⟩, fun x H' y => by
      obtain ⟨rfl, y⟩ := y
      have := y vs h1
      rw [hv] at this
      cases this
      exact ⟨.refl, k1, rv.monoW s1⟩⟩
  · have hn : ds[i]? = none := Option.some.inj hn
    exact ⟨vs, h1, by rw [← r.length]; exact List.getElem?_eq_none_iff.mp hn⟩
def mIt (m : ME) : MI := fun e S => (m e S).bind fun (d, S1) => (srcOf d S1).bind fun s => some (s, S1)
theorem ai_any {tg l : Expr} {m : ME} (hl : AE X l m) : AI X tg l (mIt m) := PI.imp (pi_any hl) fun σ H R ⟨w, e, S, src, S', re, k, hm, q⟩ => by
  unfold mIt at hm
  obtain ⟨⟨d, S1⟩, h1, hm⟩ := Option.bind_eq_some_iff.mp hm
  obtain ⟨s, h2, hm⟩ := Option.bind_eq_some_iff.mp hm
  cases hm
  refine ⟨w, e, S, d, _, re, k, h1, fun w1 H1 v s1 k1 r1 => ?_⟩
  unfold srcOf at h2
  split at h2
  · cases h2
    cases r1 with
    | tup o h l => exact ⟨_, rfl, .inr (.inl ⟨⟨_, .inl h⟩, q w1 H1 _ s1 k1 (walk_T (.inl h) (fun _ _ => o) l)⟩)⟩
    | tupK h l => exact ⟨_, rfl, .inr (.inl ⟨⟨_, SqT.none_mono h⟩, q w1 H1 _ s1 k1 (walkT_of h l)⟩)⟩
  · cases h2
    obtain ⟨a, vs, rfl, o, h, l⟩ := r1.lst_inv
    exact ⟨a, rfl, .inl ⟨⟨_, .of h⟩, q w1 H1 _ s1 k1 (walk_L (.of h) (fun _ _ => o) l)⟩⟩
  · cases h2
    cases r1 with
    | fr o h l => exact ⟨_, rfl, .inl ⟨⟨_, .inl h⟩, q w1 H1 _ s1 k1 (walk_L (.inl h) (fun _ _ => o) l)⟩⟩
    | frK h l => exact ⟨_, rfl, .inl ⟨⟨_, SqL.none_mono h⟩, q w1 H1 _ s1 k1 (walkL_of h l)⟩⟩
  · split at h2
    · rename_i hb
      cases h2
      obtain ⟨a, rfl, h⟩ := r1.rng_inv
      exact ⟨a, rfl, .inr (.inr ⟨_, _, h, hb.1.1, hb.1.2, hb.2.1, hb.2.2, q w1 H1 _ s1 k1 walk_R⟩)⟩
    · cases h2
  · split at h2
    · rename_i xs hx
      cases h2
      obtain ⟨a, rfl, h⟩ := r1.ref_inv
      obtain ⟨vs, h3, h4⟩ := k1.lst h hx
      exact ⟨a, rfl, .inl ⟨⟨vs, .of h3⟩, q w1 H1 _ s1 k1 (walk_S h)⟩⟩
    · cases h2
  · cases h2
/-- range(b), range(a, b) -/
def mRg1 (ms : ML) : MI := fun e S => (ms e S).bind fun (ds, S1) => match ds with
  | [.int b] => if I62 b then some (.seq (rngL 0 b), S1) else none
  | _ => none
def mRg2 (ms : ML) : MI := fun e S => (ms e S).bind fun (ds, S1) => match ds with
  | [.int a, .int b] => if I62 a ∧ I62 b then some (.seq (rngL a b), S1) else none
  | _ => none
theorem rngL0 (b : Int) : rngL 0 b = (List.range b.toNat).map fun (i : Nat) => .int (0 + (i : Nat)) := by unfold rngL; rw [Int.sub_zero]
theorem ai_range1 {tg a : Expr} {ms : ML} {p pos : Pos} (hm : X.mg "range" = none) (ha : AA X [a] ms) (hg : Gl X "range" := by rfl) (hs : starEach [a] X.env = [(false, eval a X.env)] := by rfl) : AI X tg (.Call (.Name "range" p) [a] [] pos) (mRg1 ms) :=
  PI.imp (pi_range1 hg hm ha hs) fun σ H R ⟨w, e, S, src, S', re, k, hm, q⟩ => by
    unfold mRg1 at hm
    obtain ⟨⟨d, S1⟩, h1, hm⟩ := Option.bind_eq_some_iff.mp hm
    simp only at hm
    split at hm
    · split at hm
      · rename_i hb
        cases hm
        refine ⟨w, e, S, _, _, re, k, h1, fun w1 H1 vs s1 k1 r1 => ?_⟩
        obtain ⟨v, rfl, r2⟩ := r1.one_inv
        refine ⟨_, by rw [r2.int_inv], hb.1, hb.2, q w1 H1 _ s1 k1 ?_⟩
        rw [rngL0]
        exact walk_R
      · cases hm
    · cases hm
theorem ai_range2 {tg a b : Expr} {ms : ML} {p pos : Pos} (hm : X.mg "range" = none) (ha : AA X [a, b] ms) (hg : Gl X "range" := by rfl) (hs : starEach [a, b] X.env = [(false, eval a X.env), (false, eval b X.env)] := by rfl) (hs2 : starEach [b] X.env = [(false, eval b X.env)] := by rfl) : AI X tg (.Call (.Name "range" p) [a, b] [] pos) (mRg2 ms) :=
  PI.imp (pi_range2 hg hm ha hs hs2) fun σ H R ⟨w, e, S, src, S', re, k, hm, q⟩ => by
    unfold mRg2 at hm
    obtain ⟨⟨d, S1⟩, h1, hm⟩ := Option.bind_eq_some_iff.mp hm
    simp only at hm
    split at hm
    · split at hm
      · rename_i hb
        cases hm
        refine ⟨w, e, S, _, _, re, k, h1, fun w1 H1 vs s1 k1 r1 => ?_⟩
        obtain ⟨v, v2, rfl, r3, r4⟩ := r1.two_inv
        exact ⟨_, _, by rw [r3.int_inv, r4.int_inv], ⟨hb.1.1, hb.1.2, hb.2.1, hb.2.2⟩, q w1 H1 _ s1 k1 walk_R⟩
      · cases hm
    · cases hm

/-! ### for -/
def forGo (get : Nat → Store → Option (Option D)) (bind : D → Ev → Option Ev) (body : MS) : Nat → Nat → Ev → Store → Option (Fl × Store)
  | 0, i, e, S => match get i S with
    | some none => some (.nx e, S)
    | _ => none
  | n + 1, i, e, S => match get i S with
    | some none => some (.nx e, S)
    | some (some d) => (bind d e).bind fun e1 => (body e1 S).bind fun (f, S1) => match f with
      | .nx e2 => forGo get bind body n (i + 1) e2 S1
      | .ct e2 => forGo get bind body n (i + 1) e2 S1
      | .bk e2 => some (.nx e2, S1)
      | .rt d => some (.rt d, S1)
    | none => none
def mFor (mi : MI) (t : Tg) (body : MS) : MS := fun e S => (mi e S).bind fun (s, S1) => forGo s.get t.f body s.n 0 e S1
theorem as_for {tg it : Expr} {bd : List Stmt} {pos : Pos} {mi : MI} {t : Tg} {mb : MS} (hp : PassesOwn (model X.prog X.w) X.A X.env X.xe) (hc : X.calm = true) (hi : AI X tg it mi) (hg : AG X tg t) (hb : ASs X bd mb) (hs : ∀ x, foldedSetIterable it X.env x = pure x := by intro _; rfl) :
    AS X (.For tg it bd [] pos) (mFor mi t mb) := PS.imp (ps_for hp hc hi hg hb hs) fun D σ H ⟨w, e, S, fl, S', re, k, hm, q⟩ => by
  unfold mFor at hm
  obtain ⟨⟨src, S1⟩, h1, hm⟩ := Option.bind_eq_some_iff.mp hm
  refine ⟨w, e, S, src, S1, re, k, h1, fun w1 H1 J s1 k1 W => ?_⟩
  refine ⟨fun i m σ H2 => ∃ w2 e2 S2, Stp w1 H1 w2 H2 ∧ Ok X.K w2 S2 H2 ∧ RpE X.K w2 H2 e2 σ ∧ forGo src.get t.f mb m i e2 S2 = some (fl, S'), ⟨src.n, w1, e, S1, .refl, k1, re.mono s1, hm⟩, ?_⟩
  rintro i m σ2 H2 ⟨w2, e2, S2, s2, k2, re2, hm2⟩
  obtain ⟨go, stop⟩ := W i w2 H2 S2 s2.toW k2
  have fin : some (Fl.nx e2, S2) = some (fl, S') → D.nx σ2 H2 := fun z => by
    cases z
    exact q w2 H2 (s1.trans s2) k2 σ2 re2
  cases hget : src.get i S2 with
  | none => cases m <;> (simp only [forGo, hget] at hm2; cases hm2)
  | some o =>
    cases o with
    | none =>
      refine .inl ⟨stop hget, fin ?_⟩
      cases m <;> (simp only [forGo, hget] at hm2; exact hm2)
    | some d =>
      cases m with
      | zero => simp only [forGo, hget] at hm2; cases hm2
      | succ m =>
        simp only [forGo, hget] at hm2
        obtain ⟨e3, h3, hm2⟩ := Option.bind_eq_some_iff.mp hm2
        obtain ⟨⟨f4, S4⟩, h4, hm2⟩ := Option.bind_eq_some_iff.mp hm2
        obtain ⟨g1, g2⟩ := go d hget
        refine .inr ⟨g1, fun σ5 H5 => ∃ w5 e5, Stp w1 H1 w5 H5 ∧ Ok X.K w5 S4 H5 ∧ RpE X.K w5 H5 e5 σ5 ∧ forGo src.get t.f mb m (i + 1) e5 S4 = some (fl, S'), fun σ5 H5 ⟨w5, e5, a1, a2, a3, a4⟩ => ⟨m, Nat.lt_succ_self m, w5, e5, S4, a1, a2, a3, a4⟩, fun x H3 y => ?_⟩
        obtain ⟨st, k3, rx⟩ := g2 x H3 y
        refine t.ok k3 (re2.mono st) rx h3 fun σ4 re4 _ => ?_
        refine ⟨w2, e3, S2, f4, S4, re4, k3, h4, fun w5 H5 s5 k5 => ?_⟩
        have st5 : Stp w1 H1 w5 H5 := (s2.trans st).trans s5
        cases f4 with
        | nx e5 => exact fun σ5 re5 => ⟨w5, e5, st5, k5, re5, hm2⟩
        | ct e5 => exact fun σ5 re5 => ⟨w5, e5, st5, k5, re5, hm2⟩
        | bk e5 => cases hm2; exact fun σ5 re5 => q w5 H5 (s1.trans st5) k5 σ5 re5
        | rt d => cases hm2; exact fun v rv => q w5 H5 (s1.trans st5) k5 v rv
/-! ### while -/
def whileGo (c : MT) (body : MS) : Nat → Ev → Store → Option (Fl × Store)
  | 0, _, _ => none
  | n + 1, e, S => (c e S).bind fun (b, S1) => if b then (body e S1).bind fun (f, S2) => match f with
      | .nx e2 => whileGo c body n e2 S2
      | .ct e2 => whileGo c body n e2 S2
      | .bk e2 => some (.nx e2, S2)
      | .rt d => some (.rt d, S2)
    else some (.nx e, S1)
def mWhile (n : Nat) (c : MT) (body : MS) : MS := whileGo c body n
theorem as_while {c : Expr} {bd : List Stmt} {pos : Pos} {mc : MT} {mb : MS} (n : Nat) (hp : PassesOwn (model X.prog X.w) X.A X.env X.xe) (hc : AT X c mc) (hb : ASs X bd mb) : AS X (.While c bd [] pos) (mWhile n mc mb) :=
  PS.imp (ps_while hp hc hb) fun D σ H ⟨w, e, S, fl, S', re, k, hm, q⟩ => by
  refine ⟨fun m σ H2 => ∃ w2 e2 S2, Stp w H w2 H2 ∧ Ok X.K w2 S2 H2 ∧ RpE X.K w2 H2 e2 σ ∧ whileGo mc mb m e2 S2 = some (fl, S'), ⟨n, w, e, S, .refl, k, re, hm⟩, ?_⟩
  rintro m σ2 H2 ⟨w2, e2, S2, s2, k2, re2, hm2⟩
  cases m with
  | zero => simp only [whileGo] at hm2; cases hm2
  | succ m =>
    simp only [whileGo] at hm2
    obtain ⟨⟨b, S3⟩, h3, hm2⟩ := Option.bind_eq_some_iff.mp hm2
    refine ⟨w2, e2, S2, b, S3, re2, k2, h3, fun w3 H3 s3 k3 => ?_⟩
    cases b with
    | true =>
      obtain ⟨⟨f4, S4⟩, h4, hm2⟩ := Option.bind_eq_some_iff.mp hm2
      rw [if_pos rfl]
      refine ⟨fun σ5 H5 => ∃ w5 e5, Stp w H w5 H5 ∧ Ok X.K w5 S4 H5 ∧ RpE X.K w5 H5 e5 σ5 ∧ whileGo mc mb m e5 S4 = some (fl, S'), fun σ5 H5 ⟨w5, e5, a1, a2, a3, a4⟩ => ⟨m, Nat.lt_succ_self m, w5, e5, S4, a1, a2, a3, a4⟩, ?_⟩
      refine ⟨w3, e2, S3, f4, S4, re2.mono s3, k3, h4, fun w5 H5 s5 k5 => ?_⟩
      have st5 : Stp w H w5 H5 := (s2.trans s3).trans s5
      cases f4 with
      | nx e5 => exact fun σ5 re5 => ⟨w5, e5, st5, k5, re5, hm2⟩
      | ct e5 => exact fun σ5 re5 => ⟨w5, e5, st5, k5, re5, hm2⟩
      | bk e5 => cases hm2; exact fun σ5 re5 => q w5 H5 st5 k5 σ5 re5
      | rt d => cases hm2; exact fun v rv => q w5 H5 st5 k5 v rv
    | false =>
      rw [if_neg Bool.false_ne_true] at hm2 ⊢
      cases hm2
      exact q w3 H3 (s2.trans s3) k3 σ2 (re2.mono s3)
end
end DV

namespace DV
open PySem PySem.Spec PyProof.Rows L2
section
variable {K : PySem.W.Frag}
/-! ### hiding an address and showing it again -/
def Wd.hide (w : Wd) (L : Addr) : Wd := ⟨w.rho, fun a => w.B a ∨ a = L⟩
section
variable {w w' : Wd} {H H' : Hp} {L : Addr} {o : HO} {S : Store}
theorem Stp.hide (h : H L = none) : Stp w H (w.hide L) (upd H L o) :=
  ⟨fun b u e _ => ⟨fun z => z.elim id fun z => absurd z (ne_of_none e h), .inl⟩, ⟨[], by simp [Wd.hide]⟩, fun b u e n => ⟨by rw [upd_ne (ne_of_none e h)]; exact e, n⟩⟩
theorem Ok.hide (k : Ok K w S H) (h : H L = none) : Ok K (w.hide L) S (upd H L o) where
  len := k.len
  nd := k.nd
  ob := fun i a x h1 h2 => by
    obtain ⟨u, e, r⟩ := k.ob i a x h1 h2
    exact ⟨u, by rw [upd_ne (ne_of_none e h)]; exact e, r.mono (Stp.hide h)⟩
  nb := fun a ha z => by
    rcases z with z | z
    · exact k.nb a ha z
    · subst z; exact (k.new h).1 ha
  bt := fun a z => by
    rcases z with z | z
    · obtain ⟨u, e⟩ := k.bt a z
      exact ⟨u, by rw [upd_ne (ne_of_none e h)]; exact e⟩
    · subst z; exact ⟨o, upd_same⟩
mutual
theorem Rp.back (hr : w.rho = w'.rho) (hB : ∀ a, w.B a → w'.B a) (hH : ∀ a o, ¬ w'.B a → H' a = some o → H a = some o) : ∀ {d : D} {v : V}, Rp K w' H' d v → Rp K w H d v
  | _, _, .non => .non
  | _, _, .bl b => .bl b
  | _, _, .int i => .int i
  | _, _, .str x => .str x
  | _, _, .tup u h l => .tup ⟨by rw [hr]; exact u.1, fun z => u.2 (hB _ z)⟩ (h.elim (fun h => .inl (hH _ _ u.2 h)) fun ⟨ob, h⟩ => .inr ⟨ob, hH _ _ u.2 h⟩) (RpL.back hr hB hH l)
  | _, _, .tupK h l => .tupK h (RpL.back hr hB hH l)
  | _, _, .lst u h l => .lst ⟨by rw [hr]; exact u.1, fun z => u.2 (hB _ z)⟩ (hH _ _ u.2 h) (RpL.back hr hB hH l)
  | _, _, .fr u h l => .fr ⟨by rw [hr]; exact u.1, fun z => u.2 (hB _ z)⟩ (h.elim (fun h => .inl (hH _ _ u.2 h)) fun ⟨ob, h⟩ => .inr ⟨ob, hH _ _ u.2 h⟩) (RpL.back hr hB hH l)
  | _, _, .frK h l => .frK h (RpL.back hr hB hH l)
  | _, _, .ref h => .ref (by rw [hr]; exact h)
  | _, _, .rng u h => .rng ⟨by rw [hr]; exact u.1, fun z => u.2 (hB _ z)⟩ (hH _ _ u.2 h)
theorem RpL.back (hr : w.rho = w'.rho) (hB : ∀ a, w.B a → w'.B a) (hH : ∀ a o, ¬ w'.B a → H' a = some o → H a = some o) : ∀ {ds : List D} {vs : List V}, RpL K w' H' ds vs → RpL K w H ds vs
  | _, _, .nil => .nil
  | _, _, .cons r t => .cons (Rp.back hr hB hH r) (RpL.back hr hB hH t)
end
theorem RDk.back (hr : w.rho = w'.rho) (hB : ∀ a, w.B a → w'.B a) (hH : ∀ a o, ¬ w'.B a → H' a = some o → H a = some o) : ∀ {ds : List (D × D)} {vs : List (Key × V)}, RDk K w' H' ds vs → RDk K w H ds vs
  | _, _, .nil => .nil
  | _, _, .cons k r t => .cons k (r.back hr hB hH) (RDk.back hr hB hH t)
theorem RDt.back (hr : w.rho = w'.rho) (hB : ∀ a, w.B a → w'.B a) (hH : ∀ a o, ¬ w'.B a → H' a = some o → H a = some o) : ∀ {ds : List (D × D)} {vs : List (List Key × V)}, RDt K w' H' ds vs → RDt K w H ds vs
  | _, _, .nil => .nil
  | _, _, .cons k r t => .cons k (r.back hr hB hH) (RDt.back hr hB hH t)
theorem RFs.back (hr : w.rho = w'.rho) (hB : ∀ a, w.B a → w'.B a) (hH : ∀ a o, ¬ w'.B a → H' a = some o → H a = some o) : ∀ {ds : List (Str × D)} {vs : List (Str × V)}, RFs K w' H' ds vs → RFs K w H ds vs
  | _, _, .nil => .nil
  | _, _, .cons r t => .cons (r.back hr hB hH) (RFs.back hr hB hH t)
theorem RpO.back (hr : w.rho = w'.rho) (hB : ∀ a, w.B a → w'.B a) (hH : ∀ a o, ¬ w'.B a → H' a = some o → H a = some o) {x : Ob} {h : HO} (r : RpO K w' H' x h) : RpO K w H x h := by
  cases r with
  | lst r => exact .lst (r.back hr hB hH)
  | dK r => exact .dK (r.back hr hB hH)
  | dT r => exact .dT (r.back hr hB hH)
  | ins r => exact .ins (r.back hr hB hH)
def er (L : Addr) (H : Hp) : Hp := fun b => if b = L then none else H b
theorem er_same : er L H L = none := by unfold er; rw [if_pos rfl]
theorem er_ne {b : Addr} (h : b ≠ L) : er L H b = H b := by unfold er; rw [if_neg h]
theorem upd_er (h : H L = some o) : upd (er L H) L o = H := by
  funext b
  unfold upd er
  by_cases e : b = L
  · subst e; rw [if_pos rfl, h]
  · rw [if_neg e, if_neg e]
/-- behind a step with L hidden: without L -/
theorem unhide {w2 w3 : Wd} {He H3 : Hp} {S2 S3 : Store} (k2 : Ok K w2 S2 He) (hD : He L = none) (s : Stp (w2.hide L) (upd He L o) w3 H3) (k3 : Ok K w3 S3 H3) :
    H3 = upd (er L H3) L o ∧ er L H3 L = none ∧ Stp w2 He ⟨w3.rho, w2.B⟩ (er L H3) ∧ Ok K ⟨w3.rho, w2.B⟩ S3 (er L H3) ∧ (∀ d v, Rp K w3 H3 d v → Rp K ⟨w3.rho, w2.B⟩ (er L H3) d v) := by
  have nD : L ∉ w2.rho := (k2.new hD).1
  have hD3 : H3 L = some o := (s.keep L o upd_same nD).1
  have bD : w3.B L := (s.B L o upd_same nD).mpr (.inr rfl)
  have hB : ∀ a, w2.B a → w3.B a := fun a z => by
    obtain ⟨u, e⟩ := k2.bt a z
    have na : a ∉ w2.rho := fun q => k2.nb a q z
    exact (s.B a u (by rw [upd_ne (ne_of_none e hD)]; exact e) na).mpr (.inl z)
  have hH : ∀ a o, ¬ w3.B a → H3 a = some o → er L H3 a = some o := fun a u n e => by
    rw [er_ne (fun z => n (by rw [z]; exact bD))]; exact e
  have st : Stp w2 He ⟨w3.rho, w2.B⟩ (er L H3) := ⟨fun _ _ _ _ => Iff.rfl, s.pre, fun b u e n => by
    have hb : b ≠ L := ne_of_none e hD
    obtain ⟨e3, n3⟩ := s.keep b u (by rw [upd_ne hb]; exact e) n
    exact ⟨by rw [er_ne hb]; exact e3, n3⟩⟩
  refine ⟨(upd_er hD3).symm, er_same, st, ⟨k3.len, k3.nd, fun i a x h1 h2 => ?_, fun a ha z => k3.nb a ha (hB a z), fun a z => ?_⟩, fun d v r => Rp.back (w := ⟨w3.rho, w2.B⟩) (w' := w3) (H' := H3) rfl hB hH r⟩
  · obtain ⟨u, e, r⟩ := k3.ob i a x h1 h2
    exact ⟨u, hH a u (k3.nb a (List.mem_of_getElem? h1)) e, RpO.back (w := ⟨w3.rho, w2.B⟩) (w' := w3) (H' := H3) rfl hB hH r⟩
  · obtain ⟨u, e⟩ := k2.bt a z
    exact ⟨u, (st.keep a u e fun q => k2.nb a q z).1⟩
end
/-! ### comprehensions -/
def wipeE (e : Ev) : List Nat → Ev
  | [] => e
  | v :: vs => (wipeE e vs).set v none
theorem RpE.wipe {w : Wd} {H : Hp} {e : Ev} {σ : L2.St} (r : RpE K w H e σ) : ∀ vs : List Nat, RpE K w H (wipeE e vs) (L2.wipe σ vs)
  | [] => r
  | _ :: vs => (RpE.wipe r vs).forget
def lcGo (get : Nat → Store → Option (Option D)) (bind : D → Ev → Option Ev) (tt : MT) (elt : ME) (e0 : Ev) : Nat → Nat → Store → Option (List D × Store)
  | 0, i, S => match get i S with
    | some none => some ([], S)
    | _ => none
  | n + 1, i, S => match get i S with
    | some none => some ([], S)
    | some (some d) => (bind d e0).bind fun e1 => (tt e1 S).bind fun (b, S1) => if b then (elt e1 S1).bind fun (y, S2) => (lcGo get bind tt elt e0 n (i + 1) S2).bind fun (ys, S3) => some (y :: ys, S3) else lcGo get bind tt elt e0 n (i + 1) S1
    | none => none
def mLC (mi : MI) (t : Tg) (tt : MT) (elt : ME) (vs : List Nat) : ML := fun e S => (mi e S).bind fun (s, S1) => (lcGo s.get t.f tt elt (wipeE e vs) s.n 0 S1).bind fun (ys, S2) => if ys.length ≤ LIM then some (ys, S2) else none
def mYes : MT := fun _ S => some (true, S)
abbrev ATs (X : Cx) (ifs : List Expr) (m : MT) : Prop := PTs X ifs (tB X.K m)
theorem PTs.imp {X : Cx} {e : List Expr} {t t' : TT} (h : PTs X e t) (i : ∀ σ H Q, t' σ H Q → t σ H Q) : PTs X e t' := ⟨fun pins s σ H Q I q => h.run pins s σ H Q I (i σ H Q q)⟩
theorem ats_nil {X : Cx} : ATs X [] mYes := PTs.imp pts_nil fun σ H Q ⟨w, e, S, b, S', re, k, hm, q⟩ => by
  cases hm
  exact q w H .refl k
theorem ats_one {X : Cx} {c : Expr} {m : MT} (h : AT X c m) : ATs X [c] m := pts_one h
theorem lc_imp {mi : MI} {t : Tg} {tt : MT} {elt : ME} {vs : List Nat} (hv : ∀ i ∈ t.slots, i ∈ vs) {σ : L2.St} {H : Hp} {Q : VK} (h : tF K (mLC mi t tt elt vs) σ H Q) : tLc (tI K mi) (t.g K) (tB K tt) (tD K elt) vs σ H Q := by
  obtain ⟨w, e, S, ds, S', re, k, hm, q⟩ := h
  unfold mLC at hm
  obtain ⟨⟨src, S1⟩, h1, hm⟩ := Option.bind_eq_some_iff.mp hm
  obtain ⟨⟨ys, S2⟩, h2, hm⟩ := Option.bind_eq_some_iff.mp hm
  simp only at h2 hm
  split at hm
  rotate_left
  · cases hm
  rename_i hz
  cases hm
  refine ⟨w, e, S, src, S1, re, k, h1, fun w1 H1 J s1 k1 W => fun D hD => ?_⟩
  refine ⟨fun i m H2 => ∃ w2 He S2 accd accv rest, H2 = upd He D (.lst accv) ∧ He D = none ∧ Stp w1 H1 w2 He ∧ Ok K w2 S2 He ∧ RpL K w2 He accd accv ∧ lcGo src.get t.f tt elt (wipeE e vs) m i S2 = some (rest, S') ∧ ds = accd ++ rest,
    ⟨src.n, w1, H1, S1, [], [], ds, rfl, hD, .refl, k1, .nil, h2, rfl⟩, ?_⟩
  rintro i m _ ⟨w2, He, S2, accd, accv, rest, rfl, hDe, s2, k2, racc, hm2, hds⟩
  have k2h : Ok K (w2.hide D) S2 (upd He D (.lst accv)) := k2.hide hDe
  have s2h : Stp w1 H1 (w2.hide D) (upd He D (.lst accv)) := s2.trans (.hide hDe)
  obtain ⟨go, stop⟩ := W i _ _ S2 s2h.toW k2h
  have fin : some (([] : List DV.D), S2) = some (rest, S') → Q (.ref D) (upd He D (.lst accv)) := fun z => by
    cases z
    rw [List.append_nil] at hds
    subst hds
    exact q w2 He D accv (s1.trans s2) k2 hDe racc
  cases hget : src.get i S2 with
  | none => cases m <;> (simp only [lcGo, hget] at hm2; cases hm2)
  | some o =>
    cases o with
    | none =>
      refine .inl ⟨stop hget, fin ?_⟩
      cases m <;> (simp only [lcGo, hget] at hm2; exact hm2)
    | some d =>
      cases m with
      | zero => simp only [lcGo, hget] at hm2; cases hm2
      | succ m =>
        simp only [lcGo, hget] at hm2
        obtain ⟨e3, h3, hm2⟩ := Option.bind_eq_some_iff.mp hm2
        obtain ⟨⟨b, S4⟩, h4, hm2⟩ := Option.bind_eq_some_iff.mp hm2
        obtain ⟨g1, g2⟩ := go d hget
        refine .inr ⟨g1, fun H5 => ∃ w2 He S2 accd accv rest, H5 = upd He D (.lst accv) ∧ He D = none ∧ Stp w1 H1 w2 He ∧ Ok K w2 S2 He ∧ RpL K w2 He accd accv ∧ lcGo src.get t.f tt elt (wipeE e vs) m (i + 1) S2 = some (rest, S') ∧ ds = accd ++ rest,
          fun H5 h5 => ⟨m, Nat.lt_succ_self m, h5⟩, fun x H3 y => ?_⟩
        obtain ⟨st, k3, rx⟩ := g2 x H3 y
        have re3 : RpE K (w2.hide D) H3 (wipeE e vs) (L2.wipe σ vs) := ((re.mono s1).mono (s2h.trans st)).wipe vs
        refine t.ok k3 re3 rx h3 fun σ4 re4 hw => ?_
        have ww : ∀ l : List Nat, L2.wipe (L2.wipe σ l) l = L2.wipe σ l := by
          intro l
          apply List.ext_getElem?
          intro j
          by_cases hj : j ∈ l
          · by_cases hjl : j < σ.length
            · have a1 : ∀ τ : L2.St, τ.length = σ.length → (L2.wipe τ l)[j]? = some none := fun τ hτ => by
                cases hq : (L2.wipe τ l)[j]? with
                | none =>
                  have := List.getElem?_eq_none_iff.mp hq
                  rw [wipe_length, hτ] at this
                  omega
                | some u =>
                  cases u with
                  | none => rfl
                  | some u => exact absurd hj (wipe_some hq).2
              rw [a1 _ (wipe_length σ l), a1 σ rfl]
            · rw [List.getElem?_eq_none (by rw [wipe_length, wipe_length]; omega), List.getElem?_eq_none (by rw [wipe_length]; omega)]
          · rw [wipe_out hj]
        refine ⟨by rw [hw vs hv, ww], ⟨_, e3, S2, b, S4, re4, k3, h4, fun w5 H5 s5 k5 => ?_⟩⟩
        cases b with
        | true =>
          rw [if_pos rfl]
          rw [if_pos rfl] at hm2
          obtain ⟨⟨z, S6⟩, h6, hm2⟩ := Option.bind_eq_some_iff.mp hm2
          obtain ⟨⟨zs, S7⟩, h7, hm2⟩ := Option.bind_eq_some_iff.mp hm2
          cases hm2
          refine ⟨w5, e3, S4, z, S6, re4.mono s5, k5, h6, fun w6 H6 v6 s6 k6 r6 => ?_⟩
          obtain ⟨u1, u2, u3, u4, u5⟩ := unhide k2 hDe ((st.trans s5).trans s6) k6
          have lz : accd.length < LIM := by
            have := hz
            rw [hds] at this
            simp at this
            omega
          refine ⟨accv, by rw [u1, upd_same], by rw [lim_eq, ← racc.length]; exact lz, ?_⟩
          refine ⟨_, er D H6, S6, accd ++ [z], accv ++ [v6], zs, ?_, u2, s2.trans u3, u4, (racc.mono u3).append (.cons (u5 _ _ r6) .nil), h7, by rw [hds]; simp⟩
          conv => lhs; rw [u1]
          rw [upd_upd]
        | false =>
          rw [if_neg Bool.false_ne_true]
          rw [if_neg Bool.false_ne_true] at hm2
          obtain ⟨u1, u2, u3, u4, u5⟩ := unhide k2 hDe (st.trans s5) k5
          exact ⟨_, er D H5, S4, accd, accv, rest, u1, u2, s2.trans u3, u4, racc.mono u3, hm2, hds⟩
end
section
variable {X : Cx}
theorem af_lc {elt tg iter : Expr} {ifs : List Expr} {scope : Scope} {pos : Pos} {mi : MI} {t : Tg} {tt : MT} {me : ME} (own : List (Str × Nat)) (hc : X.calm = true) (hN : X.N.Nodup) (hi : AI X tg iter mi) (ok : BlkOk X.N X.env.scope scope own)
    (hg : ∀ (s : Shared) (H : Hp) (C : Addr) (cl : List (Str × Addr)) (fp : List Addr), AG (X.blk s H scope (compEnvC scope cl C X.env) fp) tg t) (ht : ∀ (s : Shared) (H : Hp) (C : Addr) (cl : List (Str × Addr)) (fp : List Addr), ATs (X.blk s H scope (compEnvC scope cl C X.env) fp) ifs tt)
    (he : ∀ (s : Shared) (H : Hp) (C : Addr) (cl : List (Str × Addr)) (fp : List Addr), AE (X.blk s H scope (compEnvC scope cl C X.env) fp) elt me) (hs : ∀ x, foldedSetIterable iter X.env x = pure x := by intro _; rfl) (hv : ∀ i ∈ t.slots, i ∈ own.map (·.2) := by decide) :
    AF X (.ListComp elt [⟨tg, iter, ifs, 0⟩] scope pos) (mLC mi t tt me (own.map (·.2))) := PE.imp (pe_lc hc hN hi ok hg ht he hs) fun _ _ _ => lc_imp hv
/-- y = [..] -/
theorem as_setLc {i : Nat} {y : Str} {py : Pos} {elt tg iter : Expr} {ifs : List Expr} {scope : Scope} {pos spos : Pos} {mi : MI} {t : Tg} {tt : MT} {me : ME} (own : List (Str × Nat)) (hc : X.calm = true) (hN : X.N.Nodup) (hi : AI X tg iter mi) (ok : BlkOk X.N X.env.scope scope own)
    (hg : ∀ (s : Shared) (H : Hp) (C : Addr) (cl : List (Str × Addr)) (fp : List Addr), AG (X.blk s H scope (compEnvC scope cl C X.env) fp) tg t) (ht : ∀ (s : Shared) (H : Hp) (C : Addr) (cl : List (Str × Addr)) (fp : List Addr), ATs (X.blk s H scope (compEnvC scope cl C X.env) fp) ifs tt)
    (he : ∀ (s : Shared) (H : Hp) (C : Addr) (cl : List (Str × Addr)) (fp : List Addr), AE (X.blk s H scope (compEnvC scope cl C X.env) fp) elt me) (hy : X.N[i]? = some y := by rfl) (hyl : X.env.scope.names.lookup y = some .local := by rfl)
    (hsw : swapsWith (.ListComp elt [⟨tg, iter, ifs, 0⟩] scope pos) (some (.Name y py)) spos.line X.env = pure true := by exact sw_true rfl rfl rfl (by decide +kernel)) (hs : ∀ x, foldedSetIterable iter X.env x = pure x := by intro _; rfl) (hv : ∀ i ∈ t.slots, i ∈ own.map (·.2) := by decide) (sto : Bool) :
    AS X (.Assign [.Name y py] (.ListComp elt [⟨tg, iter, ifs, 0⟩] scope pos) spos) (mAsg ((if sto then mSto else mVal) (mLC mi t tt me (own.map (·.2)))) (.nm i)) := PS.imp (ps_setLc hc hN hy hyl hsw hi ok hg ht he hs) fun D σ H h => by
  obtain ⟨w, e, S, f, S', re, k, hm, q⟩ := h
  unfold mAsg at hm
  obtain ⟨⟨d, S1⟩, h1, hm⟩ := Option.bind_eq_some_iff.mp hm
  obtain ⟨e1, h2, hm⟩ := Option.bind_eq_some_iff.mp hm
  cases hm
  have fin : ∀ w' H' v, Stp w H w' H' → Ok X.K w' S' H' → Rp X.K w' H' d v → gName i v σ H' D.nx := fun w' H' v s' k' r' => by
    cases h2
    exact q w' H' s' k' _ ((re.mono s').set r')
  cases sto with
  | true =>
    rw [if_pos rfl] at h1
    unfold mSto at h1
    obtain ⟨⟨ds, S2⟩, h3, h1⟩ := Option.bind_eq_some_iff.mp h1
    cases h1
    exact lc_imp hv ⟨w, e, S, ds, S2, re, k, h3, fun w' H' p vs s' k' hp r => Post.addL (fun w2 H2 v s2 k2 r2 => fin w2 H2 v (s'.trans s2) k2 r2) k' hp r⟩
  | false =>
    rw [if_neg Bool.false_ne_true] at h1
    unfold mVal at h1
    obtain ⟨⟨ds, S2⟩, h3, h1⟩ := Option.bind_eq_some_iff.mp h1
    cases h1
    exact lc_imp hv ⟨w, e, S, ds, _, re, k, h3, fun w' H' p vs s' k' hp r => Post.newL (fun w2 H2 v s2 k2 r2 => fin w2 H2 v (s'.trans s2) k2 r2) k' hp r⟩
end
end DV

namespace DV
open PySem PySem.Spec PyProof.Rows L2
section
variable {X : Cx} {K : PySem.W.Frag}
/-! ### methods of lists -/
/-- o.m(..) on a list of the store -/
def mMt (f : List D → List D → Option (D × List D)) (mo : ME) (ms : ML) : ME := fun e S => (mo e S).bind fun (o, S1) => match o with
  | .ref p => (ms e S1).bind fun (ds, S2) => match S2[p]? with
    | some (.lst xs) => (f xs ds).bind fun (d, ys) => some (d, S2.set p (.lst ys))
    | _ => none
  | _ => none
def MtS (K : PySem.W.Frag) (r : V → List V → Hp → VK → Prop) (f : List D → List D → Option (D × List D)) : Prop := ∀ (w : Wd) (S : Store) (H : Hp) (p : Nat) (a : Addr) (xs ds ys : List D) (vs us : List V) (d : D) (Q : VK), Ok K w S H → w.rho[p]? = some a → H a = some (.lst us) → RpL K w H xs us →
  RpL K w H ds vs → f xs ds = some (d, ys) → Post K w H (S.set p (.lst ys)) d Q → r (.ref a) vs H Q
theorem Ok.tyList {w : Wd} {S : Store} {H : Hp} (k : Ok K w S H) {a : Addr} {us : List V} (h : H a = some (.lst us)) : tyV K "list" (.ref a) H := .inl ⟨rfl, us, .of h⟩
theorem mt_imp {r : V → List V → Hp → VK → Prop} {f : List D → List D → Option (D × List D)} {mo : ME} {ms : ML} (h : MtS K r f) (hp : ∀ e S p S1 ds S2, mo e S = some (.ref p, S1) → ms e S1 = some (ds, S2) → ∃ ys, S1[p]? = some (.lst ys)) {σ : L2.St} {H : Hp} {Q : VK} (q : tD K (mMt f mo ms) σ H Q) : tBM K "list" r (tD K mo) (tL K ms) σ H Q := by
  obtain ⟨w, e, S, d, S', re, k, hm, q⟩ := q
  unfold mMt at hm
  obtain ⟨⟨o, S1⟩, h1, hm⟩ := Option.bind_eq_some_iff.mp hm
  simp only at hm
  split at hm
  · rename_i p
    obtain ⟨⟨ds, S2⟩, h2, hm⟩ := Option.bind_eq_some_iff.mp hm
    simp only at hm
    split at hm
    · rename_i xs hx
      obtain ⟨⟨d1, ys⟩, h3, hm⟩ := Option.bind_eq_some_iff.mp hm
      cases hm
      obtain ⟨zs, hz⟩ := hp _ _ _ _ _ _ h1 h2
      refine ⟨w, e, S, _, S1, re, k, h1, fun w1 H1 v s1 k1 r1 => ?_⟩
      obtain ⟨a, rfl, ha⟩ := r1.ref_inv
      obtain ⟨us0, hu0, _⟩ := k1.lst ha hz
      refine ⟨k1.tyList hu0, w1, e, S1, ds, S2, re.mono s1, k1, h2, fun w2 H2 vs s2 k2 r2 => ?_⟩
      have ha2 : w2.rho[p]? = some a := by
        obtain ⟨m, e⟩ := s2.pre
        rw [e, List.getElem?_append_left (List.getElem?_eq_some_iff.mp ha).1]; exact ha
      obtain ⟨us, hu, ru⟩ := k2.lst ha2 hx
      exact h w2 S2 H2 p a xs ds ys vs us _ Q k2 ha2 hu ru r2 h3 fun w' H' v s' k' r' => q w' H' v ((s1.trans s2).trans s') k' r'
    · cases hm
  · cases hm
theorem mt0_imp {r : V → List V → Hp → VK → Prop} {f : List D → List D → Option (D × List D)} {mo : ME} (h : MtS K r f) {σ : L2.St} {H : Hp} {Q : VK} (q : tD K (mMt f mo mNil) σ H Q) : tBM0 K "list" r (tD K mo) σ H Q := by
  obtain ⟨w, e, S, d, S', re, k, hm, q⟩ := q
  unfold mMt at hm
  obtain ⟨⟨o, S1⟩, h1, hm⟩ := Option.bind_eq_some_iff.mp hm
  simp only at hm
  split at hm
  · rename_i p
    obtain ⟨⟨ds, S2⟩, h2, hm⟩ := Option.bind_eq_some_iff.mp hm
    cases h2
    simp only at hm
    split at hm
    · rename_i xs hx
      obtain ⟨⟨d1, ys⟩, h3, hm⟩ := Option.bind_eq_some_iff.mp hm
      cases hm
      refine ⟨w, e, S, _, S1, re, k, h1, fun w1 H1 v s1 k1 r1 => ?_⟩
      obtain ⟨a, rfl, ha⟩ := r1.ref_inv
      obtain ⟨us, hu, ru⟩ := k1.lst ha hx
      exact ⟨k1.tyList hu, h w1 S1 H1 p a xs [] ys [] us _ Q k1 ha hu ru .nil h3 fun w' H' v s' k' r' => q w' H' v (s1.trans s') k' r'⟩
    · cases hm
  · cases hm
theorem Post.putL {w : Wd} {S : Store} {H : Hp} {Q : VK} {d : D} {v : V} {p : Nat} {a : Addr} {ys : List D} {us : List V} (q : Post K w H (S.set p (.lst ys)) d Q) (k : Ok K w S H) (ha : w.rho[p]? = some a) (r : RpL K w H ys us) (rd : Rp K w H d v) : Q v (upd H a (.lst us)) :=
  q w _ _ (.put (List.mem_of_getElem? ha)) (k.put ha (.lst r)) (rd.mono (.put (List.mem_of_getElem? ha)))
def fAppend : List D → List D → Option (D × List D)
  | xs, [y] => if xs.length < LIM then some (.non, xs ++ [y]) else none
  | _, _ => none
theorem fAppend_s : MtS K rAppend fAppend := by
  intro w S H p a xs ds ys vs us d Q k ha hu ru rd hf q
  unfold fAppend at hf
  split at hf
  · split at hf
    · rename_i y hz
      cases hf
      obtain ⟨v, rfl, rv⟩ := rd.one_inv
      exact ⟨a, us, v, rfl, rfl, hu, by rw [lim_eq, ← ru.length]; exact hz, Post.putL q k ha (ru.append (.cons rv .nil)) .non⟩
    · cases hf
  · cases hf
def fPop : List D → List D → Option (D × List D)
  | xs, [] => (xs[xs.length - 1]?).bind fun y => some (y, xs.dropLast)
  | _, _ => none
theorem fPop_s : MtS K rPop fPop := by
  intro w S H p a xs ds ys vs us d Q k ha hu ru rd hf q
  unfold fPop at hf
  split at hf
  · obtain ⟨y, hy, hf⟩ := Option.bind_eq_some_iff.mp hf
    cases hf
    cases rd
    obtain ⟨v, hv, rv⟩ := ru.get hy
    exact ⟨a, us, v, rfl, rfl, hu, by rw [← ru.length]; exact hv, Post.putL q k ha ru.dropLast rv⟩
  · cases hf
section
variable {o e : Expr} {es : List Expr} {mo : ME} {ms : ML} {apos cpos : Pos}
/-- the list is there ahead of the arguments (argument expressions of these programs take nothing out of the store) -/
def mMt' (f : List D → List D → Option (D × List D)) (mo : ME) (ms : ML) : ME := fun e S => (mo e S).bind fun (o, S1) => match o with
  | .ref p => match S1[p]? with
    | some (.lst _) => (ms e S1).bind fun (ds, S2) => match S2[p]? with
      | some (.lst xs) => (f xs ds).bind fun (d, ys) => some (d, S2.set p (.lst ys))
      | _ => none
    | _ => none
  | _ => none
theorem mt_imp' {r : V → List V → Hp → VK → Prop} {f : List D → List D → Option (D × List D)} (h : MtS K r f) {σ : L2.St} {H : Hp} {Q : VK} (q : tD K (mMt' f mo ms) σ H Q) : tBM K "list" r (tD K mo) (tL K ms) σ H Q := by
  obtain ⟨w, e, S, d, S', re, k, hm, q⟩ := q
  unfold mMt' at hm
  obtain ⟨⟨o, S1⟩, h1, hm⟩ := Option.bind_eq_some_iff.mp hm
  simp only at hm
  split at hm
  · rename_i p
    split at hm
    · rename_i zs hz
      obtain ⟨⟨ds, S2⟩, h2, hm⟩ := Option.bind_eq_some_iff.mp hm
      simp only at hm
      split at hm
      · rename_i xs hx
        obtain ⟨⟨d1, ys⟩, h3, hm⟩ := Option.bind_eq_some_iff.mp hm
        cases hm
        refine ⟨w, e, S, _, S1, re, k, h1, fun w1 H1 v s1 k1 r1 => ?_⟩
        obtain ⟨a, rfl, ha⟩ := r1.ref_inv
        obtain ⟨us0, hu0, _⟩ := k1.lst ha hz
        refine ⟨k1.tyList hu0, w1, e, S1, ds, S2, re.mono s1, k1, h2, fun w2 H2 vs s2 k2 r2 => ?_⟩
        have ha2 : w2.rho[p]? = some a := by
          obtain ⟨m, e⟩ := s2.pre
          rw [e, List.getElem?_append_left (List.getElem?_eq_some_iff.mp ha).1]; exact ha
        obtain ⟨us, hu, ru⟩ := k2.lst ha2 hx
        exact h w2 S2 H2 p a xs ds ys vs us _ Q k2 ha2 hu ru r2 h3 fun w' H' v s' k' r' => q w' H' v ((s1.trans s2).trans s') k' r'
      · cases hm
    · cases hm
  · cases hm
theorem ae_append (ho : AE X o mo) (ha : AA X (e :: es) ms) (hbase : attributeBase o "append" X.env (eval o X.env) = eval o X.env := by rfl)
    (hfew : ((backTo cpos (starEach (e :: es) X.env)).all (fun x => !x.1) && (backToKw cpos (keywordEach [] X.env)).all (fun x => x.1.isSome)
      && decide ((e :: es).length + ([] : List Keyword).length + (if ([] : List Keyword).isEmpty then 0 else 1) < 30)) = true := by rfl)
    (hline : (apos.endLine == cpos.line) = true := by rfl) (hs : starEach (e :: es) X.env = (false, eval e X.env) :: starEach es X.env := by rfl) (hplain : (backTo cpos (starEach es X.env)).any (·.1) = false := by rfl) :
    AE X (.Call (.Attribute o "append" apos) (e :: es) [] cpos) (mMt' fAppend mo ms) := PE.imp (pe_bm PySem.F.plainAttrs_list PySem.F.slot_list_append PySem.F.type_list_append mt_append ho ha hbase hfew hline hs hplain) fun _ _ _ => mt_imp' fAppend_s
theorem ae_pop (ho : AE X o mo) (hbase : attributeBase o "pop" X.env (eval o X.env) = eval o X.env := by rfl) (hline : (apos.endLine == cpos.line) = true := by rfl) :
    AE X (.Call (.Attribute o "pop" apos) [] [] cpos) (mMt fPop mo mNil) := PE.imp (pe_bm0 PySem.F.plainAttrs_list PySem.F.slot_list_pop PySem.F.type_list_pop mt_pop ho hbase hline) fun _ _ _ => mt0_imp fPop_s
end

/-! ### defs -/
mutual
def D.cl (n : Nat) : D → Bool
  | .ref i => decide (i < n)
  | .tup xs => D.clL n xs
  | .lst xs => D.clL n xs
  | .fr xs => D.clL n xs
  | _ => true
def D.clL (n : Nat) : List D → Bool
  | [] => true
  | x :: xs => D.cl n x && D.clL n xs
end
def Ob.cl (n : Nat) : Ob → Bool
  | .lst xs => D.clL n xs
  | .dct kvs => kvs.all fun p => D.cl n p.2
  | .dtt kvs => kvs.all fun p => D.cl n p.2
  | .ins _ fs => fs.all fun p => D.cl n p.2
section
variable {w w' : Wd} {H H' : Hp}
mutual
theorem Rp.cl : ∀ {d : D} {v : V}, Rp K w H d v → D.cl w.rho.length d = true
  | _, _, .non => by simp [D.cl]
  | _, _, .bl b => by simp [D.cl]
  | _, _, .int i => by simp [D.cl]
  | _, _, .str x => by simp [D.cl]
  | _, _, .tup _ _ l => by simp only [D.cl]; exact RpL.cl l
  | _, _, .tupK _ l => by simp only [D.cl]; exact RpL.cl l
  | _, _, .lst _ _ l => by simp only [D.cl]; exact RpL.cl l
  | _, _, .fr _ _ l => by simp only [D.cl]; exact RpL.cl l
  | _, _, .frK _ l => by simp only [D.cl]; exact RpL.cl l
  | _, _, .ref h => by simp only [D.cl]; exact decide_eq_true (List.getElem?_eq_some_iff.mp h).1
  | _, _, .rng _ _ => by simp [D.cl]
theorem RpL.cl : ∀ {ds : List D} {vs : List V}, RpL K w H ds vs → D.clL w.rho.length ds = true
  | _, _, .nil => by simp [D.clL]
  | _, _, .cons r t => by simp only [D.clL, Bool.and_eq_true]; exact ⟨Rp.cl r, RpL.cl t⟩
end
theorem RDk.cl : ∀ {ds : List (D × D)} {vs : List (Key × V)}, RDk K w H ds vs → (ds.all fun p => D.cl w.rho.length p.2) = true
  | _, _, .nil => rfl
  | _, _, .cons _ r t => by simp only [List.all_cons, Bool.and_eq_true]; exact ⟨r.cl, RDk.cl t⟩
theorem RDt.cl : ∀ {ds : List (D × D)} {vs : List (List Key × V)}, RDt K w H ds vs → (ds.all fun p => D.cl w.rho.length p.2) = true
  | _, _, .nil => rfl
  | _, _, .cons _ r t => by simp only [List.all_cons, Bool.and_eq_true]; exact ⟨r.cl, RDt.cl t⟩
theorem RFs.cl : ∀ {ds : List (Str × D)} {vs : List (Str × V)}, RFs K w H ds vs → (ds.all fun p => D.cl w.rho.length p.2) = true
  | _, _, .nil => rfl
  | _, _, .cons r t => by simp only [List.all_cons, Bool.and_eq_true]; exact ⟨r.cl, RFs.cl t⟩
theorem RpO.cl {o : Ob} {h : HO} (r : RpO K w H o h) : o.cl w.rho.length = true := by
  cases r with
  | lst r => exact r.cl
  | dK r => exact r.cl
  | dT r => exact r.cl
  | ins r => exact r.cl
mutual
theorem Rp.cut {n : Nat} (hr : w'.rho = w.rho.take n) (hB : ∀ a, w'.B a → w.B a) : ∀ {d : D} {v : V}, Rp K w H d v → D.cl n d = true → Rp K w' H d v
  | _, _, .non, _ => .non
  | _, _, .bl b, _ => .bl b
  | _, _, .int i, _ => .int i
  | _, _, .str x, _ => .str x
  | _, _, .tup o h l, c => .tup ⟨fun z => o.1 (List.mem_of_mem_take (by rw [hr] at z; exact z)), fun z => o.2 (hB _ z)⟩ h (RpL.cut hr hB l (by simpa only [D.cl] using c))
  | _, _, .tupK h l, c => .tupK h (RpL.cut hr hB l (by simpa only [D.cl] using c))
  | _, _, .lst o h l, c => .lst ⟨fun z => o.1 (List.mem_of_mem_take (by rw [hr] at z; exact z)), fun z => o.2 (hB _ z)⟩ h (RpL.cut hr hB l (by simpa only [D.cl] using c))
  | _, _, .fr o h l, c => .fr ⟨fun z => o.1 (List.mem_of_mem_take (by rw [hr] at z; exact z)), fun z => o.2 (hB _ z)⟩ h (RpL.cut hr hB l (by simpa only [D.cl] using c))
  | _, _, .frK h l, c => .frK h (RpL.cut hr hB l (by simpa only [D.cl] using c))
  | _, _, .ref h, c => .ref (by
      have hi : _ < n := of_decide_eq_true (by simpa only [D.cl] using c)
      rw [hr, List.getElem?_take_of_lt hi]; exact h)
  | _, _, .rng o h, _ => .rng ⟨fun z => o.1 (List.mem_of_mem_take (by rw [hr] at z; exact z)), fun z => o.2 (hB _ z)⟩ h
theorem RpL.cut {n : Nat} (hr : w'.rho = w.rho.take n) (hB : ∀ a, w'.B a → w.B a) : ∀ {ds : List D} {vs : List V}, RpL K w H ds vs → D.clL n ds = true → RpL K w' H ds vs
  | _, _, .nil, _ => .nil
  | _, _, .cons r t, c => by
    simp only [D.clL, Bool.and_eq_true] at c
    exact .cons (Rp.cut hr hB r c.1) (RpL.cut hr hB t c.2)
end
theorem RDk.cut {n : Nat} (hr : w'.rho = w.rho.take n) (hB : ∀ a, w'.B a → w.B a) : ∀ {ds : List (D × D)} {vs : List (Key × V)}, RDk K w H ds vs → (ds.all fun p => D.cl n p.2) = true → RDk K w' H ds vs
  | _, _, .nil, _ => .nil
  | _, _, .cons k r t, c => by
    simp only [List.all_cons, Bool.and_eq_true] at c
    exact .cons k (r.cut hr hB c.1) (RDk.cut hr hB t c.2)
theorem RDt.cut {n : Nat} (hr : w'.rho = w.rho.take n) (hB : ∀ a, w'.B a → w.B a) : ∀ {ds : List (D × D)} {vs : List (List Key × V)}, RDt K w H ds vs → (ds.all fun p => D.cl n p.2) = true → RDt K w' H ds vs
  | _, _, .nil, _ => .nil
  | _, _, .cons k r t, c => by
    simp only [List.all_cons, Bool.and_eq_true] at c
    exact .cons k (r.cut hr hB c.1) (RDt.cut hr hB t c.2)
theorem RFs.cut {n : Nat} (hr : w'.rho = w.rho.take n) (hB : ∀ a, w'.B a → w.B a) : ∀ {ds : List (Str × D)} {vs : List (Str × V)}, RFs K w H ds vs → (ds.all fun p => D.cl n p.2) = true → RFs K w' H ds vs
  | _, _, .nil, _ => .nil
  | _, _, .cons r t, c => by
    simp only [List.all_cons, Bool.and_eq_true] at c
    exact .cons (r.cut hr hB c.1) (RFs.cut hr hB t c.2)
theorem RpO.cut {n : Nat} (hr : w'.rho = w.rho.take n) (hB : ∀ a, w'.B a → w.B a) {o : Ob} {h : HO} (r : RpO K w H o h) (c : o.cl n = true) : RpO K w' H o h := by
  cases r with
  | lst r => exact .lst (r.cut hr hB c)
  | dK r => exact .dK (r.cut hr hB c)
  | dT r => exact .dT (r.cut hr hB c)
  | ins r => exact .ins (r.cut hr hB c)
end
/-- lists of the store behind n as content -/
def frz (n : Nat) (S : Store) : Nat → D → Option D
  | 0, _ => none
  | k + 1, .ref i => if i < n then some (.ref i) else match S[i]? with
    | some (.lst xs) => (frzL k xs).map .lst
    | _ => none
  | k + 1, .tup xs => (frzL k xs).map .tup
  | k + 1, .lst xs => (frzL k xs).map .lst
  | _ + 1, .fr xs => if D.clL n xs then some (.fr xs) else none
  | _ + 1, d => some d
where frzL (k : Nat) : List D → Option (List D)
  | [] => some []
  | x :: xs => (frz n S k x).bind fun y => (frzL k xs).bind fun ys => some (y :: ys)
theorem frz_ok {w w' : Wd} {H : Hp} {S : Store} {n : Nat} (k0 : Ok K w S H) (hr : w'.rho = w.rho.take n) (hB : ∀ a, w'.B a → w.B a) : ∀ (k : Nat) {d d' : D} {v : V}, Rp K w H d v → frz n S k d = some d' → Rp K w' H d' v
  | 0, _, _, _, _, h => by simp [frz] at h
  | k + 1, d, d', v, r, h => by
    have out : ∀ {a : Addr}, Out w a → Out w' a := fun o => ⟨fun z => o.1 (List.mem_of_mem_take (by rw [hr] at z; exact z)), fun z => o.2 (hB _ z)⟩
    have hL : ∀ (xs ys : List D) (vs : List V), RpL K w H xs vs → frz.frzL n S k xs = some ys → RpL K w' H ys vs := by
      intro xs
      induction xs with
      | nil => intro ys vs r h; simp only [frz.frzL] at h; cases h; cases r; exact .nil
      | cons x xs ih =>
        intro ys vs r h
        simp only [frz.frzL] at h
        obtain ⟨y, h1, h⟩ := Option.bind_eq_some_iff.mp h
        obtain ⟨zs, h2, h⟩ := Option.bind_eq_some_iff.mp h
        cases h
        cases r with
        | cons r t => exact .cons (frz_ok k0 hr hB k r h1) (ih _ _ t h2)
    cases d with
    | ref i =>
      simp only [frz] at h
      obtain ⟨a, rfl, ha⟩ := r.ref_inv
      split at h
      · rename_i hi
        cases h
        exact .ref (by rw [hr, List.getElem?_take_of_lt hi]; exact ha)
      · rename_i hi
        split at h
        · rename_i xs hx
          obtain ⟨ys, h1, h⟩ := Option.map_eq_some_iff.mp h
          subst h
          obtain ⟨vs, h2, h3⟩ := k0.lst ha hx
          refine .lst ⟨fun z => ?_, fun z => k0.nb a (List.mem_of_getElem? ha) (hB _ z)⟩ h2 (hL _ _ _ h3 h1)
          rw [hr] at z
          obtain ⟨j, hj, e⟩ := List.getElem_of_mem z
          rw [List.getElem_take] at e
          obtain ⟨l1, e1⟩ := List.getElem?_eq_some_iff.mp ha
          have hjn : j < n := by rw [List.length_take] at hj; omega
          have := (List.getElem_inj k0.nd).mp (e.trans e1.symm)
          omega
        · cases h
    | tup xs =>
      simp only [frz] at h
      obtain ⟨ys, h1, h⟩ := Option.map_eq_some_iff.mp h
      subst h
      cases r with
      | tup o q l => exact .tup (out o) q (hL _ _ _ l h1)
      | tupK q l => exact .tupK q (hL _ _ _ l h1)
    | lst xs =>
      simp only [frz] at h
      obtain ⟨ys, h1, h⟩ := Option.map_eq_some_iff.mp h
      subst h
      cases r with
      | lst o q l => exact .lst (out o) q (hL _ _ _ l h1)
    | fr xs =>
      simp only [frz] at h
      split at h
      · rename_i hc
        cases h
        exact r.cut hr hB (by simp only [D.cl]; exact hc)
      · cases h
    | rng lo hi => simp only [frz] at h; cases h; exact r.cut hr hB (by simp [D.cl])
    | non => simp only [frz] at h; cases h; exact r.cut hr hB (by simp [D.cl])
    | bl b => simp only [frz] at h; cases h; exact r.cut hr hB (by simp [D.cl])
    | int i => simp only [frz] at h; cases h; exact r.cut hr hB (by simp [D.cl])
    | str i => simp only [frz] at h; cases h; exact r.cut hr hB (by simp [D.cl])
/-- how a def ends: pure (its own lists as content); as it is; its own lists thrown away -/
inductive Mode where
  | pure
  | keep
  | cut
def fin (m : Mode) (S : Store) (d : D) (S' : Store) : Option (D × Store) := match m with
  | .pure => if S'.take S.length = S then (frz S.length S' 12 d).map fun d => (d, S) else none
  | .keep => some (d, S')
  | .cut => if (S'.take S.length).all (Ob.cl S.length) ∧ S.length ≤ S'.length then (frz S.length S' 12 d).map fun d => (d, S'.take S.length) else none
abbrev Fn := List D → Store → Option (D × Store)
def fnM (nN np : Nat) (m : Mode) (body : MS) : Fn := fun ds S => if ds.length = np then (body (ds.map some ++ List.replicate (nN - np) none) S).bind fun (f, S') => match f with
    | .rt d => fin m S d S'
    | .nx _ => fin m S .non S'
    | _ => none
  else none
def spD (K : PySem.W.Frag) (np : Nat) (M : Fn) : Sp := fun vs H Q _ => vs.length = np ∧ ∃ w S ds d S', RpL K w H ds vs ∧ Ok K w S H ∧ M ds S = some (d, S') ∧ Post K w H S' d Q
theorem cut_ok {w w1 : Wd} {H H1 : Hp} {S S1 S2 : Store} (k : Ok K w S H) (s : Stp w H w1 H1) (k1 : Ok K w1 S1 H1) (hl : S.length ≤ S1.length) (e : S2 = S1.take S.length) (hc : ∀ x ∈ S2, Ob.cl S.length x = true) :
    ∃ w2 : Wd, w2.rho = w1.rho.take S.length ∧ (∀ a, w2.B a → w1.B a) ∧ Stp w H w2 H1 ∧ Ok K w2 S2 H1 := by
  have hr : w.rho = w1.rho.take S.length := by
    obtain ⟨m, em⟩ := s.pre
    rw [em, ← k.len, List.take_left']
    rfl
  refine ⟨⟨w.rho, w1.B⟩, hr, fun _ z => z, ⟨s.B, ⟨[], by simp⟩, fun b o h n => ⟨(s.keep b o h n).1, n⟩⟩, ⟨?_, k.nd, fun i a o h1 h2 => ?_, fun a ha z => ?_, k1.bt⟩⟩
  · show w.rho.length = S2.length
    rw [k.len, e, List.length_take]; omega
  · have h1 : w.rho[i]? = some a := h1
    have hi : i < S.length := by rw [← k.len]; exact (List.getElem?_eq_some_iff.mp h1).1
    have h2' : S1[i]? = some o := by rw [e, List.getElem?_take_of_lt hi] at h2; exact h2
    have h1' : w1.rho[i]? = some a := by rw [hr, List.getElem?_take_of_lt hi] at h1; exact h1
    obtain ⟨x, e1, r1⟩ := k1.ob i a o h1' h2'
    exact ⟨x, e1, RpO.cut (w := w1) (w' := ⟨w.rho, w1.B⟩) hr (fun _ z => z) r1 (hc o (List.mem_of_getElem? h2))⟩
  · have ha : a ∈ w.rho := ha
    rw [hr] at ha
    exact k1.nb a (List.mem_of_mem_take ha) z
theorem fin_ok {m : Mode} {w w1 : Wd} {H H1 : Hp} {S S1 S2 : Store} {d d2 : D} {v : V} {Q : VK} (k : Ok K w S H) (s : Stp w H w1 H1) (k1 : Ok K w1 S1 H1) (r : Rp K w1 H1 d v) (h : fin m S d S1 = some (d2, S2)) (q : Post K w H S2 d2 Q) : Q v H1 := by
  have hlen : S.length ≤ S1.length := by
    obtain ⟨m, em⟩ := s.pre
    rw [← k.len, ← k1.len, em, List.length_append]; omega
  cases m with
  | keep => cases h; exact q w1 H1 v s k1 r
  | pure =>
    simp only [fin] at h
    split at h
    · rename_i e
      obtain ⟨d3, h1, h⟩ := Option.map_eq_some_iff.mp h
      cases h
      obtain ⟨w2, a1, a2, a3, a4⟩ := cut_ok k s k1 hlen e.symm fun x hx => by
        obtain ⟨i, hi, e⟩ := List.getElem_of_mem hx
        have hiw : i < w.rho.length := by rw [k.len]; exact hi
        obtain ⟨y, _, ry⟩ := k.ob i _ x (List.getElem?_eq_getElem hiw) (by rw [List.getElem?_eq_getElem hi, e])
        rw [← k.len]; exact ry.cl
      exact q w2 H1 v a3 a4 (frz_ok k1 a1 a2 12 r h1)
    · cases h
  | cut =>
    simp only [fin] at h
    split at h
    · rename_i e
      obtain ⟨d3, h1, h⟩ := Option.map_eq_some_iff.mp h
      cases h
      obtain ⟨w2, a1, a2, a3, a4⟩ := cut_ok k s k1 hlen rfl fun x hx => List.all_eq_true.mp e.1 x hx
      exact q w2 H1 v a3 a4 (frz_ok k1 a1 a2 12 r h1)
    · cases h
section
variable {P : Program} {w : World} {mg : Str → Option Value} {base : Heap}
theorem fn_D {x qual : Str} {st : Stmt} {f : Addr} {fd : FuncData} {N ps : List Str} {k : Nat} {m : Mode} {body : MS} (F : Fun K x qual st f fd) (S : FnScope N ps (defScope st))
    (hb : ∀ (cdv : Value) (A : Around) (outer : List Env) (s : Shared) (H : Hp) (E : XK), Room k (A.deeper (envOfC qual (defScope st) s.heap.objs.size f cdv)) →
      ASs (cxOf CX0 P w K mg base N qual (defScope st) f cdv A outer s H E).nox (defBody st) body) (hN : ps.length ≤ N.length := by decide) : FnOk P w K mg base CX0 (k + 1) f fd ps (spD K ps.length (fnM N.length ps.length m body)) := by
  refine F.ok S (fun vs H Q E h => h.1) (fun cdv A outer s H vs Q E hr h => ⟨_, hb cdv A outer s H E hr, ?_⟩)
  obtain ⟨hl, w0, S0, ds, d, S', r, k0, hm, q⟩ := h
  unfold fnM at hm
  split at hm
  · rename_i hl2
    obtain ⟨⟨fl, S1⟩, h1, hm⟩ := Option.bind_eq_some_iff.mp hm
    refine ⟨w0, _, S0, fl, S1, ?_, k0, h1, fun w1 H1 s1 k1 => ?_⟩
    · unfold L2.start
      refine ⟨by simp [r.length, hl], fun i x hx => ?_⟩
      by_cases hi : i < ds.length
      · rw [List.getElem?_append_left (by simpa using hi), List.getElem?_map] at hx
        cases hd : ds[i]? with
        | none => rw [hd] at hx; cases hx
        | some y =>
          rw [hd] at hx
          have e : y = x := by simpa using hx
          subst e
          obtain ⟨v, hv, rv⟩ := r.get hd
          refine ⟨v, ?_, rv⟩
          rw [List.getElem?_append_left (by simp; rw [← r.length]; exact hi), List.getElem?_map, hv]
          rfl
      · rw [List.getElem?_append_right (by simp; omega)] at hx
        rw [List.getElem?_replicate] at hx
        split at hx <;> cases hx
    · cases fl with
      | rt d1 => exact fun v rv => fin_ok k0 s1 k1 rv hm q
      | nx e1 => exact fun σ re => fin_ok k0 s1 k1 .non hm q
      | bk e1 => cases hm
      | ct e1 => cases hm
  · cases hm
end
def mCall (M : Fn) (ms : ML) : ME := fun e S => (ms e S).bind fun (ds, S1) => M ds S1
theorem ae_call {x : Str} {p pos : Pos} {e : Expr} {es : List Expr} {ms : ML} {k j : Nat} {f : Addr} {fd : FuncData} {ps : List Str} {M : Fn} {np : Nat} (F : FnOk X.prog X.w X.K X.mg X.base CX0 k f fd ps (spD X.K np M)) (hr : Room j X.A) (hm : X.mg x = some (.ref f))
    (hk : PySem.W.keepIn X.K (.ref f) = true) (hb : Binds X.K fd ps []) (ha : AA X (e :: es) ms) (hnp : ∀ e0 S ds S', ms e0 S = some (ds, S') → ds.length = np) (hkj : k ≤ j := by decide) (hg : Gl X x := by rfl) (hdb : (x == ("__debug__" : Str)) = false := by decide)
    (he : starEach (e :: es) X.env = (false, eval e X.env) :: starEach es X.env := by rfl) (hpl : (backTo pos (starEach es X.env)).any (·.1) = false := by rfl) : AE X (.Call (.Name x p) (e :: es) [] pos) (mCall M ms) :=
  PE.imp (pe_call F (hr.mono hkj) hg hm hk hb .nil pass0 ha hdb he hpl) fun σ H Q ⟨w, e, S, d, S', re, k, hm, q⟩ => by
    unfold mCall at hm
    obtain ⟨⟨ds, S1⟩, h1, hm⟩ := Option.bind_eq_some_iff.mp hm
    refine ⟨w, e, S, ds, S1, re, k, h1, fun w1 H1 vs s1 k1 r1 => ?_⟩
    show spD X.K np M (vs ++ []) H1 Q E0
    rw [List.append_nil]
    exact ⟨by rw [← r1.length]; exact hnp _ _ _ _ h1, w1, S1, ds, d, S', r1, k1, hm, fun w2 H2 v s2 k2 r2 => q w2 H2 v (s1.trans s2) k2 r2⟩
theorem np_nil {e0 : Ev} {S : Store} {ds : List D} {S' : Store} (h : mNil e0 S = some (ds, S')) : ds.length = 0 := by cases h; rfl
theorem np_cons {m : ME} {ms : ML} {n : Nat} (h : ∀ e0 S ds S', ms e0 S = some (ds, S') → ds.length = n) (e0 : Ev) (S : Store) (ds : List D) (S' : Store) (q : mCons m ms e0 S = some (ds, S')) : ds.length = n + 1 := by
  unfold mCons at q
  obtain ⟨⟨d1, S1⟩, h1, q⟩ := Option.bind_eq_some_iff.mp q
  obtain ⟨⟨ds2, S2⟩, h2, q⟩ := Option.bind_eq_some_iff.mp q
  cases q
  simp [h _ _ _ _ h2]
end
end DV

namespace DV
open PySem PySem.Spec PyProof.Rows L2
section
variable {X : Cx} {K : PySem.W.Frag} {a b : Expr} {ma mb : ME} {pos : Pos}
theorem ae_add (ha : AE X a ma) (hb : AE X b mb) : AE X (.BinOp a .Add b pos) (mBin fAdd ma mb) := by obtain ⟨r, h1, h2⟩ := opS_add (X := X); exact ae_op h1 h2 ha hb
theorem ae_sub (ha : AE X a ma) (hb : AE X b mb) : AE X (.BinOp a .Sub b pos) (mBin fSub ma mb) := by obtain ⟨r, h1, h2⟩ := opS_sub (X := X); exact ae_op h1 h2 ha hb
theorem ae_mul (ha : AE X a ma) (hb : AE X b mb) : AE X (.BinOp a .Mult b pos) (mBin fMul ma mb) := by obtain ⟨r, h1, h2⟩ := opS_mul (X := X); exact ae_op h1 h2 ha hb
theorem ae_mod (ha : AE X a ma) (hb : AE X b mb) : AE X (.BinOp a .Mod b pos) (mBin fMod ma mb) := by obtain ⟨r, h1, h2⟩ := opS_mod (X := X); exact ae_op h1 h2 ha hb
theorem ae_div (ha : AE X a ma) (hb : AE X b mb) : AE X (.BinOp a .FloorDiv b pos) (mBin fDiv ma mb) := by obtain ⟨r, h1, h2⟩ := opS_div (X := X); exact ae_op h1 h2 ha hb
theorem ae_pow (ha : AE X a ma) (hb : AE X b mb) : AE X (.BinOp a .Pow b pos) (mBin fPow ma mb) := by obtain ⟨r, h1, h2⟩ := opS_pow (X := X); exact ae_op h1 h2 ha hb
/-- a + b, a new list -/
def mCat (ma mb : ME) : ML := fun e S => (ma e S).bind fun (a, S1) => (mb e S1).bind fun (b, S2) => (lstTr a S2).bind fun xs => (lstTr b S2).bind fun ys => if xs.length + ys.length ≤ LIM then some (xs ++ ys, S2) else none
theorem af_cat (ha : AE X a ma) (hb : AE X b mb) : AF X (.BinOp a .Add b pos) (mCat ma mb) := PE.imp (pe_op op_cat ha hb) fun σ H Q ⟨w, e, S, d, S', re, k, hm, q⟩ => by
  unfold mCat at hm
  obtain ⟨⟨d1, S1⟩, h1, hm⟩ := Option.bind_eq_some_iff.mp hm
  obtain ⟨⟨d2, S2⟩, h2, hm⟩ := Option.bind_eq_some_iff.mp hm
  obtain ⟨xs, h3, hm⟩ := Option.bind_eq_some_iff.mp hm
  obtain ⟨ys, h4, hm⟩ := Option.bind_eq_some_iff.mp hm
  split at hm
  · rename_i hz
    cases hm
    refine ⟨w, e, S, d1, S1, re, k, h1, fun w1 H1 x s1 k1 r1 => ⟨w1, e, S1, d2, _, re.mono s1, k1, h2, fun w2 H2 y s2 k2 r2 => ?_⟩⟩
    obtain ⟨p, vs, e1, g1, q1⟩ := lst_tr k2 (r1.mono s2) h3
    obtain ⟨p2, us, e2, g2, q2⟩ := lst_tr k2 r2 h4
    exact ⟨p, p2, vs, us, e1, e2, g1, g2, by rw [lim_eq, ← q1.length, ← q2.length]; exact hz, fun z hz => q w2 H2 z _ (s1.trans s2) k2 hz (q1.append q2)⟩
  · cases hm
/-- [x] * n, a new list -/
def mRepL (ma mb : ME) : ML := fun e S => (ma e S).bind fun (a, S1) => (mb e S1).bind fun (b, S2) => (lstTr a S2).bind fun xs => match b with
  | .int j => if -(2 ^ 63) ≤ j ∧ j < 2 ^ 63 ∧ xs.length * j.toNat ≤ LIM then some ((List.replicate j.toNat xs).flatten, S2) else none
  | _ => none
theorem af_rep (ha : AE X a ma) (hb : AE X b mb) : AF X (.BinOp a .Mult b pos) (mRepL ma mb) := PE.imp (pe_op op_rep ha hb) fun σ H Q ⟨w, e, S, d, S', re, k, hm, q⟩ => by
  unfold mRepL at hm
  obtain ⟨⟨d1, S1⟩, h1, hm⟩ := Option.bind_eq_some_iff.mp hm
  obtain ⟨⟨d2, S2⟩, h2, hm⟩ := Option.bind_eq_some_iff.mp hm
  obtain ⟨xs, h3, hm⟩ := Option.bind_eq_some_iff.mp hm
  split at hm
  · split at hm
    · rename_i hz
      cases hm
      refine ⟨w, e, S, d1, S1, re, k, h1, fun w1 H1 x s1 k1 r1 => ⟨w1, e, S1, _, _, re.mono s1, k1, h2, fun w2 H2 y s2 k2 r2 => ?_⟩⟩
      obtain ⟨p, vs, e1, g1, q1⟩ := lst_tr k2 (r1.mono s2) h3
      exact ⟨p, _, vs, e1, r2.int_inv, g1, hz.1, hz.2.1, by rw [lim_eq, ← q1.length]; exact hz.2.2, fun z hz => q w2 H2 z _ (s1.trans s2) k2 hz (q1.rep _)⟩
    · cases hm
  · cases hm

/-! ### order of data -/
def dlt (a b : D) : Bool := PySem.W.dataLt a.py b.py
def dalike (a b : D) : Bool := PySem.W.alike a.py b.py
def notNonB : D → Bool
  | .non => false
  | _ => true
/-- numbers by their order, data that are alike by theirs -/
def fCmp (pI : Int → Int → Bool) (pD : D → D → Bool) : D → D → Store → Option (D × Store)
  | .int i, .int j, S => some (.bl (pI i j), S)
  | a, b, S => if D.fit 32 a ∧ D.fit 32 b ∧ dalike a b ∧ notNonB a then some (.bl (pD a b), S) else none
def rCmpD (K : PySem.W.Frag) (p : PyData → PyData → Bool) : R2 := fun x y H Q => ∃ d e, Dp K H x d ∧ Dp K H y e ∧ PySem.W.alike d e = true ∧ d ≠ .none ∧ d.depth ≤ 64 ∧ Q (.bl (p d e)) H
theorem op_ltD (hu : X.A.units + 64 < cLine) : OpR X (compareOp .Lt) (rCmpD X.K fun d e => PySem.W.dataLt d e) := by
  intro pins s σ H x y v u Q I rx ry h
  obtain ⟨d, e, hd, he, ha, hn, hz, q⟩ := h
  obtain ⟨as, r1⟩ := Dp.reads I d x v hd rx
  obtain ⟨bs, r2⟩ := Dp.reads I e y u he ry
  exact PySem.W.lt_data r1 r2 ha hn (by omega) ⟨.bl _, H, I, rfl, q⟩
theorem op_gtD (hu : X.A.units + 64 < cLine) : OpR X (compareOp .Gt) (rCmpD X.K fun d e => PySem.W.dataLt e d) := by
  intro pins s σ H x y v u Q I rx ry h
  obtain ⟨d, e, hd, he, ha, hn, hz, q⟩ := h
  obtain ⟨as, r1⟩ := Dp.reads I d x v hd rx
  obtain ⟨bs, r2⟩ := Dp.reads I e y u he ry
  exact PySem.W.gt_data r1 r2 ha hn (by omega) ⟨.bl _, H, I, rfl, q⟩
theorem op_leD (hu : X.A.units + 64 < cLine) : OpR X (compareOp .LtE) (rCmpD X.K fun d e => !PySem.W.dataLt e d) := by
  intro pins s σ H x y v u Q I rx ry h
  obtain ⟨d, e, hd, he, ha, hn, hz, q⟩ := h
  obtain ⟨as, r1⟩ := Dp.reads I d x v hd rx
  obtain ⟨bs, r2⟩ := Dp.reads I e y u he ry
  exact PySem.W.le_data r1 r2 ha hn (by omega) ⟨.bl _, H, I, rfl, q⟩
theorem op_geD (hu : X.A.units + 64 < cLine) : OpR X (compareOp .GtE) (rCmpD X.K fun d e => !PySem.W.dataLt d e) := by
  intro pins s σ H x y v u Q I rx ry h
  obtain ⟨d, e, hd, he, ha, hn, hz, q⟩ := h
  obtain ⟨as, r1⟩ := Dp.reads I d x v hd rx
  obtain ⟨bs, r2⟩ := Dp.reads I e y u he ry
  exact PySem.W.ge_data r1 r2 ha hn (by omega) ⟨.bl _, H, I, rfl, q⟩
theorem notNon_py : ∀ {d : D}, D.fit 32 d = true → notNonB d = true → d.py ≠ .none
  | .non, _, h => by simp [notNonB] at h
  | .bl _, _, _ => by simp [D.py]
  | .int _, _, _ => by simp [D.py]
  | .str _, _, _ => by simp [D.py]
  | .tup _, _, _ => by simp [D.py]
  | .lst _, _, _ => by simp [D.py]
  | .ref _, h, _ => by simp [D.fit] at h
  | .fr _, h, _ => by simp [D.fit] at h
  | .rng _ _, h, _ => by simp [D.fit] at h
theorem fCmp_s {pI : Int → Int → Bool} {pD : D → D → Bool} {p : PyData → PyData → Bool} (hp : ∀ a b, pD a b = p a.py b.py) : OpS K (fun x y H Q => rI0 (fun i j => .bl (pI i j)) x y H Q ∨ rCmpD K p x y H Q) (fCmp pI pD) := by
  intro w S H a b d x y S' Q k ra rb hm q
  unfold fCmp at hm
  split at hm
  · cases hm
    exact .inl ⟨_, _, ra.int_inv, rb.int_inv, q w H _ .refl k (.bl _)⟩
  · split at hm
    · rename_i h
      cases hm
      have h1 := D.fit_lay a 32 h.1
      exact .inr ⟨a.py, b.py, ra.dp _ _ _ h.1, rb.dp _ _ _ h.2.1, h.2.2.1, notNon_py h.1 h.2.2.2, by omega, by rw [← hp]; exact q w H _ .refl k (.bl _)⟩
    · cases hm
abbrev fLtD := fCmp (fun i j => decide (i < j)) fun a b => dlt a b
abbrev fLeD := fCmp (fun i j => decide (i ≤ j)) fun a b => !dlt b a
abbrev fGtD := fCmp (fun i j => decide (j < i)) fun a b => dlt b a
abbrev fGeD := fCmp (fun i j => decide (j ≤ i)) fun a b => !dlt a b
section
variable {j : Nat} (hr : Room j X.A)
include hr
theorem ae_lt (ha : AE X a ma) (hb : AE X b mb) : AE X (.Compare a [.Lt] [b] pos) (mBin fLtD ma mb) := ae_cmp (op_lt.or (op_ltD hr.units)) (fCmp_s fun _ _ => rfl) ha hb (nomark _)
theorem ae_le (ha : AE X a ma) (hb : AE X b mb) : AE X (.Compare a [.LtE] [b] pos) (mBin fLeD ma mb) := ae_cmp (op_le.or (op_leD hr.units)) (fCmp_s fun _ _ => rfl) ha hb (nomark _)
theorem ae_gt (ha : AE X a ma) (hb : AE X b mb) : AE X (.Compare a [.Gt] [b] pos) (mBin fGtD ma mb) := ae_cmp (op_gt.or (op_gtD hr.units)) (fCmp_s fun _ _ => rfl) ha hb (nomark _)
theorem ae_ge (ha : AE X a ma) (hb : AE X b mb) : AE X (.Compare a [.GtE] [b] pos) (mBin fGeD ma mb) := ae_cmp (op_ge.or (op_geD hr.units)) (fCmp_s fun _ _ => rfl) ha hb (nomark _)
theorem ae_eq (ha : AE X a ma) (hb : AE X b mb) : AE X (.Compare a [.Eq] [b] pos) (mBin fEq ma mb) := ae_cmp (op_eqD hr.units) fEq_s ha hb (nomark _)
theorem ae_ne (ha : AE X a ma) (hb : AE X b mb) : AE X (.Compare a [.NotEq] [b] pos) (mBin fNe ma mb) := ae_cmp (op_neD hr.units) fNe_s ha hb (nomark _)
theorem ae_in (ha : AE X a ma) (hb : AE X b mb) (hm : behindInMarks .In b = false := by rfl) : AE X (.Compare a [.In] [b] pos) (mBin fIn ma mb) := ae_cmp (op_inA (by have := hr.un; omega)) (fInB_s false) ha hb hm
theorem ae_nin (ha : AE X a ma) (hb : AE X b mb) (hm : behindInMarks .NotIn b = false := by rfl) : AE X (.Compare a [.NotIn] [b] pos) (mBin fNotIn ma mb) := ae_cmp (op_notInA (by have := hr.un; omega)) (fInB_s true) ha hb hm
theorem at_lt (ha : AE X a ma) (hb : AE X b mb) : AT X (.Compare a [.Lt] [b] pos) (mTV (mBin fLtD ma mb)) := at_cmp (op_lt.or (op_ltD hr.units)) (fCmp_s fun _ _ => rfl) ha hb (nomark _)
theorem at_le (ha : AE X a ma) (hb : AE X b mb) : AT X (.Compare a [.LtE] [b] pos) (mTV (mBin fLeD ma mb)) := at_cmp (op_le.or (op_leD hr.units)) (fCmp_s fun _ _ => rfl) ha hb (nomark _)
theorem at_gt (ha : AE X a ma) (hb : AE X b mb) : AT X (.Compare a [.Gt] [b] pos) (mTV (mBin fGtD ma mb)) := at_cmp (op_gt.or (op_gtD hr.units)) (fCmp_s fun _ _ => rfl) ha hb (nomark _)
theorem at_ge (ha : AE X a ma) (hb : AE X b mb) : AT X (.Compare a [.GtE] [b] pos) (mTV (mBin fGeD ma mb)) := at_cmp (op_ge.or (op_geD hr.units)) (fCmp_s fun _ _ => rfl) ha hb (nomark _)
theorem at_eq (ha : AE X a ma) (hb : AE X b mb) : AT X (.Compare a [.Eq] [b] pos) (mTV (mBin fEq ma mb)) := at_cmp (op_eqD hr.units) fEq_s ha hb (nomark _)
theorem at_ne (ha : AE X a ma) (hb : AE X b mb) : AT X (.Compare a [.NotEq] [b] pos) (mTV (mBin fNe ma mb)) := at_cmp (op_neD hr.units) fNe_s ha hb (nomark _)
theorem at_in (ha : AE X a ma) (hb : AE X b mb) (hm : behindInMarks .In b = false := by rfl) : AT X (.Compare a [.In] [b] pos) (mTV (mBin fIn ma mb)) := at_cmp (op_inA (by have := hr.un; omega)) (fInB_s false) ha hb hm
theorem at_nin (ha : AE X a ma) (hb : AE X b mb) (hm : behindInMarks .NotIn b = false := by rfl) : AT X (.Compare a [.NotIn] [b] pos) (mTV (mBin fNotIn ma mb)) := at_cmp (op_notInA (by have := hr.un; omega)) (fInB_s true) ha hb hm
end
theorem ae_is (ha : AE X a ma) (hb : AE X b mb) : AE X (.Compare a [.Is] [b] pos) (mBin fIsN ma mb) := ae_cmp (op_isN.or op_isBl) fIsN_s ha hb (nomark _)
theorem ae_isnot (ha : AE X a ma) (hb : AE X b mb) : AE X (.Compare a [.IsNot] [b] pos) (mBin fNotN ma mb) := ae_cmp (op_notN.or op_notBl) fNotN_s ha hb (nomark _)
theorem at_is (ha : AE X a ma) (hb : AE X b mb) : AT X (.Compare a [.Is] [b] pos) (mTV (mBin fIsN ma mb)) := at_cmp (op_isN.or op_isBl) fIsN_s ha hb (nomark _)
theorem at_isnot (ha : AE X a ma) (hb : AE X b mb) : AT X (.Compare a [.IsNot] [b] pos) (mTV (mBin fNotN ma mb)) := at_cmp (op_notN.or op_notBl) fNotN_s ha hb (nomark _)
theorem ae_sub' (ha : AE X a ma) (hb : AE X b mb) (hs : PlainIx b := by exact fun _ _ => rfl) : AE X (.Subscript a b pos) (mBin fIx ma mb) := ae_ix ix_seq fIx_s ha hb hs
section
variable {p : Pos} {e : Expr} {es : List Expr} {ms : ML}
theorem ae_len (hm : X.mg "len" = none) (ha : AA X (e :: es) ms) (hg : Gl X "len" := by rfl) (he : starEach (e :: es) X.env = (false, eval e X.env) :: starEach es X.env := by rfl) (hpl : (backTo pos (starEach es X.env)).any (·.1) = false := by rfl) : AE X (.Call (.Name "len" p) (e :: es) [] pos) (mCB fLen ms) :=
  ae_callB call_len fLen_s hm ha hg (by decide +kernel) (by decide) (by decide) he hpl
theorem ae_sum (hc : X.calm = true) (hm : X.mg "sum" = none) (ha : AA X (e :: es) ms) (hg : Gl X "sum" := by rfl) (he : starEach (e :: es) X.env = (false, eval e X.env) :: starEach es X.env := by rfl) (hpl : (backTo pos (starEach es X.env)).any (·.1) = false := by rfl) : AE X (.Call (.Name "sum" p) (e :: es) [] pos) (mCB fSum ms) :=
  ae_callB (cr_sum hc) fSum_s hm ha hg (by decide +kernel) (by decide) (by decide) he hpl
theorem ae_any (hc : X.calm = true) (hm : X.mg "any" = none) (ha : AA X (e :: es) ms) (hg : Gl X "any" := by rfl) (he : starEach (e :: es) X.env = (false, eval e X.env) :: starEach es X.env := by rfl) (hpl : (backTo pos (starEach es X.env)).any (·.1) = false := by rfl) : AE X (.Call (.Name "any" p) (e :: es) [] pos) (mCB fAny ms) :=
  ae_callB (cr_any hc) fAny_s hm ha hg (by decide +kernel) (by decide) (by decide) he hpl
theorem ae_all (hc : X.calm = true) (hm : X.mg "all" = none) (ha : AA X (e :: es) ms) (hg : Gl X "all" := by rfl) (he : starEach (e :: es) X.env = (false, eval e X.env) :: starEach es X.env := by rfl) (hpl : (backTo pos (starEach es X.env)).any (·.1) = false := by rfl) : AE X (.Call (.Name "all" p) (e :: es) [] pos) (mCB fAll ms) :=
  ae_callB (cr_all hc) fAll_s hm ha hg (by decide +kernel) (by decide) (by decide) he hpl
theorem ae_abs (hm : X.mg "abs" = none) (ha : AA X (e :: es) ms) (hg : Gl X "abs" := by rfl) (he : starEach (e :: es) X.env = (false, eval e X.env) :: starEach es X.env := by rfl) (hpl : (backTo pos (starEach es X.env)).any (·.1) = false := by rfl) : AE X (.Call (.Name "abs" p) (e :: es) [] pos) (mCB fAbs ms) :=
  ae_callB call_abs fAbs_s hm ha hg (by decide +kernel) (by decide) (by decide) he hpl
theorem ae_intC (hm : X.mg "int" = none) (ha : AA X (e :: es) ms) (hg : Gl X "int" := by rfl) (he : starEach (e :: es) X.env = (false, eval e X.env) :: starEach es X.env := by rfl) (hpl : (backTo pos (starEach es X.env)).any (·.1) = false := by rfl) : AE X (.Call (.Name "int" p) (e :: es) [] pos) (mCB fInt ms) :=
  ae_callTy call_int1 fInt_s hm ha hg (by decide +kernel) (by decide) (by decide) he hpl
theorem ae_tuple (hm : X.mg "tuple" = none) (ha : AA X (e :: es) ms) (hg : Gl X "tuple" := by rfl) (he : starEach (e :: es) X.env = (false, eval e X.env) :: starEach es X.env := by rfl) (hpl : (backTo pos (starEach es X.env)).any (·.1) = false := by rfl) : AE X (.Call (.Name "tuple" p) (e :: es) [] pos) (mCB fTuple ms) :=
  ae_callTy call_tuple_of fTuple_s hm ha hg (by decide +kernel) (by decide) (by decide) he hpl
theorem ae_rng1 (hm : X.mg "range" = none) (ha : AA X (e :: es) ms) (hg : Gl X "range" := by rfl) (he : starEach (e :: es) X.env = (false, eval e X.env) :: starEach es X.env := by rfl) (hpl : (backTo pos (starEach es X.env)).any (·.1) = false := by rfl) : AE X (.Call (.Name "range" p) (e :: es) [] pos) (mCB fRng1 ms) :=
  ae_callTy cr_range1 fRng1_s hm ha hg (by decide +kernel) (by decide) (by decide) he hpl
theorem ae_rng2 (hm : X.mg "range" = none) (ha : AA X (e :: es) ms) (hg : Gl X "range" := by rfl) (he : starEach (e :: es) X.env = (false, eval e X.env) :: starEach es X.env := by rfl) (hpl : (backTo pos (starEach es X.env)).any (·.1) = false := by rfl) : AE X (.Call (.Name "range" p) (e :: es) [] pos) (mCB fRng2 ms) :=
  ae_callTy cr_range2 fRng2_s hm ha hg (by decide +kernel) (by decide) (by decide) he hpl
end
/-! ### min, max, sorted of data -/
theorem D.py_inj : ∀ (a : D) (n m : Nat) (b : D), D.fit n a = true → D.fit m b = true → a.py = b.py → a = b := by
  intro a
  exact go a
where
  go : ∀ (a : D) (n m : Nat) (b : D), D.fit n a = true → D.fit m b = true → a.py = b.py → a = b
    | .non, n, m, b, _, hb, e => by cases b <;> simp_all [D.py, D.fit]
    | .bl _, n, m, b, _, hb, e => by cases b <;> simp_all [D.py, D.fit]
    | .int _, n, m, b, _, hb, e => by cases b <;> simp_all [D.py, D.fit]
    | .str _, n, m, b, _, hb, e => by cases b <;> simp_all [D.py, D.fit]
    | .tup xs, n, m, b, ha, hb, e => by
      cases b with
      | tup ys =>
        cases n with
        | zero => simp [D.fit] at ha
        | succ n =>
          cases m with
          | zero => simp [D.fit] at hb
          | succ m =>
            simp only [D.fit] at ha hb
            simp only [D.py, PyData.tuple.injEq] at e
            rw [goL xs n m ys ha hb e]
      | _ => simp_all [D.py, D.fit]
    | .lst xs, n, m, b, ha, hb, e => by
      cases b with
      | lst ys =>
        cases n with
        | zero => simp [D.fit] at ha
        | succ n =>
          cases m with
          | zero => simp [D.fit] at hb
          | succ m =>
            simp only [D.fit] at ha hb
            simp only [D.py, PyData.list.injEq] at e
            rw [goL xs n m ys ha hb e]
      | _ => simp_all [D.py, D.fit]
    | .ref _, n, m, b, ha, _, _ => by simp [D.fit] at ha
    | .fr _, n, m, b, ha, _, _ => by simp [D.fit] at ha
    | .rng _ _, n, m, b, ha, _, _ => by simp [D.fit] at ha
  goL : ∀ (a : List D) (n m : Nat) (b : List D), D.fitL n a = true → D.fitL m b = true → D.pyL a = D.pyL b → a = b
    | [], _, _, [], _, _, _ => rfl
    | [], _, _, _ :: _, _, _, e => by simp [D.pyL] at e
    | _ :: _, _, _, [], _, _, e => by simp [D.pyL] at e
    | x :: xs, n, m, y :: ys, ha, hb, e => by
      simp only [D.fitL, Bool.and_eq_true] at ha hb
      simp only [D.pyL, List.cons.injEq] at e
      rw [go x n m y ha.1 hb.1 e.1, goL xs n m ys ha.2 hb.2 e.2]
/-- each two are alike, none is None -/
def alikeB (xs : List D) : Bool := xs.all fun a => notNonB a && xs.all fun b => dalike a b
mutual
theorem D.fit_mono : ∀ (n m : Nat), n ≤ m → ∀ d : D, D.fit n d = true → D.fit m d = true
    | n, m, h, .non, _ => by simp [D.fit]
    | n, m, h, .bl _, _ => by simp [D.fit]
    | n, m, h, .int _, _ => by simp [D.fit]
    | n, m, h, .str _, q => by simpa [D.fit] using q
    | 0, m, h, .tup _, q => by simp [D.fit] at q
    | n + 1, 0, h, .tup _, q => by omega
    | n + 1, m + 1, h, .tup xs, q => by
      simp only [D.fit] at q ⊢
      exact D.fit_monoL n m (by omega) xs q
    | 0, m, h, .lst _, q => by simp [D.fit] at q
    | n + 1, 0, h, .lst _, q => by omega
    | n + 1, m + 1, h, .lst xs, q => by
      simp only [D.fit] at q ⊢
      exact D.fit_monoL n m (by omega) xs q
    | n, m, h, .ref _, q => by simp [D.fit] at q
    | n, m, h, .fr _, q => by simp [D.fit] at q
    | n, m, h, .rng _ _, q => by simp [D.fit] at q
theorem D.fit_monoL : ∀ (n m : Nat), n ≤ m → ∀ d : List D, D.fitL n d = true → D.fitL m d = true
    | _, _, _, [], _ => by simp [D.fitL]
    | n, m, h, x :: xs, q => by
      simp only [D.fitL, Bool.and_eq_true] at q ⊢
      exact ⟨D.fit_mono n m h x q.1, D.fit_monoL n m h xs q.2⟩
end
theorem alikeB_of {xs : List D} (hf : D.fitL 31 xs = true) (h : alikeB xs = true) : PySem.W.AlikeAll (D.pyL xs) ∧ PySem.W.AllAlike (D.pyL xs) := by
  unfold alikeB at h
  rw [D.fitL_all] at hf
  rw [D.pyL_map]
  have h1 : ∀ x ∈ xs, ∀ y ∈ xs, PySem.W.alike x.py y.py = true := fun x hx y hy => by
    have := List.all_eq_true.mp h x hx
    rw [Bool.and_eq_true] at this
    exact List.all_eq_true.mp this.2 y hy
  refine ⟨⟨fun x hx y hy => ?_, fun x hx => ?_⟩, fun x hx y hy => ?_⟩
  · obtain ⟨a, ha, rfl⟩ := List.mem_map.mp hx
    obtain ⟨b, hb, rfl⟩ := List.mem_map.mp hy
    exact h1 a ha b hb
  · obtain ⟨a, ha, rfl⟩ := List.mem_map.mp hx
    have := List.all_eq_true.mp h a ha
    rw [Bool.and_eq_true] at this
    have hfa := List.all_eq_true.mp hf a ha
    exact notNon_py (by
      have := hfa
      exact D.fit_mono 31 32 (by omega) a this) this.1
  · obtain ⟨a, ha, rfl⟩ := List.mem_map.mp hx
    obtain ⟨b, hb, rfl⟩ := List.mem_map.mp hy
    exact h1 a ha b hb
def minDD (x : D) (xs : List D) : D := xs.foldl (fun a y => if dlt y a then y else a) x
def maxDD (x : D) (xs : List D) : D := xs.foldl (fun a y => if dlt a y then y else a) x
theorem minDD_py (x : D) (xs : List D) : (minDD x xs).py = PySem.W.minD x.py (D.pyL xs) := by
  rw [D.pyL_map]
  unfold minDD PySem.W.minD
  induction xs generalizing x with
  | nil => rfl
  | cons y ys ih =>
    rw [List.map_cons, List.foldl_cons, List.foldl_cons, ih]
    unfold dlt
    cases PySem.W.dataLt y.py x.py <;> rfl
theorem maxDD_py (x : D) (xs : List D) : (maxDD x xs).py = PySem.W.maxD x.py (D.pyL xs) := by
  rw [D.pyL_map]
  unfold maxDD PySem.W.maxD
  induction xs generalizing x with
  | nil => rfl
  | cons y ys ih =>
    rw [List.map_cons, List.foldl_cons, List.foldl_cons, ih]
    unfold dlt
    cases PySem.W.dataLt x.py y.py <;> rfl
theorem minDD_mem (x : D) (xs : List D) : minDD x xs ∈ x :: xs := by
  unfold minDD
  induction xs generalizing x with
  | nil => simp
  | cons y ys ih =>
    rw [List.foldl_cons]
    have := ih (if dlt y x then y else x)
    simp only [List.mem_cons] at this ⊢
    by_cases hc : dlt y x = true
    · rw [if_pos hc] at this ⊢; rcases this with h | h <;> simp [h]
    · rw [if_neg hc] at this ⊢; rcases this with h | h <;> simp [h]
theorem maxDD_mem (x : D) (xs : List D) : maxDD x xs ∈ x :: xs := by
  unfold maxDD
  induction xs generalizing x with
  | nil => simp
  | cons y ys ih =>
    rw [List.foldl_cons]
    have := ih (if dlt x y then y else x)
    simp only [List.mem_cons] at this ⊢
    by_cases hc : dlt x y = true
    · rw [if_pos hc] at this ⊢; rcases this with h | h <;> simp [h]
    · rw [if_neg hc] at this ⊢; rcases this with h | h <;> simp [h]
def rMinD (K : PySem.W.Frag) (f : PyData → List PyData → PyData) : List V → Hp → VK → Prop := fun vs H Q => ∃ (a : Addr) (us : List V) (d : PyData) (ds : List PyData), vs = [.ref a] ∧ (SqL K H a us ∨ SqT K H a us) ∧ DpAll K H us (d :: ds) ∧ PySem.W.AlikeAll (d :: ds) ∧ PyData.depthAll (d :: ds) ≤ 60 ∧
  ∀ (i : Nat) v, us[i]? = some v → (d :: ds)[i]? = some (f d ds) → Q v H
theorem DpAll.get {H : Hp} : ∀ {vs : List V} {ds : List PyData} {i : Nat} {v : V}, DpAll K H vs ds → vs[i]? = some v → ∃ d, ds[i]? = some d ∧ Dp K H v d
  | _, _, _, _, .nil, e => by simp at e
  | _, _, 0, _, .cons r _, e => by simp at e; subst e; exact ⟨_, rfl, r⟩
  | _, _, i + 1, v, .cons _ t, e => by
    obtain ⟨d, h1, h2⟩ := DpAll.get (i := i) (v := v) t (by simpa using e)
    exact ⟨d, by simpa using h1, h2⟩
theorem minD_pick {s : Shared} {pins : List (Addr × Obj)} {σ : L2.St} {H : Hp} {us : List V} {its : List Value} {d m : PyData} {ds : List PyData} {i : Nat} {v : Value} {h' : Heap} {bs : List Addr} (I : Inv X pins σ H s) (hd : DpAll X.K H us (d :: ds)) (rv : Vals us its) (al : PySem.W.AlikeAll (d :: ds)) (hm : m ∈ d :: ds)
    (hv : its.toArray[i]? = some v) (r : Reads h' v m bs) (hk : ∀ b o, s.heap.get? b = some o → h'.get? b = some o) : ∃ x, us[i]? = some x ∧ RelV x v ∧ (d :: ds)[i]? = some m := by
  have hv : its[i]? = some v := by simpa using hv
  cases hu : us[i]? with
  | none => rw [rv.none_of hu] at hv; cases hv
  | some x =>
    obtain ⟨u, h1, h2⟩ := rv.get hu
    rw [hv] at h1; cases h1
    obtain ⟨d2, h3, h4⟩ := DpAll.get hd hu
    obtain ⟨as, r2⟩ := Dp.reads I d2 x v h4 h2
    have r3 := PySem.W.reads_keeps hk r2
    have e := PySem.W.alike_unique d2 m v _ _ (al.1 d2 (List.mem_of_getElem? h3) m hm) r3 r
    rw [e] at h3
    exact ⟨x, rfl, h2, h3⟩
theorem minD_mem' (x : PyData) (xs : List PyData) : PySem.W.minD x xs ∈ x :: xs := by
  unfold PySem.W.minD
  induction xs generalizing x with
  | nil => simp
  | cons y ys ih =>
    rw [List.foldl_cons]
    have := ih (if PySem.W.dataLt y x then y else x)
    simp only [List.mem_cons] at this ⊢
    by_cases hc : PySem.W.dataLt y x = true
    · rw [if_pos hc] at this ⊢; rcases this with h | h <;> simp [h]
    · rw [if_neg hc] at this ⊢; rcases this with h | h <;> simp [h]
theorem maxD_mem' (x : PyData) (xs : List PyData) : PySem.W.maxD x xs ∈ x :: xs := by
  unfold PySem.W.maxD
  induction xs generalizing x with
  | nil => simp
  | cons y ys ih =>
    rw [List.foldl_cons]
    have := ih (if PySem.W.dataLt x y then y else x)
    simp only [List.mem_cons] at this ⊢
    by_cases hc : PySem.W.dataLt x y = true
    · rw [if_pos hc] at this ⊢; rcases this with h | h <;> simp [h]
    · rw [if_neg hc] at this ⊢; rcases this with h | h <;> simp [h]
theorem cr_minD (hc : X.calm = true) (hu : X.A.units + 64 < cLine) : CallR X (.builtin "min") (rMinD X.K PySem.W.minD) := by
  intro pins s σ H vs us Q I r h
  obtain ⟨a, xs, d, ds, rfl, hs, hd, al, hz, q⟩ := h
  rw [Vals.ref1 r]
  rcases hs with hs | hs
  · obtain ⟨its, rv, hl, _⟩ := I.list hs
    obtain ⟨as, hr⟩ := Dp.readsAll I (d :: ds) xs its hd rv
    refine PySem.W.min_list_data (I.ok.hd hc) hl.isList (by simpa using hr) al (by omega) fun i v h' tk bs hv r hk => ?_
    obtain ⟨x, h1, h2, h3⟩ := minD_pick I hd rv al (minD_mem' d ds) hv r hk
    exact ⟨x, H, I.kept (t' := tk) hk, h2, q i x h1 h3⟩
  · obtain ⟨its, rv, hl, _⟩ := I.tuple hs
    obtain ⟨as, hr⟩ := Dp.readsAll I (d :: ds) xs its hd rv
    refine PySem.W.min_tuple_data (I.ok.hd hc) (show s.heap.IsTuple a its.toArray from hl) (by simpa using hr) al (by omega) fun i v h' tk bs hv r hk => ?_
    obtain ⟨x, h1, h2, h3⟩ := minD_pick I hd rv al (minD_mem' d ds) hv r hk
    exact ⟨x, H, I.kept (t' := tk) hk, h2, q i x h1 h3⟩
theorem cr_maxD (hc : X.calm = true) (hu : X.A.units + 64 < cLine) : CallR X (.builtin "max") (rMinD X.K PySem.W.maxD) := by
  intro pins s σ H vs us Q I r h
  obtain ⟨a, xs, d, ds, rfl, hs, hd, al, hz, q⟩ := h
  rw [Vals.ref1 r]
  rcases hs with hs | hs
  · obtain ⟨its, rv, hl, _⟩ := I.list hs
    obtain ⟨as, hr⟩ := Dp.readsAll I (d :: ds) xs its hd rv
    refine PySem.W.max_list_data (I.ok.hd hc) hl.isList (by simpa using hr) al (by omega) fun i v h' tk bs hv r hk => ?_
    obtain ⟨x, h1, h2, h3⟩ := minD_pick I hd rv al (maxD_mem' d ds) hv r hk
    exact ⟨x, H, I.kept (t' := tk) hk, h2, q i x h1 h3⟩
  · obtain ⟨its, rv, hl, _⟩ := I.tuple hs
    obtain ⟨as, hr⟩ := Dp.readsAll I (d :: ds) xs its hd rv
    refine PySem.W.max_tuple_data (I.ok.hd hc) (show s.heap.IsTuple a its.toArray from hl) (by simpa using hr) al (by omega) fun i v h' tk bs hv r hk => ?_
    obtain ⟨x, h1, h2, h3⟩ := minD_pick I hd rv al (maxD_mem' d ds) hv r hk
    exact ⟨x, H, I.kept (t' := tk) hk, h2, q i x h1 h3⟩
/-- min, max: of two ints, of a list of ints, of a list or tuple of data that are alike -/
def fMinX (f2 : Int → Int → Int) (fI : Int → List Int → Int) (fD : D → List D → D) : List D → Store → Option (D × Store)
  | [.int i, .int j], S => some (.int (f2 i j), S)
  | [d], S => (seqOf d S).bind fun xs => match intsOf xs, lstOf d S with
    | some (n :: ns), some _ => some (.int (fI n ns), S)
    | _, _ => match xs with
      | [] => none
      | x :: xs => if D.fitL 31 (x :: xs) ∧ alikeB (x :: xs) then some (fD x xs, S) else none
  | _, _ => none
abbrev fMinA := fMinX (fun i j => if j < i then j else i) minI minDD
abbrev fMaxA := fMinX (fun i j => if j > i then j else i) maxI maxDD
theorem lstOf_seqOf {d : D} {S : Store} {xs : List D} (h : lstOf d S = some xs) : seqOf d S = some xs := by
  cases d with
  | lst _ => exact h
  | fr _ => exact h
  | ref _ => exact h
  | _ => cases h
theorem fMinX_s {f2 : Int → Int → Int} {fI : Int → List Int → Int} {fD : D → List D → D} {fP : PyData → List PyData → PyData} {rI : List V → Hp → VK → Prop} (hP : ∀ x xs, (fD x xs).py = fP x.py (D.pyL xs)) (hmem : ∀ x xs, fD x xs ∈ x :: xs)
    (hI : ∀ (a : Addr) (n : Int) (ns : List Int) (H : Hp) (Q : VK), SqL K H a ((n :: ns).map V.int) → Q (.int (fI n ns)) H → rI [.ref a] H Q) :
    CallS K (fun xs H Q => ((∃ i j, xs = [.int i, .int j] ∧ Q (.int (f2 i j)) H) ∨ rI xs H Q) ∨ rMinD K fP xs H Q) (fMinX f2 fI fD) := by
  intro w S H ds vs d S' Q k r hm q
  unfold fMinX at hm
  split at hm
  · cases hm
    obtain ⟨v1, v2, rfl, r1, r2⟩ := r.two_inv
    exact .inl (.inl ⟨_, _, by rw [r1.int_inv, r2.int_inv], q w H _ .refl k (.int _)⟩)
  · obtain ⟨xs, h1, hm⟩ := Option.bind_eq_some_iff.mp hm
    obtain ⟨v, rfl, r1⟩ := r.one_inv
    split at hm
    · rename_i n ns ys hi hl
      cases hm
      obtain ⟨a, us, rfl, h3, h4⟩ := lst_rd k r1 hl
      have e : xs = ys := by
        rw [lstOf_seqOf hl] at h1
        exact (Option.some.inj h1).symm
      subst e
      rw [intsOf_iff hi] at h4
      rw [h4.ints] at h3
      exact .inl (.inr (hI a n ns H Q h3 (q w H _ .refl k (.int _))))
    · cases xs with
      | nil => cases hm
      | cons x1 xs1 =>
        replace hm : (if D.fitL 31 (x1 :: xs1) ∧ alikeB (x1 :: xs1) then some (fD x1 xs1, S) else none) = some (d, S') := hm
        split at hm
        · rename_i hz
          cases hm
          obtain ⟨a, us, rfl, h3, h4⟩ := seq_rd k r1 h1
          have hdp := RpL.dp _ 31 us h4 hz.1
          have hal := (alikeB_of hz.1 hz.2).1
          have hdep := (D.fitL_lay _ 31 hz.1).2
          simp only [D.pyL] at hdp hal hdep
          refine .inr ⟨a, us, _, _, rfl, h3, hdp, hal, by omega, fun i v hv hd => ?_⟩
          obtain ⟨e, he, re⟩ := h4.get' hv
          have hpy : ((x1 :: xs1).map D.py)[i]? = some (fD x1 xs1).py := by
            rw [hP, List.map_cons, ← D.pyL_map]; exact hd
          rw [List.getElem?_map, he] at hpy
          have e2 : e.py = (fD x1 xs1).py := Option.some.inj hpy
          have fm : ∀ y ∈ x1 :: xs1, D.fit 31 y = true := fun y hy => by
            have := hz.1
            rw [D.fitL_all] at this
            exact List.all_eq_true.mp this y hy
          have e3 := D.py_inj e 31 31 (fD x1 xs1) (fm e (List.mem_of_getElem? he)) (fm _ (hmem _ _)) e2
          rw [← e3] at q
          exact q w H _ .refl k re
        · cases hm
  · cases hm
section
variable {p : Pos} {e : Expr} {es : List Expr} {ms : ML} {j : Nat}
theorem ae_min (hr : Room j X.A) (hc : X.calm = true) (hm : X.mg "min" = none) (ha : AA X (e :: es) ms) (hg : Gl X "min" := by rfl) (he : starEach (e :: es) X.env = (false, eval e X.env) :: starEach es X.env := by rfl) (hpl : (backTo pos (starEach es X.env)).any (·.1) = false := by rfl) : AE X (.Call (.Name "min" p) (e :: es) [] pos) (mCB fMinA ms) :=
  ae_callB (((call_min2 hc).or (cr_min hc)).or (cr_minD hc hr.units)) (fMinX_s minDD_py minDD_mem fun a n ns H Q hs q => ⟨a, n :: ns, rfl, hs, by simp, fun m h5 h6 => by rw [minI_eq _ _ m h5 h6]; exact q⟩) hm ha hg (by decide +kernel) (by decide) (by decide) he hpl
theorem ae_max (hr : Room j X.A) (hc : X.calm = true) (hm : X.mg "max" = none) (ha : AA X (e :: es) ms) (hg : Gl X "max" := by rfl) (he : starEach (e :: es) X.env = (false, eval e X.env) :: starEach es X.env := by rfl) (hpl : (backTo pos (starEach es X.env)).any (·.1) = false := by rfl) : AE X (.Call (.Name "max" p) (e :: es) [] pos) (mCB fMaxA ms) :=
  ae_callB (((call_max2 hc).or (cr_max hc)).or (cr_maxD hc hr.units)) (fMinX_s maxDD_py maxDD_mem fun a n ns H Q hs q => ⟨a, n :: ns, rfl, hs, by simp, fun m h5 h6 => by rw [maxI_eq _ _ m h5 h6]; exact q⟩) hm ha hg (by decide +kernel) (by decide) (by decide) he hpl
end
end
end DV

namespace PySem.SeqAt
open PySem PyProof.Rows
section
variable {A : Around} {s : Shared}
theorem dv_call_tuple_lt {prog : Program} {w : World} {E : Value → Shared → Prop} {Q : Value → Shared → Prop} {l b : Addr} {items items2 : Array Value} {e r : Nat → Bool} (hl : s.heap.IsTuple l items) (hb : s.heap.IsTuple b items2)
    (he : ∀ j (h1 : j < items.size) (h2 : j < items2.size), EqAt A.in1 s items[j] items2[j] (e j)) (hr : ∀ j (h1 : j < items.size) (h2 : j < items2.size), e j = false → RcLt A.in1 s items[j] items2[j] (r j))
    (h : Q (.bool (firstLt e r (decide (items.size < items2.size)) (List.range (min items.size items2.size)))) s) : wpAny (model prog w) A (call (.builtin "tuple.__lt__") [.ref l, .ref b]) Q E s := by
  obtain ⟨⟨cls, dd, data, sl⟩, ho, hc, n, hd⟩ := id hl
  obtain ⟨⟨cls2, dd2, data2, sl2⟩, ho2, hc2, n2, hd2⟩ := id hb
  simp only at hc hd hc2 hd2
  subst hc hd hc2 hd2
  exact call_meets F.slot_tuple_lt ⟨_, ho, rfl⟩ F.entry_tuple_lt (F.args_tuple_lt_2 _ _) (tuple_ltAt l b items items2 n n2 dd dd2 sl sl2 e r) ⟨ho, ho2, he, hr, h⟩
end
end PySem.SeqAt
namespace PySem.W
open PySem PySem.Calls PyProof.Rows PySem.SeqAt
section
variable {prog : Program} {w : World} {A : Around} {E : Value → Shared → Prop} {s : Shared}
theorem dv_oneLt_tuple {x y : List PyData} {a b : Value} {as bs : List Addr} {Q : Bool → Shared → Prop} (ra : Reads s.heap a (.tuple x) as) (rb : Reads s.heap b (.tuple y) bs) (h : alike (.tuple x) (.tuple y) = true)
    (hu : A.units + min (PyData.tuple x).depth (PyData.tuple y).depth < cLine) (hq : Q (dataLt (.tuple x) (.tuple y)) s) : wpAny (model prog w) A (oneLt' true a b) Q E s := by
  have hal : alikeAll x y = true := by simpa [alike] using h
  cases ra with
  | @tuple l o vs n _ _ h1 h2 h3 h4 =>
    cases rb with
    | @tuple l' o' vs' n' _ _ k1 k2 k3 k4 =>
      have n1 : vs.size = x.length := by simpa using SeqAt.ReadsAll.length _ _ _ h4
      have n2 : vs'.size = y.length := by simpa using SeqAt.ReadsAll.length _ _ _ k4
      rw [dataLt_tuple, ← firstLt_toks x y hal, ← n1, ← n2] at hq
      rw [oneLt'_eq]
      simp only [if_true]
      refine wpAny_bind (wpAny_cRoomFor (room_here hu) ?_)
      refine wpAny_bind (wpAny_callSpecialIfBound?_slot (T := "tuple") ⟨_, h1, h2⟩ F.slot_tuple_lt (dv_call_tuple_lt (e := pairEq x y) (r := fun j => dataLt (x.getD j .none) (y.getD j .none)) ⟨_, h1, h2, _, h3⟩ ⟨_, k1, k2, _, k3⟩ (fun j j1 j2 => ?_) (fun j j1 j2 hj => ?_) ?_))
      · have := eqAt_alikeAll x y A.in1 s vs.toList vs'.toList _ _ h4 k4 hal (room_in hu) j (by simpa using j1) (by simpa using j2)
        simpa using this
      · have := rcLt_alikeAll x y A.in1 s vs.toList vs'.toList _ _ h4 k4 hal (room_in hu) j (by simpa using j1) (by simpa using j2) hj
        simpa using this
      · exact wpAny_truthy_bool hq
/-- firsts of tuples -/
theorem dv_firsts {h : Heap} : ∀ {vs : List Value} {ds : List PyData}, EachIs (fun v d => ∃ as, Reads h v d as) vs ds → (∀ d, d ∈ ds → ∃ xs, d = .tuple xs) → ∃ fs : List (Option Value), fs.length = vs.length ∧ (fs.all (·.isSome) = true → ∀ d ∈ ds, ∃ x r, d = .tuple (x :: r)) ∧
      ∀ {M : Model} {A : Around} {E : Value → Shared → Prop} {s : Shared} {Q : List (Option Value) → Shared → Prop}, s.heap = h → Q fs s → wpAny M A (vs.mapM firstOfTuple') Q E s
  | _, _, .nil, _ => ⟨[], rfl, fun _ d hd => absurd hd (by simp), fun _ hq => by rw [List.mapM_nil]; exact wpAny_pure hq⟩
  | _, _, .cons (a := v) (as := vs) (b := d) (bs := ds) ⟨as, r⟩ t, ht => by
    obtain ⟨fs, h1, h2, h3⟩ := dv_firsts t fun d hd => ht d (List.mem_cons_of_mem _ hd)
    obtain ⟨xs, rfl⟩ := ht _ (List.mem_cons_self ..)
    cases r with
    | @tuple a o ys n _ _ ho hc hd hr =>
      refine ⟨ys[0]? :: fs, by simp [h1], fun ha d hd => ?_, fun {M A E s Q} hs hq => ?_⟩
      · simp only [List.all_cons, Bool.and_eq_true] at ha
        rcases List.mem_cons.mp hd with rfl | hd
        · have hlen : ys.size = xs.length := by simpa using SeqAt.ReadsAll.length _ _ _ hr
          cases xs with
          | nil => rw [Array.getElem?_eq_none (by rw [hlen]; exact Nat.zero_le _)] at ha; simp at ha
          | cons x r => exact ⟨x, r, rfl⟩
        · exact h2 ha.2 d hd
      · subst hs
        rw [List.mapM_cons]
        refine wpAny_bind ?_
        rw [kas_first_eq]
        refine wpAny_bind (Looks.here (show Looks M s.heap (typeOf (.ref a)) o.cls from (Looks.ld ho).andThen .now) ?_)
        rw [hc, if_neg (by first | decide | simp)]
        refine wpAny_bind (listItems_at ho hd (wpAny_pure ?_))
        exact wpAny_bind (h3 (Q := fun bs s' => wpAny M A (pure (ys[0]? :: bs)) Q E s') rfl (wpAny_pure hq))
/-- as Sortable, or all are tuples -/
def DvSortable (ds : List PyData) : Prop := Sortable ds ∨ ∀ d, d ∈ ds → ∃ xs, d = .tuple xs
theorem dv_SortsAt {vs : List Value} {ds : List PyData} (e : EachIs (fun v d => ∃ as, Reads s.heap v d as) vs ds) (hal : AllAlike ds) (hk : DvSortable ds) (hu : ∀ d, d ∈ ds → A.units + d.depth < cLine) : SortsAt prog w A s (dataKind s.heap ds) vs := by
  rcases hk with hk | ht
  · exact SortsAt.data e hal hk hu
  by_cases hne : ∀ d ∈ ds, ∃ x r, d = .tuple (x :: r)
  · exact SortsAt.data e hal (.inl hne) hu
  have room : ∀ {d d' : PyData}, d ∈ ds → A.units + min d.depth d'.depth < cLine := fun {d d'} hd => Nat.lt_of_le_of_lt (Nat.add_le_add_left (Nat.min_le_left _ _) _) (hu d hd)
  have lt1 : H.LtAt prog w A s (dataKind s.heap ds) oneType' := by
    intro E x y a b Q ha hb hq
    obtain ⟨d, as, hd, ra, rfl⟩ := dataKind_inv ha
    obtain ⟨d', as', hd', rb, rfl⟩ := dataKind_inv hb
    obtain ⟨xs, rfl⟩ := ht d hd
    obtain ⟨ys, rfl⟩ := ht d' hd'
    rw [keyLt'_oneType]
    exact dv_oneLt_tuple ra rb (hal _ hd _ hd') (room hd) hq
  have lt2 : H.LtAt prog w A s (dataKind s.heap ds) general' := by
    intro E x y a b Q ha hb hq
    obtain ⟨d, as, hd, ra, rfl⟩ := dataKind_inv ha
    obtain ⟨d', as', hd', rb, rfl⟩ := dataKind_inv hb
    obtain ⟨xs, rfl⟩ := ht d hd
    show wpAny (model prog w) A (oneLt' false x y) Q E s
    exact oneLt_alike (fun h => by simp at h) ra rb (hal _ hd d' hd') (by simp) (room hd) hq
  obtain ⟨fs, f1, f2, f3⟩ := dv_firsts e ht
  have hns : ¬ fs.all (·.isSome) = true := fun h => hne (f2 h)
  refine ⟨fun v hv => ?_, ?_⟩
  · obtain ⟨d, hd, as, r⟩ := e.left v hv
    exact ⟨_, dataKind_some hal hd r⟩
  · by_cases h0 : ((fs[0]?).bind id).isSome = true
    · refine ⟨general', lt2, fun h2 E Q hq => ?_⟩
      rw [kat_kind_eq, List.mapM_toArray, map_eq_pure_bind]
      refine wpAny_bind (wpAny_bind (f3 rfl (wpAny_pure ?_)))
      have hns' : ¬ (fs.toArray.all (·.isSome)) = true := by simpa using hns
      rw [if_neg hns', if_pos (by simpa using h0)]
      exact wpAny_pure hq
    · refine ⟨oneType', lt1, fun h2 E Q hq => ?_⟩
      rw [kat_kind_eq, List.mapM_toArray, map_eq_pure_bind]
      refine wpAny_bind (wpAny_bind (f3 rfl (wpAny_pure ?_)))
      have hns' : ¬ (fs.toArray.all (·.isSome)) = true := by simpa using hns
      rw [if_neg hns', if_neg (by simpa using h0)]
      rw [oneTypeOnly'_eq, List.mapM_toArray, map_eq_pure_bind]
      obtain ⟨v₁, rest, rfl⟩ : ∃ v₁ rest, vs = v₁ :: rest := by
        match vs, h2 with
        | v₁ :: rest, _ => exact ⟨v₁, rest, rfl⟩
      refine wpAny_bind (wpAny_bind (wpAny_bind (kas_mapM (r := Value.type "tuple") _ (fun v hv Q' hq => ?_) (wpAny_pure ?_))))
      · obtain ⟨d, hd, as, r⟩ := e.left v hv
        obtain ⟨xs, rfl⟩ := ht d hd
        exact (looks_reads r).here hq
      · have hall2 : ((List.map (fun _ => Value.type "tuple") (v₁ :: rest)).toArray.all fun x => x == Value.type "tuple") = true := by
          simp only [List.all_toArray, List.all_map, List.all_eq_true]
          intro _ _
          exact beq_self_eq_true _
        have h0 : (List.map (fun _ => Value.type "tuple") (v₁ :: rest)).toArray[0]? = some (Value.type "tuple") := by simp
        rw [h0]
        simp only [hall2, if_true]
        exact wpAny_pure (wpAny_pure hq)
end
end PySem.W

namespace PySem
set_option maxHeartbeats 1000000 in
theorem dv_meets_enumerate_newB {v : Value} {o : Obj} {H : Heap → Prop} (B : Begins v o H) :
    Meets (Builtin.«enumerate.__new__» ⟨[.type "enumerate", v], []⟩) (fun _ R s => H s.heap ∧
      R (.ok (.ret (.ref (s.heap.push o).objs.size))) { s with heap := (s.heap.push o).push { cls := .type "enumerate", data := .fields #[.none, .bool false, .ref s.heap.objs.size, rawInt 0, .none, .none] } }) :=
  .of_wp fun prog w A R s h => by
    obtain ⟨hp, g, d, tk, os⟩ := s; obtain ⟨h1, h⟩ := h
    have hsub := sub_enumerate
    have q1 : ∀ {A' : Around} {E : Value → Shared → Prop} {Q : Value → Shared → Prop}, Q (.ref hp.objs.size) ⟨hp.push o, g, d, tk, os⟩ → wpAny (model prog w) A' (pyIter v) Q E ⟨hp, g, d, tk, os⟩ :=
      fun q => B.iter prog w _ _ ⟨hp, g, d, tk, os⟩ _ h1 q
    wp_walk using q1
    refine wpAny_stack_any fun st => wpAny_pure ?_
    split
    · rename_i c _ _ _ _ _
      cases (c == Value.type "enumerate")
      · wp_walk using q1
        exact ⟨_, rfl, h⟩
      · wp_walk using q1
        exact ⟨_, rfl, h⟩
    · wp_walk using q1
      exact ⟨_, rfl, h⟩
theorem dv_enum_begins {prog : Program} {w : World} {A : Around} {E : Value → Shared → Prop} {s : Shared} {v : Value} {o : Obj} {H : Heap → Prop} {Q : Value → Shared → Prop} (B : Begins v o H) (h1 : H s.heap)
    (h : ∀ h', IsEnum h' (s.heap.objs.size + 1) s.heap.objs.size 0 .none → h'.get? s.heap.objs.size = some o → h'.objs.size = s.heap.objs.size + 2 →
      (∀ b o, s.heap.get? b = some o → h'.get? b = some o) → Q (.ref (s.heap.objs.size + 1)) { s with heap := h' }) :
    wpAny (model prog w) A (call (.type "enumerate") [v]) Q E s := by
  refine callType_new F.called_enumerate (by decide) (F.typeCall_enumerate_1 _) (F.newCall_enumerate_1 _) (fun obj => F.args_object_init_2 obj _) F.entry_enumerate_new
    (dv_meets_enumerate_newB B) ⟨h1, ?_⟩
  have hz : (s.heap.push o).objs.size = s.heap.objs.size + 1 := Heap.size_push ..
  show _ ∧ _
  rw [hz]
  have he : IsEnum ((s.heap.push o).push { cls := .type "enumerate", data := .fields #[.none, .bool false, .ref s.heap.objs.size, rawInt 0, .none, .none] }) (s.heap.objs.size + 1) s.heap.objs.size 0 .none := by
    have := Heap.get?_push_size (s.heap.push o) (o := { cls := .type "enumerate", data := .fields #[.none, .bool false, .ref s.heap.objs.size, rawInt 0, .none, .none] }) rfl
    rw [hz] at this; exact this
  refine ⟨⟨_, he, rfl⟩, h _ he (Heap.get?_push_of_some _ (Heap.get?_push_size _ B.free)) (by rw [Heap.size_push, hz]) fun b o x => Heap.get?_push_of_some _ (Heap.get?_push_of_some _ x)⟩
theorem pyNext_enumT_end {prog : Program} {w : World} {A : Around} {E : Value → Shared → Prop} {s : Shared} {e it a : Addr} {i : Nat} {old : Value} {its : Array Value} {Q : Option Value → Shared → Prop} (hh : A.handled = none)
    (he : IsEnum s.heap e it i old) (hit : s.heap.IsTupleIter it a i) (hl : s.heap.IsTuple a its) (hx : its[i]? = none)
    (hQ : ∀ h', Heap.ExtBut it s.heap h' → Q none { s with heap := h' }) : wpAny (model prog w) A (pyNext (.ref e)) Q E s := by
  have hT : s.TypeIs (.ref e) "enumerate" := ⟨_, he, rfl⟩
  unfold pyNext
  refine wpAny_bind (wpAny_attempt (wpAny_callSpecial?_slot (name := Str.ofString "__next__") hT F.slot_enumerate_next
    (wpAny_call_entry F.slot_enumerate_next hT F.entry_enumerate_next ?_ (F.args_enumerate_next_1 _))))
  show wpAny _ _ (field (.ref e) 2 >>= _) _ _ _
  refine wpAny_bind (wpAny_field he rfl (x := .ref it) rfl ?_)
  refine wpAny_bind (wpAny_nextOf_tuple_end (A := A.in1) hh hit hl hx fun h' x he' hx' => ?_)
  obtain ⟨o, ho, hc⟩ := hx'
  refine wpAny_bind (wpAny_isInstance (T := "StopIteration") (b := true) ⟨o, ho, hc⟩ isSubtype_stop ?_)
  exact wpAny_pure (hQ _ he')
end PySem
namespace DV
open PySem PySem.Spec PyProof.Rows L2
section
variable {X : Cx} {K : PySem.W.Frag}
/-! ### enumerate of a list or a tuple -/
def IteT (K : PySem.W.Frag) (a : Addr) : It :=
  ⟨fun i H => ∃ (xs : List V) (x : V), SqT K H a xs ∧ xs[i]? = some x, fun i H v H' => ∃ T x, v = .ref T ∧ H T = none ∧ H' = upd H T (.tup [.int (i : Nat), x]) ∧ ∀ xs, SqT K H a xs → xs[i]? = some x, fun i H => ∃ xs : List V, SqT K H a xs ∧ xs.length ≤ i⟩
theorem turn_enumT {P : Program} {w : World} {K : PySem.W.Frag} {elts : List Expr} {kk : Nat} {tpos : Pos} (a e it : Addr) (hai : a ≠ it) :
    Turn P w K (.Tuple elts kk tpos) (IteT K a) [e, it] e (fun i h => (∃ old, IsEnum h e it ((i : Nat) : Int) old) ∧ h.IsTupleIter it a i ∧ e ≠ it ∧ e ≠ a) where
  mem := by simp
  obj := fun i h st b hb => by
    obtain ⟨⟨old, he⟩, ⟨o, ho, hc, hd⟩, _⟩ := st
    have e' : b = e ∨ b = it := by simpa using hb
    rcases e' with z | z
    · rw [z]; exact ⟨_, he, fun v q => nomatch q⟩
    · rw [z]; exact ⟨o, ho, fun v q => by rw [hd] at q; cases q⟩
  keep := fun i h h' st k => let ⟨⟨old, he⟩, hi, hne⟩ := st; ⟨⟨old, k e (by simp) _ he⟩, hi.at fun o q => k it (by simp) o q, hne⟩
  item := by
    intro X hP hw hK hc i pins s σ H E I hf st hg
    subst hP hw hK
    obtain ⟨⟨old, he⟩, hit, hne, hea⟩ := st
    obtain ⟨xs, x, hq, hx⟩ := hg
    obtain ⟨its, rv, p, hz⟩ := I.tuple hq
    obtain ⟨u, hu, ru⟩ := rv.get hx
    have hel : e < s.heap.objs.size := Heap.lt_size he
    have hil : it < s.heap.objs.size := by obtain ⟨_, q, _⟩ := hit; exact Heap.lt_size q
    have hlt : i < its.toArray.size := by have := (List.getElem?_eq_some_iff.mp hu).1; simpa using this
    refine wpAny_pyNext_enum_itemD (Draws.tuple (A := X.A.in1) (show X.A.in1.handled = none from I.ok.hd hc) it a hai its.toArray) he ⟨hit, (show s.heap.IsTuple a its.toArray from p)⟩ hlt hne (by simp [hne, hea]) fun x1 h' tk hP ho hst hT hsz hk => ?_
    have e1 : x1 = u := by
      have : its[i]? = some x1 := by simpa using hP
      rw [hu] at this; exact (Option.some.inj this).symm
    subst e1
    refine ⟨_, rfl, wpAny_letOwnedTupleGo_enum (s := { s with heap := h', toks := tk + 1 }) ho fun h'' he' sb => ?_⟩
    have hT2 : h''.get? s.heap.objs.size = some { cls := .type "tuple", data := .seq #[.int i tk, x1] } := (sb.2 _ (Nat.ne_of_gt hel)).trans hT
    have new : ObjOk X.prog X.w (upd H s.heap.objs.size (.tup [.int (i : Nat), x])) h'' s.heap.objs.size (.tup [.int (i : Nat), x]) :=
      ⟨by show 2 ≤ sizeLine; decide, [.int i tk, x1], .cons ⟨_, rfl⟩ (.cons ru .nil), ⟨_, hT2, rfl, _, rfl⟩⟩
    have I1 : Inv X pins σ (upd H s.heap.objs.size (.tup [.int (i : Nat), x])) { s with heap := h'', toks := tk + 1 } :=
      I.turnedNew (ch := [e, it]) (fun b ob hb q => (sb.2 b (fun z => hb (by simp [z]))).trans (hk b ob (fun z => hb (by simp [z])) (fun z => hb (by simp [z])) q)) hf (Nat.le_refl _) new
    refine ⟨.ref s.heap.objs.size, _, I1, rfl, ⟨_, x, rfl, I.hok.fresh (Nat.le_refl _), rfl, fun ys hy => by rw [I.tuple_inj hy hq]; exact hx⟩, ⟨⟨x1, ?_⟩, hst.1.at fun o q => (sb.2 it (Ne.symm hne)).trans q, hne, hea⟩, fun b hb => ?_⟩
    · have e1 : ((i + 1 : Nat) : Int) = (i : Int) + 1 := by omega
      rw [e1]; exact he'
    · have hb' : b < s.heap.objs.size := by
        have e' : b = e ∨ b = it := by simpa using hb
        rcases e' with z | z
        · rw [z]; exact hel
        · rw [z]; exact hil
      rw [upd_ne (Nat.ne_of_lt hb')]
      exact (hf b hb).1
  done := by
    intro X hP hw hK hc i pins s σ H E I hf st hg
    subst hP hw hK
    obtain ⟨⟨old, he⟩, hit, hne, hea⟩ := st
    obtain ⟨xs, hq, hx⟩ := hg
    obtain ⟨its, rv, p, hz⟩ := I.tuple hq
    obtain ⟨f0, f1, f2, f3, f4, f5⟩ := hf it (by simp)
    have hl := rv.length
    exact pyNext_enumT_end (I.ok.hd hc) he hit p (by simp; omega) fun h' eb => ⟨rfl, I.turned (t' := s.toks) (fun b o hb q => eb b o hb q) f0 f1 f3 f4 f5⟩
  self := fun A i s Q E st h => let ⟨⟨_, he⟩, _⟩ := st; wpAny_pyIter_enum he h
theorem PI.or {X : Cx} {tg it : Expr} {t t' : TI} (h : PI X tg it t) (h' : PI X tg it t') : PI X tg it (fun σ H R => t σ H R ∨ t' σ H R) := ⟨fun pins s σ H R I q => q.elim (fun q => h.run pins s σ H R I q) fun q => h'.run pins s σ H R I q⟩
theorem pi_enumT {e : Expr} {ta : TA} {p pos tpos : Pos} {elts : List Expr} {kk : Nat} (hg : Gl X "enumerate") (hm : X.mg "enumerate" = none) (ha : PA X [e] ta) (hs : starEach [e] X.env = [(false, eval e X.env)] := by rfl) :
    PI X (.Tuple elts kk tpos) (.Call (.Name "enumerate" p) [e] [] pos) (fun σ H R => ta σ H fun vs H1 => ∃ a xs, vs = [.ref a] ∧ SqT X.K H1 a xs ∧ R (IteT X.K a) H1) := by
  refine ⟨fun pins s σ H R I h => ?_⟩
  refine Call_ (ld_blt I hg hm boot_enumerate (PyProof.Rows.callWith_type1 (thn (ha.run pos pins s σ H _ I h) fun us s1 ⟨vs, H1, I1, r1, q1⟩ => ?_) hs rfl))
  obtain ⟨a, xs, ex, hq, q⟩ := q1
  subst ex
  cases r1 with
  | cons r rr =>
    cases rr
    cases r
    obtain ⟨its, rv, p', hz⟩ := I1.tuple hq
    have hal : a < s1.heap.objs.size := by obtain ⟨o, ho, _⟩ := p'; exact Heap.lt_size ho
    refine dv_enum_begins (begins_tuple a its.toArray) (show s1.heap.IsTuple a its.toArray from p') fun h' he hit hsz hk => wpAny_pyIter_enum he ?_
    have I2 : Inv X pins σ H1 { s1 with heap := h' } := I1.kept (t' := s1.toks) hk
    refine ⟨s1.heap.objs.size + 1, [s1.heap.objs.size + 1, s1.heap.objs.size], _, _, H1, rfl, I2, turn_enumT a (s1.heap.objs.size + 1) s1.heap.objs.size (Nat.ne_of_lt hal), ⟨⟨.none, he⟩, ⟨_, hit, rfl, rfl⟩, Nat.succ_ne_self _, Nat.ne_of_gt (Nat.lt_succ_of_lt hal)⟩, fun b hb => ?_, q⟩
    have e' : b = s1.heap.objs.size + 1 ∨ b = s1.heap.objs.size := by simpa using hb
    have hle : s1.heap.objs.size ≤ b := by
      rcases e' with z | z
      · rw [z]; exact Nat.le_add_right _ _
      · rw [z]; exact Nat.le_refl _
    exact I1.fpOk hle (I1.hok.fresh hle)
section
variable {w : Wd} {H : Hp} {S : Store}
theorem walkE_of {w : Wd} {H : Hp} {J J' : It} {src : Src} (W : WalkOk K w H J src) (hgo : ∀ i H, J.go i H → J'.go i H) (hst : ∀ i H, J.stop i H → J'.stop i H)
    (hy : ∀ i H v H', J.go i H → J'.yld i H v H' → ∃ T x, v = .ref T ∧ H T = none ∧ H' = upd H T (.tup [.int (i : Nat), x]) ∧ J.yld i H x H) : WalkOk K w H J' src.enum := fun i w1 H1 S1 s1 k1 => by
  obtain ⟨go, st⟩ := W i w1 H1 S1 s1 k1
  refine ⟨fun d hd => ?_, fun hn => ?_⟩
  · simp only [Src.enum] at hd
    cases hg : src.get i S1 with
    | none => rw [hg] at hd; cases hd
    | some o =>
      rw [hg] at hd
      cases o with
      | none => cases hd
      | some d0 =>
        have hd : D.tup [.int (i : Nat), d0] = d := Option.some.inj (Option.some.inj hd)
        subst hd
        obtain ⟨g1, g2⟩ := go d0 hg
        refine ⟨hgo i H1 g1, fun v H' y => ?_⟩
        obtain ⟨T, x, rfl, hT, rfl, hx⟩ := hy i H1 v H' g1 y
        obtain ⟨_, _, rx⟩ := g2 x H1 hx
        exact ⟨.new hT, k1.laid hT, .tup (k1.new hT) (.inl upd_same) (.cons (.int _) (.cons (rx.mono (.new hT)) .nil))⟩
  · simp only [Src.enum] at hn
    cases hg : src.get i S1 with
    | none => rw [hg] at hn; cases hn
    | some o =>
      cases o with
      | none => exact hst i H1 (st hg)
      | some d => rw [hg] at hn; cases hn
theorem walkE_L {a : Addr} {src : Src} (W : WalkOk K w H (Itl K a) src) : WalkOk K w H (Ite K a) src.enum := walkE_of W (fun _ _ g => let ⟨xs, x, h1, h2⟩ := g; ⟨xs, x, h1, h2⟩) (fun _ _ g => g) fun i H v H' g ⟨T, x, e1, e2, e3, e4⟩ => ⟨T, x, e1, e2, e3, rfl, e4⟩
theorem walkE_T {a : Addr} {src : Src} (W : WalkOk K w H (Itt K a) src) : WalkOk K w H (IteT K a) src.enum := walkE_of W (fun _ _ g => let ⟨xs, x, h1, h2⟩ := g; ⟨xs, x, h1, h2⟩) (fun _ _ g => g) fun i H v H' g ⟨T, x, e1, e2, e3, e4⟩ => ⟨T, x, e1, e2, e3, rfl, e4⟩
end
def mEnum (m : ME) : MI := fun e S => (m e S).bind fun (d, S1) => match d with
  | .rng _ _ => none
  | _ => (srcOf d S1).bind fun s => some (s.enum, S1)
theorem ai_enum {e : Expr} {m : ME} {p pos tpos : Pos} {elts : List Expr} {kk : Nat} (hm : X.mg "enumerate" = none) (he : AE X e m) (hg : Gl X "enumerate" := by rfl) (hs : starEach [e] X.env = [(false, eval e X.env)] := by rfl) (hs2 : starEach [e] X.env = (false, eval e X.env) :: starEach [] X.env := by rfl) :
    AI X (.Tuple elts kk tpos) (.Call (.Name "enumerate" p) [e] [] pos) (mEnum m) := PI.imp (PI.or (pi_enum hg hm (pa_cons he pa_nil hs2) hs) (pi_enumT hg hm (pa_cons he pa_nil hs2) hs)) fun σ H R ⟨w, e, S, src, S', re, k, hm, q⟩ => by
  unfold mEnum at hm
  obtain ⟨⟨d, S1⟩, h1, hm⟩ := Option.bind_eq_some_iff.mp hm
  cases d with
  | tup xs =>
    obtain ⟨s, h2, hm⟩ := Option.bind_eq_some_iff.mp (show (srcOf (.tup xs) S1).bind _ = _ from hm)
    cases h2
    cases hm
    refine .inr ⟨w, e, S, _, _, re, k, h1, fun w1 H1 v s1 k1 r1 => ?_⟩
    cases r1 with
    | tup o h l => exact ⟨_, _, rfl, .inl h, q w1 H1 _ s1 k1 (walkE_T (walk_T (.inl h) (fun _ _ => o) l))⟩
    | tupK h l => exact ⟨_, _, rfl, SqT.none_mono h, q w1 H1 _ s1 k1 (walkE_T (walkT_of h l))⟩
  | lst xs =>
    obtain ⟨s, h2, hm⟩ := Option.bind_eq_some_iff.mp (show (srcOf (.lst xs) S1).bind _ = _ from hm)
    cases h2
    cases hm
    refine .inl ⟨w, e, S, _, _, re, k, h1, fun w1 H1 v s1 k1 r1 => ?_⟩
    obtain ⟨a, vs, rfl, o, h, l⟩ := r1.lst_inv
    exact ⟨a, _, rfl, .of h, q w1 H1 _ s1 k1 (walkE_L (walk_L (.of h) (fun _ _ => o) l))⟩
  | fr xs =>
    obtain ⟨s, h2, hm⟩ := Option.bind_eq_some_iff.mp (show (srcOf (.fr xs) S1).bind _ = _ from hm)
    cases h2
    cases hm
    refine .inl ⟨w, e, S, _, _, re, k, h1, fun w1 H1 v s1 k1 r1 => ?_⟩
    cases r1 with
    | fr o h l => exact ⟨_, _, rfl, .inl h, q w1 H1 _ s1 k1 (walkE_L (walk_L (.inl h) (fun _ _ => o) l))⟩
    | frK h l => exact ⟨_, _, rfl, SqL.none_mono h, q w1 H1 _ s1 k1 (walkE_L (walkL_of h l))⟩
  | ref i =>
    obtain ⟨s, h2, hm⟩ := Option.bind_eq_some_iff.mp (show (srcOf (.ref i) S1).bind _ = _ from hm)
    unfold srcOf at h2
    simp only at h2
    split at h2
    · rename_i xs hx
      cases h2
      cases hm
      refine .inl ⟨w, e, S, _, _, re, k, h1, fun w1 H1 v s1 k1 r1 => ?_⟩
      obtain ⟨a, rfl, h⟩ := r1.ref_inv
      obtain ⟨vs, h3, h4⟩ := k1.lst h hx
      exact ⟨a, vs, rfl, .of h3, q w1 H1 _ s1 k1 (walkE_L (walk_S h))⟩
    · cases h2
  | _ => simp [srcOf] at hm

/-! ### dicts of the store, keys ints and texts -/
def dGet (kvs : List (D × D)) (k : D) : Option D := (kvs.find? fun p => decide (p.1 = k)).map (·.2)
def dPut (kvs : List (D × D)) (k v : D) : List (D × D) := if (kvs.any fun p => decide (p.1 = k)) = true then kvs.map (fun p => if p.1 = k then (p.1, v) else p) else kvs ++ [(k, v)]
theorem RKey.inj {d d' : D} {k k' : Key} (r : RKey d k) (r' : RKey d' k') : (d = d') ↔ (k = k') := by
  cases r <;> cases r' <;> simp
theorem RKey.kV {d : D} {k : Key} (r : RKey d k) {w : Wd} {H : Hp} {v : V} (q : Rp K w H d v) : v = L2.kV k := by
  cases r with
  | int i => rw [q.int_inv]; rfl
  | str x => rw [q.str_inv]; rfl
def keyOf : D → Option Key
  | .int i => some (.inl i)
  | .str x => some (.inr x)
  | _ => none
theorem keyOf_r {d : D} {k : Key} (h : keyOf d = some k) : RKey d k := by
  unfold keyOf at h
  split at h <;> cases h
  · exact .int _
  · exact .str _
section
variable {w : Wd} {H : Hp}
theorem RDk.get {d : D} {k : Key} (rk : RKey d k) : ∀ {ds : List (D × D)} {ks : List (Key × V)}, RDk K w H ds ks → (dGet ds d = none ∧ valV ks k = none) ∨ ∃ e v, dGet ds d = some e ∧ valV ks k = some v ∧ Rp K w H e v
  | _, _, .nil => .inl ⟨rfl, rfl⟩
  | _, _, .cons (d := d') (k := k') (e := e) (v := v) rk' r t => by
    by_cases h : d' = d
    · refine .inr ⟨e, v, ?_, valV_pos ((rk'.inj rk).mp h), r⟩
      simp [dGet, h]
    · have hk : ¬ k' = k := fun z => h ((rk'.inj rk).mpr z)
      have e1 : ∀ l : List (D × D), dGet ((d', e) :: l) d = dGet l d := fun l => by simp only [dGet, List.find?_cons, decide_eq_false h]
      rw [e1, valV_neg (p := (k', v)) hk]
      exact RDk.get rk t
theorem RDk.any {d : D} {k : Key} (rk : RKey d k) : ∀ {ds : List (D × D)} {ks : List (Key × V)}, RDk K w H ds ks → (ds.any fun p => decide (p.1 = d)) = ks.any fun p => decide (p.1 = k)
  | _, _, .nil => rfl
  | _, _, .cons rk' r t => by
    simp only [List.any_cons, RDk.any rk t]
    congr 1
    exact decide_eq_decide.mpr (rk'.inj rk)
theorem RDk.map {d e : D} {k : Key} {v : V} (rk : RKey d k) (re : Rp K w H e v) : ∀ {ds : List (D × D)} {ks : List (Key × V)}, RDk K w H ds ks → RDk K w H (ds.map fun p => if p.1 = d then (p.1, e) else p) (ks.map fun p => if p.1 = k then (p.1, v) else p)
  | _, _, .nil => .nil
  | _, _, .cons (d := d') (k := k') rk' r t => by
    simp only [List.map_cons]
    by_cases h : d' = d
    · rw [if_pos h, if_pos ((rk'.inj rk).mp h)]
      exact .cons rk' re (RDk.map rk re t)
    · rw [if_neg h, if_neg fun z => h ((rk'.inj rk).mpr z)]
      exact .cons rk' r (RDk.map rk re t)
theorem RDk.append : ∀ {ds es : List (D × D)} {ks ls : List (Key × V)}, RDk K w H ds ks → RDk K w H es ls → RDk K w H (ds ++ es) (ks ++ ls)
  | _, _, _, _, .nil, s => s
  | _, _, _, _, .cons k r t, s => .cons k r (RDk.append t s)
theorem RDk.put {d e : D} {k : Key} {v : V} (rk : RKey d k) (re : Rp K w H e v) {ds : List (D × D)} {ks : List (Key × V)} (r : RDk K w H ds ks) : RDk K w H (dPut ds d e) (putK ks k v) := by
  unfold dPut putK
  rw [r.any rk]
  split
  · exact r.map rk re
  · exact r.append (.cons rk re .nil)
theorem RDk.length : ∀ {ds : List (D × D)} {ks : List (Key × V)}, RDk K w H ds ks → ds.length = ks.length
  | _, _, .nil => rfl
  | _, _, .cons _ _ t => by simp [RDk.length t]
end
theorem Ok.dct {w : Wd} {S : Store} {H : Hp} (k : Ok K w S H) {p : Nat} {a : Addr} {kvs : List (D × D)} (h : w.rho[p]? = some a) (hs : S[p]? = some (.dct kvs)) : ∃ ks, H a = some (.dK ks) ∧ RDk K w H kvs ks := by
  obtain ⟨x, h1, h2⟩ := k.ob p a _ h hs
  cases h2 with
  | dK r => exact ⟨_, h1, r⟩
def mDict : ME := fun _ S => some (.ref S.length, S ++ [.dct []])
theorem rho_add {w : Wd} {S : Store} {H : Hp} (k : Ok K w S H) (p : Addr) : (w.add p).rho[S.length]? = some p := by
  show (w.rho ++ [p])[S.length]? = some p
  rw [← k.len, List.getElem?_append_right (Nat.le_refl _)]
  simp
theorem rho_mono {w w' : Wd} {H H' : Hp} (s : Stp w H w' H') {p : Nat} {a : Addr} (h : w.rho[p]? = some a) : w'.rho[p]? = some a := by
  obtain ⟨m, e⟩ := s.pre
  rw [e, List.getElem?_append_left (List.getElem?_eq_some_iff.mp h).1]; exact h
theorem ae_dict {pos : Pos} : AE X (.Dict [] [] pos) mDict := PE.imp pe_dnewK fun σ H Q ⟨w, e, S, d, S', re, k, hm, q⟩ => by
  cases hm
  intro p hp
  exact q _ _ _ (.add hp) (k.add hp (.dK .nil)) (.ref (rho_add k p))
/-- d[k] = v -/
def mSetK (m mo mi : ME) : MS := fun e S => (m e S).bind fun (v, S1) => (mo e S1).bind fun (o, S2) => (mi e S2).bind fun (i, S3) => match o, keyOf i with
  | .ref p, some _ => match S3[p]? with
    | some (.dct kvs) => if kvs.length < LIM then some (.nx e, S3.set p (.dct (dPut kvs i v))) else none
    | _ => none
  | _, _ => none
theorem as_setK {o i e : Expr} {m mo mi : ME} {pos pos' : Pos} {j : Nat} (hr : Room j X.A) (he : AE X e m) (ho : AE X o mo) (hi : AE X i mi) (hs : swapsWith e (some (.Subscript o i pos')) pos.line X.env = pure false := by rfl) :
    AS X (.Assign [.Subscript o i pos'] e pos) (mSetK m mo mi) := PS.imp (ps_dput (hu_of hr) ho hi he hs) fun D σ H ⟨w, e, S, fl, S', re, k, hm, q⟩ => by
  unfold mSetK at hm
  obtain ⟨⟨v, S1⟩, h1, hm⟩ := Option.bind_eq_some_iff.mp hm
  obtain ⟨⟨o1, S2⟩, h2, hm⟩ := Option.bind_eq_some_iff.mp hm
  obtain ⟨⟨i1, S3⟩, h3, hm⟩ := Option.bind_eq_some_iff.mp hm
  cases o1 with
  | ref p =>
    cases hk : keyOf i1 with
    | none => simp only [hk] at hm; cases hm
    | some kk =>
      simp only [hk] at hm
      split at hm
      · rename_i kvs hx
        split at hm
        · rename_i hz
          cases hm
          refine ⟨w, e, S, v, S1, re, k, h1, fun w1 H1 u s1 k1 r1 => ⟨w1, e, S1, _, S2, re.mono s1, k1, h2, fun w2 H2 u2 s2 k2 r2 => ⟨w2, e, S2, _, S3, (re.mono s1).mono s2, k2, h3, fun w3 H3 u3 s3 k3 r3 => ?_⟩⟩⟩
          obtain ⟨a, rfl, ha⟩ := (r2.mono s3).ref_inv
          obtain ⟨ks, h5, h6⟩ := k3.dct ha hx
          have rk := keyOf_r hk
          refine ⟨a, upd H3 a (.dK (putK ks kk u)), rfl, by rw [rk.kV r3]; exact DPut.k h5 (by rw [lim_eq, ← h6.length]; exact hz), ?_⟩
          have rv := ((r1.mono s2).mono s3)
          have st := Stp.put (H := H3) (o := .dK (putK ks kk u)) (List.mem_of_getElem? ha)
          exact q w3 _ (((s1.trans s2).trans s3).trans st) (k3.put ha (.dK (h6.put rk rv))) σ ((((re.mono s1).mono s2).mono s3).mono st)
        · cases hm
      · cases hm
  | _ => cases hm
/-- d.get(k, x) -/
def mGet2 (mo mi mx : ME) : ME := fun e S => (mo e S).bind fun (o, S1) => match o with
  | .ref p => match S1[p]? with
    | some (.dct _) => (mi e S1).bind fun (i, S2) => (mx e S2).bind fun (x, S3) => match S3[p]?, keyOf i with
      | some (.dct kvs), some _ => some ((dGet kvs i).getD x, S3)
      | _, _ => none
    | _ => none
  | _ => none
theorem ae_get2 {o i x : Expr} {mo mi mx : ME} {apos cpos : Pos} {j : Nat} (hr : Room j X.A) (ho : AE X o mo) (hi : AE X i mi) (hx : AE X x mx) (hbase : attributeBase o "get" X.env (eval o X.env) = eval o X.env := by rfl)
    (hfew : ((backTo cpos (starEach [i, x] X.env)).all (fun x => !x.1) && (backToKw cpos (keywordEach [] X.env)).all (fun x => x.1.isSome)
      && decide (([i, x] : List Expr).length + ([] : List Keyword).length + (if ([] : List Keyword).isEmpty then 0 else 1) < 30)) = true := by rfl)
    (hline : (apos.endLine == cpos.line) = true := by rfl) (ht : backTo cpos (starEach [i, x] X.env) = [(false, eval i X.env), (false, eval x X.env)] := by rfl) :
    AE X (.Call (.Attribute o "get" apos) [i, x] [] cpos) (mGet2 mo mi mx) := PE.imp (pe_dget2 (hu_of hr) ho hi hx ⟨hbase, hfew, hline, ht⟩) fun σ H Q ⟨w, e, S, d, S', re, k, hm, q⟩ => by
  unfold mGet2 at hm
  obtain ⟨⟨o1, S1⟩, h1, hm⟩ := Option.bind_eq_some_iff.mp hm
  simp only at hm
  split at hm
  · split at hm
    · rename_i kvs0 hx0
      obtain ⟨⟨i1, S2⟩, h2, hm⟩ := Option.bind_eq_some_iff.mp hm
      obtain ⟨⟨x1, S3⟩, h3, hm⟩ := Option.bind_eq_some_iff.mp hm
      simp only at hm
      split at hm
      · rename_i kvs kk hx hk
        cases hm
        refine ⟨w, e, S, _, S1, re, k, h1, fun w1 H1 u s1 k1 r1 => ?_⟩
        obtain ⟨a, rfl, ha⟩ := r1.ref_inv
        obtain ⟨ks0, h50, _⟩ := k1.dct ha hx0
        refine ⟨a, rfl, .inl ⟨ks0, .inl h50⟩, w1, e, S1, i1, S2, re.mono s1, k1, h2, fun w2 H2 u2 s2 k2 r2 => ⟨w2, e, S2, x1, _, (re.mono s1).mono s2, k2, h3, fun w3 H3 u3 s3 k3 r3 => ?_⟩⟩
        have ha3 := rho_mono s3 (rho_mono s2 ha)
        obtain ⟨ks, h5, h6⟩ := k3.dct ha3 hx
        have rk := keyOf_r hk
        refine ⟨valV ks kk, by rw [rk.kV (r2.mono s3)]; exact DGet.k h5, ?_⟩
        rcases h6.get rk with ⟨e1, e2⟩ | ⟨z, v, e1, e2, rz⟩
        · rw [e1] at q
          rw [e2]
          exact q w3 H3 _ ((s1.trans s2).trans s3) k3 r3
        · rw [e1] at q
          rw [e2]
          exact q w3 H3 _ ((s1.trans s2).trans s3) k3 rz
      · cases hm
    · cases hm
  · cases hm
/-- {k: v for ..}: a new dict of the store -/
def dcGo (get : Nat → Store → Option (Option D)) (bind : D → Ev → Option Ev) (tt : MT) (mk mv : ME) (e0 : Ev) : Nat → Nat → Store → List (D × D) → Option (List (D × D) × Store)
  | 0, i, S, acc => match get i S with
    | some none => some (acc, S)
    | _ => none
  | n + 1, i, S, acc => match get i S with
    | some none => some (acc, S)
    | some (some d) => (bind d e0).bind fun e1 => (tt e1 S).bind fun (b, S1) => if b then (mk e1 S1).bind fun (y, S2) => (mv e1 S2).bind fun (z, S3) => match keyOf y with
        | some _ => if acc.length < LIM then dcGo get bind tt mk mv e0 n (i + 1) S3 (dPut acc y z) else none
        | none => none
      else dcGo get bind tt mk mv e0 n (i + 1) S1 acc
    | none => none
def mDC (mi : MI) (t : Tg) (tt : MT) (mk mv : ME) (vs : List Nat) : ME := fun e S => (mi e S).bind fun (s, S1) => (dcGo s.get t.f tt mk mv (wipeE e vs) s.n 0 S1 []).bind fun (ys, S2) => some (.ref S2.length, S2 ++ [.dct ys])
theorem wipe_wipe (σ : L2.St) (l : List Nat) : L2.wipe (L2.wipe σ l) l = L2.wipe σ l := by
  apply List.ext_getElem?
  intro j
  by_cases hj : j ∈ l
  · by_cases hjl : j < σ.length
    · have a1 : ∀ τ : L2.St, τ.length = σ.length → (L2.wipe τ l)[j]? = some none := fun τ hτ => by
        cases hq : (L2.wipe τ l)[j]? with
        | none =>
          have := List.getElem?_eq_none_iff.mp hq
          rw [wipe_length, hτ] at this
          omega
        | some u =>
          cases u with
          | none => rfl
          | some u => exact absurd hj (wipe_some hq).2
      rw [a1 _ (wipe_length σ l), a1 σ rfl]
    · rw [List.getElem?_eq_none (by rw [wipe_length, wipe_length]; omega), List.getElem?_eq_none (by rw [wipe_length]; omega)]
  · rw [wipe_out hj]
theorem dc_imp {mi : MI} {t : Tg} {tt : MT} {mk mv : ME} {vs : List Nat} (hv : ∀ i ∈ t.slots, i ∈ vs) {σ : L2.St} {H : Hp} {Q : VK} (h : tD K (mDC mi t tt mk mv vs) σ H Q) : tDc (tI K mi) (t.g K) (tB K tt) (tD K mk) (tD K mv) vs σ H Q := by
  obtain ⟨w, e, S, ds, S', re, k, hm, q⟩ := h
  unfold mDC at hm
  obtain ⟨⟨src, S1⟩, h1, hm⟩ := Option.bind_eq_some_iff.mp hm
  obtain ⟨⟨ys, S2⟩, h2, hm⟩ := Option.bind_eq_some_iff.mp hm
  cases hm
  refine ⟨w, e, S, src, S1, re, k, h1, fun w1 H1 J s1 k1 W => fun L hL => ?_⟩
  refine ⟨fun i m H2 => ∃ w2 He S2' accd accv, H2 = upd He L (.dK accv) ∧ He L = none ∧ Stp w1 H1 w2 He ∧ Ok K w2 S2' He ∧ RDk K w2 He accd accv ∧ dcGo src.get t.f tt mk mv (wipeE e vs) m i S2' accd = some (ys, S2),
    ⟨src.n, w1, H1, S1, [], [], rfl, hL, .refl, k1, .nil, h2⟩, ?_⟩
  rintro i m _ ⟨w2, He, S2', accd, accv, rfl, hLe, s2, k2, racc, hm2⟩
  have k2h : Ok K (w2.hide L) S2' (upd He L (.dK accv)) := k2.hide hLe
  have s2h : Stp w1 H1 (w2.hide L) (upd He L (.dK accv)) := s2.trans (.hide hLe)
  obtain ⟨go, stop⟩ := W i _ _ S2' s2h.toW k2h
  have fin : some (accd, S2') = some (ys, S2) → Q (.ref L) (upd He L (.dK accv)) := fun z => by
    cases z
    exact q _ _ _ ((s1.trans s2).trans (.add hLe)) (k2.add hLe (.dK racc)) (.ref (rho_add k2 L))
  cases hget : src.get i S2' with
  | none => cases m <;> (simp only [dcGo, hget] at hm2; cases hm2)
  | some o =>
    cases o with
    | none =>
      refine .inl ⟨stop hget, fin ?_⟩
      cases m <;> (simp only [dcGo, hget] at hm2; exact hm2)
    | some d =>
      cases m with
      | zero => simp only [dcGo, hget] at hm2; cases hm2
      | succ m =>
        simp only [dcGo, hget] at hm2
        obtain ⟨e3, h3, hm2⟩ := Option.bind_eq_some_iff.mp hm2
        obtain ⟨⟨b, S4⟩, h4, hm2⟩ := Option.bind_eq_some_iff.mp hm2
        obtain ⟨g1, g2⟩ := go d hget
        refine .inr ⟨g1, fun H5 => ∃ w2 He S2' accd accv, H5 = upd He L (.dK accv) ∧ He L = none ∧ Stp w1 H1 w2 He ∧ Ok K w2 S2' He ∧ RDk K w2 He accd accv ∧ dcGo src.get t.f tt mk mv (wipeE e vs) m (i + 1) S2' accd = some (ys, S2),
          fun H5 h5 => ⟨m, Nat.lt_succ_self m, h5⟩, fun x H3 y => ?_⟩
        obtain ⟨st, k3, rx⟩ := g2 x H3 y
        have re3 : RpE K (w2.hide L) H3 (wipeE e vs) (L2.wipe σ vs) := ((re.mono s1).mono (s2h.trans st)).wipe vs
        refine t.ok k3 re3 rx h3 fun σ4 re4 hw => ?_
        refine ⟨by rw [hw vs hv, wipe_wipe], ⟨_, e3, S2', b, S4, re4, k3, h4, fun w5 H5 s5 k5 => ?_⟩⟩
        cases b with
        | true =>
          rw [if_pos rfl]
          rw [if_pos rfl] at hm2
          obtain ⟨⟨z, S6⟩, h6, hm2⟩ := Option.bind_eq_some_iff.mp hm2
          obtain ⟨⟨z2, S7⟩, h7, hm2⟩ := Option.bind_eq_some_iff.mp hm2
          simp only at hm2
          split at hm2
          · rename_i kk hk
            split at hm2
            · rename_i hz
              refine ⟨w5, e3, S4, z, S6, re4.mono s5, k5, h6, fun w6 H6 v6 s6 k6 r6 => ⟨w6, e3, S6, z2, S7, (re4.mono s5).mono s6, k6, h7, fun w7 H7 v7 s7 k7 r7 => ?_⟩⟩
              obtain ⟨u1, u2, u3, u4, u5⟩ := unhide k2 hLe (((st.trans s5).trans s6).trans s7) k7
              have rk := keyOf_r hk
              have racc7 := racc.mono u3
              refine ⟨accv, kk, rk.kV (r6.mono s7), by rw [u1, upd_same], by rw [lim_eq, ← racc.length]; exact hz, ?_⟩
              refine ⟨_, er L H7, S7, dPut accd z z2, putK accv kk v7, ?_, u2, s2.trans u3, u4, racc7.put rk (u5 _ _ r7), hm2⟩
              conv => lhs; rw [u1]
              rw [upd_upd]
            · cases hm2
          · cases hm2
        | false =>
          rw [if_neg Bool.false_ne_true]
          rw [if_neg Bool.false_ne_true] at hm2
          obtain ⟨u1, u2, u3, u4, u5⟩ := unhide k2 hLe (st.trans s5) k5
          exact ⟨_, er L H5, S4, accd, accv, u1, u2, s2.trans u3, u4, racc.mono u3, hm2⟩
theorem ae_dc {kx vx tg iter : Expr} {ifs : List Expr} {scope : Scope} {pos : Pos} {mi : MI} {t : Tg} {tt : MT} {mk mv : ME} (own : List (Str × Nat)) (hc : X.calm = true) (hN : X.N.Nodup) (hi : AI X tg iter mi) (ok : BlkOk X.N X.env.scope scope own)
    (hg : ∀ (s : Shared) (H : Hp) (C : Addr) (cl : List (Str × Addr)) (fp : List Addr), AG (X.blk s H scope (compEnvC scope cl C X.env) fp) tg t) (ht : ∀ (s : Shared) (H : Hp) (C : Addr) (cl : List (Str × Addr)) (fp : List Addr), ATs (X.blk s H scope (compEnvC scope cl C X.env) fp) ifs tt)
    (hk : ∀ (s : Shared) (H : Hp) (C : Addr) (cl : List (Str × Addr)) (fp : List Addr), AE (X.blk s H scope (compEnvC scope cl C X.env) fp) kx mk)
    (he : ∀ (s : Shared) (H : Hp) (C : Addr) (cl : List (Str × Addr)) (fp : List Addr), AE (X.blk s H scope (compEnvC scope cl C X.env) fp) vx mv) (hs : ∀ x, foldedSetIterable iter X.env x = pure x := by intro _; rfl) (hv : ∀ i ∈ t.slots, i ∈ own.map (·.2) := by decide) :
    AE X (.DictComp kx vx [⟨tg, iter, ifs, 0⟩] scope pos) (mDC mi t tt mk mv (own.map (·.2))) := PE.imp (pe_dc hc hN hi ok hg ht hk he hs) fun _ _ _ => dc_imp hv

/-! ### sorted of data -/
def dle (a b : D) : Bool := PySem.W.dataLe false D.py a b
def sortableB (xs : List D) : Bool := (xs.all fun
  | .tup _ => true
  | _ => false) || xs.all fun
  | .tup _ => false
  | .non => false
  | .ref _ => false
  | .fr _ => false
  | .rng _ _ => false
  | _ => true
def rSortedDD (K : PySem.W.Frag) : List V → Hp → VK → Prop := fun vs H Q => ∃ (a : Addr) (bs : List (V × D)), vs = [.ref a] ∧ (SqL K H a (bs.map (·.1)) ∨ SqT K H a (bs.map (·.1))) ∧ DpAll K H (bs.map (·.1)) (D.pyL (bs.map (·.2))) ∧ PySem.W.AllAlike (D.pyL (bs.map (·.2))) ∧ PySem.W.DvSortable (D.pyL (bs.map (·.2))) ∧ PyData.depthAll (D.pyL (bs.map (·.2))) ≤ 60 ∧
  ∀ p, H p = none → Q (.ref p) (upd H p (.lst ((bs.mergeSort (PySem.W.dataLe false fun b => D.py b.2)).map (·.1))))
theorem each_of {H : Hp} {s : Shared} {pins : List (Addr × Obj)} {σ : L2.St} (I : Inv X pins σ H s) : ∀ {bs : List (V × D)} {its : List Value}, Vals (bs.map (·.1)) its → DpAll X.K H (bs.map (·.1)) (D.pyL (bs.map (·.2))) →
    PySem.W.EachIs (fun v (b : V × D) => RelV b.1 v) its bs ∧ PySem.W.EachIs (fun v (b : V × D) => ∃ as, Reads s.heap v (D.py b.2) as) its bs
  | [], _, r, _ => by cases r; exact ⟨.nil, .nil⟩
  | b :: bs, _, r, d => by
    simp only [List.map_cons, D.pyL] at r d
    cases r with
    | cons r rt =>
      cases d with
      | cons d dt =>
        obtain ⟨h1, h2⟩ := each_of I rt dt
        exact ⟨.cons r h1, .cons (Dp.reads I _ _ _ d r) h2⟩
theorem each_vals : ∀ {out : List Value} {bs : List (V × D)}, PySem.W.EachIs (fun v (b : V × D) => RelV b.1 v) out bs → Vals (bs.map (·.1)) out
  | _, _, .nil => .nil
  | _, _, .cons h t => .cons h (each_vals t)
theorem depth_mem : ∀ {ds : List PyData} {d : PyData}, d ∈ ds → d.depth ≤ PyData.depthAll ds
  | e :: es, d, h => by
    simp only [PyData.depthAll]
    rcases List.mem_cons.mp h with rfl | h
    · omega
    · have := depth_mem h; omega
end
end DV
namespace PySem.W
open PySem PySem.Calls PyProof.Rows
section
variable {prog : Program} {w : World} {A : Around} {E : Value → Shared → Prop} {s : Shared} {β : Type} {vs : List Value} {bs : List β} {enc : β → PyData} {R : Value → β → Prop} {κ : PyProof.Rows.KeyKind}
theorem dv_collect_tuple {l : Addr} {vs : List Value} {Q : List Value → Shared → Prop} (hl : s.heap.IsTuple l vs.toArray)
    (h : Q vs { s with heap := (s.heap.push (seqObj "list" #[] 0)).update s.heap.objs.size (Obj.mapSeq (· ++ vs.toArray)) }) (hsz : vs.length ≤ sizeLine := by size_fits) :
    wpAny (model prog w) A (collect (.ref l)) Q E s := by
  obtain ⟨o, ho, hc, n, hd⟩ := id hl
  unfold collect
  refine wpAny_bind (wpAny_runValue (codeAny_builtin entry_proto_collect' ?_))
  show wpAny _ _ (do again (.builtin "list.__iadd__" ⟨[← newList [], .ref l], []⟩)) _ _ s
  refine wpAny_bind (wpAny_newList (wpAny_pure ⟨Code.quiet_builtin _ (by decide +kernel), codeAny_builtin entry_list_iadd' ?_⟩))
  show wpAny _ _ (Builtin.List.listExtendWith (.ref s.heap.objs.size) (.ref l) (.ref s.heap.objs.size)) _ _ { s with heap := s.heap.push (seqObj "list" #[] 0) }
  unfold Builtin.List.listExtendWith
  have ho' : (s.heap.push (seqObj "list" #[] 0)).get? l = some o := Heap.get?_push_of_some _ ho
  refine wpAny_bind (wpAny_typeOf (T := "tuple") ⟨o, ho', hc⟩ ?_)
  have ht : (Value.type "tuple" == Value.type "tuple") = true := by rfl
  rw [if_pos (by rw [ht]; simp)]
  refine wpAny_bind (listItems_at ho' hd ?_)
  refine wpAny_bind (listItems_at (xs := #[]) (n := 0) (Heap.get?_push_size _ rfl) rfl ?_)
  rw [if_neg (by simp)]
  refine wpAny_bind (listUpdate_at (xs := #[]) (n := 0) (Heap.get?_push_size _ rfl) rfl ?_ (Nat.zero_le _) (by show (#[] ++ vs.toArray).size ≤ sizeLine + 1; simp only [Array.size_append, List.size_toArray, List.length_nil]; omega))
  refine wpAny_pure ?_
  show wpAny (model prog w) A (do
      let o ← load s.heap.objs.size
      match o.data with
      | .seq xs _ => pure xs.toList
      | _ => unsupported "internal:collect") Q E { s with heap := (s.heap.push (seqObj "list" #[] 0)).update s.heap.objs.size (Obj.mapSeq (· ++ vs.toArray)) }
  refine wpAny_bind (wpAny_load (get?_update_seq (Heap.get?_push_size _ rfl) _) ?_)
  show wpAny _ _ (pure ((#[] : Array Value) ++ vs.toArray).toList) Q E _
  simp only [Array.empty_append]
  exact wpAny_pure h
theorem dv_sorted_of_sortT {l : Addr} {vs : List Value} {kw : List (Str × Value)} {Q : Value → Shared → Prop} (hl : s.heap.IsTuple l vs.toArray) (hL : vs.length ≤ sizeLine) (ha1 : argsOk "sorted" ⟨[.ref l], kw⟩) (ha2 : ∀ x, argsOk "list.sort" ⟨[.ref x], kw⟩)
    (body : ∀ E' : Value → Shared → Prop, wpAny (model prog w) A.in1.in1 (Builtin.«list.sort» ⟨[.ref (s.heap.objs.size + 1)], kw⟩) (fun f s' => f = .done (.ret .none) ∧ Q (.ref (s.heap.objs.size + 1)) s') E' { s with heap := copyHeap s.heap vs }) :
    wpAny (model prog w) A (call (.builtin "sorted") [.ref l] kw) Q E s := by
  refine call_function_entry_kw kind_sorted plain_sorted entry_sorted ha1 ?_
  unfold Builtin.«sorted»
  refine wpAny_bind (m := checkCount "sorted" 1 1 _) (wpAny_pure ?_)
  refine wpAny_bind (dv_collect_tuple hl ?_ hL)
  refine wpAny_bind (wpAny_newList ?_ hL)
  have hsz : ((s.heap.push (seqObj "list" #[] 0)).update s.heap.objs.size (Obj.mapSeq (· ++ vs.toArray))).objs.size = s.heap.objs.size + 1 := by
    rw [Heap.size_update, size_push']
  show wpAny _ _ _ _ _ { s with heap := copyHeap s.heap vs }
  rw [hsz]
  refine wpAny_bind (wpAny_holding (wpAny_call_entry_kw slot_list_sort ⟨_, copyHeap_at s.heap vs, rfl⟩ entry_list_sort ?body (ha2 _)))
  case body =>
    show wpAny (model prog w) A.in1.in1 (Builtin.«list.sort» ⟨[.ref (s.heap.objs.size + 1)], kw⟩) _ _ _
    refine wpAny_mono (body _) (fun f s' hf => ?_) fun _ _ e => e
    obtain ⟨rfl, hq⟩ := hf
    exact ⟨_, rfl, wpAny_pure ⟨_, rfl, hq⟩⟩
theorem dv_sorted_vals {l : Addr} {vs : List Value} {Q : Value → Shared → Prop} (hl : s.heap.IsList l vs.toArray ∨ s.heap.IsTuple l vs.toArray) (S : SortsAt prog w A.in1.in1 { s with heap := sortingHeap (copyHeap s.heap vs) (s.heap.objs.size + 1) vs } κ vs) (hL : vs.length ≤ sizeLine)
    (h : Q (.ref (s.heap.objs.size + 1)) { s with heap := sortedAll s.heap vs (sortVals κ false vs vs).toArray }) : wpAny (model prog w) A (call (.builtin "sorted") [.ref l]) Q E s :=
  hl.elim (fun hl => sorted_vals hl S hL h) fun hl => dv_sorted_of_sortT hl hL (args_sorted1 _) (fun _ => args_list_sort _) fun _ => list_sort_vals (s := { s with heap := copyHeap s.heap vs }) (copyHeap_at s.heap vs) S hL ⟨rfl, h⟩
theorem dv_sorted_data {l : Addr} {Q : Value → Shared → Prop} (hl : s.heap.IsList l vs.toArray ∨ s.heap.IsTuple l vs.toArray) (e : EachIs R vs bs) (er : EachIs (fun v b => ∃ as, Reads s.heap v (enc b) as) vs bs) (hal : AllAlike (bs.map enc)) (hk : DvSortable (bs.map enc)) (hL : bs.length ≤ sizeLine)
    (hu : ∀ b, b ∈ bs → A.units + 2 + (enc b).depth < cLine) (h : ∀ out, out.length = bs.length → EachIs R out (bs.mergeSort (dataLe false enc)) → Q (.ref (s.heap.objs.size + 1)) { s with heap := sortedAll s.heap vs (List.toArray out) }) :
    wpAny (model prog w) A (call (.builtin "sorted") [.ref l]) Q E s := by
  have er' : EachIs (fun v b => ∃ as, Reads (sortingHeap (copyHeap s.heap vs) (s.heap.objs.size + 1) vs) v (enc b) as) vs bs := er.mono fun _ _ ⟨as, r⟩ => ⟨as, PyProof.Rows.Reads.keeps (fun _ _ => sorting_copy_old) r⟩
  exact dv_sorted_vals hl (dv_SortsAt (s := { s with heap := sortingHeap (copyHeap s.heap vs) (s.heap.objs.size + 1) vs }) (each_map (R := fun v d => ∃ as, Reads (sortingHeap (copyHeap s.heap vs) (s.heap.objs.size + 1) vs) v d as) enc er') hal hk (bound_map hu)) (by rw [e.length]; exact hL)
    (h _ (by rw [sortVals_length false rfl]; exact e.length) (sortVals_data false e er' hal))
end
end PySem.W
namespace DV
open PySem PySem.Spec PyProof.Rows L2
section
variable {X : Cx} {K : PySem.W.Frag}
theorem cr_sortedDD (hu : X.A.units + 64 < cLine) : CallR X (.builtin "sorted") (rSortedDD X.K) := by
  intro pins s σ H vs us Q I r h
  obtain ⟨a, bs, rfl, hs, hd, hal, hk, hz, q⟩ := h
  rw [Vals.ref1 r]
  obtain ⟨its, rv, hl, hlen⟩ : ∃ its, Vals (bs.map (·.1)) its ∧ (s.heap.IsList a its.toArray ∨ s.heap.IsTuple a its.toArray) ∧ (bs.map (·.1)).length ≤ sizeLine := by
    rcases hs with hs | hs
    · obtain ⟨its, rv, hl, hlen⟩ := I.list hs
      exact ⟨its, rv, .inl hl.isList, hlen⟩
    · obtain ⟨its, rv, p, hz⟩ := I.tuple hs
      exact ⟨its, rv, .inr p, by simpa using hz⟩
  obtain ⟨e1, e2⟩ := each_of I rv hd
  have hpy : D.pyL (bs.map (·.2)) = bs.map fun b => D.py b.2 := by rw [D.pyL_map, List.map_map]; rfl
  rw [hpy] at hal hk hz
  refine PySem.W.dv_sorted_data (enc := fun b => D.py b.2) hl e1 e2 hal hk (by simpa using hlen) (fun b hb => by
    have := depth_mem (List.mem_map.mpr ⟨b, hb, rfl⟩ : D.py b.2 ∈ bs.map fun b => D.py b.2)
    omega) fun out ho he => ?_
  obtain ⟨ep, he'⟩ := PyProof.Rows.sortedAll_at s.heap its out.toArray
  have ev := each_vals he
  have hlen2 : ((bs.mergeSort (PySem.W.dataLe false fun b => D.py b.2)).map (·.1)).length ≤ sizeLine := by
    rw [List.length_map, List.length_mergeSort]; simpa using hlen
  exact ⟨.ref _, upd H (s.heap.objs.size + 1) (.lst ((bs.mergeSort (PySem.W.dataLe false fun b => D.py b.2)).map (·.1))), I.laid (t' := s.toks) (fun _ _ => PyProof.Rows.sortedAll_old) (Nat.le_succ _) ⟨hlen2, out, ep, by simpa using ev, he'⟩, rfl, q _ (I.hok.fresh (Nat.le_succ _))⟩
def mSorted (m : ME) : ML := fun e S => (m e S).bind fun (d, S1) => (seqOf d S1).bind fun xs => if D.fitL 31 xs ∧ alikeB xs ∧ sortableB xs then some (xs.mergeSort dle, S1) else none
theorem RpL.zip {w : Wd} {H : Hp} : ∀ {ds : List D} {vs : List V}, RpL K w H ds vs → ∃ bs : List (V × D), bs.map (·.1) = vs ∧ bs.map (·.2) = ds ∧ ∀ b ∈ bs, Rp K w H b.2 b.1
  | _, _, .nil => ⟨[], rfl, rfl, by simp⟩
  | _, _, .cons (d := d) (v := v) r t => by
    obtain ⟨bs, h1, h2, h3⟩ := RpL.zip t
    exact ⟨(v, d) :: bs, by simp [h1], by simp [h2], fun b hb => by
      rcases List.mem_cons.mp hb with rfl | hb
      · exact r
      · exact h3 b hb⟩
theorem RpL.unzip {w : Wd} {H : Hp} : ∀ {bs : List (V × D)}, (∀ b ∈ bs, Rp K w H b.2 b.1) → RpL K w H (bs.map (·.2)) (bs.map (·.1))
  | [], _ => .nil
  | b :: bs, h => .cons (h b (by simp)) (RpL.unzip fun c hc => h c (by simp [hc]))
theorem sortable_of {xs : List D} (hf : D.fitL 31 xs = true) (h : sortableB xs = true) : PySem.W.DvSortable (D.pyL xs) := by
  unfold sortableB at h
  rw [D.pyL_map]
  rcases Bool.or_eq_true _ _ |>.mp h with h | h
  · refine .inr fun d hd => ?_
    obtain ⟨x, hx, rfl⟩ := List.mem_map.mp hd
    have := List.all_eq_true.mp h x hx
    split at this
    · simp only [D.py, D.pyL]; exact ⟨_, rfl⟩
    · cases this
  · refine .inl (.inr fun d hd => ?_)
    obtain ⟨x, hx, rfl⟩ := List.mem_map.mp hd
    have := List.all_eq_true.mp h x hx
    cases x <;> simp_all [D.py]
theorem af_sorted {x : Expr} {m : ME} {p pos : Pos} {j : Nat} (hr : Room j X.A) (hm : X.mg "sorted" = none) (ha : AE X x m) (hg : Gl X "sorted" := by rfl)
    (he : starEach [x] X.env = (false, eval x X.env) :: starEach [] X.env := by rfl) (hpl : (backTo pos (starEach [] X.env)).any (·.1) = false := by rfl) : AF X (.Call (.Name "sorted" p) [x] [] pos) (mSorted m) :=
  PE.imp (pe_callB (cr_sortedDD hr.units) hg hm (by decide +kernel) (pa_cons ha pa_nil he) (by decide) (by decide) he hpl) fun σ H Q ⟨w, e, S, d, S', re, k, hm, q⟩ => by
    unfold mSorted at hm
    obtain ⟨⟨d1, S1⟩, h1, hm⟩ := Option.bind_eq_some_iff.mp hm
    obtain ⟨xs, h2, hm⟩ := Option.bind_eq_some_iff.mp hm
    split at hm
    · rename_i hz
      cases hm
      refine ⟨w, e, S, d1, _, re, k, h1, fun w1 H1 v s1 k1 r1 => ?_⟩
      obtain ⟨a, us, rfl, h3, h4⟩ := seq_rd k1 r1 h2
      obtain ⟨bs, rfl, rfl, hb⟩ := h4.zip
      have hdp := RpL.dp _ 31 _ h4 hz.1
      refine ⟨a, bs, rfl, h3, hdp, (alikeB_of hz.1 hz.2.1).2, sortable_of hz.1 hz.2.2, by have := (D.fitL_lay _ 31 hz.1).2; omega, fun p hp => ?_⟩
      refine q w1 H1 p _ s1 k1 hp ?_
      have e : ((bs.mergeSort (PySem.W.dataLe false fun b => D.py b.2)).map (·.2)) = (bs.map (·.2)).mergeSort dle := List.map_mergeSort (fun a _ b _ => rfl)
      rw [← e]
      exact RpL.unzip fun b hbm => hb b ((List.mergeSort_perm _ _).mem_iff.mp hbm)
    · cases hm
/-! ### a, b = x, y -/
def mPar (i j : Nat) (ms : ML) : MS := fun e S => (ms e S).bind fun (ds, S1) => match ds with
  | [d1, d2] => some (.nx ((e.set i (some d1)).set j (some d2)), S1)
  | _ => none
theorem as_par {i j : Nat} {x y : Str} {a b : Expr} {ms : ML} {px py pt pos : Pos} {kt k2 pt2} (hc : X.calm = true) (hN : X.N.Nodup) (ha : AA X [a, b] ms) (hi : X.N[i]? = some x := by rfl) (hj : X.N[j]? = some y := by rfl) (hij : i ≠ j := by decide)
    (hx : X.env.scope.names.lookup x = some .local := by rfl) (hy : X.env.scope.names.lookup y = some .local := by rfl)
    (hw : swappedStores [.Tuple [.Name x px, .Name y py] kt pt] (.Tuple [a, b] k2 pt2) X.env = pure (some [x, y]) := by rfl)
    (hs : swapsWithSole [.Tuple [.Name x px, .Name y py] kt pt] (.Tuple [a, b] k2 pt2) pos.line X.env = pure false := by rfl) :
    AS X (.Assign [.Tuple [.Name x px, .Name y py] kt pt] (.Tuple [a, b] k2 pt2) pos) (mPar i j ms) := PS.imp (ps_par hc hN hi hj hij hx hy ha hw hs) fun D σ H ⟨w, e, S, f, S', re, k, hm, q⟩ => by
  unfold mPar at hm
  obtain ⟨⟨ds, S1⟩, h1, hm⟩ := Option.bind_eq_some_iff.mp hm
  simp only at hm
  split at hm
  · cases hm
    refine ⟨w, e, S, _, _, re, k, h1, fun w1 H1 vs s1 k1 r1 => ?_⟩
    obtain ⟨v1, v2, rfl, r2, r3⟩ := r1.two_inv
    exact ⟨v1, v2, rfl, q w1 H1 s1 k1 _ (((re.mono s1).set r2).set r3)⟩
  · cases hm
/-! ### two clauses -/
def lc2Go (get : Nat → Store → Option (Option D)) (bind : D → Ev → Option Ev) (tt : MT) (inner : Ev → Store → Option (List D × Store)) (e0 : Ev) : Nat → Nat → Store → Option (List D × Store)
  | 0, i, S => match get i S with
    | some none => some ([], S)
    | _ => none
  | n + 1, i, S => match get i S with
    | some none => some ([], S)
    | some (some d) => (bind d e0).bind fun e1 => (tt e1 S).bind fun (b, S1) => if b then (inner e1 S1).bind fun (ys, S2) => (lc2Go get bind tt inner e0 n (i + 1) S2).bind fun (zs, S3) => some (ys ++ zs, S3) else lc2Go get bind tt inner e0 n (i + 1) S1
    | none => none
def mIn (mi : MI) (t : Tg) (tt : MT) (elt : ME) (vs : List Nat) : Ev → Store → Option (List D × Store) := fun e S => (mi e S).bind fun (s, S1) => lcGo s.get t.f tt elt (wipeE e vs) s.n 0 S1
def mLC2 (mi : MI) (t : Tg) (tt : MT) (mi1 : MI) (t1 : Tg) (tt1 : MT) (elt : ME) (vs vs1 : List Nat) : ML := fun e S => (mi e S).bind fun (s, S1) => (lc2Go s.get t.f tt (mIn mi1 t1 tt1 elt vs1) (wipeE e vs) s.n 0 S1).bind fun (ys, S2) => if ys.length ≤ LIM then some (ys, S2) else none
theorem lc2_imp {mi mi1 : MI} {t t1 : Tg} {tt tt1 : MT} {elt : ME} {vs vs1 : List Nat} (hv : ∀ i ∈ t.slots, i ∈ vs) (hv1 : ∀ i ∈ t1.slots, i ∈ vs1) {σ : L2.St} {H : Hp} {Q : VK} (h : tF K (mLC2 mi t tt mi1 t1 tt1 elt vs vs1) σ H Q) :
    tLc2 (tI K mi) (t.g K) (tB K tt) (tI K mi1) (t1.g K) (tB K tt1) (tD K elt) vs vs1 σ H Q := by
  obtain ⟨w, e, S, ds, S', re, k, hm, q⟩ := h
  unfold mLC2 at hm
  obtain ⟨⟨src, S1⟩, h1, hm⟩ := Option.bind_eq_some_iff.mp hm
  obtain ⟨⟨ys, S2⟩, h2, hm⟩ := Option.bind_eq_some_iff.mp hm
  simp only at h2 hm
  split at hm
  rotate_left
  · cases hm
  rename_i hz
  cases hm
  refine ⟨w, e, S, src, S1, re, k, h1, fun w1 H1 J s1 k1 W => fun L hL => ?_⟩
  refine ⟨fun i m H2 => ∃ w2 He S2 accd accv rest, H2 = upd He L (.lst accv) ∧ He L = none ∧ Stp w1 H1 w2 He ∧ Ok K w2 S2 He ∧ RpL K w2 He accd accv ∧ lc2Go src.get t.f tt (mIn mi1 t1 tt1 elt vs1) (wipeE e vs) m i S2 = some (rest, S') ∧ ds = accd ++ rest,
    ⟨src.n, w1, H1, S1, [], [], ds, rfl, hL, .refl, k1, .nil, h2, rfl⟩, ?_⟩
  rintro i m _ ⟨w2, He, S2, accd, accv, rest, rfl, hLe, s2, k2, racc, hm2, hds⟩
  have k2h : Ok K (w2.hide L) S2 (upd He L (.lst accv)) := k2.hide hLe
  have s2h : Stp w1 H1 (w2.hide L) (upd He L (.lst accv)) := s2.trans (.hide hLe)
  obtain ⟨go, stop⟩ := W i _ _ S2 s2h.toW k2h
  have fin : some (([] : List DV.D), S2) = some (rest, S') → Q (.ref L) (upd He L (.lst accv)) := fun z => by
    cases z
    rw [List.append_nil] at hds
    subst hds
    exact q w2 He L accv (s1.trans s2) k2 hLe racc
  cases hget : src.get i S2 with
  | none => cases m <;> (simp only [lc2Go, hget] at hm2; cases hm2)
  | some o =>
    cases o with
    | none =>
      refine .inl ⟨stop hget, fin ?_⟩
      cases m <;> (simp only [lc2Go, hget] at hm2; exact hm2)
    | some d =>
      cases m with
      | zero => simp only [lc2Go, hget] at hm2; cases hm2
      | succ m =>
        simp only [lc2Go, hget] at hm2
        obtain ⟨e3, h3, hm2⟩ := Option.bind_eq_some_iff.mp hm2
        obtain ⟨⟨b, S4⟩, h4, hm2⟩ := Option.bind_eq_some_iff.mp hm2
        obtain ⟨g1, g2⟩ := go d hget
        refine .inr ⟨g1, fun H5 => ∃ w2 He S2 accd accv rest, H5 = upd He L (.lst accv) ∧ He L = none ∧ Stp w1 H1 w2 He ∧ Ok K w2 S2 He ∧ RpL K w2 He accd accv ∧ lc2Go src.get t.f tt (mIn mi1 t1 tt1 elt vs1) (wipeE e vs) m (i + 1) S2 = some (rest, S') ∧ ds = accd ++ rest,
          fun H5 h5 => ⟨m, Nat.lt_succ_self m, h5⟩, fun x H3 y => ?_⟩
        obtain ⟨st, k3, rx⟩ := g2 x H3 y
        have re3 : RpE K (w2.hide L) H3 (wipeE e vs) (L2.wipe σ vs) := ((re.mono s1).mono (s2h.trans st)).wipe vs
        refine t.ok k3 re3 rx h3 fun σ4 re4 hw => ?_
        refine ⟨by rw [hw vs hv, wipe_wipe], ⟨_, e3, S2, b, S4, re4, k3, h4, fun w5 H5 s5 k5 => ?_⟩⟩
        cases b with
        | true =>
          rw [if_pos rfl]
          rw [if_pos rfl] at hm2
          obtain ⟨⟨zs, S6⟩, h6, hm2⟩ := Option.bind_eq_some_iff.mp hm2
          obtain ⟨⟨us, S7⟩, h7, hm2⟩ := Option.bind_eq_some_iff.mp hm2
          cases hm2
          unfold mIn at h6
          obtain ⟨⟨src1, S8⟩, h8, h6⟩ := Option.bind_eq_some_iff.mp h6
          simp only at h6
          refine ⟨w5, e3, S4, src1, S8, re4.mono s5, k5, h8, fun w6 H6 J1 s6 k6 W1 => ?_⟩
          have s26 : Stp (w2.hide L) (upd He L (.lst accv)) w6 H6 := (st.trans s5).trans s6
          obtain ⟨u1, u2, u3, u4, u5⟩ := unhide k2 hLe s26 k6
          have bL : w6.B L := (s26.B L _ upd_same (k2.new hLe).1).mpr (.inr rfl)
          have b2 : ∀ a, w2.B a → w6.B a := fun a z => by
            obtain ⟨ob, eo⟩ := k2.bt a z
            have na : a ∉ w2.rho := fun q => k2.nb a q z
            exact (s26.B a ob (by rw [upd_ne (ne_of_none eo hLe)]; exact eo) na).mpr (.inl z)
          -- what stays true through the inner loop
          refine ⟨fun j kk H9 => ∃ wk Hk Sk accdk accvk restk, H9 = upd Hk L (.lst accvk) ∧ Hk L = none ∧ wk.B = w2.B ∧ Stp w1 H1 wk Hk ∧ Wst w6 H6 (wk.hide L) H9 ∧ Ok K wk Sk Hk ∧ RpL K wk Hk accdk accvk ∧ lcGo src1.get t1.f tt1 elt (wipeE e3 vs1) kk j Sk = some (restk, S6) ∧ accd ++ zs = accdk ++ restk,
            ⟨src1.n, ⟨w6.rho, w2.B⟩, er L H6, S8, accd, accv, zs, u1, u2, rfl, s2.trans u3, ?_, u4, racc.mono u3, h6, rfl⟩, ?_⟩
          · refine ⟨⟨[], by simp [Wd.hide]⟩, fun b o h n z => ?_, fun b o h n _ => ⟨h, n⟩⟩
            rcases z with z | z
            · exact b2 b z
            · rw [z]; exact bL
          rintro j kk _ ⟨wk, Hk, Sk, accdk, accvk, restk, rfl, hLk, hBk, sk1, sk6, kk1, rk, hk2, hdk⟩
          have kkh : Ok K (wk.hide L) Sk (upd Hk L (.lst accvk)) := kk1.hide hLk
          obtain ⟨go1, stop1⟩ := W1 j _ _ Sk sk6 kkh
          cases hget1 : src1.get j Sk with
          | none => cases kk <;> (simp only [lcGo, hget1] at hk2; cases hk2)
          | some o1 =>
            cases o1 with
            | none =>
              refine .inl ⟨stop1 hget1, ?_⟩
              have hend : some (([] : List DV.D), Sk) = some (restk, S6) := by cases kk <;> (simp only [lcGo, hget1] at hk2; exact hk2)
              cases hend
              rw [List.append_nil] at hdk
              exact ⟨wk, Hk, _, accdk, accvk, us, rfl, hLk, sk1, kk1, rk, h7, by rw [hds, ← hdk, List.append_assoc]⟩
            | some d1 =>
              cases kk with
              | zero => simp only [lcGo, hget1] at hk2; cases hk2
              | succ kk =>
                simp only [lcGo, hget1] at hk2
                obtain ⟨e5, h5, hk2⟩ := Option.bind_eq_some_iff.mp hk2
                obtain ⟨⟨c, S9⟩, h9, hk2⟩ := Option.bind_eq_some_iff.mp hk2
                obtain ⟨f1, f2⟩ := go1 d1 hget1
                refine .inr ⟨f1, fun H9 => ∃ wk Hk Sk accdk accvk restk, H9 = upd Hk L (.lst accvk) ∧ Hk L = none ∧ wk.B = w2.B ∧ Stp w1 H1 wk Hk ∧ Wst w6 H6 (wk.hide L) H9 ∧ Ok K wk Sk Hk ∧ RpL K wk Hk accdk accvk ∧ lcGo src1.get t1.f tt1 elt (wipeE e3 vs1) kk (j + 1) Sk = some (restk, S6) ∧ accd ++ zs = accdk ++ restk,
                  fun H9 h9 => ⟨kk, Nat.lt_succ_self kk, h9⟩, fun x1 H10 y1 => ?_⟩
                obtain ⟨st1, k10, rx1⟩ := f2 x1 H10 y1
                have re6 : RpE K w6 H6 e3 σ4 := (re4.mono s5).mono s6
                have re10 : RpE K (wk.hide L) H10 e3 σ4 := ⟨re6.1, fun i d hd => by
                  obtain ⟨v, hv, rv⟩ := re6.2 i d hd
                  exact ⟨v, hv, (rv.monoW sk6).mono st1⟩⟩
                refine t1.ok k10 (re10.wipe vs1) rx1 h5 fun σ11 re11 hw1 => ?_
                refine ⟨by rw [hw1 vs1 hv1, wipe_wipe], ⟨_, e5, Sk, c, S9, re11, k10, h9, fun w12 H12 s12 k12 => ?_⟩⟩
                have next : ∀ (w14 : Wd) (H14 : Hp) (S14 : Store) (accd' : List DV.D) (accv' : List V) (rest' : List DV.D), Stp (wk.hide L) (upd Hk L (.lst accvk)) w14 H14 → Ok K w14 S14 H14 → (∀ wz Hz, wz = (⟨w14.rho, wk.B⟩ : Wd) → Hz = er L H14 → RpL K wz Hz accd' accv') →
                    lcGo src1.get t1.f tt1 elt (wipeE e3 vs1) kk (j + 1) S14 = some (rest', S6) → accd ++ zs = accd' ++ rest' → ∃ wk Hk Sk accdk accvk restk, upd H14 L (.lst accv') = upd Hk L (.lst accvk) ∧ Hk L = none ∧ wk.B = w2.B ∧ Stp w1 H1 wk Hk ∧ Wst w6 H6 (wk.hide L) (upd H14 L (.lst accv')) ∧ Ok K wk Sk Hk ∧ RpL K wk Hk accdk accvk ∧ lcGo src1.get t1.f tt1 elt (wipeE e3 vs1) kk (j + 1) Sk = some (restk, S6) ∧ accd ++ zs = accdk ++ restk := by
                  intro w14 H14 S14 accd' accv' rest' s14 k14 racc' hl14 hd14
                  obtain ⟨v1, v2, v3, v4, v5⟩ := unhide kk1 hLk s14 k14
                  have bL14 : w14.B L := (s14.B L _ upd_same (kk1.new hLk).1).mpr (.inr rfl)
                  refine ⟨⟨w14.rho, wk.B⟩, er L H14, S14, accd', accv', rest', ?_, v2, hBk, sk1.trans v3, ?_, v4, racc' _ _ rfl rfl, hl14, hd14⟩
                  · conv => lhs; rw [v1]
                    rw [upd_upd]
                  · refine sk6.trans (s14.toW.trans ⟨⟨[], by simp [Wd.hide]⟩, fun b o h n z => ?_, fun b o h n nb => ⟨?_, n⟩⟩)
                    · rcases z with z | z
                      · obtain ⟨ob, eo⟩ := kk1.bt b z
                        have na : b ∉ wk.rho := fun q => kk1.nb b q z
                        exact (s14.B b ob (by rw [upd_ne (ne_of_none eo hLk)]; exact eo) na).mpr (.inl z)
                      · rw [z]; exact bL14
                    · rw [upd_ne (fun z => nb (by rw [z]; exact bL14))]; exact h
                cases c with
                | true =>
                  refine (show (if (true : Bool) = true then _ else _) from iteT ?_)
                  rw [if_pos rfl] at hk2
                  obtain ⟨⟨z, S13⟩, h13, hk2⟩ := Option.bind_eq_some_iff.mp hk2
                  obtain ⟨⟨zs2, S15⟩, h15, hk2⟩ := Option.bind_eq_some_iff.mp hk2
                  cases hk2
                  refine ⟨w12, e5, S9, z, S13, re11.mono s12, k12, h13, fun w14 H14 v14 s14 k14 r14 => ?_⟩
                  have sk14 : Stp (wk.hide L) (upd Hk L (.lst accvk)) w14 H14 := (st1.trans s12).trans s14
                  obtain ⟨v1, v2, v3, v4, v5⟩ := unhide kk1 hLk sk14 k14
                  have lz : accdk.length < LIM := by
                    have := hz
                    rw [hds, ← List.append_assoc, hdk] at this
                    simp at this
                    omega
                  refine ⟨accvk, by rw [v1, upd_same], by rw [lim_eq, ← rk.length]; exact lz, ?_⟩
                  refine next w14 H14 S13 (accdk ++ [z]) (accvk ++ [v14]) zs2 sk14 k14 (fun wz Hz e1 e2 => ?_) h15 (by rw [hdk]; simp)
                  subst e1 e2
                  exact (rk.mono v3).append (.cons (v5 _ _ r14) .nil)
                | false =>
                  refine (show (if (false : Bool) = true then _ else _) from iteF ?_)
                  rw [if_neg Bool.false_ne_true] at hk2
                  have sk12 : Stp (wk.hide L) (upd Hk L (.lst accvk)) w12 H12 := st1.trans s12
                  obtain ⟨v1, v2, v3, v4, v5⟩ := unhide kk1 hLk sk12 k12
                  have := next w12 H12 S9 accdk accvk restk sk12 k12 (fun wz Hz e1 e2 => by subst e1 e2; exact rk.mono v3) hk2 hdk
                  have e12 : upd H12 L (.lst accvk) = H12 := by
                    conv => lhs; rw [v1]
                    rw [upd_upd]; exact v1.symm
                  rw [e12] at this
                  exact this
        | false =>
          rw [if_neg Bool.false_ne_true]
          rw [if_neg Bool.false_ne_true] at hm2
          obtain ⟨u1, u2, u3, u4, u5⟩ := unhide k2 hLe (st.trans s5) k5
          exact ⟨_, er L H5, S4, accd, accv, rest, u1, u2, s2.trans u3, u4, racc.mono u3, hm2, hds⟩
theorem af_lc2 {elt tg iter tg1 iter1 : Expr} {ifs ifs1 : List Expr} {scope : Scope} {pos : Pos} {mi mi1 : MI} {t t1 : Tg} {tt tt1 : MT} {me : ME} (own : List (Str × Nat)) (vs1 : List Nat) (hc : X.calm = true) (hN : X.N.Nodup) (hi : AI X tg iter mi) (ok : BlkOk X.N X.env.scope scope own)
    (hg : ∀ (s : Shared) (H : Hp) (C : Addr) (cl : List (Str × Addr)) (fp : List Addr), AG (X.blk s H scope (compEnvC scope cl C X.env) fp) tg t) (ht : ∀ (s : Shared) (H : Hp) (C : Addr) (cl : List (Str × Addr)) (fp : List Addr), ATs (X.blk s H scope (compEnvC scope cl C X.env) fp) ifs tt)
    (hi1 : ∀ (s : Shared) (H : Hp) (C : Addr) (cl : List (Str × Addr)) (fp : List Addr), AI (X.blk s H scope (compEnvC scope cl C X.env) fp) tg1 iter1 mi1)
    (hg1 : ∀ (s : Shared) (H : Hp) (C : Addr) (cl : List (Str × Addr)) (fp : List Addr), AG (X.blk s H scope (compEnvC scope cl C X.env) fp) tg1 t1) (ht1 : ∀ (s : Shared) (H : Hp) (C : Addr) (cl : List (Str × Addr)) (fp : List Addr), ATs (X.blk s H scope (compEnvC scope cl C X.env) fp) ifs1 tt1)
    (he : ∀ (s : Shared) (H : Hp) (C : Addr) (cl : List (Str × Addr)) (fp : List Addr), AE (X.blk s H scope (compEnvC scope cl C X.env) fp) elt me) (hs : ∀ x, foldedSetIterable iter X.env x = pure x := by intro _; rfl) (hs1 : ∀ env x, foldedSetIterable iter1 env x = pure x := by intro _ _; rfl)
    (hv : ∀ i ∈ t.slots, i ∈ own.map (·.2) := by decide) (hv1 : ∀ i ∈ t1.slots, i ∈ vs1 := by decide) (hv2 : ∀ i ∈ vs1, i ∈ own.map (·.2) := by decide) :
    AF X (.ListComp elt [⟨tg, iter, ifs, 0⟩, ⟨tg1, iter1, ifs1, 0⟩] scope pos) (mLC2 mi t tt mi1 t1 tt1 me (own.map (·.2)) vs1) := PE.imp (pe_lc2 hc hN hi ok hv2 hg ht hi1 hg1 ht1 he hs hs1) fun _ _ _ => lc2_imp hv hv1
theorem as_setLc2 {i : Nat} {y : Str} {py : Pos} {elt tg iter tg1 iter1 : Expr} {ifs ifs1 : List Expr} {scope : Scope} {pos spos : Pos} {mi mi1 : MI} {t t1 : Tg} {tt tt1 : MT} {me : ME} (own : List (Str × Nat)) (vs1 : List Nat) (hc : X.calm = true) (hN : X.N.Nodup) (hi : AI X tg iter mi) (ok : BlkOk X.N X.env.scope scope own)
    (hg : ∀ (s : Shared) (H : Hp) (C : Addr) (cl : List (Str × Addr)) (fp : List Addr), AG (X.blk s H scope (compEnvC scope cl C X.env) fp) tg t) (ht : ∀ (s : Shared) (H : Hp) (C : Addr) (cl : List (Str × Addr)) (fp : List Addr), ATs (X.blk s H scope (compEnvC scope cl C X.env) fp) ifs tt)
    (hi1 : ∀ (s : Shared) (H : Hp) (C : Addr) (cl : List (Str × Addr)) (fp : List Addr), AI (X.blk s H scope (compEnvC scope cl C X.env) fp) tg1 iter1 mi1)
    (hg1 : ∀ (s : Shared) (H : Hp) (C : Addr) (cl : List (Str × Addr)) (fp : List Addr), AG (X.blk s H scope (compEnvC scope cl C X.env) fp) tg1 t1) (ht1 : ∀ (s : Shared) (H : Hp) (C : Addr) (cl : List (Str × Addr)) (fp : List Addr), ATs (X.blk s H scope (compEnvC scope cl C X.env) fp) ifs1 tt1)
    (he : ∀ (s : Shared) (H : Hp) (C : Addr) (cl : List (Str × Addr)) (fp : List Addr), AE (X.blk s H scope (compEnvC scope cl C X.env) fp) elt me) (hy : X.N[i]? = some y := by rfl) (hyl : X.env.scope.names.lookup y = some .local := by rfl)
    (hsw : swapsWith (.ListComp elt [⟨tg, iter, ifs, 0⟩, ⟨tg1, iter1, ifs1, 0⟩] scope pos) (some (.Name y py)) spos.line X.env = pure true := by exact sw_true rfl rfl rfl (by decide +kernel)) (hs : ∀ x, foldedSetIterable iter X.env x = pure x := by intro _; rfl) (hs1 : ∀ env x, foldedSetIterable iter1 env x = pure x := by intro _ _; rfl)
    (hv : ∀ i ∈ t.slots, i ∈ own.map (·.2) := by decide) (hv1 : ∀ i ∈ t1.slots, i ∈ vs1 := by decide) (hv2 : ∀ i ∈ vs1, i ∈ own.map (·.2) := by decide) (sto : Bool) :
    AS X (.Assign [.Name y py] (.ListComp elt [⟨tg, iter, ifs, 0⟩, ⟨tg1, iter1, ifs1, 0⟩] scope pos) spos) (mAsg ((if sto then mSto else mVal) (mLC2 mi t tt mi1 t1 tt1 me (own.map (·.2)) vs1)) (.nm i)) := PS.imp (ps_setLc2 hc hN hy hyl hsw hi ok hv2 hg ht hi1 hg1 ht1 he hs hs1) fun D σ H h => by
  obtain ⟨w, e, S, f, S', re, k, hm, q⟩ := h
  unfold mAsg at hm
  obtain ⟨⟨d, S1⟩, h1, hm⟩ := Option.bind_eq_some_iff.mp hm
  obtain ⟨e1, h2, hm⟩ := Option.bind_eq_some_iff.mp hm
  cases hm
  have fin : ∀ w' H' v, Stp w H w' H' → Ok X.K w' S' H' → Rp X.K w' H' d v → gName i v σ H' D.nx := fun w' H' v s' k' r' => by
    cases h2
    exact q w' H' s' k' _ ((re.mono s').set r')
  cases sto with
  | true =>
    rw [if_pos rfl] at h1
    unfold mSto at h1
    obtain ⟨⟨ds, S2⟩, h3, h1⟩ := Option.bind_eq_some_iff.mp h1
    cases h1
    exact lc2_imp hv hv1 ⟨w, e, S, ds, S2, re, k, h3, fun w' H' p vs s' k' hp r => Post.addL (fun w2 H2 v s2 k2 r2 => fin w2 H2 v (s'.trans s2) k2 r2) k' hp r⟩
  | false =>
    rw [if_neg Bool.false_ne_true] at h1
    unfold mVal at h1
    obtain ⟨⟨ds, S2⟩, h3, h1⟩ := Option.bind_eq_some_iff.mp h1
    cases h1
    exact lc2_imp hv hv1 ⟨w, e, S, ds, _, re, k, h3, fun w' H' p vs s' k' hp r => Post.newL (fun w2 H2 v s2 k2 r2 => fin w2 H2 v (s'.trans s2) k2 r2) k' hp r⟩
end
end DV

/-! DVs: reckoning with the meanings, in plain Lean. -/
namespace DV
open PySem PySem.Spec PyProof.Rows L2
section
variable {e : Ev} {S : Store} {m m1 m2 ma mb mc : ME} {a b c : MT} {ms : ML} {s t : MS} {i : Nat} {d : D}
@[simp] theorem r_V : mV i e S = (match e[i]? with | some (some d) => some (d, S) | _ => none) := rfl
@[simp] theorem r_C : mC d e S = some (d, S) := rfl
@[simp] theorem r_Bin {f} : mBin f ma mb e S = (ma e S).bind fun x => (mb e x.2).bind fun y => f x.1 y.1 y.2 := rfl
@[simp] theorem r_TV : mTV m e S = (m e S).bind fun x => match x.1 with | .bl b => some (b, x.2) | _ => none := rfl
@[simp] theorem r_Tru : mTru m e S = (m e S).bind fun x => (truth' x.1 x.2).bind fun b => some (b, x.2) := rfl
@[simp] theorem r_And : mAnd a b e S = (a e S).bind fun x => if x.1 then b e x.2 else some (false, x.2) := rfl
@[simp] theorem r_Or : mOr a b e S = (a e S).bind fun x => if x.1 then some (true, x.2) else b e x.2 := rfl
@[simp] theorem r_Not : mNot a e S = (a e S).bind fun x => some (!x.1, x.2) := rfl
@[simp] theorem r_AndV : mAndV ma mb e S = (ma e S).bind fun x => (truth' x.1 x.2).bind fun c => if c then mb e x.2 else some (x.1, x.2) := rfl
@[simp] theorem r_OrV : mOrV ma mb e S = (ma e S).bind fun x => (truth' x.1 x.2).bind fun c => if c then some (x.1, x.2) else mb e x.2 := rfl
@[simp] theorem r_NotV : mNotV ma e S = (ma e S).bind fun x => (truth' x.1 x.2).bind fun c => some (.bl (!c), x.2) := rfl
@[simp] theorem r_If : mIf c ma mb e S = (c e S).bind fun x => if x.1 then ma e x.2 else mb e x.2 := rfl
@[simp] theorem r_Un {f} : mUn f m e S = (m e S).bind fun x => (f x.1).bind fun r => some (r, x.2) := rfl
@[simp] theorem r_neg {i : Int} : fNeg (.int i) = some (.int (-i)) := rfl
@[simp] theorem r_CB {f} : mCB f ms e S = (ms e S).bind fun x => f x.1 x.2 := rfl
@[simp] theorem r_Call {M} : mCall M ms e S = (ms e S).bind fun x => M x.1 x.2 := rfl
@[simp] theorem r_Nil : mNil e S = some ([], S) := rfl
@[simp] theorem r_Cons : mCons m ms e S = (m e S).bind fun x => (ms e x.2).bind fun y => some (x.1 :: y.1, y.2) := rfl
@[simp] theorem r_Tup : mTup ms e S = (ms e S).bind fun x => if x.1.length ≤ LIM then some (.tup x.1, x.2) else none := rfl
@[simp] theorem r_Lst : mLst ms e S = (ms e S).bind fun x => if x.1.length ≤ LIM then some (x.1, x.2) else none := rfl
@[simp] theorem r_Val {ml : ML} : mVal ml e S = (ml e S).bind fun x => some (.lst x.1, x.2) := rfl
@[simp] theorem r_Sto {ml : ML} : mSto ml e S = (ml e S).bind fun x => some (.ref x.2.length, x.2 ++ [.lst x.1]) := rfl
@[simp] theorem r_ListOf : mListOf m e S = (m e S).bind fun x => (seqOf x.1 x.2).bind fun xs => some (xs, x.2) := rfl
@[simp] theorem r_Sorted : mSorted m e S = (m e S).bind fun x => (seqOf x.1 x.2).bind fun xs => if D.fitL 31 xs ∧ alikeB xs ∧ sortableB xs then some (xs.mergeSort dle, x.2) else none := rfl
@[simp] theorem r_Skip : mSkip e S = some (.nx e, S) := rfl
@[simp] theorem r_Ret : mRet m e S = (m e S).bind fun x => some (.rt x.1, x.2) := rfl
@[simp] theorem r_Drop : mDrop m e S = (m e S).bind fun x => some (.nx e, x.2) := rfl
@[simp] theorem r_IfS : mIfS c s t e S = (c e S).bind fun x => if x.1 then s e x.2 else t e x.2 := rfl
@[simp] theorem r_Asg {g : Tg} : mAsg m g e S = (m e S).bind fun x => (g.f x.1 e).bind fun e1 => some (.nx e1, x.2) := rfl
@[simp] theorem r_nm : (Tg.nm i).f d e = some (e.set i (some d)) := rfl
@[simp] theorem r_tp {is : List Nat} {ds : List D} : (Tg.tp is).f (.tup ds) e = if ds.length = is.length then some (setAll is ds e) else none := rfl
@[simp] theorem r_Bk : mBk e S = some (.bk e, S) := rfl
@[simp] theorem r_Ct : mCt e S = some (.ct e, S) := rfl
@[simp] theorem r_It : mIt m e S = (m e S).bind fun x => (srcOf x.1 x.2).bind fun s => some (s, x.2) := rfl
@[simp] theorem r_Rg1 : mRg1 ms e S = (ms e S).bind fun x => match x.1 with | [.int b] => if I62 b then some (.seq (rngL 0 b), x.2) else none | _ => none := rfl
@[simp] theorem r_Rg2 : mRg2 ms e S = (ms e S).bind fun x => match x.1 with | [.int a, .int b] => if I62 a ∧ I62 b then some (.seq (rngL a b), x.2) else none | _ => none := rfl
@[simp] theorem r_O0 : mO0 e S = some (none, S) := rfl
@[simp] theorem r_O1 : mO1 m e S = (m e S).bind fun x => match x.1 with | .int i => some (some i, x.2) | _ => none := rfl
@[simp] theorem r_Sl {f} {ml mh : MO} : mSl f m ml mh e S = (m e S).bind fun x => (ml e x.2).bind fun y => (mh e y.2).bind fun z => (f x.1 y.1 z.1).bind fun r => some (r, z.2) := rfl
@[simp] theorem r_SlL {ml mh : MO} : mSlL m ml mh e S = (m e S).bind fun x => (ml e x.2).bind fun y => (mh e y.2).bind fun z => (lstOf x.1 z.2).bind fun xs => some (cutD xs y.1 z.1, z.2) := rfl
@[simp] theorem r_slT {xs : List D} {lo hi} : fSlT (.tup xs) lo hi = some (.tup (cutD xs lo hi)) := rfl
@[simp] theorem r_SetIx : mSetIx m m1 m2 e S = (m e S).bind fun x => (m1 e x.2).bind fun y => (m2 e y.2).bind fun z => match y.1, z.1 with
  | .ref p, .int k => match z.2[p]? with
    | some (.lst xs) => (ixN xs.length k).bind fun j => some (.nx e, z.2.set p (.lst (xs.set j x.1)))
    | _ => none
  | _, _ => none := rfl
@[simp] theorem r_Par {j : Nat} : mPar i j ms e S = (ms e S).bind fun x => match x.1 with | [d1, d2] => some (.nx ((e.set i (some d1)).set j (some d2)), x.2) | _ => none := rfl
@[simp] theorem r_add {i j : Int} : fAdd (.int i) (.int j) S = some (.int (i + j), S) := rfl
@[simp] theorem r_addT {x y : List D} : fAdd (.tup x) (.tup y) S = if x.length + y.length ≤ LIM then some (.tup (x ++ y), S) else none := rfl
@[simp] theorem r_addL {x y : List D} : fAdd (.lst x) (.lst y) S = if x.length + y.length ≤ LIM then some (.lst (x ++ y), S) else none := rfl
@[simp] theorem r_subI {i j : Int} : fSub (.int i) (.int j) S = some (.int (i - j), S) := rfl
@[simp] theorem r_mul {i j : Int} : fMul (.int i) (.int j) S = if MulOk i j then some (.int (i * j), S) else none := rfl
@[simp] theorem r_mod {i j : Int} : fMod (.int i) (.int j) S = if 0 < j then some (.int (i % j), S) else none := rfl
@[simp] theorem r_div {i j : Int} : fDiv (.int i) (.int j) S = if 0 < j ∧ j.natAbs < BIG then some (.int (i / j), S) else none := rfl
@[simp] theorem r_pow {i j : Int} : fPow (.int i) (.int j) S = if 0 ≤ j ∧ j ≤ 1000000 ∧ i.natAbs < 2 ^ 64 then some (.int (i ^ j.toNat), S) else none := rfl
@[simp] theorem r_cmp {pI pD} {i j : Int} : fCmp pI pD (.int i) (.int j) S = some (.bl (pI i j), S) := rfl
@[simp] theorem r_len {d : D} (h : ∀ y, d ≠ .str y) : fLen [d] S = (seqOf d S).bind fun xs => some (.int xs.length, S) := by
  cases d <;> first | rfl | exact absurd rfl (h _)
@[simp] theorem r_int {i : Int} : fInt [.int i] S = some (.int i, S) := rfl
@[simp] theorem r_intb {b : Bool} : fInt [.bl b] S = some (.int (if b then 1 else 0), S) := rfl
@[simp] theorem r_tuple : fTuple [d] S = (seqOf d S).bind fun xs => some (.tup xs, S) := rfl
@[simp] theorem r_sum : fSum [d] S = (lstOf d S).bind fun xs => (intsOf xs).bind fun ns => some (.int ns.sum, S) := rfl
@[simp] theorem r_any : fAny [d] S = (lstOf d S).bind fun xs => (blsOf xs).bind fun bs => some (.bl (bs.any id), S) := rfl
@[simp] theorem r_all : fAll [d] S = (lstOf d S).bind fun xs => (blsOf xs).bind fun bs => some (.bl (bs.all id), S) := rfl
@[simp] theorem r_min2 {i j : Int} : fMinA [.int i, .int j] S = some (.int (if j < i then j else i), S) := rfl
@[simp] theorem r_max2 {i j : Int} : fMaxA [.int i, .int j] S = some (.int (if j > i then j else i), S) := rfl
@[simp] theorem r_rng1 {b : Int} : fRng1 [.int b] S = some (.rng 0 b, S) := rfl
@[simp] theorem r_rng2 {a b : Int} : fRng2 [.int a, .int b] S = some (.rng a b, S) := rfl
@[simp] theorem seq_tup {xs : List D} : seqOf (.tup xs) S = some xs := rfl
@[simp] theorem seq_lst {xs : List D} : seqOf (.lst xs) S = some xs := rfl
@[simp] theorem seq_fr {xs : List D} : seqOf (.fr xs) S = some xs := rfl
@[simp] theorem seq_ref {p : Nat} : seqOf (.ref p) S = (match S[p]? with | some (.lst xs) => some xs | _ => none) := rfl
@[simp] theorem lst_lst {xs : List D} : lstOf (.lst xs) S = some xs := rfl
@[simp] theorem lst_fr {xs : List D} : lstOf (.fr xs) S = some xs := rfl
@[simp] theorem lst_ref {p : Nat} : lstOf (.ref p) S = (match S[p]? with | some (.lst xs) => some xs | _ => none) := rfl
@[simp] theorem ltr_lst {xs : List D} : lstTr (.lst xs) S = some xs := rfl
@[simp] theorem ltr_ref {p : Nat} : lstTr (.ref p) S = (match S[p]? with | some (.lst xs) => some xs | _ => none) := rfl
@[simp] theorem src_tup {xs : List D} : srcOf (.tup xs) S = some (.seq xs) := rfl
@[simp] theorem src_lst {xs : List D} : srcOf (.lst xs) S = some (.seq xs) := rfl
@[simp] theorem src_fr {xs : List D} : srcOf (.fr xs) S = some (.seq xs) := rfl
@[simp] theorem src_rng {lo hi : Int} : srcOf (.rng lo hi) S = if I62 lo ∧ I62 hi then some (.seq (rngL lo hi)) else none := rfl
@[simp] theorem ints_map (ns : List Int) : intsOf (ns.map D.int) = some ns := intsOf_map ns
@[simp] theorem bls_map (ns : List Bool) : blsOf (ns.map D.bl) = some ns := blsOf_map ns
@[simp] theorem ix_tup {xs : List D} {i : Int} : fIx (.tup xs) (.int i) S = (atI xs i).bind fun d => some (d, S) := rfl
@[simp] theorem ix_lst {xs : List D} {i : Int} : fIx (.lst xs) (.int i) S = (atI xs i).bind fun d => some (d, S) := rfl
@[simp] theorem ix_ref {p : Nat} {i : Int} : fIx (.ref p) (.int i) S = (seqOf (.ref p) S).bind fun xs => (atI xs i).bind fun d => some (d, S) := rfl
@[simp] theorem tr_bl {b : Bool} : truth' (.bl b) S = some b := rfl
@[simp] theorem tr_int {i : Int} : truth' (.int i) S = some (i != 0) := rfl
@[simp] theorem tr_tup {xs : List D} : truth' (.tup xs) S = some !xs.isEmpty := rfl
@[simp] theorem tr_lst {xs : List D} : truth' (.lst xs) S = some !xs.isEmpty := rfl
@[simp] theorem tr_ref {p : Nat} : truth' (.ref p) S = (match S[p]? with | some (.lst xs) => some !xs.isEmpty | _ => none) := rfl
@[simp] theorem tr_non : truth' .non S = some false := rfl
@[simp] theorem r_frz {n k : Nat} {i : Int} : frz n S (k + 1) (.int i) = some (.int i) := by simp only [frz]
@[simp] theorem r_frzb {n k : Nat} {i : Bool} : frz n S (k + 1) (.bl i) = some (.bl i) := by simp only [frz]
@[simp] theorem r_frzn {n k : Nat} : frz n S (k + 1) .non = some .non := by simp only [frz]
@[simp] theorem r_frzs {n k : Nat} {x : Str} : frz n S (k + 1) (.str x) = some (.str x) := by simp only [frz]
@[simp] theorem is_int {T : String} : mIsi T m e S = (m e S).bind fun x => (tyOf x.1 x.2).bind fun t => some (.bl (isT t T), x.2) := rfl
@[simp] theorem is_two {T1 T2 : String} : mIsi2 T1 T2 m e S = (m e S).bind fun x => (tyOf x.1 x.2).bind fun t => some (.bl (isT t T1 || isT t T2), x.2) := rfl
end
/-- content without places of the store: it stands as it is -/
theorem frz_fit : ∀ (k : Nat) (n : Nat) (S : Store) (d : D), D.fit k d = true → frz n S (k + 1) d = some d
  | k, n, S, .non, _ => by simp only [frz]
  | k, n, S, .bl _, _ => by simp only [frz]
  | k, n, S, .int _, _ => by simp only [frz]
  | k, n, S, .str _, _ => by simp only [frz]
  | 0, n, S, .tup xs, h => by simp [D.fit] at h
  | k + 1, n, S, .tup xs, h => by
    simp only [D.fit] at h
    have : frz.frzL n S (k + 1) xs = some xs := by
      induction xs with
      | nil => simp only [frz.frzL]
      | cons x xs ih =>
        simp only [D.fitL, Bool.and_eq_true] at h
        simp only [frz.frzL]
        rw [frz_fit k n S x h.1, ih h.2]; rfl
    simp only [frz, this, Option.map_some]
  | 0, n, S, .lst xs, h => by simp [D.fit] at h
  | k + 1, n, S, .lst xs, h => by
    simp only [D.fit] at h
    have : frz.frzL n S (k + 1) xs = some xs := by
      induction xs with
      | nil => simp only [frz.frzL]
      | cons x xs ih =>
        simp only [D.fitL, Bool.and_eq_true] at h
        simp only [frz.frzL]
        rw [frz_fit k n S x h.1, ih h.2]; rfl
    simp only [frz, this, Option.map_some]
  | k, n, S, .ref _, h => by simp [D.fit] at h
  | k, n, S, .fr _, h => by simp [D.fit] at h
  | k, n, S, .rng _ _, h => by simp [D.fit] at h
theorem fit_ints (k : Nat) (ns : List Int) : D.fitL k (ns.map D.int) = true := by
  induction ns with
  | nil => rfl
  | cons n r ih => simp [D.fitL, D.fit, ih]
theorem fin_pure {S : Store} {d : D} (h : D.fit 11 d = true) : fin .pure S d S = some (d, S) := by
  unfold fin
  simp [frz_fit 11 _ _ _ h]
theorem fin_pure_app {S T : Store} {d : D} (h : D.fit 11 d = true) : fin .pure S d (S ++ T) = some (d, S) := by
  unfold fin
  simp [frz_fit 11 _ _ _ h]
/-! ### loops by their lists -/
def lcL (bind : D → Ev → Option Ev) (tt : MT) (elt : ME) (e0 : Ev) : List D → Store → Option (List D × Store)
  | [], S => some ([], S)
  | d :: ds, S => (bind d e0).bind fun e1 => (tt e1 S).bind fun x => if x.1 then (elt e1 x.2).bind fun y => (lcL bind tt elt e0 ds y.2).bind fun z => some (y.1 :: z.1, z.2) else lcL bind tt elt e0 ds x.2
theorem lcGo_seq {bind : D → Ev → Option Ev} {tt : MT} {elt : ME} {e0 : Ev} {L : List D} : ∀ (n i : Nat) (S : Store), L.length = i + n → lcGo (Src.seq L).get bind tt elt e0 n i S = lcL bind tt elt e0 (L.drop i) S
  | 0, i, S, h => by
    have e : L.drop i = [] := List.drop_eq_nil_of_le (by omega)
    rw [e]
    have : (Src.seq L).get i S = some none := by show some L[i]? = some none; rw [List.getElem?_eq_none (by omega)]
    simp only [lcGo, this, lcL]
  | n + 1, i, S, h => by
    have hi : i < L.length := by omega
    have : (Src.seq L).get i S = some (some L[i]) := by show some L[i]? = _; rw [List.getElem?_eq_getElem hi]
    rw [List.drop_eq_getElem_cons hi]
    simp only [lcGo, this, lcL]
    congr 1; funext e1; congr 1; funext x
    obtain ⟨b, S1⟩ := x
    cases b with
    | true =>
      simp only [if_true]
      congr 1; funext y
      obtain ⟨y, S2⟩ := y
      simp only
      rw [lcGo_seq n (i + 1) S2 (by omega)]
    | false =>
      simp only [Bool.false_eq_true, if_false]
      rw [lcGo_seq n (i + 1) S1 (by omega)]
theorem lcGo_all {bind : D → Ev → Option Ev} {tt : MT} {elt : ME} {e0 : Ev} {L : List D} {S : Store} : lcGo (Src.seq L).get bind tt elt e0 (Src.seq L).n 0 S = lcL bind tt elt e0 L S := lcGo_seq L.length 0 S (by omega)
def forL (bind : D → Ev → Option Ev) (body : MS) : List D → Ev → Store → Option (Fl × Store)
  | [], e, S => some (.nx e, S)
  | d :: ds, e, S => (bind d e).bind fun e1 => (body e1 S).bind fun x => match x.1 with
      | .nx e2 => forL bind body ds e2 x.2
      | .ct e2 => forL bind body ds e2 x.2
      | .bk e2 => some (.nx e2, x.2)
      | .rt d => some (.rt d, x.2)
theorem forGo_seq {bind : D → Ev → Option Ev} {body : MS} {L : List D} : ∀ (n i : Nat) (e : Ev) (S : Store), L.length = i + n → forGo (Src.seq L).get bind body n i e S = forL bind body (L.drop i) e S
  | 0, i, e, S, h => by
    have e : L.drop i = [] := List.drop_eq_nil_of_le (by omega)
    rw [e]
    have : (Src.seq L).get i S = some none := by show some L[i]? = some none; rw [List.getElem?_eq_none (by omega)]
    simp only [forGo, this, forL]
  | n + 1, i, e, S, h => by
    have hi : i < L.length := by omega
    have : (Src.seq L).get i S = some (some L[i]) := by show some L[i]? = _; rw [List.getElem?_eq_getElem hi]
    rw [List.drop_eq_getElem_cons hi]
    simp only [forGo, this, forL]
    congr 1; funext e1; congr 1; funext x
    obtain ⟨f, S1⟩ := x
    cases f with
    | nx e2 => exact forGo_seq n (i + 1) e2 S1 (by omega)
    | ct e2 => exact forGo_seq n (i + 1) e2 S1 (by omega)
    | bk e2 => rfl
    | rt d => rfl
theorem forGo_all {bind : D → Ev → Option Ev} {body : MS} {L : List D} {e : Ev} {S : Store} : forGo (Src.seq L).get bind body (Src.seq L).n 0 e S = forL bind body L e S := forGo_seq L.length 0 e S (by omega)
theorem enum_seq (L : List D) : (Src.seq L).enum = Src.seq (L.mapIdx fun i d => .tup [.int (i : Nat), d]) := by
  unfold Src.enum Src.seq
  simp only [List.length_mapIdx, Src.mk.injEq, true_and]
  funext i S
  simp
section
variable {e : Ev} {S : Store} {m : ME} {mi : MI} {t : Tg} {tt : MT} {elt : ME} {vs : List Nat} {body : MS}
/-- a comprehension over what is known -/
theorem r_LC {L : List D} {S1 : Store} (h : mi e S = some (.seq L, S1)) : mLC mi t tt elt vs e S = (lcL t.f tt elt (wipeE e vs) L S1).bind fun x => if x.1.length ≤ LIM then some x else none := by
  unfold mLC
  rw [h]
  simp only [Option.bind_some, lcGo_all]
theorem r_For {L : List D} {S1 : Store} (h : mi e S = some (.seq L, S1)) : mFor mi t body e S = forL t.f body L e S1 := by
  unfold mFor
  rw [h]
  simp only [Option.bind_some, forGo_all]
@[simp] theorem r_Enum : mEnum m e S = (m e S).bind fun x => match x.1 with | .rng _ _ => none | _ => (srcOf x.1 x.2).bind fun s => some (s.enum, x.2) := rfl
end
/-- .. where nothing is changed -/
theorem lcL_pure {α : Type} {bind : D → Ev → Option Ev} {tt : MT} {elt : ME} {e0 : Ev} {S : Store} (enc : α → D) (p : α → Bool) (f : α → D) : ∀ (xs : List α), (∀ x ∈ xs, ∃ e1, bind (enc x) e0 = some e1 ∧ tt e1 S = some (p x, S) ∧ (p x = true → elt e1 S = some (f x, S))) →
    lcL bind tt elt e0 (xs.map enc) S = some ((xs.filter p).map f, S)
  | [], _ => rfl
  | x :: xs, h => by
    obtain ⟨e1, h1, h2, h3⟩ := h x (by simp)
    have ih := lcL_pure enc p f xs fun y hy => h y (by simp [hy])
    simp only [List.map_cons, lcL, h1, Option.bind_some, h2]
    by_cases hp : p x = true
    · rw [if_pos hp, h3 hp, Option.bind_some, ih, Option.bind_some, List.filter_cons_of_pos hp]; rfl
    · rw [if_neg hp, ih, List.filter_cons_of_neg hp]
theorem lcL_map {α : Type} {bind : D → Ev → Option Ev} {elt : ME} {e0 : Ev} {S : Store} (enc : α → D) (f : α → D) (xs : List α) (h : ∀ x ∈ xs, ∃ e1, bind (enc x) e0 = some e1 ∧ elt e1 S = some (f x, S)) :
    lcL bind mYes elt e0 (xs.map enc) S = some (xs.map f, S) := by
  rw [lcL_pure enc (fun _ => true) f xs fun x hx => by obtain ⟨e1, h1, h2⟩ := h x hx; exact ⟨e1, h1, rfl, fun _ => h2⟩]
  rw [List.filter_eq_self.2 (fun _ _ => rfl)]
/-- a loop that keeps an invariant and goes to its end -/
theorem forL_inv {bind : D → Ev → Option Ev} {body : MS} (I : List D → Ev → Store → Prop) : ∀ (L : List D) (e : Ev) (S : Store), I L e S →
    (∀ d L e S, I (d :: L) e S → ∃ e1 e2 S1, bind d e = some e1 ∧ (body e1 S = some (.nx e2, S1) ∨ body e1 S = some (.ct e2, S1)) ∧ I L e2 S1) → ∃ e' S', forL bind body L e S = some (.nx e', S') ∧ I [] e' S'
  | [], e, S, h, _ => ⟨e, S, rfl, h⟩
  | d :: L, e, S, h, st => by
    obtain ⟨e1, e2, S1, h1, h2, h3⟩ := st d L e S h
    obtain ⟨e', S', h4, h5⟩ := forL_inv I L e2 S1 h3 st
    refine ⟨e', S', ?_, h5⟩
    simp only [forL, h1, Option.bind_some]
    rcases h2 with h2 | h2 <;> simp only [h2, Option.bind_some, h4]
theorem rngL_eq (n : Nat) : rngL 0 (n : Int) = (List.range n).map fun (i : Nat) => D.int (i : Int) := by
  unfold rngL
  simp
theorem rngL_ab (a b : Int) : rngL a b = (List.range (b - a).toNat).map fun (i : Nat) => D.int (a + (i : Int)) := rfl
theorem atI_of {α : Type} {xs : List α} {i : Nat} (h : i < xs.length) : atI xs (i : Int) = some xs[i] := by rw [atI_nat (List.getElem?_eq_getElem h)]
theorem atI_map {α : Type} {xs : List α} {f : α → D} {i : Nat} (h : i < xs.length) : atI (xs.map f) (i : Int) = some (f xs[i]) := by rw [atI_nat (j := i) (v := f xs[i])]; simp [h]
/-! ### == of content -/
@[simp] theorem deq_int {i j : Int} : deq (.int i) (.int j) = (i == j) := by simp [deq, D.py, PyData.eqv]
@[simp] theorem deq_str {x y : Str} : deq (.str x) (.str y) = (x == y) := by simp [deq, D.py, PyData.eqv]
@[simp] theorem deq_tup {x y : List D} : deq (.tup x) (.tup y) = deqL x y := by simp [deq, deqL, D.py, PyData.eqv]
@[simp] theorem deq_lst {x y : List D} : deq (.lst x) (.lst y) = deqL x y := by simp [deq, deqL, D.py, PyData.eqv]
@[simp] theorem deqL_nil : deqL [] [] = true := by simp [deqL, D.pyL, PyData.eqvAll]
@[simp] theorem deqL_cons {a b : D} {x y : List D} : deqL (a :: x) (b :: y) = (deq a b && deqL x y) := by simp [deqL, deq, D.pyL, PyData.eqvAll]
@[simp] theorem deqL_nc {b : D} {y : List D} : deqL [] (b :: y) = false := by simp [deqL, D.pyL, PyData.eqvAll]
@[simp] theorem deqL_cn {b : D} {y : List D} : deqL (b :: y) [] = false := by simp [deqL, D.pyL, PyData.eqvAll]
theorem deqL_ints : ∀ x y : List Int, deqL (x.map D.int) (y.map D.int) = decide (x = y)
  | [], [] => by simp
  | [], _ :: _ => by simp
  | _ :: _, [] => by simp
  | a :: x, b :: y => by
    simp only [List.map_cons, deqL_cons, deq_int, deqL_ints x y, List.cons.injEq]
    by_cases h : a = b <;> simp [h]
@[simp] theorem fit_int {n : Nat} {i : Int} : D.fit n (.int i) = true := by cases n <;> rfl
@[simp] theorem fit_bl {n : Nat} {i : Bool} : D.fit n (.bl i) = true := by cases n <;> rfl
@[simp] theorem fit_non {n : Nat} : D.fit n .non = true := by cases n <;> rfl
@[simp] theorem fit_str {n : Nat} {x : Str} : D.fit n (.str x) = PyData.strOk x := by cases n <;> rfl
@[simp] theorem fit_tup {n : Nat} {x : List D} : D.fit (n + 1) (.tup x) = D.fitL n x := rfl
@[simp] theorem fit_lst {n : Nat} {x : List D} : D.fit (n + 1) (.lst x) = D.fitL n x := rfl
@[simp] theorem fitL_nil {n : Nat} : D.fitL n [] = true := rfl
@[simp] theorem fitL_cons {n : Nat} {d : D} {x : List D} : D.fitL n (d :: x) = (D.fit n d && D.fitL n x) := rfl
@[simp] theorem fitL_ints {n : Nat} {x : List Int} : D.fitL n (x.map D.int) = true := fit_ints n x
theorem fitL_map {α : Type} {n : Nat} {f : α → D} : ∀ {xs : List α}, (∀ x ∈ xs, D.fit n (f x) = true) → D.fitL n (xs.map f) = true
  | [], _ => rfl
  | x :: xs, h => by simp only [List.map_cons, fitL_cons, Bool.and_eq_true]; exact ⟨h x (by simp), fitL_map fun y hy => h y (by simp [hy])⟩
@[simp] theorem r_eq {a b : D} {S : Store} : fEq a b S = if D.fit 32 (readTop a S) ∧ D.fit 32 (readTop b S) then some (.bl (deq (readTop a S) (readTop b S)), S) else none := rfl
@[simp] theorem r_ne {a b : D} {S : Store} : fNe a b S = if D.fit 32 (readTop a S) ∧ D.fit 32 (readTop b S) then some (.bl (!deq (readTop a S) (readTop b S)), S) else none := rfl
@[simp] theorem rt_int {i : Int} {S : Store} : readTop (.int i) S = .int i := rfl
@[simp] theorem rt_str {i : Str} {S : Store} : readTop (.str i) S = .str i := rfl
@[simp] theorem rt_non {S : Store} : readTop .non S = .non := rfl
@[simp] theorem rt_bl {i : Bool} {S : Store} : readTop (.bl i) S = .bl i := rfl
@[simp] theorem rt_tup {i : List D} {S : Store} : readTop (.tup i) S = .tup i := rfl
@[simp] theorem rt_lst {i : List D} {S : Store} : readTop (.lst i) S = .lst i := rfl
end DV
namespace DV
open PySem PySem.Spec PyProof.Rows L2
/-- a def by its body -/
theorem fn_rt {nN np : Nat} {m : Mode} {body : MS} {ds : List D} {S S' : Store} {d : D} {r : Option (D × Store)} (hl : ds.length = np) (hb : body (ds.map some ++ List.replicate (nN - np) none) S = some (.rt d, S')) (hf : fin m S d S' = r) : fnM nN np m body ds S = r := by
  unfold fnM; rw [if_pos hl, hb]; exact hf
theorem fn_nx {nN np : Nat} {m : Mode} {body : MS} {ds : List D} {S S' : Store} {e : Ev} {r : Option (D × Store)} (hl : ds.length = np) (hb : body (ds.map some ++ List.replicate (nN - np) none) S = some (.nx e, S')) (hf : fin m S .non S' = r) : fnM nN np m body ds S = r := by
  unfold fnM; rw [if_pos hl, hb]; exact hf
theorem seq_nx {s t : MS} {e e1 : Ev} {S S1 : Store} {r : Option (Fl × Store)} (h : s e S = some (.nx e1, S1)) (h2 : t e1 S1 = r) : mSeq s t e S = r := by
  unfold mSeq; rw [h]; exact h2
theorem seq_rt {s t : MS} {e : Ev} {S S1 : Store} {d : D} (h : s e S = some (.rt d, S1)) : mSeq s t e S = some (.rt d, S1) := by
  unfold mSeq; rw [h]; rfl
theorem seq_bk {s t : MS} {e e1 : Ev} {S S1 : Store} (h : s e S = some (.bk e1, S1)) : mSeq s t e S = some (.bk e1, S1) := by
  unfold mSeq; rw [h]; rfl
theorem ret_of {m : ME} {e : Ev} {S S1 : Store} {d : D} (h : m e S = some (d, S1)) : mRet m e S = some (.rt d, S1) := by
  rw [r_Ret, h]; rfl
theorem asg_of {m : ME} {i : Nat} {e : Ev} {S S1 : Store} {d : D} (h : m e S = some (d, S1)) : mAsg m (.nm i) e S = some (.nx (e.set i (some d)), S1) := by
  rw [r_Asg, h]; rfl
theorem call_of {M : Fn} {ms : ML} {e : Ev} {S S1 : Store} {ds : List D} {r : Option (D × Store)} (h : ms e S = some (ds, S1)) (h2 : M ds S1 = r) : mCall M ms e S = r := by
  rw [r_Call, h]; exact h2
theorem val_lc {mi : MI} {t : Tg} {tt : MT} {elt : ME} {vs : List Nat} {e : Ev} {S S1 S2 : Store} {L ys : List D} (h : mi e S = some (.seq L, S1)) (h2 : lcL t.f tt elt (wipeE e vs) L S1 = some (ys, S2)) (h3 : ys.length ≤ LIM) : mVal (mLC mi t tt elt vs) e S = some (.lst ys, S2) := by
  rw [r_Val, r_LC h, h2]; simp only [Option.bind_some]; rw [if_pos h3]; rfl
theorem sto_lc {mi : MI} {t : Tg} {tt : MT} {elt : ME} {vs : List Nat} {e : Ev} {S S1 S2 : Store} {L ys : List D} (h : mi e S = some (.seq L, S1)) (h2 : lcL t.f tt elt (wipeE e vs) L S1 = some (ys, S2)) (h3 : ys.length ≤ LIM) : mSto (mLC mi t tt elt vs) e S = some (.ref S2.length, S2 ++ [.lst ys]) := by
  rw [r_Sto, r_LC h, h2]; simp only [Option.bind_some]; rw [if_pos h3]; rfl
theorem bin_of {f} {ma mb : ME} {e : Ev} {S S1 S2 : Store} {a b : D} {r : Option (D × Store)} (h1 : ma e S = some (a, S1)) (h2 : mb e S1 = some (b, S2)) (h3 : f a b S2 = r) : mBin f ma mb e S = r := by
  unfold mBin; rw [h1]; simp only [Option.bind_some]; rw [h2]; exact h3
theorem cb_of {f} {ms : ML} {e : Ev} {S S1 : Store} {ds : List D} {r : Option (D × Store)} (h1 : ms e S = some (ds, S1)) (h3 : f ds S1 = r) : mCB f ms e S = r := by
  rw [r_CB, h1]; exact h3
theorem cons_of {m : ME} {ms : ML} {e : Ev} {S S1 S2 : Store} {d : D} {ds : List D} (h1 : m e S = some (d, S1)) (h2 : ms e S1 = some (ds, S2)) : mCons m ms e S = some (d :: ds, S2) := by
  rw [r_Cons, h1]; simp only [Option.bind_some]; rw [h2]; rfl
theorem nil_of {e : Ev} {S : Store} : mNil e S = some ([], S) := rfl
theorem one_of {m : ME} {e : Ev} {S S1 : Store} {d : D} (h1 : m e S = some (d, S1)) : mCons m mNil e S = some ([d], S1) := cons_of h1 rfl
theorem tup_of {ms : ML} {e : Ev} {S S1 : Store} {ds : List D} (h1 : ms e S = some (ds, S1)) (h : ds.length ≤ LIM) : mTup ms e S = some (.tup ds, S1) := by
  rw [r_Tup, h1]; simp only [Option.bind_some]; rw [if_pos h]
theorem lst_of {ms : ML} {e : Ev} {S S1 : Store} {ds : List D} (h1 : ms e S = some (ds, S1)) (h : ds.length ≤ LIM) : mVal (mLst ms) e S = some (.lst ds, S1) := by
  rw [r_Val, r_Lst, h1]; simp only [Option.bind_some]; rw [if_pos h]; rfl
theorem sto_of {ms : ML} {e : Ev} {S S1 : Store} {ds : List D} (h1 : ms e S = some (ds, S1)) (h : ds.length ≤ LIM) : mSto (mLst ms) e S = some (.ref S1.length, S1 ++ [.lst ds]) := by
  rw [r_Sto, r_Lst, h1]; simp only [Option.bind_some]; rw [if_pos h]; rfl
theorem tv_of {m : ME} {e : Ev} {S S1 : Store} {b : Bool} (h1 : m e S = some (.bl b, S1)) : mTV m e S = some (b, S1) := by
  rw [r_TV, h1]; rfl
theorem tru_of {m : ME} {e : Ev} {S S1 : Store} {d : D} {b : Bool} (h1 : m e S = some (d, S1)) (h2 : truth' d S1 = some b) : mTru m e S = some (b, S1) := by
  rw [r_Tru, h1]; simp only [Option.bind_some]; rw [h2]; rfl
theorem not_of {m : MT} {e : Ev} {S S1 : Store} {b : Bool} (h1 : m e S = some (b, S1)) : mNot m e S = some (!b, S1) := by
  rw [r_Not, h1]; rfl
theorem ifs_of {c : MT} {s t : MS} {e : Ev} {S S1 : Store} {b : Bool} {r : Option (Fl × Store)} (h1 : c e S = some (b, S1)) (h2 : (if b then s e S1 else t e S1) = r) : mIfS c s t e S = r := by
  rw [r_IfS, h1]; exact h2
theorem if_of {c : MT} {s t : ME} {e : Ev} {S S1 : Store} {b : Bool} {r : Option (D × Store)} (h1 : c e S = some (b, S1)) (h2 : (if b then s e S1 else t e S1) = r) : mIf c s t e S = r := by
  rw [r_If, h1]; exact h2
theorem and_of {a b : MT} {e : Ev} {S S1 : Store} {x : Bool} {r : Option (Bool × Store)} (h1 : a e S = some (x, S1)) (h2 : (if x then b e S1 else some (false, S1)) = r) : mAnd a b e S = r := by
  rw [r_And, h1]; exact h2
theorem or_of {a b : MT} {e : Ev} {S S1 : Store} {x : Bool} {r : Option (Bool × Store)} (h1 : a e S = some (x, S1)) (h2 : (if x then some (true, S1) else b e S1) = r) : mOr a b e S = r := by
  rw [r_Or, h1]; exact h2
theorem i62 {n : Nat} (h : n ≤ 16777216) : I62 0 ∧ I62 (n : Int) := by
  have e : (2 : Int) ^ 62 = 4611686018427387904 := by decide
  simp only [I62, e]
  omega
theorem rg1_b {ms : ML} {e : Ev} {S S1 : Store} {b : Int} (h1 : ms e S = some ([.int b], S1)) (h : I62 b) : mRg1 ms e S = some (.seq (rngL 0 b), S1) := by
  unfold mRg1
  rw [h1]
  simp only [Option.bind_some]
  exact if_pos h
theorem rg1_of {ms : ML} {e : Ev} {S S1 : Store} {n : Nat} (h1 : ms e S = some ([.int (n : Int)], S1)) (h : n ≤ 16777216) : mRg1 ms e S = some (.seq ((List.range n).map fun (i : Nat) => D.int (i : Int)), S1) := by
  rw [rg1_b h1 (i62 h).2, rngL_eq]
theorem for_of {mi : MI} {t : Tg} {body : MS} {e : Ev} {S S1 : Store} {L : List D} {r : Option (Fl × Store)} (h : mi e S = some (.seq L, S1)) (h2 : forL t.f body L e S1 = r) : mFor mi t body e S = r := by
  rw [r_For h]; exact h2
theorem len_of {d : D} {S : Store} {xs : List D} (h : ∀ y, d ≠ .str y) (h2 : seqOf d S = some xs) : fLen [d] S = some (.int (xs.length : Nat), S) := by
  rw [r_len h, h2]; rfl
theorem drop_of {m : ME} {e : Ev} {S S1 : Store} {d : D} (h : m e S = some (d, S1)) : mDrop m e S = some (.nx e, S1) := by
  rw [r_Drop, h]; rfl
/-- a loop that looks for the first -/
theorem forL_find {α : Type} {bind : D → Ev → Option Ev} {body : MS} {S : Store} (I : Ev → Prop) (enc : α → D) (p : α → Bool) (r : α → D) : ∀ (xs : List α) (e : Ev), I e →
    (∀ x ∈ xs, ∀ e, I e → ∃ e1, bind (enc x) e = some e1 ∧ (if p x then body e1 S = some (.rt (r x), S) else ∃ e2, body e1 S = some (.nx e2, S) ∧ I e2)) →
    (∀ x, xs.find? p = some x → forL bind body (xs.map enc) e S = some (.rt (r x), S)) ∧ (xs.find? p = none → ∃ e', forL bind body (xs.map enc) e S = some (.nx e', S) ∧ I e')
  | [], e, h, _ => ⟨fun x hx => by simp at hx, fun _ => ⟨e, rfl, h⟩⟩
  | x :: xs, e, h, st => by
    obtain ⟨e1, h1, h2⟩ := st x (by simp) e h
    by_cases hp : p x = true
    · rw [if_pos hp] at h2
      rw [List.find?_cons_of_pos hp]
      refine ⟨fun y hy => ?_, fun hn => by simp at hn⟩
      cases hy
      simp only [List.map_cons, forL, h1, Option.bind_some, h2]
    · rw [if_neg hp] at h2
      obtain ⟨e2, h2, h3⟩ := h2
      rw [List.find?_cons_of_neg (by simpa using hp)]
      have ih := forL_find I enc p r xs e2 h3 fun y hy => st y (by simp [hy])
      simp only [List.map_cons, forL, h1, Option.bind_some, h2]
      exact ih
theorem src_b {lo hi : Int} {S : Store} (h1 : I62 lo) (h2 : I62 hi) : srcOf (.rng lo hi) S = some (.seq (rngL lo hi)) := if_pos ⟨h1, h2⟩
theorem it_of {m : ME} {e : Ev} {S S1 : Store} {d : D} {s : Src} (h : m e S = some (d, S1)) (h2 : srcOf d S1 = some s) : mIt m e S = some (s, S1) := by
  rw [r_It, h]; simp only [Option.bind_some]; rw [h2]; rfl
theorem it_rng {m : ME} {e : Ev} {S S1 : Store} {n : Nat} (h : m e S = some (.rng 0 (n : Int), S1)) (hz : n ≤ 16777216) : mIt m e S = some (.seq ((List.range n).map fun (i : Nat) => D.int (i : Int)), S1) := by
  rw [it_of h (src_b (i62 hz).1 (i62 hz).2), rngL_eq]
theorem isi_of {T : String} {m : ME} {e : Ev} {S S1 : Store} {d : D} {t : String} {b : Bool} (h : m e S = some (d, S1)) (h2 : tyOf d S1 = some t) (h3 : isT t T = b) : mIsi T m e S = some (.bl b, S1) := by
  rw [is_int, h]; simp only [Option.bind_some]; rw [h2, ← h3]; rfl
theorem isi2_of {T1 T2 : String} {m : ME} {e : Ev} {S S1 : Store} {d : D} {t : String} {b : Bool} (h : m e S = some (d, S1)) (h2 : tyOf d S1 = some t) (h3 : (isT t T1 || isT t T2) = b) : mIsi2 T1 T2 m e S = some (.bl b, S1) := by
  rw [is_two, h]; simp only [Option.bind_some]; rw [h2, ← h3]; rfl
theorem andv_of {a b : ME} {e : Ev} {S S1 : Store} {d : D} {x : Bool} {r : Option (D × Store)} (h1 : a e S = some (d, S1)) (h2 : truth' d S1 = some x) (h3 : (if x then b e S1 else some (d, S1)) = r) : mAndV a b e S = r := by
  rw [r_AndV, h1]; simp only [Option.bind_some]; rw [h2]; exact h3
theorem eq_of {a b : D} {S : Store} {r : Bool} (h1 : D.fit 32 (readTop a S) = true) (h2 : D.fit 32 (readTop b S) = true) (h3 : deq (readTop a S) (readTop b S) = r) : fEq a b S = some (.bl r, S) := by
  rw [r_eq, if_pos ⟨h1, h2⟩, h3]
theorem ne_of {a b : D} {S : Store} {r : Bool} (h1 : D.fit 32 (readTop a S) = true) (h2 : D.fit 32 (readTop b S) = true) (h3 : deq (readTop a S) (readTop b S) = r) : fNe a b S = some (.bl (!r), S) := by
  rw [r_ne, if_pos ⟨h1, h2⟩, h3]
theorem setix_of {m m1 m2 : ME} {e : Ev} {S S1 S2 S3 : Store} {d : D} {p j : Nat} {k : Int} {xs : List D} (h1 : m e S = some (d, S1)) (h2 : m1 e S1 = some (.ref p, S2)) (h3 : m2 e S2 = some (.int k, S3)) (h4 : S3[p]? = some (.lst xs)) (h5 : ixN xs.length k = some j) :
    mSetIx m m1 m2 e S = some (.nx e, S3.set p (.lst (xs.set j d))) := by
  rw [r_SetIx, h1]; simp only [Option.bind_some]; rw [h2]; simp only [Option.bind_some]; rw [h3]; simp only [Option.bind_some]; rw [h4]; simp only; rw [h5]; rfl
theorem mod_of {i j : Int} {S : Store} (h : 0 < j) : fMod (.int i) (.int j) S = some (.int (i % j), S) := if_pos h
theorem big_of {n : Nat} (h : n < 2 ^ 60) : n < BIG := by
  rw [BIG_eq]; exact Nat.lt_of_lt_of_le h (Nat.pow_le_pow_right (by decide) (by decide))
theorem div_big {i j : Int} {S : Store} (h : 0 < j ∧ j.natAbs < BIG) : fDiv (.int i) (.int j) S = some (.int (i / j), S) := if_pos h
theorem div_of {i j : Int} {S : Store} (h : 0 < j) (h2 : j < 1073741824) : fDiv (.int i) (.int j) S = some (.int (i / j), S) := if_pos ⟨h, big_of (Nat.lt_of_lt_of_le (by omega : j.natAbs < 1073741824) (by decide))⟩
theorem mul_of {i j : Int} {S : Store} (h : I64 i ∨ I64 j) : fMul (.int i) (.int j) S = some (.int (i * j), S) := if_pos (.inl h)
theorem mul_big {i j : Int} {S : Store} (h : MulOk i j) : fMul (.int i) (.int j) S = some (.int (i * j), S) := if_pos h
theorem lt_of {i j : Int} {S : Store} {b : Bool} (h : decide (i < j) = b) : fLtD (.int i) (.int j) S = some (.bl b, S) := by subst h; rfl
theorem le_of {i j : Int} {S : Store} {b : Bool} (h : decide (i ≤ j) = b) : fLeD (.int i) (.int j) S = some (.bl b, S) := by subst h; rfl
theorem gt_of {i j : Int} {S : Store} {b : Bool} (h : decide (j < i) = b) : fGtD (.int i) (.int j) S = some (.bl b, S) := by subst h; rfl
theorem ge_of {i j : Int} {S : Store} {b : Bool} (h : decide (j ≤ i) = b) : fGeD (.int i) (.int j) S = some (.bl b, S) := by subst h; rfl
/-- over a list of the store, where nothing is changed -/
theorem lcGo_live {α : Type} {bind : D → Ev → Option Ev} {tt : MT} {elt : ME} {e0 : Ev} {S : Store} {q : Nat} (enc : α → D) (p : α → Bool) (f : α → D) (xs : List α) (hS : S[q]? = some (.lst (xs.map enc))) (h : ∀ x ∈ xs, ∃ e1, bind (enc x) e0 = some e1 ∧ tt e1 S = some (p x, S) ∧ (p x = true → elt e1 S = some (f x, S))) {N : Nat} :
    ∀ (n i : Nat), xs.length = i + n → lcGo (Src.live q N).get bind tt elt e0 n i S = some (((xs.drop i).filter p).map f, S)
  | 0, i, hl => by
    have e : xs.drop i = [] := List.drop_eq_nil_of_le (by omega)
    have hg : (Src.live q N).get i S = some none := by simp only [Src.live]; rw [hS]; simp only; rw [List.getElem?_eq_none (by rw [List.length_map]; omega)]
    rw [e]
    simp only [lcGo, hg]
    rfl
  | n + 1, i, hl => by
    have hi : i < xs.length := by omega
    have hg : (Src.live q N).get i S = some (some (enc xs[i])) := by simp only [Src.live]; rw [hS]; simp only; rw [List.getElem?_map, List.getElem?_eq_getElem hi]; rfl
    obtain ⟨e1, h1, h2, h3⟩ := h xs[i] (List.getElem_mem hi)
    have ih := lcGo_live enc p f xs hS h (N := N) n (i + 1) (by omega)
    rw [List.drop_eq_getElem_cons hi]
    simp only [lcGo, hg, h1, Option.bind_some, h2]
    by_cases hp : p xs[i] = true
    · rw [if_pos hp, h3 hp, Option.bind_some, ih, Option.bind_some, List.filter_cons_of_pos hp]; rfl
    · rw [if_neg hp, ih, List.filter_cons_of_neg hp]
theorem val_live {α : Type} {mi : MI} {t : Tg} {tt : MT} {elt : ME} {vs : List Nat} {e : Ev} {S S1 : Store} {q : Nat} (enc : α → D) (p : α → Bool) (f : α → D) (xs : List α) (hm : mi e S = some (.live q xs.length, S1)) (hS : S1[q]? = some (.lst (xs.map enc)))
    (h : ∀ x ∈ xs, ∃ e1, t.f (enc x) (wipeE e vs) = some e1 ∧ tt e1 S1 = some (p x, S1) ∧ (p x = true → elt e1 S1 = some (f x, S1))) (hz : xs.length ≤ LIM) : mVal (mLC mi t tt elt vs) e S = some (.lst ((xs.filter p).map f), S1) := by
  rw [r_Val]
  unfold mLC
  rw [hm]
  simp only [Option.bind_some]
  have := lcGo_live (bind := t.f) (tt := tt) (elt := elt) (e0 := wipeE e vs) enc p f xs hS h (N := xs.length) xs.length 0 (by omega)
  rw [List.drop_zero] at this
  show Option.bind (Option.bind (lcGo (Src.live q xs.length).get t.f tt elt (wipeE e vs) xs.length 0 S1) _) _ = _
  rw [this]
  simp only [Option.bind_some]
  rw [if_pos (by rw [List.length_map]; exact Nat.le_trans (List.length_filter_le _ _) hz)]; rfl
theorem src_live {q : Nat} {S : Store} {xs : List D} (h : S[q]? = some (.lst xs)) : srcOf (.ref q) S = some (.live q xs.length) := by
  simp only [srcOf]; rw [h]
/-- a loop over a range that keeps an invariant -/
theorem forL_range' {bind : D → Ev → Option Ev} {body : MS} (I : Nat → Ev → Store → Prop) (n : Nat) (st : ∀ i, i < n → ∀ e S, I i e S → ∃ e1 e2 S2, bind (.int (i : Nat)) e = some e1 ∧ body e1 S = some (.nx e2, S2) ∧ I (i + 1) e2 S2) :
    ∀ (k i : Nat) (e : Ev) (S : Store), i + k = n → I i e S → ∃ e' S', forL bind body ((List.range' i k).map fun (j : Nat) => D.int (j : Int)) e S = some (.nx e', S') ∧ I n e' S'
  | 0, i, e, S, hk, h => ⟨e, S, rfl, by have : i = n := by omega
                                        subst this; exact h⟩
  | k + 1, i, e, S, hk, h => by
    obtain ⟨e1, e2, S2, h1, h2, h3⟩ := st i (by omega) e S h
    obtain ⟨e', S', h4, h5⟩ := forL_range' I n st k (i + 1) e2 S2 (by omega) h3
    refine ⟨e', S', ?_, h5⟩
    rw [List.range'_succ]
    simp only [List.map_cons, forL, h1, Option.bind_some, h2, h4]
theorem forL_range {bind : D → Ev → Option Ev} {body : MS} (I : Nat → Ev → Store → Prop) (n : Nat) {e : Ev} {S : Store} (h : I 0 e S) (st : ∀ i, i < n → ∀ e S, I i e S → ∃ e1 e2 S2, bind (.int (i : Nat)) e = some e1 ∧ body e1 S = some (.nx e2, S2) ∧ I (i + 1) e2 S2) :
    ∃ e' S', forL bind body ((List.range n).map fun (j : Nat) => D.int (j : Int)) e S = some (.nx e', S') ∧ I n e' S' := by
  rw [List.range_eq_range']
  exact forL_range' I n st n 0 e S (by omega) h
theorem lc2Go_seq {α : Type} {bind : D → Ev → Option Ev} {tt : MT} {inner : Ev → Store → Option (List D × Store)} {e0 : Ev} {S : Store} (enc : α → D) (g : α → List D) (xs : List α) (h : ∀ x ∈ xs, ∃ e1, bind (enc x) e0 = some e1 ∧ tt e1 S = some (true, S) ∧ inner e1 S = some (g x, S)) :
    ∀ (n i : Nat), xs.length = i + n → lc2Go (Src.seq (xs.map enc)).get bind tt inner e0 n i S = some ((xs.drop i).flatMap g, S)
  | 0, i, hl => by
    have e : xs.drop i = [] := List.drop_eq_nil_of_le (by omega)
    have hg : (Src.seq (xs.map enc)).get i S = some none := by show some (xs.map enc)[i]? = some none; rw [List.getElem?_eq_none (by rw [List.length_map]; omega)]
    rw [e]
    simp only [lc2Go, hg]
    rfl
  | n + 1, i, hl => by
    have hi : i < xs.length := by omega
    have hg : (Src.seq (xs.map enc)).get i S = some (some (enc xs[i])) := by show some (xs.map enc)[i]? = _; rw [List.getElem?_map, List.getElem?_eq_getElem hi]; rfl
    obtain ⟨e1, h1, h2, h3⟩ := h xs[i] (List.getElem_mem hi)
    have ih := lc2Go_seq enc g xs h n (i + 1) (by omega)
    rw [List.drop_eq_getElem_cons hi, List.flatMap_cons]
    simp only [lc2Go, hg, h1, Option.bind_some, h2, if_true, h3]
    rw [ih]; rfl
theorem val_lc2 {α : Type} {mi mi1 : MI} {t t1 : Tg} {tt1 : MT} {elt : ME} {vs vs1 : List Nat} {e : Ev} {S S1 : Store} (enc : α → D) (g : α → List D) (xs : List α) (hm : mi e S = some (.seq (xs.map enc), S1))
    (h : ∀ x ∈ xs, ∃ e1, t.f (enc x) (wipeE e vs) = some e1 ∧ mIn mi1 t1 tt1 elt vs1 e1 S1 = some (g x, S1)) (hz : (xs.flatMap g).length ≤ LIM) : mVal (mLC2 mi t mYes mi1 t1 tt1 elt vs vs1) e S = some (.lst (xs.flatMap g), S1) := by
  rw [r_Val]
  unfold mLC2
  rw [hm]
  simp only [Option.bind_some]
  have := lc2Go_seq (bind := t.f) (tt := mYes) (inner := mIn mi1 t1 tt1 elt vs1) (e0 := wipeE e vs) (S := S1) enc g xs (fun x hx => by obtain ⟨e1, h1, h2⟩ := h x hx; exact ⟨e1, h1, rfl, h2⟩) xs.length 0 (by omega)
  rw [List.drop_zero] at this
  rw [show (Src.seq (xs.map enc)).n = xs.length from List.length_map _]
  rw [this]
  simp only [Option.bind_some]
  rw [if_pos hz]; rfl
theorem in_lc {mi : MI} {t : Tg} {tt : MT} {elt : ME} {vs : List Nat} {e : Ev} {S S1 S2 : Store} {L ys : List D} (h : mi e S = some (.seq L, S1)) (h2 : lcL t.f tt elt (wipeE e vs) L S1 = some (ys, S2)) : mIn mi t tt elt vs e S = some (ys, S2) := by
  unfold mIn
  rw [h]
  simp only [Option.bind_some]
  rw [lcGo_all, h2]
theorem forL_each {α : Type} {bind : D → Ev → Option Ev} {body : MS} (enc : α → D) (I : List α → Ev → Store → Prop) (all : List α) (st : ∀ done x rest, done ++ x :: rest = all → ∀ e S, I done e S → ∃ e1 e2 S2, bind (enc x) e = some e1 ∧ body e1 S = some (.nx e2, S2) ∧ I (done ++ [x]) e2 S2) :
    ∀ (xs done : List α) (e : Ev) (S : Store), done ++ xs = all → I done e S → ∃ e' S', forL bind body (xs.map enc) e S = some (.nx e', S') ∧ I all e' S'
  | [], done, e, S, ha, h => ⟨e, S, rfl, by rw [← ha, List.append_nil]; exact h⟩
  | x :: xs, done, e, S, ha, h => by
    obtain ⟨e1, e2, S2, h1, h2, h3⟩ := st done x xs ha e S h
    obtain ⟨e', S', h4, h5⟩ := forL_each enc I all st xs (done ++ [x]) e2 S2 (by rw [List.append_assoc]; exact ha) h3
    refine ⟨e', S', ?_, h5⟩
    simp only [List.map_cons, forL, h1, Option.bind_some, h2, h4]
/-- a comprehension whose elements change the store -/
theorem lcL_inv {bind : D → Ev → Option Ev} {elt : ME} {e0 : Ev} (Inv : Store → Prop) (P : D → Prop) : ∀ (L : List D) (S : Store), Inv S → (∀ d ∈ L, ∀ S, Inv S → ∃ e1 y S', bind d e0 = some e1 ∧ elt e1 S = some (y, S') ∧ P y ∧ Inv S') →
    ∃ ys S', lcL bind mYes elt e0 L S = some (ys, S') ∧ ys.length = L.length ∧ (∀ y ∈ ys, P y) ∧ Inv S'
  | [], S, h, _ => ⟨[], S, rfl, rfl, fun y hy => by simp at hy, h⟩
  | d :: L, S, h, st => by
    obtain ⟨e1, y, S1, h1, h2, h3, h4⟩ := st d (by simp) S h
    obtain ⟨ys, S2, g1, g2, g3, g4⟩ := lcL_inv Inv P L S1 h4 fun x hx => st x (by simp [hx])
    refine ⟨y :: ys, S2, ?_, by simp [g2], fun z hz => ?_, g4⟩
    · simp only [lcL, h1, Option.bind_some, mYes, if_true, h2]
      rw [g1]; rfl
    · rcases List.mem_cons.mp hz with rfl | hz
      · exact h3
      · exact g3 z hz
theorem exists_map {α β : Type} {f : α → β} {Q : α → Prop} : ∀ {ys : List β}, (∀ y ∈ ys, ∃ r, y = f r ∧ Q r) → ∃ rs : List α, ys = rs.map f ∧ ∀ r ∈ rs, Q r
  | [], _ => ⟨[], rfl, fun r hr => by simp at hr⟩
  | y :: ys, h => by
    obtain ⟨r, h1, h2⟩ := h y (by simp)
    obtain ⟨rs, h3, h4⟩ := exists_map fun z hz => h z (List.mem_cons_of_mem y hz)
    refine ⟨r :: rs, by rw [h1, h3]; rfl, fun z hz => ?_⟩
    rcases List.mem_cons.mp hz with rfl | hz
    · exact h2
    · exact h4 z hz
end DV

/-! DVj: more rules: chained comparisons. -/
namespace DV
open PySem PySem.Spec PyProof.Rows L2
section
variable {X : Cx} {K : PySem.W.Frag}
theorem chain_imp {r r' : R2} {f g : D → D → Store → Option (D × Store)} {ma mb mc : ME} (h : OpS K r f) (h' : OpS K r' g) {σ : L2.St} {H : Hp} {Q : VK} (q : tD K (mChain f g ma mb mc) σ H Q) : tChain r r' (tD K ma) (tD K mb) (tD K mc) σ H Q := by
  obtain ⟨w, e, S, d, S', re, k, hm, q⟩ := q
  unfold mChain at hm
  obtain ⟨⟨a, S1⟩, h1, hm⟩ := Option.bind_eq_some_iff.mp hm
  obtain ⟨⟨b, S2⟩, h2, hm⟩ := Option.bind_eq_some_iff.mp hm
  obtain ⟨⟨z, S3⟩, h3, hm⟩ := Option.bind_eq_some_iff.mp hm
  refine ⟨w, e, S, a, S1, re, k, h1, fun w1 H1 x s1 k1 ra => ⟨w1, e, S1, b, S2, re.mono s1, k1, h2, fun w2 H2 y s2 k2 rb => ?_⟩⟩
  refine h w2 S2 H2 a b z x y S3 _ k2 (ra.mono s2) rb h3 fun w3 H3 v s3 k3 rz => ?_
  cases z with
  | bl kb =>
    cases kb with
    | true =>
      obtain ⟨⟨c, S4⟩, h4, hm⟩ := Option.bind_eq_some_iff.mp hm
      refine ⟨true, rz.bl_inv, ?_⟩
      rw [if_pos rfl]
      refine ⟨w3, e, S3, c, S4, ((re.mono s1).mono s2).mono s3, k3, h4, fun w4 H4 u s4 k4 rc => ?_⟩
      exact h' w4 S4 H4 b c d y u S' Q k4 ((rb.mono s3).mono s4) rc hm fun w5 H5 v5 s5 k5 r5 => q w5 H5 v5 ((((s1.trans s2).trans s3).trans s4).trans s5) k5 r5
    | false =>
      cases hm
      refine ⟨false, rz.bl_inv, ?_⟩
      rw [if_neg Bool.false_ne_true]
      exact q w3 H3 _ ((s1.trans s2).trans s3) k3 (.bl false)
  | _ => cases hm
theorem ae_chain {op op' : CmpOp} {r r' : R2} {f g : D → D → Store → Option (D × Store)} {ma mb mc : ME} {a b c : Expr} {pos : Pos} (ho : OpR X (compareOp op) r) (ho' : OpR X (compareOp op') r') (h : OpS X.K r f) (h' : OpS X.K r' g) (ha : AE X a ma) (hb : AE X b mb) (hc : AE X c mc)
    (hm : lastMarks [op, op'] [b, c] = false := by with_unfolding_all rfl) : AE X (.Compare a [op, op'] [b, c] pos) (mChain f g ma mb mc) := PE.imp (pe_chain ho ho' ha hb hc hm) fun σ H Q q => chain_imp h h' q
theorem at_chain {op op' : CmpOp} {r r' : R2} {f g : D → D → Store → Option (D × Store)} {ma mb mc : ME} {a b c : Expr} {pos : Pos} (ho : OpR X (compareOp op) r) (ho' : OpR X (compareOp op') r') (h : OpS X.K r f) (h' : OpS X.K r' g) (ha : AE X a ma) (hb : AE X b mb) (hc : AE X c mc)
    (hm : lastMarks [op, op'] [b, c] = false := by with_unfolding_all rfl) : AT X (.Compare a [op, op'] [b, c] pos) (mTV (mChain f g ma mb mc)) := PT.imp (pt_chain ho ho' ha hb hc hm) fun σ H Q ⟨w, e, S, b, S', re, k, hq, q⟩ => by
  unfold mTV at hq
  obtain ⟨⟨d, S1⟩, h1, hq⟩ := Option.bind_eq_some_iff.mp hq
  simp only at hq
  split at hq
  · cases hq
    exact chain_imp h h' ⟨w, e, S, _, _, re, k, h1, fun w' H' v s' k' r' => ⟨b, r'.bl_inv, q w' H' s' k'⟩⟩
  · cases hq
section
variable {a b c : Expr} {ma mb mc : ME} {pos : Pos} {j : Nat} (hr : Room j X.A)
include hr
theorem ae_lele (ha : AE X a ma) (hb : AE X b mb) (hc : AE X c mc) (hm : lastMarks [.LtE, .LtE] [b, c] = false := by with_unfolding_all rfl) : AE X (.Compare a [.LtE, .LtE] [b, c] pos) (mChain fLeD fLeD ma mb mc) := ae_chain (op_le.or (op_leD hr.units)) (op_le.or (op_leD hr.units)) (fCmp_s fun _ _ => rfl) (fCmp_s fun _ _ => rfl) ha hb hc hm
theorem ae_lelt (ha : AE X a ma) (hb : AE X b mb) (hc : AE X c mc) (hm : lastMarks [.LtE, .Lt] [b, c] = false := by with_unfolding_all rfl) : AE X (.Compare a [.LtE, .Lt] [b, c] pos) (mChain fLeD fLtD ma mb mc) := ae_chain (op_le.or (op_leD hr.units)) (op_lt.or (op_ltD hr.units)) (fCmp_s fun _ _ => rfl) (fCmp_s fun _ _ => rfl) ha hb hc hm
theorem at_lele (ha : AE X a ma) (hb : AE X b mb) (hc : AE X c mc) (hm : lastMarks [.LtE, .LtE] [b, c] = false := by with_unfolding_all rfl) : AT X (.Compare a [.LtE, .LtE] [b, c] pos) (mTV (mChain fLeD fLeD ma mb mc)) := at_chain (op_le.or (op_leD hr.units)) (op_le.or (op_leD hr.units)) (fCmp_s fun _ _ => rfl) (fCmp_s fun _ _ => rfl) ha hb hc hm
theorem at_lelt (ha : AE X a ma) (hb : AE X b mb) (hc : AE X c mc) (hm : lastMarks [.LtE, .Lt] [b, c] = false := by with_unfolding_all rfl) : AT X (.Compare a [.LtE, .Lt] [b, c] pos) (mTV (mChain fLeD fLtD ma mb mc)) := at_chain (op_le.or (op_leD hr.units)) (op_lt.or (op_ltD hr.units)) (fCmp_s fun _ _ => rfl) (fCmp_s fun _ _ => rfl) ha hb hc hm
end
/-! ### module constants -/
/-- content that the written part holds -/
def KD (K : PySem.W.Frag) (u : Value) (d : D) : Prop := ∃ v, RelV v u ∧ ∀ (w : Wd) (H : Hp), Rp K w H d v
def KDs (K : PySem.W.Frag) (us : List Value) (ds : List D) : Prop := ∃ vs, Vals vs us ∧ ∀ (w : Wd) (H : Hp), RpL K w H ds vs
theorem KD.int {i : Int} {t : Tok} : KD K (.int i t) (.int i) := ⟨.int i, ⟨t, rfl⟩, fun _ _ => .int i⟩
theorem KD.str {x : Str} {t : Tok} : KD K (.str x t) (.str x) := ⟨.str x, ⟨t, rfl⟩, fun _ _ => .str x⟩
theorem KD.non : KD K .none .non := ⟨.non, rfl, fun _ _ => .non⟩
theorem KD.bl {b : Bool} : KD K (.bool b) (.bl b) := ⟨.bl b, rfl, fun _ _ => .bl b⟩
theorem KDs.nil : KDs K [] [] := ⟨[], .nil, fun _ _ => .nil⟩
theorem KDs.cons {u : Value} {us : List Value} {d : D} {ds : List D} (h : KD K u d) (t : KDs K us ds) : KDs K (u :: us) (d :: ds) := by
  obtain ⟨v, h1, h2⟩ := h
  obtain ⟨vs, h3, h4⟩ := t
  exact ⟨v :: vs, .cons h1 h3, fun w H => .cons (h2 w H) (h4 w H)⟩
theorem KD.tup {a : Addr} {o : Obj} {us : List Value} {n : Nat} {ds : List D} (h : K.lookup a = some o) (hc : o.cls = .type "tuple") (hd : o.data = .seq us.toArray n) (hz : us.length ≤ 1000) (t : KDs K us ds) : KD K (.ref a) (.tup ds) := by
  obtain ⟨vs, h3, h4⟩ := t
  refine ⟨.ref a, rfl, fun w H => .tupK (.inr ⟨o, us.toArray, n, h, hc, hd, ?_, by simpa using h3⟩) (h4 w H)⟩
  rw [sizeLine_eq]
  simp
  omega
theorem ae_gk {x : Str} {u : Value} {d : D} {pos : Pos} (hg : Gl X x) (hm : X.mg x = some u) (k : KD X.K u d) (hd : (x == ("__debug__" : Str)) = false := by decide) : AE X (.Name x pos) (mC d) := by
  obtain ⟨v, r, h⟩ := k
  exact PE.imp (pe_glob hg hm r hd) fun σ H Q ⟨w, e, S, d', S', re, kk, hq, q⟩ => by
    cases hq
    exact q w H v .refl kk (h w H)
end
end DV

/-! DVk: t[::-1] of a tuple. -/
namespace HT
open PySem PySem.Spec PyProof.Rows
section
variable {prog : Program} {w : World} {A : Around} {E : Value → Shared → Prop} {s : Shared}
theorem adjust_rev (n : Nat) : Builtin.Slice.sliceAdjust none none (-1) (n : Int) = ((n : Int) - 1, -1) := by
  unfold Builtin.Slice.sliceAdjust
  have h1 : ((-1 : Int) < 0) := by decide
  simp only [h1, if_true]
theorem places_rev (n : Nat) : Builtin.Slice.slicePlaces ((n : Int) - 1) (-1) (-1) = n := by
  unfold Builtin.Slice.slicePlaces
  have h1 : ¬ ((-1 : Int) > 0) := by decide
  simp only [h1, if_false]
  split <;> simp <;> omega
theorem sliceApplied_rev {sl : Addr} {vs : Value} {n : Nat} {Q : Int × Int × Nat → Shared → Prop} (hs : s.heap.IsSliceOf sl .none .none vs) (ps : IsPart vs (some (-1)))
    (h : Q ((n : Int) - 1, -1, n) s) : wpAny (model prog w) A (Builtin.Slice.sliceApplied (.ref sl) (pure (n : Int))) Q E s := by
  obtain ⟨os, hos, hcs, hds⟩ := id hs
  unfold Builtin.Slice.sliceApplied Builtin.Slice.sliceFields
  refine wpAny_bind (wpAny_bind (wpAny_field hos hds (x := .none) rfl (wpAny_bind (wpAny_field hos hds (x := .none) rfl (wpAny_bind (wpAny_field hos hds (x := vs) rfl (wpAny_pure ?_)))))))
  refine wpAny_bind (slicePart_ ps ?_)
  show wpAny _ _ (if ((-1 : Int) == 0) = true then _ else _) _ _ s
  rw [if_neg (by decide)]
  refine wpAny_bind (slicePart_none (wpAny_bind (slicePart_none (wpAny_bind (wpAny_pure ?_)))))
  show wpAny _ _ (match Builtin.Slice.sliceAdjust none none (-1) (n : Int) with | (lo, hi) => pure (lo, (-1 : Int), Builtin.Slice.slicePlaces lo hi (-1))) _ _ s
  rw [adjust_rev n]
  show wpAny _ _ (pure ((n : Int) - 1, (-1 : Int), Builtin.Slice.slicePlaces ((n : Int) - 1) (-1) (-1))) _ _ s
  rw [places_rev]
  exact wpAny_pure h
theorem pick_rev (xs : Array Value) : ((List.range xs.size).filterMap fun (m : Nat) => xs[(((xs.size : Int) - 1) + (m : Int) * (-1)).toNat]?).toArray = xs.toList.reverse.toArray := by
  congr 1
  have e : ∀ m ∈ List.range xs.size, xs[(((xs.size : Int) - 1) + (m : Int) * (-1)).toNat]? = xs.toList.reverse[m]? := by
    intro m hm
    have hm : m < xs.size := by simpa using hm
    have : (((xs.size : Int) - 1) + (m : Int) * (-1)).toNat = xs.size - 1 - m := by omega
    rw [this, List.getElem?_reverse (by simpa using hm)]
    simp
  have hc : ∀ (l : List Nat) (f g : Nat → Option Value), (∀ m ∈ l, f m = g m) → l.filterMap f = l.filterMap g := by
    intro l f g h
    induction l with
    | nil => rfl
    | cons a l ih => simp only [List.filterMap_cons]; rw [h a (by simp), ih fun m hm => h m (by simp [hm])]
  rw [hc _ _ _ e]
  have all : ∀ zs : List Value, (List.range zs.length).filterMap (fun m => zs[m]?) = zs := by
    intro zs
    induction zs with
    | nil => rfl
    | cons z zs ih =>
      rw [List.length_cons, List.range_succ_eq_map, List.filterMap_cons]
      simp only [List.getElem?_cons_zero]
      rw [List.filterMap_map]
      have : ((fun m => (z :: zs)[m]?) ∘ Nat.succ) = fun m => zs[m]? := by funext m; rfl
      rw [this, ih]
  have hl : xs.size = xs.toList.reverse.length := by simp
  rw [hl]
  exact all _
theorem getItem_tuple_rev {t sl : Addr} {items : Array Value} {vs : Value} {Q : Value → Shared → Prop} (ht : IsTup s.heap t items) (hs : s.heap.IsSliceOf sl .none .none vs) (ps : IsPart vs (some (-1)))
    (h : Q (.ref s.heap.objs.size) { s with heap := s.heap.push { cls := .type "tuple", data := .seq items.toList.reverse.toArray } })
    (hsz : items.size ≤ sizeLine) : wpAny (model prog w) A (getItem (.ref t) (.ref sl)) Q E s := by
  have htake : sizeOk (.seq items.toList.reverse.toArray) := by
    show items.toList.reverse.toArray.size ≤ sizeLine
    rw [List.size_toArray, List.length_reverse, Array.length_toList]
    exact hsz
  obtain ⟨os, hos, hcs, hds⟩ := id hs
  have hTs : s.TypeIs (.ref sl) "slice" := ⟨os, hos, hcs⟩
  unfold getItem
  try with_reducible refine wpAny_holding ?_
  first | refine wpAny_bind (wpAny_pure ?_) | skip
  refine wpAny_bind (wpAny_sequenceKey ht.typeIs (by decide) ?_)
  refine wpAny_bind (wpAny_callSpecial?_slot (name := Str.ofString "__getitem__") ht.typeIs PyProof.Rows.slot_tuple_getitem
    (wpAny_call_entry PyProof.Rows.slot_tuple_getitem ht.typeIs entry_tuple_getitem ?_ (args_tuple_getitem _ _)))
  show wpAny _ _ (Builtin.Tuple.tupleItemsOf (.ref t) >>= _) _ _ s
  refine wpAny_bind (tupleItemsOf_ ht ?_)
  refine wpAny_bind (wpAny_typeOf hTs ?_)
  rw [if_pos (by decide)]
  refine wpAny_bind (sliceApplied_rev hs ps ?_)
  have hno : ¬ ((((items.size : Int) - 1) == 0 && (-1 : Int) == 1 && items.size == items.size) = true) := by
    intro q
    rw [Bool.and_eq_true, Bool.and_eq_true] at q
    exact absurd q.1.2 (by decide)
  show wpAny _ _ (if (((items.size : Int) - 1) == 0 && (-1 : Int) == 1 && items.size == items.size) = true then _ else _) _ _ s
  rw [if_neg hno, pick_rev]
  first
    | exact wpAny_bind (m := Builtin.Tuple.tupleExact _) (wpAny_newObj_type (wpAny_pure ⟨_, rfl, wpAny_pure h⟩) htake)
    | exact wpAny_bind (m := Builtin.Tuple.tupleExact _) (wpAny_newObj_type (wpAny_bind (wpAny_pure (wpAny_pure ⟨_, rfl, wpAny_pure h⟩))) htake)
    | exact wpAny_bind (wpAny_bind (m := Builtin.Tuple.tupleExact _) (wpAny_newObj_type (wpAny_pure (wpAny_pure ⟨_, rfl, wpAny_pure h⟩)) htake))
    | exact wpAny_bind (wpAny_bind (m := Builtin.Tuple.tupleExact _) (wpAny_newObj_type (wpAny_pure ⟨_, rfl, wpAny_pure h⟩) htake))
end
end HT
namespace DV
open PySem PySem.Spec PyProof.Rows L2
section
variable {X : Cx}
def tRevT (K : PySem.W.Frag) (te : TE) : TE := fun σ H Q => te σ H fun x H1 => ∃ a xs, x = .ref a ∧ SqT K H1 a xs ∧ ∀ p, H1 p = none → Q (.ref p) (upd H1 p (.tup xs.reverse))
theorem pe_revT {e : Expr} {te : TE} {k : Nat} {p1 p2 p3 pos : Pos} (he : PE X e te) : PE X (.Subscript e (.Slice none none (some (.UnaryOp .USub (.Constant (.int 1) k p1) p2)) p3) pos) (tRevT X.K te) := by
  refine ⟨fun pins s σ H Q I h => ?_⟩
  refine Subscript_ (thn (he.run pins s σ H _ I h) fun v s1 ⟨x, H1, I1, r1, q1⟩ => ?_)
  obtain ⟨a, xs, ex, hx, q⟩ := q1
  subst ex
  cases r1
  have hst : PO X (some (.UnaryOp .USub (.Constant (.int 1) k p1) p2)) (tPart (tUn (rU fun i => .int (-i)) (tC (.int 1)))) := po_some (pe_un un_neg pe_int)
  refine wpAny_Slice (thn (po_none.run pins s1 σ H1 (fun o H2 => o = none ∧ H2 = H1) I1 ⟨rfl, rfl⟩) fun vl s2 ⟨l, H2, I2, pl, el, e2⟩ => ?_)
  subst el e2
  refine thn (po_none.run pins s2 σ H2 (fun o H3 => o = none ∧ H3 = H2) I2 ⟨rfl, rfl⟩) fun vu s3 ⟨u, H3, I3, pu, eu, e3⟩ => ?_
  subst eu e3
  refine thn (hst.run pins s3 σ H3 (fun o H4 => o = some (-1) ∧ H4 = H3) I3 ⟨1, rfl, -1, rfl, rfl, rfl⟩) fun vs s4 ⟨o, H4, I4, ps, eo, e4⟩ => ?_
  subst eo e4
  cases pl
  cases pu
  have I5 : Inv X pins σ H4 { s4 with heap := s4.heap.push { cls := .type "slice", data := .fields #[.none, .none, vs] } } := I4.kept (t' := s4.toks) fun b ob q => Heap.get?_push_of_some _ q
  obtain ⟨its, r, ht, hz⟩ := I5.tuple hx
  have hlen := r.length
  show wpAny (model X.prog X.w) X.A (subscriptTail e (.Slice none none (some (.UnaryOp .USub (.Constant (.int 1) k p1) p2)) p3) (.ref a) (.ref s4.heap.objs.size)) (EP X pins σ Q) X.xe { s4 with heap := s4.heap.push { cls := .type "slice", data := .fields #[.none, .none, vs] } }
  refine tail_any (ops := [.ref a, .ref s4.heap.objs.size]) ht.typeIs PyProof.Rows.slot_tuple_getitem.lookup ?_ (by with_unfolding_all rfl)
  refine HT.getItem_tuple_rev ht (Heap.IsSliceOf.new _ .none .none vs) ps ?_ (by rw [List.size_toArray]; omega)
  refine ⟨.ref _, _, I5.laid (t' := s4.toks) (o := .tup xs.reverse) (fun b ob q => Heap.get?_push_of_some _ q) (Nat.le_refl _) ?_, rfl, q _ (I5.hok.fresh (Nat.le_refl _))⟩
  exact ⟨by rw [List.length_reverse]; exact hz, _, r.reverse, IsTup.new _ _⟩
def mRevT (m : ME) : ME := fun e S => (m e S).bind fun (d, S1) => match d with
  | .tup xs => some (.tup xs.reverse, S1)
  | _ => none
theorem ae_revT {a : Expr} {m : ME} {k : Nat} {p1 p2 p3 pos : Pos} (ha : AE X a m) : AE X (.Subscript a (.Slice none none (some (.UnaryOp .USub (.Constant (.int 1) k p1) p2)) p3) pos) (mRevT m) :=
  PE.imp (pe_revT ha) fun σ H Q ⟨w, e, S, d, S', re, k, hm, q⟩ => by
    unfold mRevT at hm
    obtain ⟨⟨d1, S1⟩, h1, hm⟩ := Option.bind_eq_some_iff.mp hm
    cases d1 with
    | tup xs =>
      cases hm
      refine ⟨w, e, S, .tup xs, _, re, k, h1, fun w1 H1 x s1 k1 r1 => ?_⟩
      obtain ⟨a, vs, rfl, h5, h6⟩ := r1.tup_inv
      exact ⟨a, vs, rfl, h5, fun p hp => Post.newT (fun w' H' v s k r => q w' H' v (s1.trans s) k r) k1 hp h6.reverse⟩
    | _ => cases hm
/-! ### is, is not of bools; a == b == c -/
def fIsB (neg : Bool) : D → D → Store → Option (D × Store)
  | .bl a, .bl b, S => some (.bl (if neg then !decide (a = b) else decide (a = b)), S)
  | _, _, _ => none
theorem fIsB_s {K : PySem.W.Frag} : OpS K rIsB (fIsB false) := by
  intro w S H a b d x y S' Q k ra rb hm q
  cases a <;> cases b <;> try (cases hm; done)
  rename_i a b
  cases hm
  exact ⟨a, b, ra.bl_inv, rb.bl_inv, q w H _ .refl k (.bl _)⟩
theorem fNotB_s {K : PySem.W.Frag} : OpS K rNotB (fIsB true) := by
  intro w S H a b d x y S' Q k ra rb hm q
  cases a <;> cases b <;> try (cases hm; done)
  rename_i a b
  cases hm
  exact ⟨a, b, ra.bl_inv, rb.bl_inv, q w H _ .refl k (.bl _)⟩
theorem ae_isB {a b : Expr} {ma mb : ME} {pos : Pos} (ha : AE X a ma) (hb : AE X b mb) : AE X (.Compare a [.Is] [b] pos) (mBin (fIsB false) ma mb) := ae_cmp op_isBl fIsB_s ha hb (nomark _)
theorem ae_notB {a b : Expr} {ma mb : ME} {pos : Pos} (ha : AE X a ma) (hb : AE X b mb) : AE X (.Compare a [.IsNot] [b] pos) (mBin (fIsB true) ma mb) := ae_cmp op_notBl fNotB_s ha hb (nomark _)
theorem at_isB {a b : Expr} {ma mb : ME} {pos : Pos} (ha : AE X a ma) (hb : AE X b mb) : AT X (.Compare a [.Is] [b] pos) (mTV (mBin (fIsB false) ma mb)) := at_cmp op_isBl fIsB_s ha hb (nomark _)
theorem at_notB {a b : Expr} {ma mb : ME} {pos : Pos} (ha : AE X a ma) (hb : AE X b mb) : AT X (.Compare a [.IsNot] [b] pos) (mTV (mBin (fIsB true) ma mb)) := at_cmp op_notBl fNotB_s ha hb (nomark _)
theorem ae_eqeq {a b c : Expr} {ma mb mc : ME} {pos : Pos} {j : Nat} (hr : Room j X.A) (ha : AE X a ma) (hb : AE X b mb) (hc : AE X c mc) (hm : lastMarks [.Eq, .Eq] [b, c] = false := by with_unfolding_all rfl) : AE X (.Compare a [.Eq, .Eq] [b, c] pos) (mChain fEq fEq ma mb mc) := ae_chain (op_eqD hr.units) (op_eqD hr.units) fEq_s fEq_s ha hb hc hm
theorem at_eqeq {a b c : Expr} {ma mb mc : ME} {pos : Pos} {j : Nat} (hr : Room j X.A) (ha : AE X a ma) (hb : AE X b mb) (hc : AE X c mc) (hm : lastMarks [.Eq, .Eq] [b, c] = false := by with_unfolding_all rfl) : AT X (.Compare a [.Eq, .Eq] [b, c] pos) (mTV (mChain fEq fEq ma mb mc)) := at_chain (op_eqD hr.units) (op_eqD hr.units) fEq_s fEq_s ha hb hc hm
end
end DV

/-! DVl: o[i], p[j] = a pair. -/
namespace DV
open PySem PySem.Spec PyProof.Rows L2
section
variable {X : Cx}
/-- o[i] = v in the store -/
def fSet (o i v : D) (S : Store) : Option Store := match o, i with
  | .ref p, .int k => match S[p]? with
    | some (.lst xs) => (ixN xs.length k).bind fun j => some (S.set p (.lst (xs.set j v)))
    | _ => none
  | _, _ => none
def mSwap (m mo mi mo2 mi2 : ME) : MS := fun e S => (m e S).bind fun (t, S1) => match t with
  | .tup [v1, v2] => (mo e S1).bind fun (o, S2) => (mi e S2).bind fun (i, S3) => (fSet o i v1 S3).bind fun S4 => (mo2 e S4).bind fun (o2, S5) => (mi2 e S5).bind fun (i2, S6) => (fSet o2 i2 v2 S6).bind fun S7 => some (.nx e, S7)
  | _ => none
theorem fSet_s {w : Wd} {H : Hp} {S S' : Store} {o i d : D} {x y v : V} {K : PySem.W.Frag} (k : Ok K w S H) (ro : Rp K w H o x) (ri : Rp K w H i y) (rv : Rp K w H d v) (h : fSet o i d S = some S') {Q : Hp → Prop} (q : ∀ H', Stp w H w H' → Ok K w S' H' → Q H') : rSetL x y v H Q := by
  unfold fSet at h
  split at h
  · split at h
    · rename_i xs hx
      obtain ⟨j, h4, h⟩ := Option.bind_eq_some_iff.mp h
      cases h
      obtain ⟨a, rfl, ha⟩ := ro.ref_inv
      obtain ⟨vs, h5, h6⟩ := k.lst ha hx
      refine ⟨a, vs, _, j, rfl, ri.int_inv, h5, by rw [← h6.length]; exact h4, ?_⟩
      have st : Stp w H w (upd H a (.lst (vs.set j v))) := .put (List.mem_of_getElem? ha)
      exact q _ st (k.put ha (.lst (h6.set rv j)))
    · cases h
  · cases h
theorem as_swap {o i o2 i2 e : Expr} {m mo mi mo2 mi2 : ME} {kt : Nat} {p1 p2 p3 pos : Pos} (hc : X.calm = true) (he : AE X e m) (ho : AE X o mo) (hi : AE X i mi) (ho2 : AE X o2 mo2) (hi2 : AE X i2 mi2)
    (hs : swapsWithSole [.Tuple [.Subscript o i p1, .Subscript o2 i2 p2] kt p3] e pos.line X.env = pure false := by rfl) (hw : swappedStores [.Tuple [.Subscript o i p1, .Subscript o2 i2 p2] kt p3] e X.env = pure none := by rfl)
    (ha : ∀ v, assign (.Subscript o i p1) X.env v = (do
      let ov ← holding [v] (eval o X.env)
      let iv ← holding [v, ov] (eval i X.env)
      standAt p1
      holding [v, ov, iv] (setItem ov iv v)
      release [v, ov, iv] []) := by intro _; rfl)
    (ha2 : ∀ v, assign (.Subscript o2 i2 p2) X.env v = (do
      let ov ← holding [v] (eval o2 X.env)
      let iv ← holding [v, ov] (eval i2 X.env)
      standAt p2
      holding [v, ov, iv] (setItem ov iv v)
      release [v, ov, iv] []) := by intro _; rfl)
    (h1 : (assignEach [.Tuple [.Subscript o i p1, .Subscript o2 i2 p2] kt p3] X.env).map (·.2) = [assign (.Tuple [.Subscript o i p1, .Subscript o2 i2 p2] kt p3) X.env] := by rfl)
    (h2 : (assignEach [.Subscript o i p1, .Subscript o2 i2 p2] X.env).map (·.2) = assign (.Subscript o i p1) X.env :: (assignEach [.Subscript o2 i2 p2] X.env).map (·.2) := by rfl)
    (h3 : (assignEach [.Subscript o2 i2 p2] X.env).map (·.2) = assign (.Subscript o2 i2 p2) X.env :: (assignEach [] X.env).map (·.2) := by rfl)
    (hn : (assignEach [.Subscript o i p1, .Subscript o2 i2 p2] X.env).length = 2 := by rfl) (hst : (assignEach [.Subscript o i p1, .Subscript o2 i2 p2] X.env).findIdx? (·.1) = none := by rfl) :
    AS X (.Assign [.Tuple [.Subscript o i p1, .Subscript o2 i2 p2] kt p3] e pos) (mSwap m mo mi mo2 mi2) :=
  PS.imp (ps_asg he (pg_tup hc (pgs_cons (pg_sub ho hi set_list ha) (pgs_cons (pg_sub ho2 hi2 set_list ha2) pgs_nil h3) h2) hn hst) hs hw h1) fun D σ H ⟨w, e, S, fl, S', re, k, hm, q⟩ => by
  unfold mSwap at hm
  obtain ⟨⟨t, S1⟩, h1, hm⟩ := Option.bind_eq_some_iff.mp hm
  simp only at hm
  split at hm
  · rename_i v1 v2
    obtain ⟨⟨o1, S2⟩, g1, hm⟩ := Option.bind_eq_some_iff.mp hm
    obtain ⟨⟨i1, S3⟩, g2, hm⟩ := Option.bind_eq_some_iff.mp hm
    obtain ⟨S4, g3, hm⟩ := Option.bind_eq_some_iff.mp hm
    obtain ⟨⟨o2, S5⟩, g4, hm⟩ := Option.bind_eq_some_iff.mp hm
    obtain ⟨⟨i2, S6⟩, g5, hm⟩ := Option.bind_eq_some_iff.mp hm
    obtain ⟨S7, g6, hm⟩ := Option.bind_eq_some_iff.mp hm
    cases hm
    refine ⟨w, e, S, _, S1, re, k, h1, fun w1 H1 u s1 k1 r1 => ?_⟩
    obtain ⟨a, vs, rfl, hq, hl⟩ := r1.tup_inv
    obtain ⟨u1, u2, rfl, r2, r3⟩ := hl.two_inv
    refine ⟨a, _, rfl, hq, rfl, u1, [u2], rfl, w1, e, S1, o1, S2, re.mono s1, k1, g1, fun w2 H2 x2 s2 k2 q2 => ⟨w2, e, S2, i1, S3, (re.mono s1).mono s2, k2, g2, fun w3 H3 y3 s3 k3 q3 => ?_⟩⟩
    have t3 := s2.trans s3
    refine fSet_s k3 (q2.mono s3) q3 (r2.mono t3) g3 fun H4 s4 k4 => ?_
    have t4 := t3.trans s4
    refine ⟨u2, [], rfl, w3, e, S4, o2, S5, (re.mono s1).mono t4, k4, g4, fun w5 H5 x5 s5 k5 q5 => ⟨w5, e, S5, i2, S6, ((re.mono s1).mono t4).mono s5, k5, g5, fun w6 H6 y6 s6 k6 q6 => ?_⟩⟩
    refine fSet_s k6 (q5.mono s6) q6 (r3.mono ((t4.trans s5).trans s6)) g6 fun H7 s7 k7 => ⟨rfl, ?_⟩
    have tt := (s1.trans t4).trans ((s5.trans s6).trans s7)
    exact q w6 H7 tt k7 σ (re.mono tt)
  · cases hm
/-! ### list(range(n)) -/
def mLstRg (m : ME) : ML := fun e S => (m e S).bind fun (d, S1) => match d with
  | .int n => if 0 ≤ n ∧ n ≤ 16777216 then some (rngL 0 n, S1) else none
  | _ => none
theorem rng_rp {K : PySem.W.Frag} {w : Wd} {H : Hp} (f : Nat → Int) : ∀ l : List Nat, RpL K w H (l.map fun i => D.int (f i)) (l.map fun i => V.int (f i))
  | [] => .nil
  | _ :: l => .cons (.int _) (rng_rp f l)
theorem af_listRg {a : Expr} {m : ME} {p p2 pos2 pos : Pos} (hc : X.calm = true) (hl : X.mg "list" = none) (hr : X.mg "range" = none) (ha : AE X a m) (g1 : Gl X "list" := by rfl) (g2 : Gl X "range" := by rfl) (na : starEach [a] X.env = (false, eval a X.env) :: starEach [] X.env := by rfl)
    (na2 : starEach [.Call (.Name "range" p2) [a] [] pos2] X.env = (false, eval (.Call (.Name "range" p2) [a] [] pos2) X.env) :: starEach [] X.env := by rfl) : AF X (.Call (.Name "list" p) [.Call (.Name "range" p2) [a] [] pos2] [] pos) (mLstRg m) :=
  PE.imp (pe_listRg hc g1 hl (prg_1 g2 hr ha na) na2) fun σ H Q ⟨w, e, S, d, S', re, k, hm, q⟩ => by
    unfold mLstRg at hm
    obtain ⟨⟨d1, S1⟩, h1, hm⟩ := Option.bind_eq_some_iff.mp hm
    cases d1 with
    | int n =>
      simp only at hm
      split at hm
      · rename_i hn
        cases hm
        refine ⟨w, e, S, .int n, _, re, k, h1, fun w1 H1 v s1 k1 r1 => ⟨n, r1.int_inv, .of_le (by decide) hn.2 (by decide) hn.1, fun p hp => ?_⟩⟩
        refine q w1 H1 p _ s1 k1 hp ?_
        unfold rngL rgV
        exact rng_rp _ _
      · cases hm
    | _ => cases hm
end
end DV

/-! DVt: typed reckoning: Lean values of plain types, how they are laid as DV's values, and each construct's meaning over them. -/
namespace DV
open PySem PySem.Spec PyProof.Rows L2
/-! ### how plain values are laid -/
abbrev Sx := {x : Str // PyData.strOk x = true ∧ x.length ≤ LIM}
abbrev eI : Int → D := D.int
abbrev eB : Bool → D := D.bl
abbrev eN : Unit → D := fun _ => .non
abbrev eS : Sx → D := fun x => .str x.1
abbrev eT {α : Type} (e : α → D) (xs : List α) : D := .tup (xs.map e)
abbrev eL {α : Type} (e : α → D) (xs : List α) : D := .lst (xs.map e)
abbrev eP1 {α : Type} (e1 : α → D) (p : α) : D := .tup [e1 p]
abbrev eP2 {α β : Type} (e1 : α → D) (e2 : β → D) (p : α × β) : D := .tup [e1 p.1, e2 p.2]
abbrev eP3 {α β γ : Type} (e1 : α → D) (e2 : β → D) (e3 : γ → D) (p : α × β × γ) : D := .tup [e1 p.1, e2 p.2.1, e3 p.2.2]
abbrev eP4 {α β γ δ : Type} (e1 : α → D) (e2 : β → D) (e3 : γ → D) (e4 : δ → D) (p : α × β × γ × δ) : D := .tup [e1 p.1, e2 p.2.1, e3 p.2.2.1, e4 p.2.2.2]
abbrev eP5 {α β γ δ ε : Type} (e1 : α → D) (e2 : β → D) (e3 : γ → D) (e4 : δ → D) (e5 : ε → D) (p : α × β × γ × δ × ε) : D := .tup [e1 p.1, e2 p.2.1, e3 p.2.2.1, e4 p.2.2.2.1, e5 p.2.2.2.2]
abbrev eQ2 {α β : Type} (e1 : α → D) (e2 : β → D) (p : α × β) : D := .lst [e1 p.1, e2 p.2]
abbrev eQ3 {α β γ : Type} (e1 : α → D) (e2 : β → D) (e3 : γ → D) (p : α × β × γ) : D := .lst [e1 p.1, e2 p.2.1, e3 p.2.2]
def eO {α : Type} (e : α → D) : Option α → D
  | none => .non
  | some a => e a
@[simp] theorem eO_none {α : Type} (e : α → D) : eO e none = .non := rfl
@[simp] theorem eO_some {α : Type} (e : α → D) (a : α) : eO e (some a) = e a := rfl
def getO {α : Type} [Inhabited α] : Option α → α
  | some a => a
  | none => default
@[simp] theorem getO_some {α : Type} [Inhabited α] (a : α) : getO (some a) = a := rfl
theorem eO_get {α : Type} [Inhabited α] {e : α → D} {o : Option α} (h : o.isSome = true) : eO e o = e (getO o) := by
  cases o with
  | none => simp at h
  | some a => rfl
/-! any value: content, not too deep, ints not too great -/
mutual
def D.av (n : Nat) : D → Bool
  | .non => true
  | .bl _ => true
  | .int i => decide (i.natAbs < 1099511627776)
  | .str x => PyData.strOk x && decide (x.length ≤ LIM)
  | .tup xs => match n with
    | 0 => false
    | n + 1 => decide (xs.length ≤ 1048576) && D.avL n xs
  | .lst xs => match n with
    | 0 => false
    | n + 1 => decide (xs.length ≤ 1048576) && D.avL n xs
  | _ => false
def D.avL (n : Nat) : List D → Bool
  | [] => true
  | x :: xs => D.av n x && D.avL n xs
end
theorem avL_mem {n : Nat} : ∀ {xs : List D}, D.avL n xs = true ↔ ∀ d ∈ xs, D.av n d = true
  | [] => by simp [D.avL]
  | x :: xs => by simp [D.avL, avL_mem (xs := xs)]
mutual
theorem av_fit : ∀ (n : Nat) (d : D), D.av n d = true → D.fit n d = true
  | n, .non, _ => by simp
  | n, .bl _, _ => by simp
  | n, .int _, _ => by simp
  | n, .str _, h => by simp only [D.av, Bool.and_eq_true] at h; simp [h.1]
  | 0, .tup _, h => by simp [D.av] at h
  | n + 1, .tup xs, h => by simp only [D.av, Bool.and_eq_true] at h; simp only [fit_tup]; exact avL_fit n xs h.2
  | 0, .lst _, h => by simp [D.av] at h
  | n + 1, .lst xs, h => by simp only [D.av, Bool.and_eq_true] at h; simp only [fit_lst]; exact avL_fit n xs h.2
  | n, .ref _, h => by simp [D.av] at h
  | n, .fr _, h => by simp [D.av] at h
  | n, .rng _ _, h => by simp [D.av] at h
theorem avL_fit : ∀ (n : Nat) (xs : List D), D.avL n xs = true → D.fitL n xs = true
  | n, [], _ => rfl
  | n, x :: xs, h => by
    simp only [D.avL, Bool.and_eq_true] at h
    simp only [fitL_cons, Bool.and_eq_true]
    exact ⟨av_fit n x h.1, avL_fit n xs h.2⟩
end
mutual
theorem av_mono : ∀ (n m : Nat), n ≤ m → ∀ d : D, D.av n d = true → D.av m d = true
  | n, m, h, .non, q => by simpa [D.av] using q
  | n, m, h, .bl _, q => by simpa [D.av] using q
  | n, m, h, .int _, q => by simpa [D.av] using q
  | n, m, h, .str _, q => by simpa [D.av] using q
  | 0, m, h, .tup _, q => by simp [D.av] at q
  | n + 1, 0, h, _, q => by omega
  | n + 1, m + 1, h, .tup xs, q => by simp only [D.av, Bool.and_eq_true] at q ⊢; exact ⟨q.1, avL_mono n m (by omega) xs q.2⟩
  | 0, m, h, .lst _, q => by simp [D.av] at q
  | n + 1, m + 1, h, .lst xs, q => by simp only [D.av, Bool.and_eq_true] at q ⊢; exact ⟨q.1, avL_mono n m (by omega) xs q.2⟩
  | n, m, h, .ref _, q => by simp [D.av] at q
  | n, m, h, .fr _, q => by simp [D.av] at q
  | n, m, h, .rng _ _, q => by simp [D.av] at q
theorem avL_mono : ∀ (n m : Nat), n ≤ m → ∀ xs : List D, D.avL n xs = true → D.avL m xs = true
  | n, m, h, [], _ => rfl
  | n, m, h, x :: xs, q => by
    simp only [D.avL, Bool.and_eq_true] at q ⊢
    exact ⟨av_mono n m h x q.1, avL_mono n m h xs q.2⟩
end
abbrev AV := {d : D // D.av 9 d = true}
abbrev eA : AV → D := Subtype.val
instance : Inhabited AV := ⟨⟨.non, rfl⟩⟩
instance : Inhabited Sx := ⟨⟨"", by decide +kernel⟩⟩
instance : Inhabited D := ⟨.non⟩
theorem av_fit' (v : AV) {k : Nat} : D.fit (9 + k) v.1 = true := D.fit_mono 9 (9 + k) (by omega) _ (av_fit 9 _ v.2)
namespace AV
def isTup (v : AV) : Bool := match v.1 with | .tup _ => true | _ => false
def isLst (v : AV) : Bool := match v.1 with | .lst _ => true | _ => false
def isStr (v : AV) : Bool := match v.1 with | .str _ => true | _ => false
def isBl (v : AV) : Bool := match v.1 with | .bl _ => true | _ => false
def isI (v : AV) : Bool := match v.1 with | .int _ => true | _ => false
def isInt (v : AV) : Bool := match v.1 with | .int _ => true | .bl _ => true | _ => false
def isNon (v : AV) : Bool := match v.1 with | .non => true | _ => false
def int (v : AV) : Int := match v.1 with | .int i => i | _ => 0
def bl (v : AV) : Bool := match v.1 with | .bl i => i | _ => false
def raw (v : AV) : List D := match v.1 with | .tup xs => xs | .lst xs => xs | _ => []
theorem raw_av (v : AV) : ∀ d ∈ v.raw, D.av 9 d = true := by
  obtain ⟨d, hd⟩ := v
  unfold raw
  cases d with
  | tup xs => simp only [D.av, Bool.and_eq_true] at hd; exact fun d h => av_mono 8 9 (by omega) d (avL_mem.1 hd.2 d h)
  | lst xs => simp only [D.av, Bool.and_eq_true] at hd; exact fun d h => av_mono 8 9 (by omega) d (avL_mem.1 hd.2 d h)
  | _ => intro d h; simp at h
@[irreducible] def items (v : AV) : List AV := v.raw.attach.map fun d => ⟨d.1, v.raw_av d.1 d.2⟩
theorem items_raw (v : AV) : v.items.map eA = v.raw := by
  unfold items
  rw [List.map_map]
  have : (eA ∘ fun d : {x // x ∈ v.raw} => (⟨d.1, v.raw_av d.1 d.2⟩ : AV)) = Subtype.val := rfl
  rw [this, List.attach_map_subtype_val]
theorem tup_eq {v : AV} (h : v.isTup = true) : v.1 = eT eA v.items := by
  show _ = D.tup (v.items.map eA)
  rw [items_raw]
  obtain ⟨d, hd⟩ := v
  cases d with
  | tup xs => rfl
  | _ => cases h
theorem lst_eq {v : AV} (h : v.isLst = true) : v.1 = eL eA v.items := by
  show _ = D.lst (v.items.map eA)
  rw [items_raw]
  obtain ⟨d, hd⟩ := v
  cases d with
  | lst xs => rfl
  | _ => cases h
theorem i_eq {v : AV} (h : v.isI = true) : v.1 = .int v.int := by
  obtain ⟨d, hd⟩ := v
  cases d with
  | int i => rfl
  | _ => cases h
theorem bl_eq {v : AV} (h : v.isBl = true) : v.1 = .bl v.bl := by
  obtain ⟨d, hd⟩ := v
  cases d with
  | bl i => rfl
  | _ => cases h
theorem len_items (v : AV) : v.items.length ≤ 1048576 := by
  have : v.items.length = v.raw.length := by rw [← items_raw v, List.length_map]
  rw [this]
  obtain ⟨d, hd⟩ := v
  cases d with
  | tup xs => simp only [D.av, Bool.and_eq_true, decide_eq_true_eq] at hd; exact hd.1
  | lst xs => simp only [D.av, Bool.and_eq_true, decide_eq_true_eq] at hd; exact hd.1
  | _ => simp [raw]
def isSeq (v : AV) : Bool := v.isTup || v.isLst
theorem seq_eq {v : AV} (h : v.isSeq = true) {S : Store} : seqOf v.1 S = some (v.items.map eA) := by
  rw [items_raw]
  obtain ⟨d, hd⟩ := v
  cases d with
  | tup xs => rfl
  | lst xs => rfl
  | _ => cases h
theorem int_lt (v : AV) : v.int.natAbs < 1099511627776 := by
  obtain ⟨d, hd⟩ := v
  cases d with
  | int i => simp only [D.av, decide_eq_true_eq] at hd; exact hd
  | _ => exact (by decide : (0 : Int).natAbs < 1099511627776)
end AV
/-- a value of which it is known that it is one of the small ones -/
def mkA (d : D) : AV := if h : D.av 9 d = true then ⟨d, h⟩ else ⟨.non, rfl⟩
theorem mkA_eq {d : D} (h : D.av 9 d = true) : eA (mkA d) = d := by unfold mkA; rw [dif_pos h]
/-! ### where Python's == is equality -/
structure Eqv {α : Type} [DecidableEq α] (k : Nat) (e : α → D) : Prop where
  fit : ∀ a, D.fit k (e a) = true
  eq : ∀ a b, deq (e a) (e b) = decide (a = b)
structure NN {α : Type} (e : α → D) : Prop where
  l : ∀ a, deq .non (e a) = false
  r : ∀ a, deq (e a) .non = false
@[simp] theorem deq_bl {b c : Bool} : deq (.bl b) (.bl c) = decide (b = c) := by cases b <;> cases c <;> decide
@[simp] theorem deq_non : deq .non .non = true := by decide
@[simp] theorem deq_non_int {i : Int} : deq .non (.int i) = false := by simp [deq, D.py, PyData.eqv]
@[simp] theorem deq_int_non {i : Int} : deq (.int i) .non = false := by simp [deq, D.py, PyData.eqv]
@[simp] theorem deq_non_tup {i : List D} : deq .non (.tup i) = false := by simp [deq, D.py, PyData.eqv]
@[simp] theorem deq_tup_non {i : List D} : deq (.tup i) .non = false := by simp [deq, D.py, PyData.eqv]
@[simp] theorem deq_non_lst {i : List D} : deq .non (.lst i) = false := by simp [deq, D.py, PyData.eqv]
@[simp] theorem deq_lst_non {i : List D} : deq (.lst i) .non = false := by simp [deq, D.py, PyData.eqv]
@[simp] theorem deq_non_str {i : Str} : deq .non (.str i) = false := by simp [deq, D.py, PyData.eqv]
@[simp] theorem deq_str_non {i : Str} : deq (.str i) .non = false := by simp [deq, D.py, PyData.eqv]
section
variable {α β γ δ ε : Type} [DecidableEq α] [DecidableEq β] [DecidableEq γ] [DecidableEq δ] [DecidableEq ε] {k : Nat} {e : α → D} {e2 : β → D} {e3 : γ → D} {e4 : δ → D} {e5 : ε → D}
theorem eqv_I : Eqv k eI := ⟨fun a => by simp, fun a b => by simp; rfl⟩
theorem eqv_B : Eqv k eB := ⟨fun a => by simp, fun a b => by simp⟩
theorem eqv_N : Eqv k eN := ⟨fun a => by simp, fun a b => by simp⟩
theorem eqv_S : Eqv k eS := ⟨fun a => by simp [a.2.1], fun a b => by rw [deq_str, Bool.eq_iff_iff]; simp [Subtype.ext_iff]⟩
theorem deqL_map (h : ∀ a b, deq (e a) (e b) = decide (a = b)) : ∀ x y : List α, deqL (x.map e) (y.map e) = decide (x = y)
  | [], [] => by simp
  | [], _ :: _ => by simp
  | _ :: _, [] => by simp
  | a :: x, b :: y => by
    simp only [List.map_cons, deqL_cons, h, deqL_map h x y, List.cons.injEq]
    by_cases h1 : a = b <;> simp [h1]
theorem eqv_T (h : Eqv k e) : Eqv (k + 1) (eT e) := ⟨fun a => by simp only [fit_tup]; exact fitL_map fun x _ => h.fit x, fun a b => by rw [deq_tup, deqL_map h.eq]⟩
theorem eqv_L (h : Eqv k e) : Eqv (k + 1) (eL e) := ⟨fun a => by simp only [fit_lst]; exact fitL_map fun x _ => h.fit x, fun a b => by rw [deq_lst, deqL_map h.eq]⟩
theorem eqv_P1 (h : Eqv k e) : Eqv (k + 1) (eP1 e) := ⟨fun a => by simp [h.fit], fun a b => by simp [h.eq]⟩
theorem eqv_P2 (h : Eqv k e) (h2 : Eqv k e2) : Eqv (k + 1) (eP2 e e2) := ⟨fun a => by simp [h.fit, h2.fit], fun a b => by
  obtain ⟨a1, a2⟩ := a; obtain ⟨b1, b2⟩ := b; simp [h.eq, h2.eq, Prod.ext_iff]⟩
theorem eqv_P3 (h : Eqv k e) (h2 : Eqv k e2) (h3 : Eqv k e3) : Eqv (k + 1) (eP3 e e2 e3) := ⟨fun a => by simp [h.fit, h2.fit, h3.fit], fun a b => by
  obtain ⟨a1, a2, a3⟩ := a; obtain ⟨b1, b2, b3⟩ := b; simp [h.eq, h2.eq, h3.eq, Prod.ext_iff]⟩
theorem eqv_P4 (h : Eqv k e) (h2 : Eqv k e2) (h3 : Eqv k e3) (h4 : Eqv k e4) : Eqv (k + 1) (eP4 e e2 e3 e4) := ⟨fun a => by simp [h.fit, h2.fit, h3.fit, h4.fit], fun a b => by
  obtain ⟨a1, a2, a3, a4⟩ := a; obtain ⟨b1, b2, b3, b4⟩ := b; simp [h.eq, h2.eq, h3.eq, h4.eq, Prod.ext_iff]⟩
theorem eqv_Q2 (h : Eqv k e) (h2 : Eqv k e2) : Eqv (k + 1) (eQ2 e e2) := ⟨fun a => by simp [h.fit, h2.fit], fun a b => by
  obtain ⟨a1, a2⟩ := a; obtain ⟨b1, b2⟩ := b; simp [h.eq, h2.eq, Prod.ext_iff]⟩
theorem eqv_O (h : Eqv k e) (n : NN e) : Eqv k (eO e) := ⟨fun a => by cases a <;> simp [h.fit], fun a b => by
  cases a <;> cases b <;> simp [h.eq, n.l, n.r]⟩
end
theorem nn_I : NN eI := ⟨fun a => by simp, fun a => by simp⟩
theorem nn_S : NN eS := ⟨fun a => by simp, fun a => by simp⟩
theorem nn_T {α : Type} {e : α → D} : NN (eT e) := ⟨fun a => by simp, fun a => by simp⟩
theorem nn_L {α : Type} {e : α → D} : NN (eL e) := ⟨fun a => by simp, fun a => by simp⟩
theorem nn_P2 {α β : Type} {e : α → D} {e2 : β → D} : NN (eP2 e e2) := ⟨fun a => by simp, fun a => by simp⟩
theorem nn_P3 {α β γ : Type} {e : α → D} {e2 : β → D} {e3 : γ → D} : NN (eP3 e e2 e3) := ⟨fun a => by simp, fun a => by simp⟩
/-! fit alone -/
abbrev Fit {α : Type} (k : Nat) (e : α → D) : Prop := ∀ a, D.fit k (e a) = true
section
variable {α β γ δ ε : Type} {k : Nat} {e : α → D} {e2 : β → D} {e3 : γ → D} {e4 : δ → D} {e5 : ε → D}
theorem fit_I : Fit k eI := fun a => by simp
theorem fit_B : Fit k eB := fun a => by simp
theorem fit_N : Fit k eN := fun a => by simp
theorem fit_S : Fit k eS := fun a => by simp [a.2.1]
theorem fit_A : Fit (9 + k) eA := fun a => av_fit' a
theorem fit_T (h : Fit k e) : Fit (k + 1) (eT e) := fun a => by simp only [fit_tup]; exact fitL_map fun x _ => h x
theorem fit_L (h : Fit k e) : Fit (k + 1) (eL e) := fun a => by simp only [fit_lst]; exact fitL_map fun x _ => h x
theorem fit_P1 (h : Fit k e) : Fit (k + 1) (eP1 e) := fun a => by simp [h a]
theorem fit_P2 (h : Fit k e) (h2 : Fit k e2) : Fit (k + 1) (eP2 e e2) := fun a => by simp [h a.1, h2 a.2]
theorem fit_Q2 (h : Fit k e) (h2 : Fit k e2) : Fit (k + 1) (eQ2 e e2) := fun a => by simp [h a.1, h2 a.2]
theorem fit_P3 (h : Fit k e) (h2 : Fit k e2) (h3 : Fit k e3) : Fit (k + 1) (eP3 e e2 e3) := fun a => by simp [h a.1, h2 a.2.1, h3 a.2.2]
theorem fit_Q3 (h : Fit k e) (h2 : Fit k e2) (h3 : Fit k e3) : Fit (k + 1) (eQ3 e e2 e3) := fun a => by simp [h a.1, h2 a.2.1, h3 a.2.2]
theorem fit_P4 (h : Fit k e) (h2 : Fit k e2) (h3 : Fit k e3) (h4 : Fit k e4) : Fit (k + 1) (eP4 e e2 e3 e4) := fun a => by simp [h a.1, h2 a.2.1, h3 a.2.2.1, h4 a.2.2.2]
theorem fit_O (h : Fit k e) : Fit k (eO e) := fun a => by cases a <;> simp [h _]
theorem fit_up {j : Nat} (h : Fit j e) (hk : j ≤ k) : Fit k e := fun a => D.fit_mono j k hk _ (h a)
end
end DV

/-! DVu: each construct's meaning over plain values. -/
namespace DV
open PySem PySem.Spec PyProof.Rows L2
/-! ### plain words -/
def ixP (n : Nat) (i : Int) : Nat := if i < 0 then (i + n).toNat else i.toNat
def InR {α : Type} (xs : List α) (i : Int) : Prop := -(xs.length : Int) ≤ i ∧ i < xs.length
def ixZ {α : Type} [Inhabited α] (xs : List α) (i : Int) : α := xs.getD (ixP xs.length i) default
def cutZ {α : Type} (xs : List α) (lo hi : Option Int) : List α := (xs.drop (HT.sIx xs.length 0 lo)).take (HT.sIx xs.length xs.length hi - HT.sIx xs.length 0 lo)
def rngZ (lo hi : Int) : List Int := (List.range (hi - lo).toNat).map fun (i : Nat) => lo + (i : Int)
def enumZ {α : Type} (xs : List α) : List (Int × α) := xs.mapIdx fun i x => ((i : Int), x)
def minZ : List Int → Int
  | [] => 0
  | n :: ns => minI n ns
def maxZ : List Int → Int
  | [] => 0
  | n :: ns => maxI n ns
def setZ {α : Type} (xs : List α) (i : Int) (x : α) : List α := xs.set (ixP xs.length i) x
def repZ {α : Type} (n : Int) (xs : List α) : List α := (List.replicate n.toNat xs).flatten
def absZ (i : Int) : Int := if i < 0 then -i else i
def sortZ {α : Type} (en : α → D) (xs : List α) : List α := xs.mergeSort fun a b => dle (en a) (en b)
theorem ixN_Z {n : Nat} {i : Int} (h : -(n : Int) ≤ i ∧ i < n) : ixN n i = some (ixP n i) ∧ ixP n i < n := by
  unfold ixN ixP
  by_cases h0 : i < 0
  · rw [if_neg (by omega), if_pos (by omega), if_pos h0]; exact ⟨rfl, by omega⟩
  · rw [if_pos (by omega), if_pos (by omega), if_neg h0]; exact ⟨rfl, by omega⟩
theorem ixZ_mem {α : Type} [Inhabited α] {xs : List α} {i : Int} (h : InR xs i) : ixZ xs i ∈ xs := by
  have := (ixN_Z h).2
  unfold ixZ
  rw [List.getD_eq_getElem?_getD, List.getElem?_eq_getElem this]
  exact List.getElem_mem this
theorem atI_Z {α : Type} [Inhabited α] {xs : List α} {en : α → D} {i : Int} (h : InR xs i) : atI (xs.map en) i = some (en (ixZ xs i)) := by
  obtain ⟨h1, h2⟩ := ixN_Z h
  unfold atI ixZ
  rw [List.length_map, h1]
  simp [h2]
theorem cutD_Z {α : Type} {xs : List α} {en : α → D} {lo hi : Option Int} : cutD (xs.map en) lo hi = (cutZ xs lo hi).map en := by
  unfold cutD cutZ
  simp [List.map_take, List.map_drop]
theorem rngL_Z {a b : Int} : rngL a b = (rngZ a b).map eI := by
  unfold rngL rngZ
  rw [List.map_map]; rfl
theorem enumD_Z {α : Type} {xs : List α} {en : α → D} : ((xs.map en).mapIdx fun i d => D.tup [.int (i : Nat), d]) = (enumZ xs).map (eP2 eI en) := by
  unfold enumZ
  apply List.ext_getElem
  · simp
  · intro i h1 h2
    simp
/-! ### values -/
section
variable {α β γ : Type} {e : Ev} {S S1 S2 S3 : Store} {m mi ma mb mc : ME} {ml : ML} {en : α → D} {en2 : β → D} {xs ys : List α} {i j : Int} {d d1 d2 : D} {v : AV} {t a b : MT} {x y : Bool}
theorem var_of {k : Nat} (h : e[k]? = some (some d)) : mV k e S = some (d, S) := by rw [r_V, h]
theorem ix_T [Inhabited α] (h : m e S = some (eT en xs, S1)) (hi : mi e S1 = some (.int i, S2)) (hr : InR xs i) : mBin fIx m mi e S = some (en (ixZ xs i), S2) :=
  bin_of h hi (by rw [DV.ix_tup, atI_Z hr]; rfl)
theorem ix_L [Inhabited α] (h : m e S = some (eL en xs, S1)) (hi : mi e S1 = some (.int i, S2)) (hr : InR xs i) : mBin fIx m mi e S = some (en (ixZ xs i), S2) :=
  bin_of h hi (by rw [DV.ix_lst, atI_Z hr]; rfl)
theorem ix_R [Inhabited α] {p : Nat} (h : m e S = some (.ref p, S1)) (hi : mi e S1 = some (.int i, S2)) (hp : S2[p]? = some (.lst (xs.map en))) (hr : InR xs i) : mBin fIx m mi e S = some (en (ixZ xs i), S2) :=
  bin_of h hi (by rw [DV.ix_ref, seq_ref, hp]; simp only [Option.bind_some]; rw [atI_Z hr]; rfl)
theorem ix_A (h : m e S = some (eA v, S1)) (hi : mi e S1 = some (.int i, S2)) (hq : v.isTup = true) (hr : InR v.items i) : mBin fIx m mi e S = some (eA (ixZ v.items i), S2) :=
  ix_T (by rw [h]; show some (v.1, S1) = _; rw [AV.tup_eq hq]) hi hr
theorem o1_of (h : m e S = some (.int i, S1)) : mO1 m e S = some (some i, S1) := by unfold mO1; rw [h]; rfl
theorem sl_T {lo hi : Option Int} {ml mh : MO} (h : m e S = some (eT en xs, S1)) (hl : ml e S1 = some (lo, S2)) (hh : mh e S2 = some (hi, S3)) : mSl fSlT m ml mh e S = some (eT en (cutZ xs lo hi), S3) := by
  rw [r_Sl, h]; simp only [Option.bind_some]; rw [hl]; simp only [Option.bind_some]; rw [hh]; simp only [Option.bind_some, r_slT, cutD_Z]
theorem sl_A {lo hi : Option Int} {ml mh : MO} (h : m e S = some (eA v, S1)) (hq : v.isTup = true) (hl : ml e S1 = some (lo, S2)) (hh : mh e S2 = some (hi, S3)) : mSl fSlT m ml mh e S = some (eT eA (cutZ v.items lo hi), S3) :=
  sl_T (by rw [h]; show some (v.1, S1) = _; rw [AV.tup_eq hq]) hl hh
theorem sl_L {lo hi : Option Int} {ml mh : MO} (h : m e S = some (d, S1)) (hl : ml e S1 = some (lo, S2)) (hh : mh e S2 = some (hi, S3)) (hs : lstOf d S3 = some (xs.map en)) : mSlL m ml mh e S = some ((cutZ xs lo hi).map en, S3) := by
  rw [r_SlL, h]; simp only [Option.bind_some]; rw [hl]; simp only [Option.bind_some]; rw [hh]; simp only [Option.bind_some]; rw [hs]; simp only [Option.bind_some, cutD_Z]
theorem rev_T (h : m e S = some (eT en xs, S1)) : mRevT m e S = some (eT en xs.reverse, S1) := by unfold mRevT; rw [h]; simp
theorem add_T (h : xs.length + ys.length ≤ LIM) : fAdd (eT en xs) (eT en ys) S = some (eT en (xs ++ ys), S) := by
  rw [r_addT, if_pos (by simpa using h), ← List.map_append]
theorem add_L (h : xs.length + ys.length ≤ LIM) : fAdd (eL en xs) (eL en ys) S = some (eL en (xs ++ ys), S) := by
  rw [r_addL, if_pos (by simpa using h), ← List.map_append]
theorem add_TD {ds es : List D} (h : ds.length + es.length ≤ LIM) : fAdd (.tup ds) (.tup es) S = some (.tup (ds ++ es), S) := by rw [r_addT, if_pos h]
theorem cat_of {da db : D} (ha : ma e S = some (da, S1)) (hb : mb e S1 = some (db, S2)) (h1 : lstTr da S2 = some (xs.map en)) (h2 : lstTr db S2 = some (ys.map en)) (h : xs.length + ys.length ≤ LIM) : mCat ma mb e S = some ((xs ++ ys).map en, S2) := by
  unfold mCat; rw [ha]; simp only [Option.bind_some]; rw [hb]; simp only [Option.bind_some]; rw [h1]; simp only [Option.bind_some]; rw [h2]; simp only [Option.bind_some]
  rw [if_pos (by simpa using h), List.map_append]
theorem flat_map {n : Nat} : (List.replicate n (xs.map en)).flatten = ((List.replicate n xs).flatten).map en := by
  rw [List.map_flatten, List.map_replicate]
theorem rep_L (h : -(2 ^ 63) ≤ j ∧ j < 2 ^ 63 ∧ xs.length * j.toNat ≤ LIM) : fMul (eL en xs) (.int j) S = some (eL en (repZ j xs), S) := by
  simp only [fMul, eL, ltr_lst, Option.bind_some]
  rw [if_pos (by simpa using h)]
  unfold repZ; rw [flat_map]
theorem repL_of {da : D} (ha : ma e S = some (da, S1)) (hb : mb e S1 = some (.int j, S2)) (h1 : lstTr da S2 = some (xs.map en)) (h : -(2 ^ 63) ≤ j ∧ j < 2 ^ 63 ∧ xs.length * j.toNat ≤ LIM) : mRepL ma mb e S = some ((repZ j xs).map en, S2) := by
  unfold mRepL; rw [ha]; simp only [Option.bind_some]; rw [hb]; simp only [Option.bind_some]; rw [h1]; simp only [Option.bind_some]
  rw [if_pos (by simpa using h)]
  unfold repZ; rw [flat_map]
theorem pow_of (h : 0 ≤ j ∧ j ≤ 1000000 ∧ i.natAbs < 2 ^ 64) : fPow (.int i) (.int j) S = some (.int (i ^ j.toNat), S) := by rw [r_pow, if_pos h]
theorem neg_of (h : m e S = some (.int i, S1)) : mUn fNeg m e S = some (.int (-i), S1) := by rw [r_Un, h]; rfl
theorem rt_fit {k : Nat} (h : D.fit k d = true) : readTop d S = d := by
  cases d <;> simp_all [D.fit, readTop]
theorem eq_D {k l : Nat} (h1 : D.fit k d1 = true) (h2 : D.fit l d2 = true) (hk : k ≤ 32) (hl : l ≤ 32) : fEq d1 d2 S = some (.bl (deq d1 d2), S) := by
  rw [r_eq, rt_fit h1, rt_fit h2, if_pos ⟨D.fit_mono _ _ hk _ h1, D.fit_mono _ _ hl _ h2⟩]
theorem ne_D {k l : Nat} (h1 : D.fit k d1 = true) (h2 : D.fit l d2 = true) (hk : k ≤ 32) (hl : l ≤ 32) : fNe d1 d2 S = some (.bl (!deq d1 d2), S) := by
  rw [r_ne, rt_fit h1, rt_fit h2, if_pos ⟨D.fit_mono _ _ hk _ h1, D.fit_mono _ _ hl _ h2⟩]
theorem eq_E [DecidableEq α] {p q : α} (h : Eqv 32 en) : fEq (en p) (en q) S = some (.bl (decide (p = q)), S) := by
  rw [eq_D (h.fit p) (h.fit q) (Nat.le_refl _) (Nat.le_refl _), h.eq]
theorem ne_E [DecidableEq α] {p q : α} (h : Eqv 32 en) : fNe (en p) (en q) S = some (.bl (!decide (p = q)), S) := by
  rw [ne_D (h.fit p) (h.fit q) (Nat.le_refl _) (Nat.le_refl _), h.eq]
theorem eq_RL [DecidableEq α] {p : Nat} (h : Eqv 32 (eL en)) (hp : S[p]? = some (.lst (xs.map en))) : fEq (.ref p) (eL en ys) S = some (.bl (decide (xs = ys)), S) := by
  have := h.fit xs
  rw [r_eq]
  have e1 : readTop (.ref p) S = eL en xs := by simp only [readTop, hp]
  rw [e1, rt_fit (h.fit ys), if_pos ⟨h.fit _, h.fit _⟩, h.eq]
theorem in_E [DecidableEq α] {p : α} (h : Eqv 32 en) (hs : seqOf d S = some (xs.map en)) : fIn (en p) d S = some (.bl (decide (p ∈ xs)), S) := by
  unfold fIn fInB
  rw [hs]; simp only [Option.bind_some]
  rw [if_pos ⟨h.fit p, fitL_map fun x _ => h.fit x⟩]
  have : ((xs.map en).any fun z => deq z (en p)) = decide (p ∈ xs) := by
    rw [Bool.eq_iff_iff]; simp [h.eq]
  simp only [Bool.false_eq_true, if_false, this]
theorem nin_E [DecidableEq α] {p : α} (h : Eqv 32 en) (hs : seqOf d S = some (xs.map en)) : fNotIn (en p) d S = some (.bl (!decide (p ∈ xs)), S) := by
  unfold fNotIn fInB
  rw [hs]; simp only [Option.bind_some]
  rw [if_pos ⟨h.fit p, fitL_map fun x _ => h.fit x⟩]
  have : ((xs.map en).any fun z => deq z (en p)) = decide (p ∈ xs) := by
    rw [Bool.eq_iff_iff]; simp [h.eq]
  simp only [if_true, this]
/-- any value in a row -/
theorem in_D {k : Nat} (h : ∀ z ∈ xs, D.fit 32 (en z) = true) (h1 : D.fit k d1 = true) (hk : k ≤ 32) (hs : seqOf d S = some (xs.map en)) : fIn d1 d S = some (.bl (xs.any fun z => deq (en z) d1), S) := by
  unfold fIn fInB
  rw [hs]; simp only [Option.bind_some]
  rw [if_pos ⟨D.fit_mono _ _ hk _ h1, fitL_map h⟩]
  simp only [Bool.false_eq_true, if_false, List.any_map]; rfl
theorem nin_D {k : Nat} (h : ∀ z ∈ xs, D.fit 32 (en z) = true) (h1 : D.fit k d1 = true) (hk : k ≤ 32) (hs : seqOf d S = some (xs.map en)) : fNotIn d1 d S = some (.bl (!(xs.any fun z => deq (en z) d1)), S) := by
  unfold fNotIn fInB
  rw [hs]; simp only [Option.bind_some]
  rw [if_pos ⟨D.fit_mono _ _ hk _ h1, fitL_map h⟩]
  simp only [if_true, List.any_map]; rfl
theorem isN_O {o : Option α} (hn : ∀ a, fIsN (en a) .non S = some (.bl false, S)) : fIsN (eO en o) .non S = some (.bl o.isNone, S) := by
  cases o with
  | none => rfl
  | some a => exact hn a
theorem notN_O {o : Option α} (hn : ∀ a, fIsN (en a) .non S = some (.bl false, S)) : fNotN (eO en o) .non S = some (.bl o.isSome, S) := by
  unfold fNotN
  rw [isN_O hn]
  cases o <;> rfl
theorem isN_A : fIsN (eA v) .non S = some (.bl v.isNon, S) := by
  obtain ⟨d, hd⟩ := v
  cases d <;> first | rfl | (simp [D.av] at hd)
theorem notN_A : fNotN (eA v) .non S = some (.bl (!v.isNon), S) := by
  unfold fNotN; rw [isN_A]; rfl
theorem chain_of {f g : D → D → Store → Option (D × Store)} {p q r : D} (ha : ma e S = some (p, S1)) (hb : mb e S1 = some (q, S2)) (hf : f p q S2 = some (.bl x, S2)) (hc : x = true → mc e S2 = some (r, S2)) (hg : x = true → g q r S2 = some (.bl y, S2)) : mChain f g ma mb mc e S = some (.bl (x && y), S2) := by
  unfold mChain; rw [ha]; simp only [Option.bind_some]; rw [hb]; simp only [Option.bind_some]; rw [hf]; simp only [Option.bind_some]
  cases x with
  | true => simp only; rw [hc rfl]; simp only [Option.bind_some]; rw [hg rfl]; rfl
  | false => rfl
theorem and_E (ha : a e S = some (x, S1)) (hb : x = true → b e S1 = some (y, S1)) : mAnd a b e S = some (x && y, S1) := by
  rw [r_And, ha]; cases x with
  | true => simp only [Option.bind_some, if_true]; rw [hb rfl]; rfl
  | false => rfl
theorem or_E (ha : a e S = some (x, S1)) (hb : x = false → b e S1 = some (y, S1)) : mOr a b e S = some (x || y, S1) := by
  rw [r_Or, ha]; cases x with
  | false => simp only [Option.bind_some, Bool.false_eq_true, if_false]; rw [hb rfl]; rfl
  | true => rfl
/-- the same where the second one changes the store -/
theorem and_C {σ : γ → Store} {c1 c2 : γ} (ha : a e S = some (x, σ c1)) (hb : x = true → b e (σ c1) = some (y, σ c2)) : mAnd a b e S = some (x && y, σ (bif x then c2 else c1)) := by
  rw [r_And, ha]; cases x with
  | true => simp only [Option.bind_some, if_true]; rw [hb rfl]; rfl
  | false => rfl
theorem or_C {σ : γ → Store} {c1 c2 : γ} (ha : a e S = some (x, σ c1)) (hb : x = false → b e (σ c1) = some (y, σ c2)) : mOr a b e S = some (x || y, σ (bif x then c1 else c2)) := by
  rw [r_Or, ha]; cases x with
  | false => simp only [Option.bind_some, Bool.false_eq_true, if_false]; rw [hb rfl]; rfl
  | true => rfl
theorem andv_E (ha : ma e S = some (.bl x, S1)) (hb : x = true → mb e S1 = some (.bl y, S1)) : mAndV ma mb e S = some (.bl (x && y), S1) := by
  rw [r_AndV, ha]; cases x with
  | true => simp only [Option.bind_some, tr_bl, if_true]; rw [hb rfl]; rfl
  | false => rfl
theorem orv_E (ha : ma e S = some (.bl x, S1)) (hb : x = false → mb e S1 = some (.bl y, S1)) : mOrV ma mb e S = some (.bl (x || y), S1) := by
  rw [r_OrV, ha]; cases x with
  | false => simp only [Option.bind_some, tr_bl, Bool.false_eq_true, if_false]; rw [hb rfl]; rfl
  | true => rfl
theorem notv_E (ha : ma e S = some (d, S1)) (ht : truth' d S1 = some x) : mNotV ma e S = some (.bl (!x), S1) := by
  rw [r_NotV, ha]; simp only [Option.bind_some]; rw [ht]; rfl
theorem if_E {p q : α} (hc : t e S = some (x, S1)) (h1 : x = true → ma e S1 = some (en p, S1)) (h2 : x = false → mb e S1 = some (en q, S1)) : mIf t ma mb e S = some (en (bif x then p else q), S1) := by
  rw [r_If, hc]; cases x with
  | true => exact h1 rfl
  | false => exact h2 rfl
theorem if_C {σ : γ → Store} {c1 c2 : γ} {p q : α} (hc : t e S = some (x, S1)) (h1 : x = true → ma e S1 = some (en p, σ c1)) (h2 : x = false → mb e S1 = some (en q, σ c2)) : mIf t ma mb e S = some (en (bif x then p else q), σ (bif x then c1 else c2)) := by
  rw [r_If, hc]; cases x with
  | true => exact h1 rfl
  | false => exact h2 rfl
theorem tr_T : truth' (eT en xs) S = some !xs.isEmpty := by rw [tr_tup]; cases xs <;> rfl
theorem tr_L : truth' (eL en xs) S = some !xs.isEmpty := by rw [tr_lst]; cases xs <;> rfl
theorem tr_R {p : Nat} (hp : S[p]? = some (.lst (xs.map en))) : truth' (.ref p) S = some !xs.isEmpty := by rw [tr_ref, hp]; cases xs <;> rfl
theorem tr_O {o : Option α} (ht : ∀ a, truth' (en a) S = some true) : truth' (eO en o) S = some o.isSome := by
  cases o with
  | none => rfl
  | some a => exact ht a
theorem tru_of' (h1 : m e S = some (d, S1)) (h2 : truth' d S1 = some x) : mTru m e S = some (x, S1) := tru_of h1 h2
theorem len_E (h : m e S = some (d, S1)) (hns : ∀ y, d ≠ .str y) (hs : seqOf d S1 = some (xs.map en)) : mCB fLen (mCons m mNil) e S = some (.int (xs.length : Int), S1) :=
  cb_of (one_of h) (by rw [len_of hns hs, List.length_map])
theorem len_A (h : m e S = some (eA v, S1)) (hq : v.isTup = true) : mCB fLen (mCons m mNil) e S = some (.int (v.items.length : Int), S1) :=
  len_E (en := eA) (d := eT eA v.items) (by rw [h]; show some (v.1, S1) = _; rw [AV.tup_eq hq]) (by simp) rfl
theorem tuple_E (h : m e S = some (d, S1)) (hs : seqOf d S1 = some (xs.map en)) : mCB fTuple (mCons m mNil) e S = some (eT en xs, S1) :=
  cb_of (one_of h) (by rw [r_tuple, hs]; rfl)
theorem sum_E {ns : List Int} (h : m e S = some (d, S1)) (hs : lstOf d S1 = some (ns.map eI)) : mCB fSum (mCons m mNil) e S = some (.int ns.sum, S1) :=
  cb_of (one_of h) (by rw [r_sum, hs]; simp only [Option.bind_some]; rw [ints_map]; rfl)
theorem any_E {ns : List Bool} (h : m e S = some (d, S1)) (hs : lstOf d S1 = some (ns.map eB)) : mCB fAny (mCons m mNil) e S = some (.bl (ns.any id), S1) :=
  cb_of (one_of h) (by rw [r_any, hs]; simp only [Option.bind_some]; rw [bls_map]; rfl)
theorem all_E {ns : List Bool} (h : m e S = some (d, S1)) (hs : lstOf d S1 = some (ns.map eB)) : mCB fAll (mCons m mNil) e S = some (.bl (ns.all id), S1) :=
  cb_of (one_of h) (by rw [r_all, hs]; simp only [Option.bind_some]; rw [bls_map]; rfl)
theorem abs_E (h : m e S = some (.int i, S1)) : mCB fAbs (mCons m mNil) e S = some (.int (absZ i), S1) := cb_of (one_of h) rfl
theorem int_B (h : m e S = some (.bl x, S1)) : mCB fInt (mCons m mNil) e S = some (.int (if x then 1 else 0), S1) := cb_of (one_of h) rfl
theorem int_I (h : m e S = some (.int i, S1)) : mCB fInt (mCons m mNil) e S = some (.int i, S1) := cb_of (one_of h) rfl
theorem min_2 (h : ma e S = some (.int i, S1)) (h2 : mb e S1 = some (.int j, S2)) : mCB fMinA (mCons ma (mCons mb mNil)) e S = some (.int (if j < i then j else i), S2) := cb_of (cons_of h (one_of h2)) rfl
theorem max_2 (h : ma e S = some (.int i, S1)) (h2 : mb e S1 = some (.int j, S2)) : mCB fMaxA (mCons ma (mCons mb mNil)) e S = some (.int (if j > i then j else i), S2) := cb_of (cons_of h (one_of h2)) rfl
theorem min_L {ns : List Int} (h : m e S = some (eL eI ns, S1)) (hn : ns ≠ []) : mCB fMinA (mCons m mNil) e S = some (.int (minZ ns), S1) := by
  cases ns with
  | nil => exact absurd rfl hn
  | cons n ns =>
    refine cb_of (one_of h) ?_
    have : intsOf (D.int n :: ns.map D.int) = some (n :: ns) := ints_map (n :: ns)
    simp only [fMinA, fMinX, eL, List.map_cons, seq_lst, lst_lst, Option.bind_some]
    show (match intsOf (D.int n :: ns.map D.int), some (D.int n :: ns.map D.int) with | some (n :: ns), some _ => _ | _, _ => _) = _
    rw [this]; rfl
theorem max_L {ns : List Int} (h : m e S = some (eL eI ns, S1)) (hn : ns ≠ []) : mCB fMaxA (mCons m mNil) e S = some (.int (maxZ ns), S1) := by
  cases ns with
  | nil => exact absurd rfl hn
  | cons n ns =>
    refine cb_of (one_of h) ?_
    have : intsOf (D.int n :: ns.map D.int) = some (n :: ns) := ints_map (n :: ns)
    simp only [fMaxA, fMinX, eL, List.map_cons, seq_lst, lst_lst, Option.bind_some]
    show (match intsOf (D.int n :: ns.map D.int), some (D.int n :: ns.map D.int) with | some (n :: ns), some _ => _ | _, _ => _) = _
    rw [this]; rfl
theorem val_E {ds : List D} (h : ml e S = some (ds, S1)) : mVal ml e S = some (.lst ds, S1) := by rw [r_Val, h]; rfl
theorem sto_E {ds : List D} (h : ml e S = some (ds, S1)) : mSto ml e S = some (.ref S1.length, S1 ++ [.lst ds]) := by rw [r_Sto, h]; rfl
theorem listOf_E (h : m e S = some (d, S1)) (hs : seqOf d S1 = some (xs.map en)) : mListOf m e S = some (xs.map en, S1) := by
  rw [r_ListOf, h]; simp only [Option.bind_some]; rw [hs]; rfl
theorem lstRg_E (h : m e S = some (.int i, S1)) (hi : 0 ≤ i ∧ i ≤ 16777216) : mLstRg m e S = some ((rngZ 0 i).map eI, S1) := by
  unfold mLstRg; rw [h]; simp only [Option.bind_some]; rw [if_pos hi, rngL_Z]
theorem lst_E {ms : ML} {ds : List D} (h1 : ms e S = some (ds, S1)) (h : ds.length ≤ LIM) : mLst ms e S = some (ds, S1) := by
  rw [r_Lst, h1]; simp only [Option.bind_some]; rw [if_pos h]
theorem sorted_E (h : m e S = some (d, S1)) (hs : seqOf d S1 = some (xs.map en)) (hc : D.fitL 31 (xs.map en) = true ∧ alikeB (xs.map en) = true ∧ sortableB (xs.map en) = true) : mSorted m e S = some ((sortZ en xs).map en, S1) := by
  rw [r_Sorted, h]; simp only [Option.bind_some]; rw [hs]; simp only [Option.bind_some]; rw [if_pos hc]
  have e : (xs.mergeSort fun a b => dle (en a) (en b)).map en = (xs.map en).mergeSort dle := List.map_mergeSort (f := en) (r := fun a b => dle (en a) (en b)) (s := dle) (l := xs) (fun a _ b _ => rfl)
  unfold sortZ
  rw [e]
theorem ty_A : tyOf (eA v) S = some (if v.isTup then "tuple" else if v.isLst then "list" else if v.isStr then "str" else if v.isBl then "bool" else if v.isI then "int" else "NoneType") := by
  obtain ⟨d, hd⟩ := v
  cases d <;> first | rfl | (simp [D.av] at hd)
theorem isi_A {T : String} {r : Bool} (h : m e S = some (eA v, S1)) (hr : isT (if v.isTup then "tuple" else if v.isLst then "list" else if v.isStr then "str" else if v.isBl then "bool" else if v.isI then "int" else "NoneType") T = r) : mIsi T m e S = some (.bl r, S1) := isi_of h ty_A hr
theorem isi_tup (h : m e S = some (eA v, S1)) : mIsi "tuple" m e S = some (.bl v.isTup, S1) := isi_A h (by obtain ⟨d, hd⟩ := v; cases d <;> first | exact (by decide +kernel : isT "tuple" "tuple" = true) | exact (by decide +kernel : isT "list" "tuple" = false) | exact (by decide +kernel : isT "str" "tuple" = false) | exact (by decide +kernel : isT "bool" "tuple" = false) | exact (by decide +kernel : isT "int" "tuple" = false) | exact (by decide +kernel : isT "NoneType" "tuple" = false) | (simp [D.av] at hd))
theorem isi_lst (h : m e S = some (eA v, S1)) : mIsi "list" m e S = some (.bl v.isLst, S1) := isi_A h (by obtain ⟨d, hd⟩ := v; cases d <;> first | exact (by decide +kernel : isT "tuple" "list" = false) | exact (by decide +kernel : isT "list" "list" = true) | exact (by decide +kernel : isT "str" "list" = false) | exact (by decide +kernel : isT "bool" "list" = false) | exact (by decide +kernel : isT "int" "list" = false) | exact (by decide +kernel : isT "NoneType" "list" = false) | (simp [D.av] at hd))
theorem isi_str (h : m e S = some (eA v, S1)) : mIsi "str" m e S = some (.bl v.isStr, S1) := isi_A h (by obtain ⟨d, hd⟩ := v; cases d <;> first | exact (by decide +kernel : isT "tuple" "str" = false) | exact (by decide +kernel : isT "list" "str" = false) | exact (by decide +kernel : isT "str" "str" = true) | exact (by decide +kernel : isT "bool" "str" = false) | exact (by decide +kernel : isT "int" "str" = false) | exact (by decide +kernel : isT "NoneType" "str" = false) | (simp [D.av] at hd))
theorem isi_bl (h : m e S = some (eA v, S1)) : mIsi "bool" m e S = some (.bl v.isBl, S1) := isi_A h (by obtain ⟨d, hd⟩ := v; cases d <;> first | exact (by decide +kernel : isT "tuple" "bool" = false) | exact (by decide +kernel : isT "list" "bool" = false) | exact (by decide +kernel : isT "str" "bool" = false) | exact (by decide +kernel : isT "bool" "bool" = true) | exact (by decide +kernel : isT "int" "bool" = false) | exact (by decide +kernel : isT "NoneType" "bool" = false) | (simp [D.av] at hd))
theorem isi_int (h : m e S = some (eA v, S1)) : mIsi "int" m e S = some (.bl v.isInt, S1) := isi_A h (by obtain ⟨d, hd⟩ := v; cases d <;> first | exact (by decide +kernel : isT "tuple" "int" = false) | exact (by decide +kernel : isT "list" "int" = false) | exact (by decide +kernel : isT "str" "int" = false) | exact (by decide +kernel : isT "bool" "int" = true) | exact (by decide +kernel : isT "int" "int" = true) | exact (by decide +kernel : isT "NoneType" "int" = false) | (simp [D.av] at hd))
end
end DV

/-! DVv: comprehensions, loops and blocks over plain values. -/
namespace DV
open PySem PySem.Spec PyProof.Rows L2
section
variable {α β γ δ T R J : Type} {e e1 : Ev} {S S1 S2 S3 : Store} {m ma mb mc : ME} {mi mi1 : MI} {ml : ML} {ms : ML} {en : α → D} {en2 : β → D} {en3 : γ → D} {xs : List α} {i j : Int} {d d1 d2 : D} {v : AV} {tt tt1 : MT} {t t1 : Tg} {elt : ME} {vs vs1 : List Nat}
/-! ### what is walked -/
theorem src_T (h : m e S = some (eT en xs, S1)) : mIt m e S = some (.seq (xs.map en), S1) := it_of h rfl
theorem src_L (h : m e S = some (eL en xs, S1)) : mIt m e S = some (.seq (xs.map en), S1) := it_of h rfl
theorem src_D {ds : List D} (h : m e S = some (d, S1)) (hd : srcOf d S1 = some (.seq ds)) : mIt m e S = some (.seq ds, S1) := it_of h hd
theorem src_A (h : m e S = some (eA v, S1)) (hq : v.isTup = true) : mIt m e S = some (.seq (v.items.map eA), S1) :=
  src_T (by rw [h]; show some (v.1, S1) = _; rw [AV.tup_eq hq])
theorem src_R {p : Nat} (h : m e S = some (.ref p, S1)) (hp : S1[p]? = some (.lst (xs.map en))) : mIt m e S = some (.live p xs.length, S1) := by
  refine it_of h ?_
  simp only [srcOf]; rw [hp]; simp
theorem src_rg1 (h : m e S = some (.int i, S1)) (hi : I62 i) : mRg1 (mCons m mNil) e S = some (.seq ((rngZ 0 i).map eI), S1) := by
  rw [rg1_b (one_of h) hi, rngL_Z]
theorem src_rg2 (h : ma e S = some (.int i, S1)) (h2 : mb e S1 = some (.int j, S2)) (hi : I62 i ∧ I62 j) : mRg2 (mCons ma (mCons mb mNil)) e S = some (.seq ((rngZ i j).map eI), S2) := by
  unfold mRg2
  rw [cons_of h (one_of h2)]; simp only [Option.bind_some]
  rw [if_pos hi, rngL_Z]
theorem src_enT (h : m e S = some (eT en xs, S1)) : mEnum m e S = some (.seq ((enumZ xs).map (eP2 eI en)), S1) := by
  rw [r_Enum, h]; simp only [Option.bind_some, eT, src_tup, enum_seq, enumD_Z]
theorem src_enL (h : m e S = some (eL en xs, S1)) : mEnum m e S = some (.seq ((enumZ xs).map (eP2 eI en)), S1) := by
  rw [r_Enum, h]; simp only [Option.bind_some, eL, src_lst, enum_seq, enumD_Z]
theorem src_enA (h : m e S = some (eA v, S1)) (hq : v.isTup = true) : mEnum m e S = some (.seq ((enumZ v.items).map (eP2 eI eA)), S1) :=
  src_enT (by rw [h]; show some (v.1, S1) = _; rw [AV.tup_eq hq])
/-! ### comprehensions -/
theorem lc_E {p : α → Bool} {f : α → β} (hi : mi e S = some (.seq (xs.map en), S1)) (hz : xs.length ≤ LIM) (h : ∀ x ∈ xs, ∃ e1, t.f (en x) (wipeE e vs) = some e1 ∧ tt e1 S1 = some (p x, S1) ∧ (p x = true → elt e1 S1 = some (en2 (f x), S1))) :
    mLC mi t tt elt vs e S = some (((xs.filter p).map f).map en2, S1) := by
  rw [r_LC hi, lcL_pure en p (fun x => en2 (f x)) xs h]
  simp only [Option.bind_some]
  rw [if_pos (by rw [List.length_map]; exact Nat.le_trans (List.length_filter_le _ _) hz), List.map_map]; rfl
theorem lcm_E {f : α → β} (hi : mi e S = some (.seq (xs.map en), S1)) (hz : xs.length ≤ LIM) (h : ∀ x ∈ xs, ∃ e1, t.f (en x) (wipeE e vs) = some e1 ∧ elt e1 S1 = some (en2 (f x), S1)) :
    mLC mi t mYes elt vs e S = some ((xs.map f).map en2, S1) := by
  rw [r_LC hi, lcL_map en (fun x => en2 (f x)) xs h]
  simp only [Option.bind_some]
  rw [if_pos (by rw [List.length_map]; exact hz), List.map_map]; rfl
theorem lcGo_liveE {p : α → Bool} {f : α → β} {q : Nat} {bind : D → Ev → Option Ev} {e0 : Ev} (hS : S[q]? = some (.lst (xs.map en))) (h : ∀ x ∈ xs, ∃ e1, bind (en x) e0 = some e1 ∧ tt e1 S = some (p x, S) ∧ (p x = true → elt e1 S = some (en2 (f x), S))) :
    lcGo (Src.live q xs.length).get bind tt elt e0 (Src.live q xs.length).n 0 S = some (((xs.filter p).map f).map en2, S) := by
  have := lcGo_live (bind := bind) (tt := tt) (elt := elt) (e0 := e0) en p (fun x => en2 (f x)) xs hS h (N := xs.length) xs.length 0 (by omega)
  rw [List.drop_zero] at this
  rw [List.map_map]; exact this
/-- over a list of the store -/
theorem lcR_E {p : α → Bool} {f : α → β} {q : Nat} (hi : mi e S = some (.live q xs.length, S1)) (hS : S1[q]? = some (.lst (xs.map en))) (hz : xs.length ≤ LIM) (h : ∀ x ∈ xs, ∃ e1, t.f (en x) (wipeE e vs) = some e1 ∧ tt e1 S1 = some (p x, S1) ∧ (p x = true → elt e1 S1 = some (en2 (f x), S1))) :
    mLC mi t tt elt vs e S = some (((xs.filter p).map f).map en2, S1) := by
  unfold mLC
  rw [hi]
  simp only [Option.bind_some]
  rw [lcGo_liveE hS h]
  simp only [Option.bind_some]
  rw [if_pos (by rw [List.length_map, List.length_map]; exact Nat.le_trans (List.length_filter_le _ _) hz)]
theorem lcRm_E {f : α → β} {q : Nat} (hi : mi e S = some (.live q xs.length, S1)) (hS : S1[q]? = some (.lst (xs.map en))) (hz : xs.length ≤ LIM) (h : ∀ x ∈ xs, ∃ e1, t.f (en x) (wipeE e vs) = some e1 ∧ elt e1 S1 = some (en2 (f x), S1)) :
    mLC mi t mYes elt vs e S = some ((xs.map f).map en2, S1) := by
  have := lcR_E (tt := mYes) (p := fun _ => true) hi hS hz fun x hx => by obtain ⟨e1, h1, h2⟩ := h x hx; exact ⟨e1, h1, rfl, fun _ => h2⟩
  rw [this, List.filter_eq_self.2 (fun _ _ => rfl)]
/-- two clauses -/
theorem lc2Go_E {p : α → Bool} {g : α → List D} {bind : D → Ev → Option Ev} {inner : Ev → Store → Option (List D × Store)} {e0 : Ev} : ∀ (xs : List α), (∀ x ∈ xs, ∃ e1, bind (en x) e0 = some e1 ∧ tt e1 S = some (p x, S) ∧ (p x = true → inner e1 S = some (g x, S))) →
    ∀ (n i : Nat), xs.length = i + n → lc2Go (Src.seq (xs.map en)).get bind tt inner e0 n i S = some (((xs.drop i).filter p).flatMap g, S) := by
  intro xs h n
  induction n with
  | zero =>
    intro i hl
    have e : xs.drop i = [] := List.drop_eq_nil_of_le (by omega)
    have hg : (Src.seq (xs.map en)).get i S = some none := by show some (xs.map en)[i]? = some none; rw [List.getElem?_eq_none (by rw [List.length_map]; omega)]
    rw [e]
    simp only [lc2Go, hg]
    rfl
  | succ n ih =>
    intro i hl
    have hi : i < xs.length := by omega
    have hg : (Src.seq (xs.map en)).get i S = some (some (en xs[i])) := by show some (xs.map en)[i]? = _; rw [List.getElem?_map, List.getElem?_eq_getElem hi]; rfl
    obtain ⟨e1, h1, h2, h3⟩ := h xs[i] (List.getElem_mem hi)
    have ih := ih (i + 1) (by omega)
    rw [List.drop_eq_getElem_cons hi]
    simp only [lc2Go, hg, h1, Option.bind_some, h2]
    by_cases hp : p xs[i] = true
    · rw [if_pos hp, h3 hp, Option.bind_some, ih, Option.bind_some, List.filter_cons_of_pos hp, List.flatMap_cons]
    · rw [if_neg hp, ih, List.filter_cons_of_neg hp]
theorem lc2_E {p : α → Bool} {ys : α → List β} {q : α → β → Bool} {f : α → β → γ} (hi : mi e S = some (.seq (xs.map en), S1)) (hz : ((xs.filter p).flatMap fun x => ((ys x).filter (q x)).map (f x)).length ≤ LIM)
    (h : ∀ x ∈ xs, ∃ e1, t.f (en x) (wipeE e vs) = some e1 ∧ tt e1 S1 = some (p x, S1) ∧ (p x = true → mi1 e1 S1 = some (.seq ((ys x).map en2), S1) ∧
      ∀ y ∈ ys x, ∃ e2, t1.f (en2 y) (wipeE e1 vs1) = some e2 ∧ tt1 e2 S1 = some (q x y, S1) ∧ (q x y = true → elt e2 S1 = some (en3 (f x y), S1)))) :
    mLC2 mi t tt mi1 t1 tt1 elt vs vs1 e S = some (((xs.filter p).flatMap fun x => ((ys x).filter (q x)).map (f x)).map en3, S1) := by
  unfold mLC2
  rw [hi]
  simp only [Option.bind_some]
  have := lc2Go_E (S := S1) (tt := tt) (en := en) (p := p) (g := fun x => (((ys x).filter (q x)).map (f x)).map en3) (bind := t.f) (inner := mIn mi1 t1 tt1 elt vs1) (e0 := wipeE e vs) xs (fun x hx => by
    obtain ⟨e1, h1, h2, h3⟩ := h x hx
    refine ⟨e1, h1, h2, fun hp => ?_⟩
    obtain ⟨h4, h5⟩ := h3 hp
    refine in_lc h4 ?_
    rw [lcL_pure en2 (q x) (fun y => en3 (f x y)) (ys x) h5, List.map_map]; rfl) xs.length 0 (by omega)
  rw [List.drop_zero] at this
  rw [show (Src.seq (xs.map en)).n = xs.length from List.length_map _, this]
  simp only [Option.bind_some]
  have e2 : ((xs.filter p).flatMap fun x => (((ys x).filter (q x)).map (f x)).map en3) = ((xs.filter p).flatMap fun x => ((ys x).filter (q x)).map (f x)).map en3 := by rw [List.map_flatMap]
  rw [e2, if_pos (by rw [List.length_map]; exact hz)]
/-- a comprehension whose elements take from the cursor -/
def mapA {α β γ : Type} (f : γ → α → β × γ) : γ → List α → List β × γ
  | c, [] => ([], c)
  | c, x :: xs => ((f c x).1 :: (mapA f (f c x).2 xs).1, (mapA f (f c x).2 xs).2)
def okA {α β γ : Type} (f : γ → α → β × γ) (ok : γ → α → Prop) : γ → List α → Prop
  | _, [] => True
  | c, x :: xs => ok c x ∧ okA f ok (f c x).2 xs
/-- with a test: g says whether it is taken -/
def fmapA {α β γ : Type} (g : γ → α → Bool × γ) (f : γ → α → β × γ) : γ → List α → List β × γ
  | c, [] => ([], c)
  | c, x :: xs => bif (g c x).1 then ((f (g c x).2 x).1 :: (fmapA g f (f (g c x).2 x).2 xs).1, (fmapA g f (f (g c x).2 x).2 xs).2) else fmapA g f (g c x).2 xs
def okFA {α β γ : Type} (g : γ → α → Bool × γ) (f : γ → α → β × γ) (ok : γ → α → Prop) : γ → List α → Prop
  | _, [] => True
  | c, x :: xs => ok c x ∧ ((g c x).1 = true → okFA g f ok (f (g c x).2 x).2 xs) ∧ ((g c x).1 = false → okFA g f ok (g c x).2 xs)
theorem mapA_length {f : γ → α → β × γ} : ∀ (xs : List α) (c : γ), (mapA f c xs).1.length = xs.length
  | [], _ => rfl
  | x :: xs, c => by simp [mapA, mapA_length xs]
theorem fmapA_length {g : γ → α → Bool × γ} {f : γ → α → β × γ} : ∀ (xs : List α) (c : γ), (fmapA g f c xs).1.length ≤ xs.length
  | [], _ => Nat.le_refl _
  | x :: xs, c => by
    unfold fmapA
    cases (g c x).1
    · exact Nat.le_trans (fmapA_length xs _) (by simp)
    · exact Nat.succ_le_succ (fmapA_length xs _)
theorem lcA_L {σ : γ → Store} {f : γ → α → β × γ} {ok : γ → α → Prop} {bind : D → Ev → Option Ev} {e0 : Ev} (h : ∀ c x, ok c x → ∃ e1, bind (en x) e0 = some e1 ∧ elt e1 (σ c) = some (en2 (f c x).1, σ (f c x).2)) : ∀ (xs : List α) (c : γ), okA f ok c xs →
    lcL bind mYes elt e0 (xs.map en) (σ c) = some ((mapA f c xs).1.map en2, σ (mapA f c xs).2)
  | [], _, _ => rfl
  | x :: xs, c, hk => by
    obtain ⟨e1, h1, h2⟩ := h c x hk.1
    simp only [List.map_cons, lcL, h1, Option.bind_some, mYes, if_true, h2, lcA_L h xs _ hk.2, mapA]
theorem lcA_E {σ : γ → Store} {f : γ → α → β × γ} {ok : γ → α → Prop} {c : γ} (hi : mi e S = some (.seq (xs.map en), σ c)) (hz : xs.length ≤ LIM) (hk : okA f ok c xs) (h : ∀ c x, ok c x → ∃ e1, t.f (en x) (wipeE e vs) = some e1 ∧ elt e1 (σ c) = some (en2 (f c x).1, σ (f c x).2)) :
    mLC mi t mYes elt vs e S = some ((mapA f c xs).1.map en2, σ (mapA f c xs).2) := by
  rw [r_LC hi, lcA_L h xs c hk]
  simp only [Option.bind_some]
  rw [if_pos (by rw [List.length_map, mapA_length]; exact hz)]
theorem lcFA_L {σ : γ → Store} {g : γ → α → Bool × γ} {f : γ → α → β × γ} {ok : γ → α → Prop} {bind : D → Ev → Option Ev} {e0 : Ev} (h : ∀ c x, ok c x → ∃ e1, bind (en x) e0 = some e1 ∧ tt e1 (σ c) = some ((g c x).1, σ (g c x).2) ∧ ((g c x).1 = true → elt e1 (σ (g c x).2) = some (en2 (f (g c x).2 x).1, σ (f (g c x).2 x).2))) : ∀ (xs : List α) (c : γ), okFA g f ok c xs →
    lcL bind tt elt e0 (xs.map en) (σ c) = some ((fmapA g f c xs).1.map en2, σ (fmapA g f c xs).2)
  | [], _, _ => rfl
  | x :: xs, c, hk => by
    obtain ⟨e1, h1, h2, h3⟩ := h c x hk.1
    simp only [List.map_cons, lcL, h1, Option.bind_some, h2, fmapA]
    cases hg : (g c x).1
    · simp only [Bool.false_eq_true, if_false, cond_false]
      exact lcFA_L h xs _ (hk.2.2 hg)
    · simp only [if_true, cond_true, h3 hg, Option.bind_some, lcFA_L h xs _ (hk.2.1 hg), List.map_cons]
theorem lcFA_E {σ : γ → Store} {g : γ → α → Bool × γ} {f : γ → α → β × γ} {ok : γ → α → Prop} {c : γ} (hi : mi e S = some (.seq (xs.map en), σ c)) (hz : xs.length ≤ LIM) (hk : okFA g f ok c xs) (h : ∀ c x, ok c x → ∃ e1, t.f (en x) (wipeE e vs) = some e1 ∧ tt e1 (σ c) = some ((g c x).1, σ (g c x).2) ∧ ((g c x).1 = true → elt e1 (σ (g c x).2) = some (en2 (f (g c x).2 x).1, σ (f (g c x).2 x).2))) :
    mLC mi t tt elt vs e S = some ((fmapA g f c xs).1.map en2, σ (fmapA g f c xs).2) := by
  rw [r_LC hi, lcFA_L h xs c hk]
  simp only [Option.bind_some]
  rw [if_pos (by rw [List.length_map]; exact Nat.le_trans (fmapA_length _ _) hz)]
/-! ### blocks -/
def PB (x : Option (Fl × Store)) (Q : Fl → Store → Prop) : Prop := ∃ fl S', x = some (fl, S') ∧ Q fl S'
variable {Q : Fl → Store → Prop} {s s1 s2 s3 : MS} {x : Bool} {c : MT}
theorem pb_ret (h : m e S = some (d, S1)) (q : Q (.rt d) S1) : PB (mRet m e S) Q := ⟨_, _, ret_of h, q⟩
theorem pb_seq_ret (h : m e S = some (d, S1)) (q : Q (.rt d) S1) : PB (mSeq (mRet m) s e S) Q := ⟨_, _, seq_rt (ret_of h), q⟩
theorem pb_end (h : s e S = some (.nx e1, S1)) (q : Q (.nx e1) S1) : PB (s e S) Q := ⟨_, _, h, q⟩
theorem pb_skip (q : Q (.nx e) S) : PB (mSkip e S) Q := ⟨_, _, rfl, q⟩
theorem pb_bk (q : Q (.bk e) S) : PB (mBk e S) Q := ⟨_, _, rfl, q⟩
theorem pb_ct (q : Q (.ct e) S) : PB (mCt e S) Q := ⟨_, _, rfl, q⟩
theorem pb_seq_bk (q : Q (.bk e) S) : PB (mSeq mBk s e S) Q := ⟨_, _, seq_bk rfl, q⟩
theorem pb_seq_ct (q : Q (.ct e) S) : PB (mSeq mCt s e S) Q := ⟨_, _, rfl, q⟩
theorem pb_seq (h : s e S = some (.nx e1, S1)) (q : PB (s1 e1 S1) Q) : PB (mSeq s s1 e S) Q := by
  rw [seq_nx h rfl]; exact q
theorem pb_assoc (q : PB (mSeq s (mSeq s1 s2) e S) Q) : PB (mSeq (mSeq s s1) s2 e S) Q := by
  have e1 : mSeq (mSeq s s1) s2 e S = mSeq s (mSeq s1 s2) e S := by
    unfold mSeq
    cases s e S with
    | none => rfl
    | some z =>
      obtain ⟨f, S1⟩ := z
      cases f <;> rfl
  rw [e1]; exact q
theorem pb_seq_skip (q : PB (s e S) Q) : PB (mSeq mSkip s e S) Q := pb_seq rfl q
theorem pb_if {Q : α → Fl → Store → Prop} {p q : α} (hc : c e S = some (x, S1)) (h1 : x = true → PB (s e S1) (Q p)) (h2 : x = false → PB (s1 e S1) (Q q)) : PB (mIfS c s s1 e S) (Q (bif x then p else q)) := by
  rw [r_IfS, hc]; cases x with
  | true => exact h1 rfl
  | false => exact h2 rfl
theorem pb_seq_if {Q : α → Fl → Store → Prop} {p q : α} (hc : c e S = some (x, S1)) (h1 : x = true → PB (mSeq s s2 e S1) (Q p)) (h2 : x = false → PB (mSeq s1 s2 e S1) (Q q)) : PB (mSeq (mIfS c s s1) s2 e S) (Q (bif x then p else q)) := by
  have e1 : mSeq (mIfS c s s1) s2 e S = (if x = true then mSeq s s2 e S1 else mSeq s1 s2 e S1) := by
    unfold mSeq
    rw [r_IfS, hc]; cases x <;> rfl
  rw [e1]; cases x with
  | true => exact h1 rfl
  | false => exact h2 rfl
/-- an if that only sets -/
theorem ifs_join {E : Bool → Ev} {σ : Bool → Store} (hc : c e S = some (x, S1)) (h1 : x = true → s e S1 = some (.nx (E true), σ true)) (h2 : x = false → s1 e S1 = some (.nx (E false), σ false)) : mIfS c s s1 e S = some (.nx (E x), σ x) := by
  rw [r_IfS, hc]; cases x with
  | true => exact h1 rfl
  | false => exact h2 rfl
theorem asg_tp {is : List Nat} {ds : List D} (h : m e S = some (.tup ds, S1)) (hl : ds.length = is.length) : mAsg m (.tp is) e S = some (.nx (setAll is ds e), S1) := by
  rw [r_Asg, h]; simp only [Option.bind_some, r_tp]; rw [if_pos hl]; rfl
theorem par_E {k l : Nat} (h : ms e S = some ([d1, d2], S1)) : mPar k l ms e S = some (.nx ((e.set k (some d1)).set l (some d2)), S1) := by
  rw [r_Par, h]; rfl
theorem aug_I {k : Nat} (hk : e[k]? = some (some (.int i))) (h : m e S = some (.int j, S1)) : mAug k m fAddI e S = some (.nx (e.set k (some (.int (i + j)))), S1) := by
  unfold mAug; rw [hk]; simp only; rw [h]; rfl
theorem aug_S {k : Nat} (hk : e[k]? = some (some (.int i))) (h : m e S = some (.int j, S1)) : mAug k m fSub e S = some (.nx (e.set k (some (.int (i - j)))), S1) := by
  unfold mAug; rw [hk]; simp only; rw [h]; rfl
theorem app_E {p : Nat} {y : α} (ho : ma e S = some (.ref p, S)) (h : m e S = some (en y, S)) (hp : S[p]? = some (.lst (xs.map en))) (hz : xs.length < LIM) : mDrop (mMt' fAppend ma (mCons m mNil)) e S = some (.nx e, S.set p (.lst ((xs ++ [y]).map en))) := by
  refine drop_of (d := .non) ?_
  unfold mMt'
  rw [ho]; simp only [Option.bind_some]; rw [hp]; simp only
  rw [one_of h]; simp only [Option.bind_some]; rw [hp]; simp only [fAppend, Option.bind_some]
  rw [if_pos (by simpa using hz)]
  simp
theorem set_E {p : Nat} {y : α} {ma mb : ME} (h : m e S = some (en y, S1)) (ho : ma e S1 = some (.ref p, S2)) (hi : mb e S2 = some (.int i, S3)) (hp : S3[p]? = some (.lst (xs.map en))) (hr : InR xs i) : mSetIx m ma mb e S = some (.nx e, S3.set p (.lst ((setZ xs i y).map en))) := by
  rw [setix_of h ho hi hp (by rw [List.length_map]; exact (ixN_Z hr).1)]
  unfold setZ; rw [List.map_set]
/-! ### a store with some lists of its own behind -/
theorem get_app {L : Store} {k : Nat} : (S ++ L)[S.length + k]? = L[k]? := by
  rw [List.getElem?_append_right (by omega)]; congr 1; omega
theorem set_app {L : Store} {k : Nat} {o : Ob} : (S ++ L).set (S.length + k) o = S ++ L.set k o := by
  rw [List.set_append_right _ _ (by omega)]; congr 2; omega
/-! ### for -/
inductive Lo (T R : Type) where
  | nx (t : T)
  | bk (t : T)
  | rt (r : R)
def Lo.fin {T R : Type} (k : T → R) : Lo T R → R
  | .nx t => k t
  | .bk t => k t
  | .rt r => r
def forP {α T R : Type} (step : T → α → Lo T R) : T → List α → Lo T R
  | t, [] => .nx t
  | t, x :: xs => match step t x with
    | .nx t' => forP step t' xs
    | .bk t' => .nx t'
    | .rt r => .rt r
def okFor {α T R : Type} (ok : T → α → Prop) (step : T → α → Lo T R) : T → List α → Prop
  | _, [] => True
  | t, x :: xs => ok t x ∧ match step t x with
    | .nx t' => okFor ok step t' xs
    | _ => True
def okFold {α T : Type} (ok : T → α → Prop) (step : T → α → T) : T → List α → Prop
  | _, [] => True
  | t, x :: xs => ok t x ∧ okFold ok step (step t x) xs
/-- how a loop's body ends -/
def LQ {T R J : Type} (E : T → J → Ev) (σ : T → J → Store) (QR : R → Fl → Store → Prop) : Lo T R → Fl → Store → Prop
  | .nx t, fl, S' => ∃ j, (fl = .nx (E t j) ∨ fl = .ct (E t j)) ∧ S' = σ t j
  | .bk t, fl, S' => ∃ j, fl = .bk (E t j) ∧ S' = σ t j
  | .rt r, fl, S' => (∃ d, fl = .rt d) ∧ QR r fl S'
/-- how a loop ends -/
def FQ {T R J : Type} (E : T → J → Ev) (σ : T → J → Store) (QR : R → Fl → Store → Prop) : Lo T R → Fl → Store → Prop
  | .nx t, fl, S' => ∃ j, fl = .nx (E t j) ∧ S' = σ t j
  | .bk _, _, _ => False
  | .rt r, fl, S' => (∃ d, fl = .rt d) ∧ QR r fl S'
theorem forL_P {E : T → J → Ev} {σ : T → J → Store} {QR : R → Fl → Store → Prop} {step : T → α → Lo T R} {ok : T → α → Prop} {bind : D → Ev → Option Ev} {body : MS}
    (h : ∀ t j x, ok t x → ∃ e1, bind (en x) (E t j) = some e1 ∧ PB (body e1 (σ t j)) (LQ E σ QR (step t x))) : ∀ (xs : List α) (t : T) (j : J), okFor ok step t xs → PB (forL bind body (xs.map en) (E t j) (σ t j)) (FQ E σ QR (forP step t xs))
  | [], t, j, _ => ⟨_, _, rfl, j, rfl, rfl⟩
  | x :: xs, t, j, hk => by
    obtain ⟨e1, h1, fl, S', h2, h3⟩ := h t j x hk.1
    have hk2 := hk.2
    simp only [List.map_cons, forL, h1, Option.bind_some, h2, forP]
    cases hs : step t x with
    | nx t' =>
      rw [hs] at h3 hk2
      obtain ⟨j', h4, h5⟩ := h3
      subst h5
      rcases h4 with rfl | rfl <;> exact forL_P h xs t' j' hk2
    | bk t' =>
      rw [hs] at h3
      obtain ⟨j', rfl, rfl⟩ := h3
      exact ⟨_, _, rfl, j', rfl, rfl⟩
    | rt r =>
      rw [hs] at h3
      obtain ⟨⟨d, rfl⟩, h4⟩ := h3
      exact ⟨_, _, rfl, ⟨d, rfl⟩, h4⟩
theorem forL_F {E : T → J → Ev} {σ : T → J → Store} {step : T → α → T} {ok : T → α → Prop} {bind : D → Ev → Option Ev} {body : MS}
    (h : ∀ t j x, ok t x → ∃ e1, bind (en x) (E t j) = some e1 ∧ PB (body e1 (σ t j)) (LQ E σ (fun (_ : Empty) _ _ => False) (.nx (step t x)))) : ∀ (xs : List α) (t : T) (j : J), okFold ok step t xs → ∃ j', forL bind body (xs.map en) (E t j) (σ t j) = some (.nx (E (xs.foldl step t) j'), σ (xs.foldl step t) j')
  | [], t, j, _ => ⟨j, rfl⟩
  | x :: xs, t, j, hk => by
    obtain ⟨e1, h1, fl, S', h2, j1, h4, h5⟩ := h t j x hk.1
    obtain ⟨j', h6⟩ := forL_F h xs (step t x) j1 hk.2
    refine ⟨j', ?_⟩
    simp only [List.map_cons, forL, h1, Option.bind_some, h2, List.foldl_cons]
    subst h5
    rcases h4 with rfl | rfl <;> exact h6
/-- the loop over a list of the store that is not changed in it -/
theorem forGo_live {E : T → J → Ev} {σ : T → J → Store} {QR : R → Fl → Store → Prop} {step : T → α → Lo T R} {ok : T → α → Prop} {bind : D → Ev → Option Ev} {body : MS} {q N : Nat} {xs : List α} (hS : ∀ t j, (σ t j)[q]? = some (.lst (xs.map en)))
    (h : ∀ t j x, ok t x → ∃ e1, bind (en x) (E t j) = some e1 ∧ PB (body e1 (σ t j)) (LQ E σ QR (step t x))) : ∀ (n i : Nat) (t : T) (j : J), xs.length = i + n → okFor ok step t (xs.drop i) → PB (forGo (Src.live q N).get bind body n i (E t j) (σ t j)) (FQ E σ QR (forP step t (xs.drop i)))
  | 0, i, t, j, hl, _ => by
    have e : xs.drop i = [] := List.drop_eq_nil_of_le (by omega)
    have hg : (Src.live q N).get i (σ t j) = some none := by simp only [Src.live]; rw [hS]; simp only; rw [List.getElem?_eq_none (by rw [List.length_map]; omega)]
    rw [e]
    refine ⟨_, _, ?_, j, rfl, rfl⟩
    simp only [forGo, hg]
  | n + 1, i, t, j, hl, hk => by
    have hi : i < xs.length := by omega
    have hg : (Src.live q N).get i (σ t j) = some (some (en xs[i])) := by simp only [Src.live]; rw [hS]; simp only; rw [List.getElem?_map, List.getElem?_eq_getElem hi]; rfl
    rw [List.drop_eq_getElem_cons hi] at hk ⊢
    obtain ⟨e1, h1, fl, S', h2, h3⟩ := h t j xs[i] hk.1
    have hk2 := hk.2
    simp only [forGo, hg, h1, Option.bind_some, h2, forP]
    cases hs : step t xs[i] with
    | nx t' =>
      rw [hs] at h3 hk2
      obtain ⟨j', h4, h5⟩ := h3
      subst h5
      rcases h4 with rfl | rfl <;> exact forGo_live hS h n (i + 1) t' j' (by omega) hk2
    | bk t' =>
      rw [hs] at h3
      obtain ⟨j', rfl, rfl⟩ := h3
      exact ⟨_, _, rfl, j', rfl, rfl⟩
    | rt r =>
      rw [hs] at h3
      obtain ⟨⟨d, rfl⟩, h4⟩ := h3
      exact ⟨_, _, rfl, ⟨d, rfl⟩, h4⟩
/-- a loop that only folds, and what comes behind it -/
theorem for_F {E : T → J → Ev} {σ : T → J → Store} {step : T → α → T} {ok : T → α → Prop} {body : MS} {t0 : T} {j0 : J} (hi : mi e S = some (.seq (xs.map en), S1)) (he : e = E t0 j0) (hs : S1 = σ t0 j0) (hk : okFold ok step t0 xs)
    (h : ∀ t' j x, ok t' x → ∃ e1, t.f (en x) (E t' j) = some e1 ∧ PB (body e1 (σ t' j)) (LQ E σ (fun (_ : Empty) _ _ => False) (.nx (step t' x)))) : ∃ j', mFor mi t body e S = some (.nx (E (xs.foldl step t0) j'), σ (xs.foldl step t0) j') := by
  subst he hs
  obtain ⟨j', h1⟩ := forL_F h xs t0 j0 hk
  exact ⟨j', by rw [r_For hi, h1]⟩
theorem pb_for_F {E : T → J → Ev} {σ : T → J → Store} {step : T → α → T} {ok : T → α → Prop} {body : MS} {t0 : T} {j0 : J} (hi : mi e S = some (.seq (xs.map en), S1)) (he : e = E t0 j0) (hs : S1 = σ t0 j0) (hk : okFold ok step t0 xs)
    (h : ∀ t' j x, ok t' x → ∃ e1, t.f (en x) (E t' j) = some e1 ∧ PB (body e1 (σ t' j)) (LQ E σ (fun (_ : Empty) _ _ => False) (.nx (step t' x)))) (q : ∀ j, PB (s (E (xs.foldl step t0) j) (σ (xs.foldl step t0) j)) Q) : PB (mSeq (mFor mi t body) s e S) Q := by
  obtain ⟨j, h1⟩ := for_F (body := body) (t := t) hi he hs hk h
  exact pb_seq h1 (q j)
theorem pb_for_P {E : T → J → Ev} {σ : T → J → Store} {QR : R → Fl → Store → Prop} {step : T → α → Lo T R} {ok : T → α → Prop} {body : MS} {t0 : T} {j0 : J} {k : T → R} (hi : mi e S = some (.seq (xs.map en), S1)) (he : e = E t0 j0) (hs : S1 = σ t0 j0) (hk : okFor ok step t0 xs)
    (h : ∀ t' j x, ok t' x → ∃ e1, t.f (en x) (E t' j) = some e1 ∧ PB (body e1 (σ t' j)) (LQ E σ QR (step t' x))) (q : ∀ t' j, forP step t0 xs = .nx t' → PB (s (E t' j) (σ t' j)) (QR (k t'))) : PB (mSeq (mFor mi t body) s e S) (QR ((forP step t0 xs).fin k)) := by
  subst he hs
  obtain ⟨fl, S', h1, h2⟩ := forL_P h xs t0 j0 hk
  have h3 : mFor mi t body (E t0 j0) S = some (fl, S') := by rw [r_For hi, h1]
  cases ho : forP step t0 xs with
  | nx t' =>
    rw [ho] at h2
    obtain ⟨j', rfl, rfl⟩ := h2
    exact pb_seq h3 (q t' j' ho)
  | bk t' => rw [ho] at h2; cases h2
  | rt r =>
    rw [ho] at h2
    obtain ⟨⟨d, rfl⟩, h4⟩ := h2
    exact ⟨_, _, seq_rt h3, h4⟩
theorem pb_forR_P {E : T → J → Ev} {σ : T → J → Store} {QR : R → Fl → Store → Prop} {step : T → α → Lo T R} {ok : T → α → Prop} {body : MS} {t0 : T} {j0 : J} {k : T → R} {p : Nat} (hi : mi e S = some (.live p xs.length, S1)) (he : e = E t0 j0) (hs : S1 = σ t0 j0) (hS : ∀ t j, (σ t j)[p]? = some (.lst (xs.map en))) (hk : okFor ok step t0 xs)
    (h : ∀ t' j x, ok t' x → ∃ e1, t.f (en x) (E t' j) = some e1 ∧ PB (body e1 (σ t' j)) (LQ E σ QR (step t' x))) (q : ∀ t' j, forP step t0 xs = .nx t' → PB (s (E t' j) (σ t' j)) (QR (k t'))) : PB (mSeq (mFor mi t body) s e S) (QR ((forP step t0 xs).fin k)) := by
  subst he hs
  have := forGo_live (N := xs.length) hS h xs.length 0 t0 j0 (by omega) (by rw [List.drop_zero]; exact hk)
  rw [List.drop_zero] at this
  obtain ⟨fl, S', h1, h2⟩ := this
  have h3 : mFor mi t body (E t0 j0) S = some (fl, S') := by unfold mFor; rw [hi]; exact h1
  cases ho : forP step t0 xs with
  | nx t' =>
    rw [ho] at h2
    obtain ⟨j', rfl, rfl⟩ := h2
    exact pb_seq h3 (q t' j' ho)
  | bk t' => rw [ho] at h2; cases h2
  | rt r =>
    rw [ho] at h2
    obtain ⟨⟨d, rfl⟩, h4⟩ := h2
    exact ⟨_, _, seq_rt h3, h4⟩
/-! ### while -/
def whileP {T R : Type} (cond : T → Bool) (step : T → Lo T R) : Nat → T → Lo T R
  | 0, t => .nx t
  | n + 1, t => bif cond t then (match step t with
    | .nx t' => whileP cond step n t'
    | .bk t' => .nx t'
    | .rt r => .rt r) else .nx t
def okWhile {T R : Type} (okc : T → Prop) (ok : T → Prop) (cond : T → Bool) (step : T → Lo T R) : Nat → T → Prop
  | 0, _ => False
  | n + 1, t => okc t ∧ (cond t = true → ok t ∧ match step t with
    | .nx t' => okWhile okc ok cond step n t'
    | _ => True)
theorem whileGo_P {E : T → J → Ev} {σ : T → J → Store} {QR : R → Fl → Store → Prop} {cond : T → Bool} {step : T → Lo T R} {okc ok : T → Prop} {body : MS}
    (hc : ∀ t j, okc t → c (E t j) (σ t j) = some (cond t, σ t j)) (h : ∀ t j, ok t → PB (body (E t j) (σ t j)) (LQ E σ QR (step t))) : ∀ (n : Nat) (t : T) (j : J), okWhile okc ok cond step n t → PB (whileGo c body n (E t j) (σ t j)) (FQ E σ QR (whileP cond step n t))
  | 0, t, j, hk => hk.elim
  | n + 1, t, j, hk => by
    simp only [whileGo, hc t j hk.1, Option.bind_some, whileP]
    cases hb : cond t with
    | false => exact ⟨_, _, rfl, j, rfl, rfl⟩
    | true =>
      obtain ⟨h1, h2⟩ := hk.2 hb
      obtain ⟨fl, S', h3, h4⟩ := h t j h1
      simp only [if_true, h3, Option.bind_some, cond_true]
      cases hs : step t with
      | nx t' =>
        rw [hs] at h4 h2
        obtain ⟨j', h5, h6⟩ := h4
        subst h6
        rcases h5 with rfl | rfl <;> exact whileGo_P hc h n t' j' h2
      | bk t' =>
        rw [hs] at h4
        obtain ⟨j', rfl, rfl⟩ := h4
        exact ⟨_, _, rfl, j', rfl, rfl⟩
      | rt r =>
        rw [hs] at h4
        obtain ⟨⟨d, rfl⟩, h5⟩ := h4
        exact ⟨_, _, rfl, ⟨d, rfl⟩, h5⟩
theorem pb_while {E : T → J → Ev} {σ : T → J → Store} {QR : R → Fl → Store → Prop} {cond : T → Bool} {step : T → Lo T R} {okc ok : T → Prop} {body : MS} {t0 : T} {j0 : J} {k : T → R} {n : Nat} (he : e = E t0 j0) (hs : S = σ t0 j0) (hk : okWhile okc ok cond step n t0)
    (hc : ∀ t j, okc t → c (E t j) (σ t j) = some (cond t, σ t j)) (h : ∀ t j, ok t → PB (body (E t j) (σ t j)) (LQ E σ QR (step t))) (q : ∀ t' j, whileP cond step n t0 = .nx t' → PB (s (E t' j) (σ t' j)) (QR (k t'))) : PB (mSeq (mWhile n c body) s e S) (QR ((whileP cond step n t0).fin k)) := by
  subst he hs
  obtain ⟨fl, S', h3, h2⟩ := whileGo_P hc h n t0 j0 hk
  have h3 : mWhile n c body (E t0 j0) (σ t0 j0) = some (fl, S') := h3
  cases ho : whileP cond step n t0 with
  | nx t' =>
    rw [ho] at h2
    obtain ⟨j', rfl, rfl⟩ := h2
    exact pb_seq h3 (q t' j' ho)
  | bk t' => rw [ho] at h2; cases h2
  | rt r =>
    rw [ho] at h2
    obtain ⟨⟨d, rfl⟩, h4⟩ := h2
    exact ⟨_, _, seq_rt h3, h4⟩
/-! ### a def -/
/-- what a def's block must end with: it gives v -/
def RQ (m : Mode) (S : Store) (ρ : α → D × Store) (v : α) : Fl → Store → Prop := fun fl S' => match fl with
  | .rt d => fin m S d S' = some (ρ v)
  | .nx _ => fin m S .non S' = some (ρ v)
  | _ => False
theorem fn_P {nN np : Nat} {m : Mode} {body : MS} {ds : List D} {S : Store} {ρ : α → D × Store} {v : α} (hl : ds.length = np) (hb : PB (body (ds.map some ++ List.replicate (nN - np) none) S) (RQ m S ρ v)) : fnM nN np m body ds S = some (ρ v) := by
  obtain ⟨fl, S', h1, h2⟩ := hb
  unfold fnM; rw [if_pos hl, h1]
  cases fl with
  | rt d => exact h2
  | nx e => exact h2
  | bk e => cases h2
  | ct e => cases h2
/-- lists of the store that a def gives back -/
theorem fin_ref {L : Store} {k : Nat} {xs : List α} (hk : L[k]? = some (.lst (xs.map en))) (hf : Fit 10 en) : fin .pure S (.ref (S.length + k)) (S ++ L) = some (eL en xs, S) := by
  unfold fin
  have h1 : (S ++ L).take S.length = S := by simp
  simp only
  rw [if_pos h1]
  have h2 : ¬ S.length + k < S.length := by omega
  have h3 : frz S.length (S ++ L) 12 (.ref (S.length + k)) = some (eL en xs) := by
    unfold frz
    rw [if_neg h2, get_app, hk]
    simp only
    have : ∀ xs : List α, frz.frzL S.length (S ++ L) 11 (xs.map en) = some (xs.map en) := by
      intro xs
      induction xs with
      | nil => simp only [List.map_nil, frz.frzL]
      | cons x xs ih => simp only [List.map_cons, frz.frzL]; rw [frz_fit 10 _ _ _ (hf x), ih]; rfl
    rw [this]; rfl
  rw [h3]; rfl
end
end DV

/-! DVw: the cursor of the laws, and values that are spoilt. -/
namespace DV
open PySem PySem.Spec PyProof.Rows L2
structure Cu where
  cells : List Int
  pos : Nat
  a : Int
  b : Int
  ok : pos ≤ cells.length
def Cu.ob (c : Cu) : Ob := .lst [.lst (c.cells.map D.int), .int c.pos, .int c.a, .int c.b, .int 20]
instance : Inhabited Cu := ⟨⟨[], 0, 0, 0, Nat.le_refl _⟩⟩
abbrev obO (cells : List Int) (pos : Nat) (a b : Int) (L : Store) : Store := .lst [.lst (cells.map D.int), .int pos, .int a, .int b, .int 20] :: L
theorem atI_last {cells : List Int} (h : cells ≠ []) : ∃ z : Int, atI (cells.map D.int) (-1) = some (.int z) := by
  have hl : 0 < cells.length := List.length_pos_iff.mpr h
  have e : ((cells.length : Int) + -1).toNat = cells.length - 1 := by omega
  refine ⟨cells[cells.length - 1], ?_⟩
  have hx : ixN (cells.map D.int).length (-1) = some (cells.length - 1) := by
    rw [List.length_map]
    unfold ixN
    rw [if_neg (by decide), if_pos (by omega)]
    congr 1
  unfold atI
  rw [hx]
  simp [List.getElem?_eq_getElem (show cells.length - 1 < cells.length by omega)]
def curT1 : MS := mIfS (mAnd (mTru (mBin fIx (mV 0) (mC (.int 0)))) (mTV (mBin fGeD (mBin fIx (mV 0) (mC (.int 1))) (mCB fLen (mCons (mBin fIx (mV 0) (mC (.int 0))) mNil))))) (mAsg (mBin fAdd (mV 1) (mBin fMod (mCB fInt (mCons (mBin fIx (mBin fIx (mV 0) (mC (.int 0))) (mUn fNeg (mC (.int 1)))) mNil)) (mC (.int 1000003)))) (.nm 1)) mSkip
def curT2 : MS := mSeq (mAsg (mBin fMod (mCB fInt (mCons (mBin fAdd (mBin fMul (mV 1) (mC (.int 48271))) (mBin fMul (mBin fIx (mV 0) (mC (.int 3))) (mC (.int 69621)))) mNil)) (mC (.int 2147483647))) (.nm 1))
    (mRet (mBin fAdd (mBin fDiv (mCB fInt (mCons (mBin fAdd (mBin fAdd (mBin fMul (mV 1) (mV 1)) (mBin fMul (mBin fIx (mV 0) (mC (.int 3))) (mC (.int 7919)))) (mC (.int 11))) mNil)) (mC (.int 64))) (mC (.int 36028797018963968))))
def curFA : MS := mSeq (mSetIx (mBin fAdd (mBin fIx (mV 0) (mC (.int 3))) (mC (.int 1))) (mV 0) (mC (.int 3)))
    (mSeq (mAsg (mBin fAdd (mBin fMul (mBin fIx (mV 0) (mC (.int 3))) (mC (.int 69621))) (mC (.int 12345))) (.nm 1))
    (mSeq (mIfS (mTV (mBin fLtD (mBin fIx (mV 0) (mC (.int 1))) (mCB fLen (mCons (mBin fIx (mV 0) (mC (.int 0))) mNil)))) (mSeq (mAsg (mBin fIx (mBin fIx (mV 0) (mC (.int 0))) (mBin fIx (mV 0) (mC (.int 1)))) (.nm 1))
    (mSeq (mSetIx (mBin fAdd (mBin fIx (mV 0) (mC (.int 1))) (mC (.int 1))) (mV 0) (mC (.int 1)))
    (mSeq (mIfS (mTV (mBin fLtD (mV 1) (mC (.int 0)))) (mAsg (mBin fSub (mBin fSub (mC (.int 0)) (mC (.int 1))) (mV 1)) (.nm 1)) mSkip)
    (mIfS (mTV (mBin fGeD (mV 1) (mBin fPow (mC (.int 10)) (mC (.int 18))))) (mRet (mV 1)) mSkip)))) mSkip)
    (mSeq curT1 curT2)))
def curFB : MS := mSeq (mSetIx (mBin fAdd (mBin fIx (mV 0) (mC (.int 3))) (mC (.int 1))) (mV 0) (mC (.int 3)))
    (mSeq (mAsg (mBin fAdd (mBin fMul (mBin fIx (mV 0) (mC (.int 3))) (mC (.int 69621))) (mC (.int 12345))) (.nm 1))
    (mSeq (mIfS (mTV (mBin fLtD (mBin fIx (mV 0) (mC (.int 1))) (mCB fLen (mCons (mBin fIx (mV 0) (mC (.int 0))) mNil)))) (mSeq (mAsg (mCB fMaxA (mCons (mBin fIx (mBin fIx (mV 0) (mC (.int 0))) (mBin fIx (mV 0) (mC (.int 1)))) (mCons (mBin fSub (mBin fSub (mC (.int 0)) (mC (.int 1))) (mBin fIx (mBin fIx (mV 0) (mC (.int 0))) (mBin fIx (mV 0) (mC (.int 1))))) mNil))) (.nm 1))
    (mSeq (mSetIx (mBin fAdd (mBin fIx (mV 0) (mC (.int 1))) (mC (.int 1))) (mV 0) (mC (.int 1)))
    (mIfS (mTV (mBin fGeD (mV 1) (mBin fPow (mC (.int 10)) (mC (.int 18))))) (mRet (mV 1)) mSkip))) mSkip)
    (mSeq curT1 curT2)))
section
variable {cells : List Int} {pos : Nat} {a b x : Int} {L : Store}
theorem cix0 {i : Int} {d : D} {e : Ev} (h : atI [.lst (cells.map D.int), .int pos, .int a, .int b, .int 20] i = some d) (he : e[0]? = some (some (.ref 0))) : mBin fIx (mV 0) (mC (.int i)) e (obO cells pos a b L) = some (d, obO cells pos a b L) := by
  refine bin_of (a := .ref 0) (S1 := obO cells pos a b L) ?_ rfl ?_
  · rw [r_V, he]
  · rw [DV.ix_ref, seq_ref]
    show (some [D.lst (cells.map D.int), .int pos, .int a, .int b, .int 20]).bind _ = _
    rw [Option.bind_some, h]; rfl
theorem curT1_eq (cells : List Int) (pos : Nat) (a b x : Int) : ∃ y : Int, ∀ L, curT1 [some (.ref 0), some (.int x)] (obO cells pos a b L) = some (.nx [some (.ref 0), some (.int y)], obO cells pos a b L) := by
  have ht : ∀ L, mTru (mBin fIx (mV 0) (mC (.int 0))) [some (.ref 0), some (.int x)] (obO cells pos a b L) = some (!(cells.map D.int).isEmpty, obO cells pos a b L) := fun L => tru_of (cix0 rfl rfl) rfl
  have hg : ∀ L, mTV (mBin fGeD (mBin fIx (mV 0) (mC (.int 1))) (mCB fLen (mCons (mBin fIx (mV 0) (mC (.int 0))) mNil))) [some (.ref 0), some (.int x)] (obO cells pos a b L) = some (decide ((cells.length : Int) ≤ pos), obO cells pos a b L) := by
    intro L
    refine tv_of (bin_of (cix0 rfl rfl) (cb_of (one_of (cix0 rfl rfl)) rfl) ?_)
    simp
  by_cases hc : cells = []
  · exact ⟨x, fun L => ifs_of (b := false) (and_of (ht L) (by rw [hc]; rfl)) rfl⟩
  · by_cases hp : (cells.length : Int) ≤ pos
    · obtain ⟨z, hz⟩ := atI_last hc
      have hz1 : ∀ L, mBin fIx (mBin fIx (mV 0) (mC (.int 0))) (mUn fNeg (mC (.int 1))) [some (.ref 0), some (.int x)] (obO cells pos a b L) = some (.int z, obO cells pos a b L) := by
        intro L
        refine bin_of (cix0 rfl rfl) (S2 := obO cells pos a b L) (b := .int (-1)) rfl ?_
        rw [DV.ix_lst, hz]; rfl
      refine ⟨x + z % 1000003, fun L => ifs_of (b := true) (and_of (ht L) ?_) (asg_of (bin_of (S1 := obO cells pos a b L) (S2 := obO cells pos a b L) (b := .int (z % 1000003)) rfl (bin_of (cb_of (one_of (hz1 L)) r_int) rfl (mod_of (by decide))) rfl))⟩
      have : (!(cells.map D.int).isEmpty) = true := by cases cells <;> simp_all
      rw [this, if_pos rfl, hg, decide_eq_true hp]
    · refine ⟨x, fun L => ifs_of (b := false) (and_of (ht L) ?_) rfl⟩
      have : (!(cells.map D.int).isEmpty) = true := by cases cells <;> simp_all
      rw [this, if_pos rfl, hg, decide_eq_false hp]
theorem curT2_eq (cells : List Int) (pos : Nat) (a b x : Int) : ∃ y : Int, ∀ L, curT2 [some (.ref 0), some (.int x)] (obO cells pos a b L) = some (.rt (.int y), obO cells pos a b L) := by
  have hm : ∀ z : Int, I64 (z % 2147483647) := fun z => by
    have h1 := Int.emod_nonneg z (b := 2147483647) (by decide)
    have h2 := Int.emod_lt_of_pos z (b := 2147483647) (by decide)
    have e : (2 : Int) ^ 64 = 18446744073709551616 := by decide
    simp only [I64, e]
    omega
  refine ⟨_, fun L => seq_nx (asg_of (bin_of (cb_of (one_of (bin_of (bin_of rfl rfl (mul_of (.inr (by decide)))) (bin_of (cix0 rfl rfl) rfl (mul_of (.inr (by decide)))) rfl)) rfl) rfl (mod_of (by decide)))) (ret_of (bin_of (bin_of (cb_of (one_of (bin_of (bin_of (bin_of rfl rfl (mul_of (.inl (hm _)))) (bin_of (cix0 rfl rfl) rfl (mul_of (.inr (by decide)))) rfl) rfl rfl)) rfl) rfl (div_of (by decide) (by decide))) rfl rfl))⟩
def FillOk (F : Fn) : Prop := ∀ cells pos a b, pos ≤ cells.length → ∃ r pos' b', pos' ≤ cells.length ∧ ∀ L, F [.ref 0] (obO cells pos a b L) = some (.int r, obO cells pos' a b' L)
theorem fillA_ok : FillOk (fnM 2 1 .keep curFA) := by
  intro cells pos a b hp
  have hstep : ∀ L, mSetIx (mBin fAdd (mBin fIx (mV 0) (mC (.int 3))) (mC (.int 1))) (mV 0) (mC (.int 3)) [some (.ref 0), none] (obO cells pos a b L) = some (.nx [some (.ref 0), none], obO cells pos a (b + 1) L) := fun L =>
    setix_of (S3 := obO cells pos a b L) (p := 0) (j := 3) (xs := [.lst (cells.map D.int), .int pos, .int a, .int b, .int 20]) (d := .int (b + 1)) (bin_of (cix0 rfl rfl) rfl rfl) rfl rfl rfl rfl
  have hnum : ∀ L, mAsg (mBin fAdd (mBin fMul (mBin fIx (mV 0) (mC (.int 3))) (mC (.int 69621))) (mC (.int 12345))) (.nm 1) [some (.ref 0), none] (obO cells pos a (b + 1) L) = some (.nx [some (.ref 0), some (.int ((b + 1) * 69621 + 12345))], obO cells pos a (b + 1) L) := fun L =>
    asg_of (bin_of (bin_of (cix0 rfl rfl) rfl (mul_of (.inr (by decide)))) rfl rfl)
  have hif : ∀ L, mTV (mBin fLtD (mBin fIx (mV 0) (mC (.int 1))) (mCB fLen (mCons (mBin fIx (mV 0) (mC (.int 0))) mNil))) [some (.ref 0), some (.int ((b + 1) * 69621 + 12345))] (obO cells pos a (b + 1) L) = some (decide ((pos : Int) < cells.length), obO cells pos a (b + 1) L) := by
    intro L
    refine tv_of (bin_of (cix0 rfl rfl) (cb_of (one_of (cix0 rfl rfl)) rfl) ?_)
    simp
  by_cases hl : pos < cells.length
  · have hix : ∀ L, mBin fIx (mBin fIx (mV 0) (mC (.int 0))) (mBin fIx (mV 0) (mC (.int 1))) [some (.ref 0), some (.int ((b + 1) * 69621 + 12345))] (obO cells pos a (b + 1) L) = some (.int cells[pos], obO cells pos a (b + 1) L) := by
      intro L
      refine bin_of (cix0 rfl rfl) (cix0 rfl rfl) ?_
      rw [DV.ix_lst, atI_map hl]; rfl
    have hst : ∀ L, mSetIx (mBin fAdd (mBin fIx (mV 0) (mC (.int 1))) (mC (.int 1))) (mV 0) (mC (.int 1)) [some (.ref 0), some (.int cells[pos])] (obO cells pos a (b + 1) L) = some (.nx [some (.ref 0), some (.int cells[pos])], obO cells (pos + 1) a (b + 1) L) := fun L =>
      setix_of (S3 := obO cells pos a (b + 1) L) (p := 0) (j := 1) (xs := [.lst (cells.map D.int), .int pos, .int a, .int (b + 1), .int 20]) (d := .int ((pos : Int) + 1)) (bin_of (cix0 rfl rfl) rfl rfl) rfl rfl rfl rfl
    have hab : ∀ x : Int, ∃ y : Int, ∀ L, mIfS (mTV (mBin fLtD (mV 1) (mC (.int 0)))) (mAsg (mBin fSub (mBin fSub (mC (.int 0)) (mC (.int 1))) (mV 1)) (.nm 1)) mSkip [some (.ref 0), some (.int x)] (obO cells (pos + 1) a (b + 1) L) = some (.nx [some (.ref 0), some (.int y)], obO cells (pos + 1) a (b + 1) L) := fun x => by
      by_cases hx : x < 0
      · exact ⟨_, fun L => ifs_of (b := true) (tv_of (bin_of rfl rfl (lt_of (decide_eq_true hx)))) (asg_of (bin_of (bin_of rfl rfl rfl) rfl rfl))⟩
      · exact ⟨x, fun L => ifs_of (b := false) (tv_of (bin_of rfl rfl (lt_of (decide_eq_false hx)))) rfl⟩
    obtain ⟨y, hy⟩ := hab cells[pos]
    have hge : ∀ L, mTV (mBin fGeD (mV 1) (mBin fPow (mC (.int 10)) (mC (.int 18)))) [some (.ref 0), some (.int y)] (obO cells (pos + 1) a (b + 1) L) = some (decide ((10 : Int) ^ 18 ≤ y), obO cells (pos + 1) a (b + 1) L) := by
      intro L
      refine tv_of (bin_of (b := .int ((10 : Int) ^ 18)) (S2 := obO cells (pos + 1) a (b + 1) L) rfl (bin_of rfl rfl ?_) rfl)
      rw [r_pow, if_pos (by decide)]; rfl
    by_cases hb : (10 : Int) ^ 18 ≤ y
    · refine ⟨y, pos + 1, b + 1, hl, fun L => fn_rt rfl (seq_nx (hstep L) (seq_nx (hnum L) (seq_rt (ifs_of (b := true) ((hif L).trans (by rw [decide_eq_true (by omega)])) (seq_nx (asg_of (hix L)) (seq_nx (hst L) (seq_nx (hy L) (ifs_of (b := true) (by rw [hge, decide_eq_true hb]) (ret_of rfl))))))))) rfl⟩
    · obtain ⟨y1, h1⟩ := curT1_eq cells (pos + 1) a (b + 1) y
      obtain ⟨z, h2⟩ := curT2_eq cells (pos + 1) a (b + 1) y1
      exact ⟨z, pos + 1, b + 1, hl, fun L => fn_rt rfl (seq_nx (hstep L) (seq_nx (hnum L) (seq_nx (ifs_of (b := true) ((hif L).trans (by rw [decide_eq_true (by omega)])) (seq_nx (asg_of (hix L)) (seq_nx (hst L) (seq_nx (hy L) (ifs_of (b := false) (by rw [hge, decide_eq_false hb]) rfl))))) (seq_nx (h1 L) (h2 L))))) rfl⟩
  · obtain ⟨y, h1⟩ := curT1_eq cells pos a (b + 1) ((b + 1) * 69621 + 12345)
    obtain ⟨z, h2⟩ := curT2_eq cells pos a (b + 1) y
    exact ⟨z, pos, b + 1, hp, fun L => fn_rt rfl (seq_nx (hstep L) (seq_nx (hnum L) (seq_nx (ifs_of (b := false) (by rw [hif]; simp; omega) rfl) (seq_nx (h1 L) (h2 L))))) rfl⟩
theorem fillB_ok : FillOk (fnM 2 1 .keep curFB) := by
  intro cells pos a b hp
  have hstep : ∀ L, mSetIx (mBin fAdd (mBin fIx (mV 0) (mC (.int 3))) (mC (.int 1))) (mV 0) (mC (.int 3)) [some (.ref 0), none] (obO cells pos a b L) = some (.nx [some (.ref 0), none], obO cells pos a (b + 1) L) := fun L =>
    setix_of (S3 := obO cells pos a b L) (p := 0) (j := 3) (xs := [.lst (cells.map D.int), .int pos, .int a, .int b, .int 20]) (d := .int (b + 1)) (bin_of (cix0 rfl rfl) rfl rfl) rfl rfl rfl rfl
  have hnum : ∀ L, mAsg (mBin fAdd (mBin fMul (mBin fIx (mV 0) (mC (.int 3))) (mC (.int 69621))) (mC (.int 12345))) (.nm 1) [some (.ref 0), none] (obO cells pos a (b + 1) L) = some (.nx [some (.ref 0), some (.int ((b + 1) * 69621 + 12345))], obO cells pos a (b + 1) L) := fun L =>
    asg_of (bin_of (bin_of (cix0 rfl rfl) rfl (mul_of (.inr (by decide)))) rfl rfl)
  have hif : ∀ L, mTV (mBin fLtD (mBin fIx (mV 0) (mC (.int 1))) (mCB fLen (mCons (mBin fIx (mV 0) (mC (.int 0))) mNil))) [some (.ref 0), some (.int ((b + 1) * 69621 + 12345))] (obO cells pos a (b + 1) L) = some (decide ((pos : Int) < cells.length), obO cells pos a (b + 1) L) := by
    intro L
    refine tv_of (bin_of (cix0 rfl rfl) (cb_of (one_of (cix0 rfl rfl)) rfl) ?_)
    simp
  by_cases hl : pos < cells.length
  · have hix : ∀ L, mBin fIx (mBin fIx (mV 0) (mC (.int 0))) (mBin fIx (mV 0) (mC (.int 1))) [some (.ref 0), some (.int ((b + 1) * 69621 + 12345))] (obO cells pos a (b + 1) L) = some (.int cells[pos], obO cells pos a (b + 1) L) := by
      intro L
      refine bin_of (cix0 rfl rfl) (cix0 rfl rfl) ?_
      rw [DV.ix_lst, atI_map hl]; rfl
    obtain ⟨y, hy⟩ : ∃ y : Int, ∀ L, mAsg (mCB fMaxA (mCons (mBin fIx (mBin fIx (mV 0) (mC (.int 0))) (mBin fIx (mV 0) (mC (.int 1)))) (mCons (mBin fSub (mBin fSub (mC (.int 0)) (mC (.int 1))) (mBin fIx (mBin fIx (mV 0) (mC (.int 0))) (mBin fIx (mV 0) (mC (.int 1))))) mNil))) (.nm 1) [some (.ref 0), some (.int ((b + 1) * 69621 + 12345))] (obO cells pos a (b + 1) L) = some (.nx [some (.ref 0), some (.int y)], obO cells pos a (b + 1) L) :=
      ⟨_, fun L => asg_of (cb_of (cons_of (hix L) (one_of (bin_of (bin_of rfl rfl rfl) (hix L) rfl))) rfl)⟩
    have hst : ∀ L, mSetIx (mBin fAdd (mBin fIx (mV 0) (mC (.int 1))) (mC (.int 1))) (mV 0) (mC (.int 1)) [some (.ref 0), some (.int y)] (obO cells pos a (b + 1) L) = some (.nx [some (.ref 0), some (.int y)], obO cells (pos + 1) a (b + 1) L) := fun L =>
      setix_of (S3 := obO cells pos a (b + 1) L) (p := 0) (j := 1) (xs := [.lst (cells.map D.int), .int pos, .int a, .int (b + 1), .int 20]) (d := .int ((pos : Int) + 1)) (bin_of (cix0 rfl rfl) rfl rfl) rfl rfl rfl rfl
    have hge : ∀ L, mTV (mBin fGeD (mV 1) (mBin fPow (mC (.int 10)) (mC (.int 18)))) [some (.ref 0), some (.int y)] (obO cells (pos + 1) a (b + 1) L) = some (decide ((10 : Int) ^ 18 ≤ y), obO cells (pos + 1) a (b + 1) L) := by
      intro L
      refine tv_of (bin_of (b := .int ((10 : Int) ^ 18)) (S2 := obO cells (pos + 1) a (b + 1) L) rfl (bin_of rfl rfl ?_) rfl)
      rw [r_pow, if_pos (by decide)]; rfl
    by_cases hb : (10 : Int) ^ 18 ≤ y
    · refine ⟨y, pos + 1, b + 1, hl, fun L => fn_rt rfl (seq_nx (hstep L) (seq_nx (hnum L) (seq_rt (ifs_of (b := true) ((hif L).trans (by rw [decide_eq_true (by omega)])) (seq_nx (hy L) (seq_nx (hst L) (ifs_of (b := true) (by rw [hge, decide_eq_true hb]) (ret_of rfl)))))))) rfl⟩
    · obtain ⟨y1, h1⟩ := curT1_eq cells (pos + 1) a (b + 1) y
      obtain ⟨z, h2⟩ := curT2_eq cells (pos + 1) a (b + 1) y1
      exact ⟨z, pos + 1, b + 1, hl, fun L => fn_rt rfl (seq_nx (hstep L) (seq_nx (hnum L) (seq_nx (ifs_of (b := true) ((hif L).trans (by rw [decide_eq_true (by omega)])) (seq_nx (hy L) (seq_nx (hst L) (ifs_of (b := false) (by rw [hge, decide_eq_false hb]) rfl)))) (seq_nx (h1 L) (h2 L))))) rfl⟩
  · obtain ⟨y, h1⟩ := curT1_eq cells pos a (b + 1) ((b + 1) * 69621 + 12345)
    obtain ⟨z, h2⟩ := curT2_eq cells pos a (b + 1) y
    exact ⟨z, pos, b + 1, hp, fun L => fn_rt rfl (seq_nx (hstep L) (seq_nx (hnum L) (seq_nx (ifs_of (b := false) (by rw [hif]; simp; omega) rfl) (seq_nx (h1 L) (h2 L))))) rfl⟩
def curTk (F : Fn) : MS := mSeq (mIfS (mTV (mBin fLtD (mBin fIx (mV 0) (mC (.int 2))) (mV 1))) (mSetIx (mCall F (mCons (mV 0) mNil)) (mV 0) (mC (.int 2))) mSkip)
    (mSeq (mAsg (mBin fMod (mCB fInt (mCons (mBin fIx (mV 0) (mC (.int 2))) mNil)) (mV 1)) (.nm 2))
    (mSeq (mSetIx (mBin fDiv (mBin fIx (mV 0) (mC (.int 2))) (mV 1)) (mV 0) (mC (.int 2)))
    (mRet (mV 2))))
def TakeOk (M : Fn) : Prop := ∀ (c : Cu) (m : Int), 0 < m → m < 1073741824 → ∃ (d : Int) (c' : Cu), 0 ≤ d ∧ d < m ∧ ∀ L, M [.ref 0, .int m] (c.ob :: L) = some (.int d, c'.ob :: L)
theorem take_ok {F : Fn} (hF : FillOk F) : TakeOk (fnM 3 2 .keep (curTk F)) := by
  intro c m h0 h1
  obtain ⟨cells, pos, a, b, hp⟩ := c
  have rest : ∀ (pos : Nat) (a b : Int), pos ≤ cells.length → ∃ (d : Int) (c' : Cu), 0 ≤ d ∧ d < m ∧ ∀ L, (mSeq (mAsg (mBin fMod (mCB fInt (mCons (mBin fIx (mV 0) (mC (.int 2))) mNil)) (mV 1)) (.nm 2))
    (mSeq (mSetIx (mBin fDiv (mBin fIx (mV 0) (mC (.int 2))) (mV 1)) (mV 0) (mC (.int 2)))
    (mRet (mV 2)))) [some (.ref 0), some (.int m), none] (obO cells pos a b L) = some (.rt (.int d), c'.ob :: L) := fun pos a b hp => by
    have g1 := Int.emod_nonneg a (b := m) (by omega)
    have g2 := Int.emod_lt_of_pos a (b := m) (by omega)
    refine ⟨a % m, ⟨cells, pos, a / m, b, hp⟩, g1, g2, fun L => ?_⟩
    exact seq_nx (asg_of (bin_of (cb_of (one_of (cix0 rfl rfl)) r_int) rfl (mod_of h0))) (seq_nx (setix_of (S3 := obO cells pos a b L) (p := 0) (j := 2) (xs := [.lst (cells.map D.int), .int pos, .int a, .int b, .int 20]) (d := .int (a / m)) (bin_of (cix0 rfl rfl) rfl (div_of h0 h1)) rfl rfl rfl rfl) (ret_of rfl))
  have hc : ∀ L, mTV (mBin fLtD (mBin fIx (mV 0) (mC (.int 2))) (mV 1)) [some (.ref 0), some (.int m), none] (obO cells pos a b L) = some (decide (a < m), obO cells pos a b L) := fun L => tv_of (bin_of (cix0 rfl rfl) rfl rfl)
  by_cases h : a < m
  · obtain ⟨r, p1, b1, hp1, hf⟩ := hF cells pos a b hp
    obtain ⟨d, c', hd, hd2, hr⟩ := rest p1 r b1 hp1
    exact ⟨d, c', hd, hd2, fun L => fn_rt rfl (seq_nx (ifs_of (b := true) ((hc L).trans (by rw [decide_eq_true h])) (setix_of (S3 := obO cells p1 a b1 L) (p := 0) (j := 2) (xs := [.lst (cells.map D.int), .int p1, .int a, .int b1, .int 20]) (d := .int r) (call_of rfl (hf L)) rfl rfl rfl rfl)) (hr L)) rfl⟩
  · obtain ⟨d, c', hd, hd2, hr⟩ := rest pos a b hp
    exact ⟨d, c', hd, hd2, fun L => fn_rt rfl (seq_nx (ifs_of (b := false) ((hc L).trans (by rw [decide_eq_false h])) rfl) (hr L)) rfl⟩
open Classical in
noncomputable def takeG (M : Fn) (c : Cu) (m : Int) : Int × Cu := if h : ∃ p : Int × Cu, 0 ≤ p.1 ∧ p.1 < m ∧ ∀ L, M [.ref 0, .int m] (c.ob :: L) = some (.int p.1, p.2.ob :: L) then h.choose else (0, c)
theorem takeG_ok {M : Fn} (h : TakeOk M) {c : Cu} {m : Int} (h0 : 0 < m ∧ m < 1073741824) : 0 ≤ (takeG M c m).1 ∧ (takeG M c m).1 < m ∧ ∀ L, M [.ref 0, .int m] (c.ob :: L) = some (.int (takeG M c m).1, (takeG M c m).2.ob :: L) := by
  obtain ⟨d, c', h1, h2, h3⟩ := h c m h0.1 h0.2
  have hx : ∃ p : Int × Cu, 0 ≤ p.1 ∧ p.1 < m ∧ ∀ L, M [.ref 0, .int m] (c.ob :: L) = some (.int p.1, p.2.ob :: L) := ⟨(d, c'), h1, h2, h3⟩
  unfold takeG
  rw [dif_pos hx]
  exact hx.choose_spec
/-- the start -/
def curSt : MS := mRet (mSto (mLst (mCons (mVal (mLC (mIt (mVal (mSlL (mV 0) mO0 (mO1 (mC (.int 63)))))) (.nm 1) mYes (mCB fInt (mCons (mV 1) mNil)) [1])) (mCons (mC (.int 0)) (mCons (mC (.int 0)) (mCons (mC (.int 0)) (mCons (mC (.int 20)) mNil)))))))
theorem start_ok (ns : List Int) (hn : ns.length ≤ 63) : ∃ c : Cu, fnM 2 1 .keep curSt [.fr (ns.map D.int)] [] = some (.ref 0, [c.ob]) := by
  obtain ⟨a, b, hc⟩ : ∃ a b, DV.cutD (ns.map D.int) none (some 63) = ((ns.drop a).take b).map D.int := ⟨_, _, by unfold DV.cutD; rw [← List.map_drop, ← List.map_take]⟩
  have hs : mVal (mSlL (mV 0) mO0 (mO1 (mC (.int 63)))) [some (.fr (ns.map D.int)), none] [] = some (.lst (((ns.drop a).take b).map D.int), []) := by
    rw [r_Val, r_SlL]
    simp only [r_V, List.getElem?_cons_zero, Option.bind_some, r_O0, r_O1, r_C, lst_fr, hc]
  have hz : ((ns.drop a).take b).length ≤ 63 := by rw [List.length_take, List.length_drop]; omega
  refine ⟨⟨(ns.drop a).take b, 0, 0, 0, Nat.zero_le _⟩, fn_rt rfl (ret_of (sto_of (S1 := []) (ds := [.lst (((ns.drop a).take b).map D.int), .int 0, .int 0, .int 0, .int 20]) (cons_of (val_lc (L := ((ns.drop a).take b).map D.int) (it_of hs rfl) (lcL_map (α := Int) D.int D.int _ ?_) (by rw [List.length_map]; show _ ≤ 16777216; omega)) rfl) (by show 5 ≤ 16777216; decide))) rfl⟩
  intro x _
  exact ⟨_, rfl, cb_of (one_of rfl) r_int⟩
end
end DV

/-! DVx: more rules over plain values, for gent.py. -/
namespace DV
open PySem PySem.Spec PyProof.Rows L2
section
variable {α β γ δ T R J : Type} {e e1 : Ev} {S S1 S2 S3 : Store} {m ma mb mc : ME} {mi mi1 : MI} {ml : ML} {ms : ML} {en : α → D} {en2 : β → D} {xs : List α} {i j : Int} {d d1 d2 : D} {v : AV} {tt tt1 : MT} {t t1 : Tg} {Q : Fl → Store → Prop} {s s1 s2 s3 : MS} {x : Bool} {c : MT}
theorem coO [Inhabited α] {o : Option α} (h : m e S = some (eO en o, S1)) (ho : o.isSome = true) : m e S = some (en (getO o), S1) := by rw [h, eO_get ho]
theorem coA (h : m e S = some (d, S1)) (ho : D.av 9 d = true) : m e S = some (eA (mkA d), S1) := by rw [h, mkA_eq ho]
theorem coI (h : m e S = some (eA v, S1)) (ho : v.isI = true) : m e S = some (.int v.int, S1) := by rw [h, ← AV.i_eq ho]
theorem coB (h : m e S = some (eA v, S1)) (ho : v.isBl = true) : m e S = some (.bl v.bl, S1) := by rw [h, ← AV.bl_eq ho]
theorem coT (h : m e S = some (eA v, S1)) (ho : v.isTup = true) : m e S = some (eT eA v.items, S1) := by rw [h, ← AV.tup_eq ho]
theorem coD {z : α} (h : m e S = some (eA v, S1)) (ho : en z = v.1) : m e S = some (en z, S1) := by rw [h, ho]
theorem coTO [Inhabited α] {o : List (Option α)} (h : m e S = some (eT (eO en) o, S1)) (ho : ∀ x ∈ o, x.isSome = true) : m e S = some (eT en (o.map getO), S1) := by
  rw [h]
  have : o.map (eO en) = (o.map getO).map en := by
    rw [List.map_map]
    exact List.map_congr_left fun x hx => eO_get (ho x hx)
  show some (D.tup _, _) = some (D.tup _, _)
  rw [this]
theorem seqR_of {p : Nat} {ds : List D} (h : S[p]? = some (.lst ds)) : seqOf (.ref p) S = some ds := by rw [seq_ref, h]
theorem ltrR_of {p : Nat} {ds : List D} (h : S[p]? = some (.lst ds)) : lstTr (.ref p) S = some ds := by rw [ltr_ref, h]
theorem sl_P {lo hi : Option Int} {ml mh : MO} {ds es : List D} (h : m e S = some (.tup ds, S1)) (hl : ml e S1 = some (lo, S2)) (hh : mh e S2 = some (hi, S3)) (hd : cutD ds lo hi = es) : mSl fSlT m ml mh e S = some (.tup es, S3) := by
  rw [r_Sl, h]; simp only [Option.bind_some]; rw [hl]; simp only [Option.bind_some]; rw [hh]; simp only [Option.bind_some, r_slT, hd]
theorem len2 [Inhabited α] (h : xs.length = 2) : xs = [ixZ xs 0, ixZ xs 1] := by
  match xs, h with
  | [a, b], _ => rfl
theorem len3 [Inhabited α] (h : xs.length = 3) : xs = [ixZ xs 0, ixZ xs 1, ixZ xs 2] := by
  match xs, h with
  | [a, b, c], _ => rfl
theorem len4 [Inhabited α] (h : xs.length = 4) : xs = [ixZ xs 0, ixZ xs 1, ixZ xs 2, ixZ xs 3] := by
  match xs, h with
  | [a, b, c, d], _ => rfl
theorem lenZ {n : Nat} {xs : List α} (h : (xs.length : Nat) = n) : xs.length = n := h
theorem tgP2 {k l : Nat} {a b : D} : (Tg.tp [k, l]).f (.tup [a, b]) e = some ((e.set k (some a)).set l (some b)) := rfl
theorem tgP3 {k l n : Nat} {a b c : D} : (Tg.tp [k, l, n]).f (.tup [a, b, c]) e = some (((e.set k (some a)).set l (some b)).set n (some c)) := rfl
theorem tgT2 [Inhabited α] {k l : Nat} (h : xs.length = 2) : (Tg.tp [k, l]).f (eT en xs) e = some ((e.set k (some (en (ixZ xs 0)))).set l (some (en (ixZ xs 1)))) := by
  conv => lhs; rw [len2 h]
  rfl
theorem tgT3 [Inhabited α] {k l n : Nat} (h : xs.length = 3) : (Tg.tp [k, l, n]).f (eT en xs) e = some (((e.set k (some (en (ixZ xs 0)))).set l (some (en (ixZ xs 1)))).set n (some (en (ixZ xs 2)))) := by
  conv => lhs; rw [len3 h]
  rfl
theorem asg_tpT2 [Inhabited α] {k l : Nat} (hm : m e S = some (eT en xs, S1)) (h : xs.length = 2) : mAsg m (.tp [k, l]) e S = some (.nx ((e.set k (some (en (ixZ xs 0)))).set l (some (en (ixZ xs 1)))), S1) := by
  rw [r_Asg, hm]; simp only [Option.bind_some]; rw [tgT2 h]; rfl
theorem asg_tpT3 [Inhabited α] {k l n : Nat} (hm : m e S = some (eT en xs, S1)) (h : xs.length = 3) : mAsg m (.tp [k, l, n]) e S = some (.nx (((e.set k (some (en (ixZ xs 0)))).set l (some (en (ixZ xs 1)))).set n (some (en (ixZ xs 2)))), S1) := by
  rw [r_Asg, hm]; simp only [Option.bind_some]; rw [tgT3 h]; rfl
theorem asg_lp {is : List Nat} {ds : List D} (h : m e S = some (.lst ds, S1)) (hl : ds.length = is.length) : mAsg m (.tp is) e S = some (.nx (setAll is ds e), S1) := by
  rw [r_Asg, h]; simp only [Option.bind_some]
  show (Option.bind (if ds.length = is.length then some (setAll is ds e) else none) _) = _
  rw [if_pos hl]; rfl
theorem stoS_E {L : Store} {ds : List D} (h : ml e (S ++ L) = some (ds, S ++ L)) : mSto ml e (S ++ L) = some (.ref (S.length + L.length), S ++ (L ++ [.lst ds])) := by
  rw [r_Sto, h]; simp
theorem stoC_E {o : Ob} {L : Store} {ds : List D} (h : ml e S = some (ds, o :: L)) : mSto ml e S = some (.ref (1 + L.length), o :: (L ++ [.lst ds])) := by
  rw [r_Sto, h]; simp [Nat.add_comm]
theorem appS_E {L L' : Store} {k : Nat} {y : α} (ho : ma e (S ++ L) = some (.ref (S.length + k), S ++ L)) (h : m e (S ++ L) = some (en y, S ++ L)) (hp : L[k]? = some (.lst (xs.map en))) (hz : xs.length < LIM) (hL : L.set k (.lst ((xs ++ [y]).map en)) = L') : mDrop (mMt' fAppend ma (mCons m mNil)) e (S ++ L) = some (.nx e, S ++ L') := by
  rw [app_E (xs := xs) ho h (get_app.trans hp) hz, set_app, hL]
theorem setS_E {L L' : Store} {k : Nat} {y : α} (h : m e (S ++ L) = some (en y, S ++ L)) (ho : ma e (S ++ L) = some (.ref (S.length + k), S ++ L)) (hi : mb e (S ++ L) = some (.int i, S ++ L)) (hp : L[k]? = some (.lst (xs.map en))) (hr : InR xs i) (hL : L.set k (.lst ((setZ xs i y).map en)) = L') : mSetIx m ma mb e (S ++ L) = some (.nx e, S ++ L') := by
  rw [set_E (xs := xs) h ho hi (get_app.trans hp) hr, set_app, hL]
theorem set_get {p : Nat} {o o2 : Ob} (h : S[p]? = some o) : (S.set p o2)[p]? = some o2 := by
  have := (List.getElem?_eq_some_iff.mp h).1
  rw [List.getElem?_set_self this]
theorem swap_E {mo mj mo2 mj2 : ME} {p : Nat} {y z : α} (h : m e S = some (.tup [en y, en z], S1)) (ho : mo e S1 = some (.ref p, S1)) (hi : mj e S1 = some (.int i, S1)) (hp : S1[p]? = some (.lst (xs.map en))) (hr : InR xs i)
    (ho2 : ∀ S, mo2 e S = some (.ref p, S)) (hi2 : mj2 e (S1.set p (.lst ((setZ xs i y).map en))) = some (.int j, S1.set p (.lst ((setZ xs i y).map en)))) (hr2 : InR xs j) : mSwap m mo mj mo2 mj2 e S = some (.nx e, S1.set p (.lst ((setZ (setZ xs i y) j z).map en))) := by
  have hl : (setZ xs i y).length = xs.length := by unfold setZ; simp
  have f1 : fSet (.ref p) (.int i) (en y) S1 = some (S1.set p (.lst ((setZ xs i y).map en))) := by
    unfold fSet; simp only [hp, List.length_map, (ixN_Z hr).1, Option.bind_some]
    unfold setZ; rw [List.map_set]
  have f2 : fSet (.ref p) (.int j) (en z) (S1.set p (.lst ((setZ xs i y).map en))) = some (S1.set p (.lst ((setZ (setZ xs i y) j z).map en))) := by
    have h3 : ixN (setZ xs i y).length j = some (ixP (setZ xs i y).length j) := by rw [hl]; exact (ixN_Z hr2).1
    unfold fSet; simp only [set_get hp, List.length_map, h3, Option.bind_some, List.set_set]
    conv => rhs; unfold setZ
    rw [← List.map_set]; rfl
  unfold mSwap
  rw [h]; simp only [Option.bind_some]
  rw [ho]; simp only [Option.bind_some]
  rw [hi]; simp only [Option.bind_some]
  rw [f1]; simp only [Option.bind_some]
  rw [ho2]; simp only [Option.bind_some]
  rw [hi2]; simp only [Option.bind_some]
  rw [f2]; rfl
theorem getJ {A R : Store} {n k : Nat} {o : Ob} (hn : n = A.length) (h : R[k]? = some o) : (A ++ R)[n + k]? = some o := by
  subst hn; rw [get_app]; exact h
theorem setJ {A R R' : Store} {n k : Nat} {o : Ob} (hn : n = A.length) (h : R.set k o = R') : (A ++ R).set (n + k) o = A ++ R' := by
  subst hn; rw [set_app, h]
theorem stoG_E {ds : List D} {n : Nat} (h : ml e S = some (ds, S1)) (hn : S1.length = n) (hs : S1 ++ [.lst ds] = S2) : mSto ml e S = some (.ref n, S2) := by
  rw [r_Sto, h, ← hn, ← hs]; rfl
theorem appG_E {p : Nat} {y : α} (ho : ma e S = some (.ref p, S)) (h : m e S = some (en y, S)) (hp : S[p]? = some (.lst (xs.map en))) (hz : xs.length < LIM) (hs : S.set p (.lst ((xs ++ [y]).map en)) = S2) : mDrop (mMt' fAppend ma (mCons m mNil)) e S = some (.nx e, S2) := by
  rw [app_E ho h hp hz, hs]
theorem setG_E {p : Nat} {y : α} (h : m e S = some (en y, S)) (ho : ma e S = some (.ref p, S)) (hi : mb e S = some (.int i, S)) (hp : S[p]? = some (.lst (xs.map en))) (hr : InR xs i) (hs : S.set p (.lst ((setZ xs i y).map en)) = S2) : mSetIx m ma mb e S = some (.nx e, S2) := by
  rw [set_E h ho hi hp hr, hs]
theorem swapG_E {mo mj mo2 mj2 : ME} {p : Nat} {y z : α} (h : m e S = some (.tup [en y, en z], S1)) (ho : mo e S1 = some (.ref p, S1)) (hi : mj e S1 = some (.int i, S1)) (hp : S1[p]? = some (.lst (xs.map en))) (hr : InR xs i)
    (ho2 : ∀ S, mo2 e S = some (.ref p, S)) (hi2 : mj2 e (S1.set p (.lst ((setZ xs i y).map en))) = some (.int j, S1.set p (.lst ((setZ xs i y).map en)))) (hr2 : InR xs j) (hs : S1.set p (.lst ((setZ (setZ xs i y) j z).map en)) = S2) : mSwap m mo mj mo2 mj2 e S = some (.nx e, S2) := by
  rw [swap_E h ho hi hp hr ho2 hi2 hr2, hs]
theorem pb_app0 (h : PB (s e (S ++ [])) Q) : PB (s e S) Q := by rw [List.append_nil] at h; exact h
theorem okFold_true {step : T → α → T} : ∀ (xs : List α) (t : T), okFold (fun _ _ => True) step t xs
  | [], _ => trivial
  | x :: xs, t => ⟨trivial, okFold_true xs _⟩
theorem okFor_true {step : T → α → Lo T R} : ∀ (xs : List α) (t : T), okFor (fun _ _ => True) step t xs
  | [], _ => trivial
  | x :: xs, t => ⟨trivial, by
    cases step t x with
    | nx t' => exact okFor_true xs t'
    | bk _ => trivial
    | rt _ => trivial⟩
theorem okA_true {f : γ → α → β × γ} : ∀ (xs : List α) (c : γ), okA f (fun _ _ => True) c xs
  | [], _ => trivial
  | x :: xs, t => ⟨trivial, okA_true xs _⟩
theorem okFA_true {g : γ → α → Bool × γ} {f : γ → α → β × γ} : ∀ (xs : List α) (c : γ), okFA g f (fun _ _ => True) c xs
  | [], _ => trivial
  | x :: xs, t => ⟨trivial, fun _ => okFA_true xs _, fun _ => okFA_true xs _⟩
theorem pb_for_F_end {E : T → J → Ev} {σ : T → J → Store} {step : T → α → T} {ok : T → α → Prop} {body : MS} {t0 : T} {j0 : J} (hi : mi e S = some (.seq (xs.map en), S1)) (he : e = E t0 j0) (hs : S1 = σ t0 j0) (hk : okFold ok step t0 xs)
    (h : ∀ t' j x, ok t' x → ∃ e1, t.f (en x) (E t' j) = some e1 ∧ PB (body e1 (σ t' j)) (LQ E σ (fun (_ : Empty) _ _ => False) (.nx (step t' x)))) (q : ∀ j, Q (.nx (E (xs.foldl step t0) j)) (σ (xs.foldl step t0) j)) : PB (mFor mi t body e S) Q := by
  obtain ⟨j, h1⟩ := for_F (body := body) (t := t) hi he hs hk h
  exact ⟨_, _, h1, q j⟩
theorem pb_for_P_end {E : T → J → Ev} {σ : T → J → Store} {QR : R → Fl → Store → Prop} {step : T → α → Lo T R} {ok : T → α → Prop} {body : MS} {t0 : T} {j0 : J} {k : T → R} (hi : mi e S = some (.seq (xs.map en), S1)) (he : e = E t0 j0) (hs : S1 = σ t0 j0) (hk : okFor ok step t0 xs)
    (h : ∀ t' j x, ok t' x → ∃ e1, t.f (en x) (E t' j) = some e1 ∧ PB (body e1 (σ t' j)) (LQ E σ QR (step t' x))) (q : ∀ t' j, forP step t0 xs = .nx t' → QR (k t') (.nx (E t' j)) (σ t' j)) : PB (mFor mi t body e S) (QR ((forP step t0 xs).fin k)) := by
  subst he hs
  obtain ⟨fl, S', h1, h2⟩ := forL_P h xs t0 j0 hk
  have h3 : mFor mi t body (E t0 j0) S = some (fl, S') := by rw [r_For hi, h1]
  refine ⟨fl, S', h3, ?_⟩
  cases ho : forP step t0 xs with
  | nx t' =>
    rw [ho] at h2
    obtain ⟨j', rfl, rfl⟩ := h2
    exact q t' j' ho
  | bk t' => rw [ho] at h2; cases h2
  | rt r =>
    rw [ho] at h2
    exact h2.2
theorem forP_F {step : T → α → T} : ∀ (xs : List α) (t : T), forP (R := Empty) (fun t x => .nx (step t x)) t xs = .nx (xs.foldl step t)
  | [], _ => rfl
  | x :: xs, t => forP_F xs (step t x)
theorem okFor_F {ok : T → α → Prop} {step : T → α → T} : ∀ (xs : List α) (t : T), okFold ok step t xs → okFor (R := Empty) ok (fun t x => .nx (step t x)) t xs
  | [], _, _ => trivial
  | x :: xs, t, h => ⟨h.1, okFor_F xs _ h.2⟩
theorem forR_F {E : T → J → Ev} {σ : T → J → Store} {step : T → α → T} {ok : T → α → Prop} {body : MS} {t0 : T} {j0 : J} {p : Nat} (hSl : ∀ t j, (σ t j)[p]? = some (.lst (xs.map en))) (hi : mi e S = some (.live p xs.length, S1)) (he : e = E t0 j0) (hs : S1 = σ t0 j0) (hk : okFold ok step t0 xs)
    (h : ∀ t' j x, ok t' x → ∃ e1, t.f (en x) (E t' j) = some e1 ∧ PB (body e1 (σ t' j)) (LQ E σ (fun (_ : Empty) _ _ => False) (.nx (step t' x)))) : ∃ j', mFor mi t body e S = some (.nx (E (xs.foldl step t0) j'), σ (xs.foldl step t0) j') := by
  subst he hs
  have := forGo_live (R := Empty) (QR := fun _ _ _ => False) (step := fun t x => .nx (step t x)) (N := xs.length) hSl h xs.length 0 t0 j0 (by omega) (by rw [List.drop_zero]; exact okFor_F xs t0 hk)
  rw [List.drop_zero, forP_F] at this
  obtain ⟨fl, S', h1, j', rfl, rfl⟩ := this
  exact ⟨j', by unfold mFor; rw [hi]; exact h1⟩
theorem pb_forR_F {E : T → J → Ev} {σ : T → J → Store} {step : T → α → T} {ok : T → α → Prop} {body : MS} {t0 : T} {j0 : J} {p : Nat} (hSl : ∀ t j, (σ t j)[p]? = some (.lst (xs.map en))) (hi : mi e S = some (.live p xs.length, S1)) (he : e = E t0 j0) (hs : S1 = σ t0 j0) (hk : okFold ok step t0 xs)
    (h : ∀ t' j x, ok t' x → ∃ e1, t.f (en x) (E t' j) = some e1 ∧ PB (body e1 (σ t' j)) (LQ E σ (fun (_ : Empty) _ _ => False) (.nx (step t' x)))) (q : ∀ j, PB (s (E (xs.foldl step t0) j) (σ (xs.foldl step t0) j)) Q) : PB (mSeq (mFor mi t body) s e S) Q := by
  obtain ⟨j, h1⟩ := forR_F (body := body) (t := t) hSl hi he hs hk h
  exact pb_seq h1 (q j)
theorem pb_while_end {E : T → J → Ev} {σ : T → J → Store} {QR : R → Fl → Store → Prop} {cond : T → Bool} {step : T → Lo T R} {okc ok : T → Prop} {body : MS} {t0 : T} {j0 : J} {k : T → R} {n : Nat} (he : e = E t0 j0) (hs : S = σ t0 j0) (hk : okWhile okc ok cond step n t0)
    (hc : ∀ t j, okc t → c (E t j) (σ t j) = some (cond t, σ t j)) (h : ∀ t j, ok t → PB (body (E t j) (σ t j)) (LQ E σ QR (step t))) (q : ∀ t' j, whileP cond step n t0 = .nx t' → QR (k t') (.nx (E t' j)) (σ t' j)) : PB (mWhile n c body e S) (QR ((whileP cond step n t0).fin k)) := by
  subst he hs
  obtain ⟨fl, S', h3, h2⟩ := whileGo_P hc h n t0 j0 hk
  refine ⟨fl, S', h3, ?_⟩
  cases ho : whileP cond step n t0 with
  | nx t' =>
    rw [ho] at h2
    obtain ⟨j', rfl, rfl⟩ := h2
    exact q t' j' ho
  | bk t' => rw [ho] at h2; cases h2
  | rt r =>
    rw [ho] at h2
    exact h2.2
/-- the law's own end -/
def RE (en : α → D) (v : α) : Fl → Store → Prop := fun fl _ => fl = .rt (en v)
theorem fn_E {nN np : Nat} {body : MS} {ds : List D} {S : Store} {v : α} (hl : ds.length = np) (hb : PB (body (ds.map some ++ List.replicate (nN - np) none) S) (RE en v)) : ∃ S', fnM nN np .keep body ds S = some (en v, S') := by
  obtain ⟨fl, S', h1, h2⟩ := hb
  cases h2
  exact ⟨S', fn_rt hl h1 rfl⟩
end
end DV

/-! DVy: the laws' alike, spoilt and bent. -/
namespace DV
open PySem PySem.Spec PyProof.Rows L2
/-! ### alike -/
def alikeT (r : Fn) : MS := mSeq (mIfS (mTru (mIsi "tuple" (mV 1))) (mRet (mAndV (mIsi "tuple" (mV 0)) (mAndV (mBin fEq (mCB fLen (mCons (mV 0) mNil)) (mCB fLen (mCons (mV 1) mNil))) (mCB fAll (mCons (mVal (mLC (mRg1 (mCons (mCB fLen (mCons (mV 1) mNil)) mNil)) (.nm 2) mYes (mCall r (mCons (mBin fIx (mV 0) (mV 2)) (mCons (mBin fIx (mV 1) (mV 2)) mNil))) [2])) mNil))))) mSkip)
    (mSeq (mIfS (mTV (mBin fIsN (mV 1) (mC .non))) (mRet (mBin fIsN (mV 0) (mC .non))) mSkip)
    (mSeq (mIfS (mOr (mTru (mIsi "bool" (mV 0))) (mTV (mBin fNe (mIsi "str" (mV 0)) (mIsi "str" (mV 1))))) (mRet (mC (.bl false))) mSkip)
    (mRet (mAndV (mIsi2 "int" "str" (mV 0)) (mBin fEq (mV 0) (mV 1))))))
def alikeR : Nat → Fn
  | 0 => fun _ _ => none
  | n + 1 => fnM 3 2 .pure (alikeT (alikeR n))
/-! tuples of ints, texts, None -/
mutual
def D.alk (n : Nat) : D → Bool
  | .non => true
  | .int _ => true
  | .str x => PyData.strOk x
  | .tup xs => match n with
    | 0 => false
    | n + 1 => decide (xs.length < LIM) && D.alkL n xs
  | _ => false
def D.alkL (n : Nat) : List D → Bool
  | [] => true
  | x :: xs => D.alk n x && D.alkL n xs
end
theorem alkL_mem {n : Nat} : ∀ {xs : List D}, D.alkL n xs = true ↔ ∀ d ∈ xs, D.alk n d = true
  | [] => by simp [D.alkL]
  | x :: xs => by simp [D.alkL, alkL_mem (xs := xs)]
section
variable {S : Store}
theorem alike_str {k : Nat} {x : Str} (hx : PyData.strOk x = true) : alikeR (k + 1) [.str x, .str x] S = some (.bl true, S) := by
  refine fn_rt (S' := S) rfl (seq_nx (ifs_of (b := false) (tru_of (isi_of rfl rfl (by decide +kernel)) rfl) rfl) (seq_nx (ifs_of (b := false) (tv_of (b := false) rfl) rfl) (seq_nx (ifs_of (b := false) (or_of (x := false) (tru_of (isi_of rfl rfl (by decide +kernel)) rfl) (tv_of (bin_of (isi_of rfl rfl rfl) (isi_of rfl rfl rfl) (ne_of (r := true) rfl rfl (by simp))))) rfl)
    (ret_of (andv_of (x := true) (isi2_of (b := true) rfl rfl (by decide +kernel)) rfl (bin_of rfl rfl (eq_of (r := true) (by simp [hx]) (by simp [hx]) (by simp)))))))) (fin_pure fit_bl)
theorem alike_int {k : Nat} {x : Int} : alikeR (k + 1) [.int x, .int x] S = some (.bl true, S) := by
  refine fn_rt (S' := S) rfl (seq_nx (ifs_of (b := false) (tru_of (isi_of rfl rfl (by decide +kernel)) rfl) rfl) (seq_nx (ifs_of (b := false) (tv_of (b := false) rfl) rfl) (seq_nx (ifs_of (b := false) (or_of (x := false) (tru_of (isi_of rfl rfl (by decide +kernel)) rfl) (tv_of (bin_of (isi_of rfl rfl rfl) (isi_of rfl rfl rfl) (ne_of (r := true) rfl rfl (by simp))))) rfl)
    (ret_of (andv_of (x := true) (isi2_of (b := true) rfl rfl (by decide +kernel)) rfl (bin_of rfl rfl (eq_of (r := true) (by simp) (by simp) (by simp)))))))) (fin_pure fit_bl)
theorem alike_non {k : Nat} : alikeR (k + 1) [.non, .non] S = some (.bl true, S) := by
  refine fn_rt (S' := S) rfl (seq_nx (ifs_of (b := false) (tru_of (isi_of rfl rfl (by decide +kernel)) rfl) rfl) (seq_rt (ifs_of (b := true) (tv_of (b := true) rfl) (ret_of (d := .bl true) (S1 := S) rfl)))) (fin_pure fit_bl)
theorem alike_tup {k : Nat} {xs : List D} (h : ∀ d ∈ xs, alikeR k [d, d] S = some (.bl true, S)) (hz : xs.length < LIM) : alikeR (k + 1) [.tup xs, .tup xs] S = some (.bl true, S) := by
  refine fn_rt (S' := S) (d := .bl true) rfl (seq_rt (ifs_of (b := true) (tru_of (isi_of rfl rfl (by decide +kernel)) rfl) (ret_of (andv_of (x := true) (isi_of rfl rfl (by decide +kernel)) rfl (andv_of (x := true) (bin_of (cb_of (one_of rfl) rfl) (cb_of (one_of rfl) rfl) (eq_of (r := true) (by simp) (by simp) (by simp))) rfl
    (cb_of (one_of (val_lc (rg1_of (one_of (cb_of (one_of rfl) rfl)) (Nat.le_of_lt hz)) (lcL_map (α := Nat) (fun (i : Nat) => D.int (i : Int)) (fun _ => .bl true) (List.range xs.length) ?_) ?_)) ?_)))))) (fin_pure fit_bl)
  · intro g hg
    have hg : g < xs.length := by simpa using hg
    refine ⟨_, rfl, ?_⟩
    refine call_of (ds := [xs[g], xs[g]]) (S1 := S) (cons_of (S1 := S) (bin_of (S2 := S) rfl rfl ?_) (one_of (bin_of (S2 := S) rfl rfl ?_))) (h _ (List.getElem_mem hg))
    · rw [DV.ix_tup, atI_of hg]; rfl
    · rw [DV.ix_tup, atI_of hg]; rfl
  · simp; exact Nat.le_of_lt hz
  · have : List.map (fun (_ : Nat) => D.bl true) (List.range xs.length) = ((List.range xs.length).map fun _ => true).map D.bl := by rw [List.map_map]; rfl
    rw [this, r_all]
    simp only [lst_lst, Option.bind_some, bls_map]
    have : ((List.range xs.length).map fun _ => true).all id = true := by simp
    rw [this]
theorem alike_alk : ∀ (n k : Nat) (d : D), D.alk n d = true → n < k → alikeR k [d, d] S = some (.bl true, S)
  | n, k + 1, .non, _, _ => alike_non
  | n, k + 1, .int _, _, _ => alike_int
  | n, k + 1, .str _, h, _ => alike_str (by simpa [D.alk] using h)
  | 0, k + 1, .tup xs, h, _ => by simp [D.alk] at h
  | n + 1, k + 1, .tup xs, h, hk => by
    simp only [D.alk, Bool.and_eq_true, decide_eq_true_eq] at h
    exact alike_tup (fun d hd => alike_alk n k d (alkL_mem.1 h.2 d hd) (by omega)) h.1
  | n, k + 1, .bl _, h, _ => by simp [D.alk] at h
  | n, k + 1, .lst _, h, _ => by simp [D.alk] at h
  | n, k + 1, .ref _, h, _ => by simp [D.alk] at h
  | n, k + 1, .fr _, h, _ => by simp [D.alk] at h
  | n, k + 1, .rng _ _, h, _ => by simp [D.alk] at h
  | n, 0, d, _, h => by omega
end
/-! ### spoilt, bent -/
inductive Sm (l : Nat) : Nat → D → Prop
  | non (n : Nat) : Sm l n .non
  | bl (n : Nat) (b : Bool) : Sm l n (.bl b)
  | int (n : Nat) (i : Int) (h : i.natAbs < 1099511627776) : Sm l n (.int i)
  | str (n : Nat) (x : Str) (h : PyData.strOk x = true ∧ x.length ≤ LIM) : Sm l n (.str x)
  | tup (n : Nat) (xs : List D) (hl : xs.length ≤ l) (h : ∀ d ∈ xs, Sm l n d) : Sm l (n + 1) (.tup xs)
  | lst (n : Nat) (xs : List D) (hl : xs.length ≤ l) (h : ∀ d ∈ xs, Sm l n d) : Sm l (n + 1) (.lst xs)
theorem Sm.mono {l l2 : Nat} (h : l ≤ l2) {n : Nat} {d : D} (s : Sm l n d) : Sm l2 n d := by
  induction s with
  | non n => exact .non n
  | bl n b => exact .bl n b
  | int n i h => exact .int n i h
  | str n x h => exact .str n x h
  | tup n xs hl _ ih => exact .tup n xs (by omega) ih
  | lst n xs hl _ ih => exact .lst n xs (by omega) ih
theorem Sm.up {l : Nat} {n : Nat} {d : D} (s : Sm l n d) : ∀ {m : Nat}, n ≤ m → Sm l m d := by
  induction s with
  | non n => exact fun _ => .non _
  | bl n b => exact fun _ => .bl _ b
  | int n i h => exact fun _ => .int _ i h
  | str n x h => exact fun _ => .str _ x h
  | tup n xs hl _ ih =>
    intro m hm
    match m, hm with
    | m + 1, hm => exact .tup m xs hl fun d hd => ih d hd (by omega)
  | lst n xs hl _ ih =>
    intro m hm
    match m, hm with
    | m + 1, hm => exact .lst m xs hl fun d hd => ih d hd (by omega)
theorem Sm.av {l : Nat} (hl : l ≤ 1048576) {n : Nat} {d : D} (s : Sm l n d) : D.av n d = true := by
  induction s with
  | non n => simp [D.av]
  | bl n b => simp [D.av]
  | int n i h => simpa [D.av] using h
  | str n x h => simp [D.av, h.1, h.2]
  | tup n xs hx _ ih => simp only [D.av, Bool.and_eq_true, decide_eq_true_eq]; exact ⟨by omega, avL_mem.2 ih⟩
  | lst n xs hx _ ih => simp only [D.av, Bool.and_eq_true, decide_eq_true_eq]; exact ⟨by omega, avL_mem.2 ih⟩
def spoiltT (TK r : Fn) : MS := mSeq (mIfS (mTru (mIsi "str" (mV 1))) (mRet (mBin fIx (mVal (mLst (mCons (mC (.str "")) (mCons (mC (.str "winner")) (mCons (mC (.str "none")) (mCons (mC (.str "widest")) (mCons (mC (.str "no way")) (mCons (mC (.str "line")) (mCons (mC (.str "worst")) (mCons (mC (.str "crossed")) (mCons (mC (.str "core")) (mCons (mC (.str "no core")) (mCons (mC (.str "tree")) mNil))))))))))))) (mCall TK (mCons (mV 0) (mCons (mC (.int 11)) mNil))))) mSkip)
    (mSeq (mIfS (mNot (mTru (mIsi "tuple" (mV 1)))) (mRet (mBin fIx (mVal (mLst (mCons (mC (.int 0)) (mCons (mC (.int 1)) (mCons (mC (.int 2)) (mCons (mUn fNeg (mC (.int 1))) (mCons (mC (.bl true)) (mCons (mC .non) (mCons (mC (.int 3)) mNil))))))))) (mCall TK (mCons (mV 0) (mCons (mC (.int 7)) mNil))))) mSkip)
    (mSeq (mIfS (mOr (mNot (mTru (mV 1))) (mTV (mBin fEq (mCall TK (mCons (mV 0) (mCons (mC (.int 5)) mNil))) (mC (.int 0))))) (mRet (mBin fIx (mVal (mLst (mCons (mSl fSlT (mV 1) (mO1 (mC (.int 1))) mO0) (mCons (mSl fSlT (mV 1) mO0 (mO1 (mUn fNeg (mC (.int 1))))) (mCons (mBin fAdd (mV 1) (mSl fSlT (mV 1) (mO1 (mUn fNeg (mC (.int 1)))) mO0)) (mCons (mRevT (mV 1)) (mCons (mVal (mListOf (mV 1))) (mCons (mBin fAdd (mV 1) (mTup (mCons (mC (.int 0)) mNil))) (mCons (mTup mNil) (mCons (mTup (mCons (mC (.int 1)) (mCons (mC (.int 0)) mNil))) mNil)))))))))) (mCall TK (mCons (mV 0) (mCons (mC (.int 8)) mNil))))) mSkip)
    (mSeq (mAsg (mCall TK (mCons (mV 0) (mCons (mCB fLen (mCons (mV 1) mNil)) mNil))) (.nm 2))
    (mRet (mBin fAdd (mBin fAdd (mSl fSlT (mV 1) mO0 (mO1 (mV 2))) (mTup (mCons (mCall r (mCons (mV 0) (mCons (mBin fIx (mV 1) (mV 2)) mNil))) mNil))) (mSl fSlT (mV 1) (mO1 (mBin fAdd (mV 2) (mC (.int 1)))) mO0))))))
def spoiltR (TK : Fn) : Nat → Fn
  | 0 => fun _ _ => none
  | n + 1 => fnM 3 2 .keep (spoiltT TK (spoiltR TK n))
def bentT (TK r : Fn) : MS := mSeq (mFor (mRg1 (mCons (mBin fMul (mCB fInt (mCons (mBin fGtD (mV 2) (mC (.int 0))) mNil)) (mBin fAdd (mC (.int 1)) (mCall TK (mCons (mV 0) (mCons (mC (.int 2)) mNil))))) mNil)) (.nm 3) (mAsg (mCall r (mCons (mV 0) (mCons (mV 1) mNil))) (.nm 1)))
    (mRet (mV 1))
theorem cut_mem {xs : List D} {lo hi : Option Int} : (∀ d ∈ cutD xs lo hi, d ∈ xs) ∧ (cutD xs lo hi).length ≤ xs.length := by
  unfold cutD
  refine ⟨fun d hd => List.mem_of_mem_drop (List.mem_of_mem_take hd), ?_⟩
  rw [List.length_take, List.length_drop]; omega
theorem pick {ds : List D} {k : Int} (h : 0 ≤ k ∧ k < ds.length) : ∃ d ∈ ds, atI ds k = some d := by
  obtain ⟨n, rfl⟩ := Int.eq_ofNat_of_zero_le h.1
  have hn : n < ds.length := by omega
  exact ⟨ds[n], List.getElem_mem hn, atI_of hn⟩
section
variable {TK : Fn} (hT : TakeOk TK) {l : Nat} (h2 : 2 ≤ l + 1) (hl : l < 1000000)
include hT h2 hl
theorem spoilt_ok : ∀ (k n : Nat) (d : D) (c : Cu), Sm l n d → n < k → ∃ (r : D) (c' : Cu), Sm (l + 1) n r ∧ ∀ L, spoiltR TK k [.ref 0, d] (c.ob :: L) = some (r, c'.ob :: L) := by
  intro k
  induction k with
  | zero => intro n d c _ h; omega
  | succ k ih =>
    intro n d c hs hn
    have tk : ∀ {e : Ev} (c : Cu) (m : Int), 0 < m → m < 1073741824 → e[0]? = some (some (.ref 0)) → ∃ (q : Int) (c' : Cu), 0 ≤ q ∧ q < m ∧ ∀ L, mCall TK (mCons (mV 0) (mCons (mC (.int m)) mNil)) e (c.ob :: L) = some (.int q, c'.ob :: L) := by
      intro e c m h0 h1 he
      obtain ⟨q, c', g1, g2, g3⟩ := hT c m h0 h1
      exact ⟨q, c', g1, g2, fun L => call_of (cons_of (var_of he) (one_of rfl)) (g3 L)⟩
    -- what is no text and no tuple
    have atom : ∀ d : D, (∀ L, mTru (mIsi "str" (mV 1)) [some (.ref 0), some d, none] (c.ob :: L) = some (false, c.ob :: L)) → (∀ L, mTru (mIsi "tuple" (mV 1)) [some (.ref 0), some d, none] (c.ob :: L) = some (false, c.ob :: L)) →
        ∃ (r : D) (c' : Cu), Sm (l + 1) n r ∧ ∀ L, spoiltR TK (k + 1) [.ref 0, d] (c.ob :: L) = some (r, c'.ob :: L) := by
      intro d h1 h3
      obtain ⟨q, c', g1, g2, g3⟩ := tk (e := [some (.ref 0), some d, none]) c 7 (by decide) (by decide) rfl
      obtain ⟨r, hr, hx⟩ := pick (ds := [.int 0, .int 1, .int 2, .int (-1), .bl true, .non, .int 3]) (k := q) ⟨g1, g2⟩
      refine ⟨r, c', ?_, fun L => fn_rt rfl (seq_nx (ifs_of (b := false) (h1 L) rfl) (seq_rt (ifs_of (b := true) (not_of (h3 L)) (ret_of (bin_of (lst_of (ds := [.int 0, .int 1, .int 2, .int (-1), .bl true, .non, .int 3]) rfl (by decide)) (g3 L) (by rw [DV.ix_lst, hx]; rfl)))))) rfl⟩
      simp only [List.mem_cons, List.not_mem_nil, or_false] at hr
      rcases hr with rfl | rfl | rfl | rfl | rfl | rfl | rfl <;> first | exact .int _ _ (by decide) | exact .bl _ _ | exact .non _
    cases hs with
    | non n => exact atom _ (fun L => tru_of (isi_of rfl rfl (by decide +kernel)) rfl) (fun L => tru_of (isi_of rfl rfl (by decide +kernel)) rfl)
    | bl n b => exact atom _ (fun L => tru_of (isi_of rfl rfl (by decide +kernel)) rfl) (fun L => tru_of (isi_of rfl rfl (by decide +kernel)) rfl)
    | int n i h => exact atom _ (fun L => tru_of (isi_of rfl rfl (by decide +kernel)) rfl) (fun L => tru_of (isi_of rfl rfl (by decide +kernel)) rfl)
    | lst n xs _ h => exact atom _ (fun L => tru_of (isi_of rfl rfl (by decide +kernel)) rfl) (fun L => tru_of (isi_of rfl rfl (by decide +kernel)) rfl)
    | str n x h =>
      obtain ⟨q, c', g1, g2, g3⟩ := tk (e := [some (.ref 0), some (.str x), none]) c 11 (by decide) (by decide) rfl
      obtain ⟨r, hr, hx⟩ := pick (ds := [.str "", .str "winner", .str "none", .str "widest", .str "no way", .str "line", .str "worst", .str "crossed", .str "core", .str "no core", .str "tree"]) (k := q) ⟨g1, g2⟩
      refine ⟨r, c', ?_, fun L => fn_rt rfl (seq_rt (ifs_of (b := true) (tru_of (isi_of rfl rfl (by decide +kernel)) rfl) (ret_of (bin_of (lst_of (ds := [.str "", .str "winner", .str "none", .str "widest", .str "no way", .str "line", .str "worst", .str "crossed", .str "core", .str "no core", .str "tree"]) rfl (by decide)) (g3 L) (by rw [DV.ix_lst, hx]; rfl))))) rfl⟩
      simp only [List.mem_cons, List.not_mem_nil, or_false] at hr
      rcases hr with rfl | rfl | rfl | rfl | rfl | rfl | rfl | rfl | rfl | rfl | rfl <;> exact .str _ _ (by decide +kernel)
    | tup n xs hx h =>
      have c1 : ∀ L, mTru (mIsi "str" (mV 1)) [some (.ref 0), some (.tup xs), none] (c.ob :: L) = some (false, c.ob :: L) := fun L => tru_of (isi_of rfl rfl (by decide +kernel)) rfl
      have c2 : ∀ L, mNot (mTru (mIsi "tuple" (mV 1))) [some (.ref 0), some (.tup xs), none] (c.ob :: L) = some (false, c.ob :: L) := fun L => not_of (b := true) (tru_of (isi_of rfl rfl (by decide +kernel)) rfl)
      have c3 : ∀ L, mNot (mTru (mV 1)) [some (.ref 0), some (.tup xs), none] (c.ob :: L) = some (xs.isEmpty, c.ob :: L) := fun L => (not_of (tru_of rfl tr_tup)).trans (by simp)
      -- one of the eight
      have eight : ∀ c1 : Cu, ∃ (r : D) (c' : Cu), Sm (l + 1) (n + 1) r ∧ ∀ L, mRet (mBin fIx (mVal (mLst (mCons (mSl fSlT (mV 1) (mO1 (mC (.int 1))) mO0) (mCons (mSl fSlT (mV 1) mO0 (mO1 (mUn fNeg (mC (.int 1))))) (mCons (mBin fAdd (mV 1) (mSl fSlT (mV 1) (mO1 (mUn fNeg (mC (.int 1)))) mO0)) (mCons (mRevT (mV 1)) (mCons (mVal (mListOf (mV 1))) (mCons (mBin fAdd (mV 1) (mTup (mCons (mC (.int 0)) mNil))) (mCons (mTup mNil) (mCons (mTup (mCons (mC (.int 1)) (mCons (mC (.int 0)) mNil))) mNil)))))))))) (mCall TK (mCons (mV 0) (mCons (mC (.int 8)) mNil)))) [some (.ref 0), some (.tup xs), none] (c1.ob :: L) = some (.rt r, c'.ob :: L) := by
        intro c1
        obtain ⟨q, c', g1, g2, g3⟩ := tk (e := [some (.ref 0), some (.tup xs), none]) c1 8 (by decide) (by decide) rfl
        have sl : ∀ {lo hi : Option Int} {ml mh : MO} {L : Store}, ml [some (.ref 0), some (.tup xs), none] (c1.ob :: L) = some (lo, c1.ob :: L) → mh [some (.ref 0), some (.tup xs), none] (c1.ob :: L) = some (hi, c1.ob :: L) → mSl fSlT (mV 1) ml mh [some (.ref 0), some (.tup xs), none] (c1.ob :: L) = some (.tup (cutD xs lo hi), c1.ob :: L) := by
          intro lo hi ml mh L h1 h2
          rw [r_Sl]
          show Option.bind (some (D.tup xs, c1.ob :: L)) _ = _
          simp only [Option.bind_some]; rw [h1]; simp only [Option.bind_some]; rw [h2]; rfl
        obtain ⟨r, hr, hx2⟩ := pick (ds := [.tup (cutD xs (some 1) none), .tup (cutD xs none (some (-1))), .tup (xs ++ cutD xs (some (-1)) none), .tup xs.reverse, .lst xs, .tup (xs ++ [.int 0]), .tup [], .tup [.int 1, .int 0]]) (k := q) ⟨g1, g2⟩
        have hcl : (cutD xs (some (-1)) none).length ≤ 1 := by
          unfold cutD HT.sIx
          rw [List.length_take, List.length_drop]
          simp only [Int.reduceNeg, Int.reduceLT, if_true]
          omega
        refine ⟨r, c', ?_, fun L => ret_of (bin_of (lst_of (cons_of (sl rfl rfl) (cons_of (sl rfl rfl) (cons_of (bin_of rfl (sl rfl rfl) (add_TD (by have := (cut_mem (xs := xs) (lo := some (-1)) (hi := none)).2; show _ ≤ 16777216; omega))) (cons_of (d := .tup xs.reverse) (S1 := c1.ob :: L) rfl (cons_of (d := .lst xs) (S1 := c1.ob :: L) rfl (cons_of (bin_of rfl (tup_of (one_of rfl) (by decide)) (add_TD (by show xs.length + 1 ≤ 16777216; omega))) (cons_of (tup_of nil_of (by decide)) (one_of (tup_of (cons_of rfl (one_of rfl)) (by decide)))))))))) (by simp only [List.length_cons, List.length_nil]; decide)) (g3 L) (by rw [DV.ix_lst, hx2]; rfl))⟩
        simp only [List.mem_cons, List.not_mem_nil, or_false] at hr
        rcases hr with rfl | rfl | rfl | rfl | rfl | rfl | rfl | rfl
        · exact .tup _ _ (by have := (cut_mem (xs := xs) (lo := some 1) (hi := none)).2; omega) fun d hd => (h d (cut_mem.1 d hd)).mono (by omega)
        · exact .tup _ _ (by have := (cut_mem (xs := xs) (lo := none) (hi := some (-1))).2; omega) fun d hd => (h d (cut_mem.1 d hd)).mono (by omega)
        · refine .tup _ _ (by rw [List.length_append]; omega) fun d hd => ?_
          rcases List.mem_append.mp hd with hd | hd
          · exact (h d hd).mono (by omega)
          · exact (h d (cut_mem.1 d hd)).mono (by omega)
        · exact .tup _ _ (by rw [List.length_reverse]; omega) fun d hd => (h d (by simpa using hd)).mono (by omega)
        · exact .lst _ _ (by omega) fun d hd => (h d hd).mono (by omega)
        · refine .tup _ _ (by rw [List.length_append]; simp only [List.length_cons, List.length_nil]; omega) fun d hd => ?_
          rcases List.mem_append.mp hd with hd | hd
          · exact (h d hd).mono (by omega)
          · simp only [List.mem_cons, List.not_mem_nil, or_false] at hd; subst hd; exact .int _ _ (by decide)
        · exact .tup _ _ (by simp) fun d hd => by simp at hd
        · refine .tup _ _ (by simp only [List.length_cons, List.length_nil]; omega) fun d hd => ?_
          simp only [List.mem_cons, List.not_mem_nil, or_false] at hd
          rcases hd with rfl | rfl <;> exact .int _ _ (by decide)
      cases hxs : xs with
      | nil =>
        subst hxs
        obtain ⟨r, c', g1, g2⟩ := eight c
        exact ⟨r, c', g1, fun L => fn_rt rfl (seq_nx (ifs_of (b := false) (c1 L) rfl) (seq_nx (ifs_of (b := false) (c2 L) rfl) (seq_rt (ifs_of (b := true) (or_of (x := true) (c3 L) rfl) (g2 L))))) rfl⟩
      | cons x0 xr =>
        have he : xs.isEmpty = false := by rw [hxs]; rfl
        rw [← hxs]
        obtain ⟨q, c', g1, g2, g3⟩ := tk (e := [some (.ref 0), some (.tup xs), none]) c 5 (by decide) (by decide) rfl
        have c4 : ∀ L, mOr (mNot (mTru (mV 1))) (mTV (mBin fEq (mCall TK (mCons (mV 0) (mCons (mC (.int 5)) mNil))) (mC (.int 0)))) [some (.ref 0), some (.tup xs), none] (c.ob :: L) = some (q == 0, c'.ob :: L) := fun L =>
          or_of (x := false) ((c3 L).trans (by rw [he])) (tv_of (bin_of (g3 L) rfl (eq_of (r := (q == 0)) (by simp) (by simp) (by rw [rt_int, rt_int, deq_int]))))
        by_cases hq : (q == 0) = true
        · obtain ⟨r, c'', g4, g5⟩ := eight c'
          exact ⟨r, c'', g4, fun L => fn_rt rfl (seq_nx (ifs_of (b := false) (c1 L) rfl) (seq_nx (ifs_of (b := false) (c2 L) rfl) (seq_rt (ifs_of (b := true) ((c4 L).trans (by rw [hq])) (g5 L))))) rfl⟩
        · have hlen : 0 < xs.length := by rw [hxs]; simp
          obtain ⟨p, c2', p1, p2, p3⟩ := hT c' (xs.length : Int) (by omega) (by omega)
          obtain ⟨pn, rfl⟩ := Int.eq_ofNat_of_zero_le p1
          have hpn : pn < xs.length := by omega
          obtain ⟨r, c3', r1, r2⟩ := ih n xs[pn] c2' (h _ (List.getElem_mem hpn)) (by omega)
          refine ⟨.tup (cutD xs none (some (pn : Int)) ++ [r] ++ cutD xs (some ((pn : Int) + 1)) none), c3', ?_, fun L => fn_rt rfl (seq_nx (ifs_of (b := false) (c1 L) rfl) (seq_nx (ifs_of (b := false) (c2 L) rfl) (seq_nx (ifs_of (b := false) ((c4 L).trans (by rw [eq_false_of_ne_true hq])) rfl) (seq_nx (asg_of (call_of (cons_of rfl (one_of (cb_of (one_of rfl) rfl))) (p3 L))) (ret_of (bin_of (bin_of (sl_P rfl rfl rfl rfl) (tup_of (one_of (call_of (cons_of rfl (one_of (bin_of rfl rfl (by rw [DV.ix_tup, atI_of hpn]; rfl)))) (r2 L))) (by show 1 ≤ 16777216; decide)) (add_TD ?_)) (sl_P rfl (o1_of (bin_of rfl rfl r_add)) rfl rfl) (add_TD ?_))))))) rfl⟩
          · refine .tup _ _ ?_ fun d hd => ?_
            · have e1 := (cut_mem (xs := xs) (lo := none) (hi := some (pn : Int))).2
              have e3 : (cutD xs none (some (pn : Int))).length ≤ pn := by
                unfold cutD HT.sIx
                rw [List.length_take]
                simp only [show ¬ ((pn : Int) < 0) by omega, if_false, Int.toNat_natCast]
                omega
              have e4 : (cutD xs (some ((pn : Int) + 1)) none).length ≤ xs.length - (pn + 1) := by
                unfold cutD HT.sIx
                rw [List.length_take, List.length_drop]
                simp only [show ¬ ((pn : Int) + 1 < 0) by omega, if_false]
                omega
              rw [List.length_append, List.length_append]
              simp only [List.length_cons, List.length_nil]
              omega
            · rcases List.mem_append.mp hd with hd | hd
              · rcases List.mem_append.mp hd with hd | hd
                · exact (h d (cut_mem.1 d hd)).mono (by omega)
                · simp only [List.mem_cons, List.not_mem_nil, or_false] at hd; subst hd; exact r1
              · exact (h d (cut_mem.1 d hd)).mono (by omega)
          · have e1 := (cut_mem (xs := xs) (lo := none) (hi := some (pn : Int))).2
            simp only [List.length_cons, List.length_nil]
            show _ ≤ 16777216
            omega
          · have e1 := (cut_mem (xs := xs) (lo := none) (hi := some (pn : Int))).2
            have e2 := (cut_mem (xs := xs) (lo := some ((pn : Int) + 1)) (hi := none)).2
            rw [List.length_append]
            simp only [List.length_cons, List.length_nil]
            show _ ≤ 16777216
            omega
end
def BentOk (B : Fn) : Prop := ∀ (c : Cu) (v : D) (t : Int), Sm 1000 8 v → ∃ (r : AV) (c' : Cu), ∀ L, B [.ref 0, v, .int t] (c.ob :: L) = some (eA r, c'.ob :: L)
theorem bent_ok {TK : Fn} (hT : TakeOk TK) : BentOk (fnM 4 3 .keep (bentT TK (spoiltR TK 16))) := by
  intro c v t hv
  obtain ⟨q, c1, g1, g2, g3⟩ := hT c 2 (by decide) (by decide)
  have hI : I64 (if (fun i j : Int => decide (j < i)) t 0 = true then 1 else 0) := by
    by_cases ht : 0 < t
    · rw [if_pos (decide_eq_true ht)]; decide
    · rw [if_neg (by simp; omega)]; decide
  have hb : ∀ L, mBin fMul (mCB fInt (mCons (mBin fGtD (mV 2) (mC (.int 0))) mNil)) (mBin fAdd (mC (.int 1)) (mCall TK (mCons (mV 0) (mCons (mC (.int 2)) mNil)))) [some (.ref 0), some v, some (.int t), none] (c.ob :: L) = some (.int ((if decide (0 < t) then 1 else 0) * (1 + q)), c1.ob :: L) := fun L =>
    bin_of (int_B (bin_of rfl rfl rfl)) (bin_of rfl (call_of (cons_of rfl (one_of rfl)) (g3 L)) r_add) (mul_of (.inl hI))
  -- how often
  have many : ∀ (z : Nat) (k : Nat) (l : Nat) (c : Cu) (v : D) (x : Option D), l + z ≤ 1002 → 2 ≤ l + 1 → Sm l 8 v → ∃ (r : D) (c' : Cu) (x' : Option D), Sm (l + z) 8 r ∧ ∀ L, forL (Tg.nm 3).f (mAsg (mCall (spoiltR TK 16) (mCons (mV 0) (mCons (mV 1) mNil))) (.nm 1)) ((List.range' k z).map fun (i : Nat) => D.int (0 + (i : Int))) [some (.ref 0), some v, some (.int t), x] (c.ob :: L) = some (.nx [some (.ref 0), some r, some (.int t), x'], c'.ob :: L) := by
    intro z
    induction z with
    | zero => intro k l c v x _ _ hv; exact ⟨v, c, x, hv, fun L => rfl⟩
    | succ z ih =>
      intro k l c v x hl h2 hv
      obtain ⟨r, c2, r1, r2⟩ := spoilt_ok hT h2 (by omega) 16 8 v c hv (by decide)
      obtain ⟨r', c3, x', r3, r4⟩ := ih (k + 1) (l + 1) c2 r (some (.int (0 + (k : Int)))) (by omega) (by omega) r1
      refine ⟨r', c3, x', r3.mono (by omega), fun L => ?_⟩
      rw [List.range'_succ, List.map_cons]
      have e1 : (Tg.nm 3).f (.int (0 + (k : Int))) [some (.ref 0), some v, some (.int t), x] = some [some (.ref 0), some v, some (.int t), some (.int (0 + (k : Int)))] := rfl
      have e2 : mAsg (mCall (spoiltR TK 16) (mCons (mV 0) (mCons (mV 1) mNil))) (.nm 1) [some (.ref 0), some v, some (.int t), some (.int (0 + (k : Int)))] (c.ob :: L) = some (.nx [some (.ref 0), some r, some (.int t), some (.int (0 + (k : Int)))], c2.ob :: L) := asg_of (call_of (cons_of rfl (one_of rfl)) (r2 L))
      simp only [forL]
      rw [e1]; simp only [Option.bind_some]; rw [e2]
      exact r4 L
  have hz : ∃ z : Nat, z ≤ 2 ∧ ((if decide (0 < t) then 1 else 0) * (1 + q) : Int) = (z : Int) := by
    by_cases ht : 0 < t
    · rw [decide_eq_true ht]; exact ⟨(1 + q).toNat, by omega, by simp; omega⟩
    · rw [decide_eq_false ht]; exact ⟨0, by omega, by simp⟩
  obtain ⟨z, hz2, hze⟩ := hz
  obtain ⟨r, c', x', r1, r2⟩ := many z 0 1000 c1 v none (by omega) (by omega) hv
  have hr : D.av 9 r = true := av_mono 8 9 (by omega) _ (r1.av (by omega))
  refine ⟨⟨r, hr⟩, c', fun L => fn_rt rfl (seq_nx (e1 := [some (.ref 0), some r, some (.int t), x']) (S1 := c'.ob :: L) (for_of (rg1_b (one_of ((hb L).trans (by rw [hze]))) (i62 (n := z) (by omega)).2) ?_) (ret_of rfl)) rfl⟩
  · have e : rngL 0 (z : Int) = (List.range' 0 z).map fun (i : Nat) => D.int (0 + (i : Int)) := by
      rw [rngL_ab, List.range_eq_range']; simp
    rw [e]; exact r2 L
open Classical in
noncomputable def bentG (B : Fn) (c : Cu) (v : AV) (t : Int) : AV × Cu := if h : ∃ p : AV × Cu, ∀ L, B [.ref 0, v.1, .int t] (c.ob :: L) = some (eA p.1, p.2.ob :: L) then h.choose else (v, c)
theorem bentG_ok {B : Fn} (h : BentOk B) {c : Cu} {v : AV} {t : Int} (hv : Sm 1000 8 v.1) (L : Store) : B [.ref 0, v.1, .int t] (c.ob :: L) = some (eA (bentG B c v t).1, (bentG B c v t).2.ob :: L) := by
  obtain ⟨r, c', h3⟩ := h c v.1 t hv
  have hx : ∃ p : AV × Cu, ∀ L, B [.ref 0, v.1, .int t] (c.ob :: L) = some (eA p.1, p.2.ob :: L) := ⟨(r, c'), h3⟩
  unfold bentG
  rw [dif_pos hx]
  exact hx.choose_spec L
end DV

/-! DVz: the greatest common divisor, and fractions as Lean's own. -/
namespace DV
open PySem PySem.Spec PyProof.Rows L2
theorem absZ_eq (a : Int) : absZ a = (a.natAbs : Int) := by unfold absZ; split <;> omega
theorem gcd_step (a b : Int) : Int.gcd b (a % b) = Int.gcd a b := by
  have e : a % b = a - b * (a / b) := by have := Int.mul_ediv_add_emod a b; omega
  rw [e, Int.gcd_sub_mul_left_right, Int.gcd_comm]
theorem gcd_zero_nat (a : Int) : Int.gcd a 0 = a.natAbs := by simp
abbrev euC : Int × Int → Bool := fun t1 => !decide (t1.2 = 0)
abbrev euS {R : Type} : Int × Int → Lo (Int × Int) R := fun t1 => .nx (t1.2, t1.1 % t1.2)
abbrev euF : Int × Int → Lo (Int × Int) Int := fun t1 => bif decide (t1.2 = 0) then .rt (absZ t1.1) else .nx (t1.2, t1.1 % t1.2)
theorem euC_eq (a b : Int) : euC (a, b) = !decide (b = 0) := rfl
theorem euF_z (a : Int) : euF (a, 0) = .rt (absZ a) := rfl
theorem euF_n {a b : Int} (h : b ≠ 0) : euF (a, b) = .nx (b, a % b) := by show (bif decide (b = 0) then _ else _) = _; rw [decide_eq_false h]; rfl
theorem forP_nx {α T R : Type} {step : T → α → Lo T R} {t t' : T} {x : α} {xs : List α} (h : step t x = .nx t') : forP step t (x :: xs) = forP step t' xs := by simp only [forP, h]
theorem forP_rt {α T R : Type} {step : T → α → Lo T R} {t : T} {r : R} {x : α} {xs : List α} (h : step t x = .rt r) : forP step t (x :: xs) = .rt r := by simp only [forP, h]
theorem okFor_nx {α T R : Type} {ok : T → α → Prop} {step : T → α → Lo T R} {t t' : T} {x : α} {xs : List α} (h : step t x = .nx t') (h1 : ok t x) (h2 : okFor ok step t' xs) : okFor ok step t (x :: xs) := ⟨h1, by rw [h]; exact h2⟩
theorem okFor_rt {α T R : Type} {ok : T → α → Prop} {step : T → α → Lo T R} {t : T} {r : R} {x : α} {xs : List α} (h : step t x = .rt r) (h1 : ok t x) : okFor ok step t (x :: xs) := ⟨h1, by rw [h]; trivial⟩
theorem half_lt {b r : Int} {k : Nat} (h : b < 2 ^ (k + 1)) (hr : 0 < r) (hb : r < b) : 0 ≤ b % r ∧ b % r < 2 ^ k := by
  have h1 := Int.emod_nonneg b (b := r) (by omega)
  have h2 := Int.emod_lt_of_pos b hr
  have h3 : b % r ≤ b - r := by
    have := Int.mul_ediv_add_emod b r
    have h4 : 1 ≤ b / r := Int.le_ediv_of_mul_le hr (by omega)
    have h5 : r * 1 ≤ r * (b / r) := Int.mul_le_mul_of_nonneg_left h4 (by omega)
    omega
  rw [Int.pow_succ] at h
  omega
theorem eu_while {R : Type} : ∀ (k n : Nat) (a b : Int), 0 ≤ b → b < 2 ^ k → 2 * k + 1 ≤ n → ∃ g : Int, whileP (R := R) euC euS n (a, b) = .nx (g, 0) ∧ g.natAbs = Int.gcd a b ∧ (0 < b → 0 < g) ∧ (b = 0 → g = a) ∧ okWhile (R := R) (fun _ => True) (fun t1 => 0 < t1.2) euC euS n (a, b)
  | k, n + 1, a, b, h0, hb, hn => by
    by_cases hz : b = 0
    · subst hz
      refine ⟨a, ?_, by simp, fun h => by omega, fun _ => rfl, trivial, fun h => by simp at h⟩
      simp [whileP]
    · match k, hb with
      | 0, hb => simp at hb; omega
      | k + 1, hb =>
        have hp : 0 < b := by omega
        have r0 := Int.emod_nonneg a (b := b) hz
        have r1 := Int.emod_lt_of_pos a hp
        by_cases hr : a % b = 0
        · match n, hn with
          | n + 1, hn =>
            refine ⟨b, ?_, ?_, fun _ => hp, fun h => absurd h hz, trivial, fun _ => ⟨hp, ?_⟩⟩
            · simp [whileP, hz, hr]
            · rw [← gcd_step, hr, gcd_zero_nat]
            · show okWhile _ _ euC euS (n + 1) (b, a % b)
              rw [hr]
              exact ⟨trivial, fun h => by simp at h⟩
        · match n, hn with
          | n + 1, hn =>
            obtain ⟨s0, s1⟩ := half_lt hb (by omega : 0 < a % b) r1
            obtain ⟨g, g1, g2, g3, g4, g5⟩ := eu_while (R := R) k n (a % b) (b % (a % b)) s0 s1 (by omega)
            refine ⟨g, ?_, ?_, fun _ => ?_, fun h => absurd h hz, trivial, fun _ => ⟨hp, trivial, fun _ => ⟨by show 0 < a % b; omega, g5⟩⟩⟩
            · have c1 : euC (a, b) = true := by simp [euC_eq, hz]
              have c2 : euC (b, a % b) = true := by simp [euC_eq, hr]
              simp only [whileP, c1, c2, cond_true]
              exact g1
            · rw [g2, gcd_step, gcd_step]
            · by_cases h : b % (a % b) = 0
              · rw [g4 h]; omega
              · exact g3 (by omega)
theorem eu_for : ∀ (k : Nat) (xs : List Int) (a b : Int), 0 ≤ b → b < 2 ^ k → 2 * k + 1 ≤ xs.length → forP (fun t1 (_ : Int) => euF t1) (a, b) xs = .rt (Int.gcd a b : Int) ∧ okFor (fun (t1 : Int × Int) (_ : Int) => decide (t1.2 = 0) = false → 0 < t1.2) (fun t1 (_ : Int) => euF t1) (a, b) xs
  | k, x :: xs, a, b, h0, hb, hn => by
    by_cases hz : b = 0
    · subst hz
      exact ⟨by rw [forP_rt (euF_z a), gcd_zero_nat, absZ_eq], okFor_rt (euF_z a) fun h => by simp at h⟩
    · match k, hb with
      | 0, hb => simp at hb; omega
      | k + 1, hb =>
        have hp : 0 < b := by omega
        have r0 := Int.emod_nonneg a (b := b) hz
        have r1 := Int.emod_lt_of_pos a hp
        have e1 : euF (a, b) = .nx (b, a % b) := euF_n hz
        simp only [List.length_cons] at hn
        by_cases hr : a % b = 0
        · match xs, hn with
          | y :: ys, hn =>
            have e2 : euF (b, a % b) = .rt (absZ b) := by rw [hr]; rfl
            exact ⟨by rw [forP_nx e1, forP_rt e2, ← gcd_step, hr, gcd_zero_nat, absZ_eq], okFor_nx e1 (fun _ => hp) (okFor_rt e2 fun h => by simp [hr] at h)⟩
        · match xs, hn with
          | y :: ys, hn =>
            simp only [List.length_cons] at hn
            have e2 : euF (b, a % b) = .nx (a % b, b % (a % b)) := euF_n hr
            obtain ⟨s0, s1⟩ := half_lt hb (by omega : 0 < a % b) r1
            obtain ⟨g1, g2⟩ := eu_for k ys (a % b) (b % (a % b)) s0 s1 (by omega)
            exact ⟨by rw [forP_nx e1, forP_nx e2, g1, gcd_step, gcd_step], okFor_nx e1 (fun _ => hp) (okFor_nx e2 (fun _ => by show 0 < a % b; omega) g2)⟩
theorem pow8 {b : Int} (h : b.natAbs < BIG) : b < 2 ^ 8000 := by
  rw [BIG_eq] at h
  have h2 : ((b.natAbs : Nat) : Int) < ((2 ^ 8000 : Nat) : Int) := Int.ofNat_lt.mpr h
  rw [Int.natCast_pow] at h2
  have : b ≤ (b.natAbs : Int) := by omega
  exact Int.lt_of_le_of_lt this h2
/-- the program's common divisor -/
theorem cd_eq {R : Type} {a b : Int} (hb : b.natAbs < BIG) (h : a ≠ 0 ∨ b ≠ 0) : whileP (R := R) euC euS 1000000 (absZ a, absZ b) = .nx ((Int.gcd a b : Int), 0) ∧ okWhile (R := R) (fun _ => True) (fun t1 => 0 < t1.2) euC euS 1000000 (absZ a, absZ b) := by
  have h1 := absZ_eq a
  have h2 := absZ_eq b
  have hg : Int.gcd (absZ a) (absZ b) = Int.gcd a b := by rw [h1, h2]; simp [Int.gcd]
  obtain ⟨g, g1, g2, g3, g4, g5⟩ := eu_while (R := R) 8000 1000000 (absZ a) (absZ b) (by omega) (pow8 (by rw [h2]; simpa using hb)) (by decide)
  have : g = (Int.gcd a b : Int) := by
    rw [hg] at g2
    by_cases hz : absZ b = 0
    · have := g4 hz; omega
    · have := g3 (by omega); omega
  subst this
  exact ⟨g1, g5⟩
/-- the laws' divisor -/
theorem ld_eq {a b : Int} (hb : b.natAbs < BIG) (h0 : 0 ≤ b) : forP (fun t1 (_ : Int) => euF t1) (a, b) (rngZ 0 20000) = .rt (Int.gcd a b : Int) ∧ okFor (fun (t1 : Int × Int) (_ : Int) => decide (t1.2 = 0) = false → 0 < t1.2) (fun t1 (_ : Int) => euF t1) (a, b) (rngZ 0 20000) :=
  eu_for 8000 (rngZ 0 20000) a b h0 (pow8 hb) (by unfold rngZ; rw [List.length_map, List.length_range]; decide)
/-! ### fractions -/
def ofQ (q : Rat) : Int × Int := (q.num, (q.den : Int))
def toQ (p : Int × Int) : Rat := Rat.divInt p.1 p.2
structure IsQ (p : Int × Int) : Prop where
  pos : 0 < p.2
  one : Int.gcd p.1 p.2 = 1
theorem ofQ_ok (q : Rat) : IsQ (ofQ q) := ⟨by have := q.den_pos; show 0 < (q.den : Int); omega, by
  show Int.gcd q.num (q.den : Int) = 1
  have := q.reduced
  simpa [Int.gcd] using this⟩
theorem ofQ_toQ {p : Int × Int} (h : IsQ p) : ofQ (toQ p) = p := by
  obtain ⟨a, b⟩ := p
  obtain ⟨h1, h2⟩ := h
  simp only at h1 h2
  unfold ofQ toQ
  simp only [Rat.num_divInt, Rat.den_divInt]
  rw [Int.gcd_comm, h2, Int.sign_eq_one_of_pos h1, if_neg (by omega)]
  simp
  omega
theorem toQ_ofQ (q : Rat) : toQ (ofQ q) = q := by unfold toQ ofQ; simp
theorem ofQ_inj {p q : Rat} : ofQ p = ofQ q ↔ p = q := ⟨fun h => by rw [← toQ_ofQ p, h, toQ_ofQ], fun h => by rw [h]⟩
theorem ofQ_int (i : Int) : ofQ (i : Rat) = (i, 1) := by unfold ofQ; simp
theorem ofQ_divInt {a b : Int} (hb : 0 < b) : ofQ (Rat.divInt a b) = (a / (Int.gcd a b : Int), b / (Int.gcd a b : Int)) := by
  unfold ofQ
  rw [Rat.num_divInt, Rat.den_divInt, if_neg (by omega), Int.sign_eq_one_of_pos hb, Int.one_mul, Int.gcd_comm, Int.natCast_ediv]
  congr 2
  omega
theorem den_pos (q : Rat) : (0 : Int) < (q.den : Int) := by have := q.den_pos; omega
theorem add_eq (p q : Rat) : Rat.divInt (p.num * q.den + q.num * p.den) (p.den * q.den) = p + q := by
  have := Rat.divInt_add_divInt p.num q.num (d₁ := p.den) (d₂ := q.den) (by have := den_pos p; omega) (by have := den_pos q; omega)
  rw [Rat.num_divInt_den, Rat.num_divInt_den] at this
  exact this.symm
theorem mul_eq (p q : Rat) : Rat.divInt (p.num * q.num) (p.den * q.den) = p * q := by
  have := Rat.divInt_mul_divInt p.num q.num (d₁ := p.den) (d₂ := q.den)
  rw [Rat.num_divInt_den, Rat.num_divInt_den] at this
  exact this.symm
theorem pdens (p q : Rat) : 0 < (p.den : Int) * (q.den : Int) := Int.mul_pos (den_pos p) (den_pos q)
/-- how many bits -/
structure QB (n : Nat) (q : Rat) : Prop where
  num : q.num.natAbs < 2 ^ n
  den : q.den < 2 ^ n
theorem pow_mono {m n : Nat} (h : m ≤ n) : 2 ^ m ≤ 2 ^ n := Nat.pow_le_pow_right (by decide) h
theorem QB.mono {m n : Nat} {q : Rat} (h : QB m q) (hm : m ≤ n) : QB n q := ⟨Nat.lt_of_lt_of_le h.num (pow_mono hm), Nat.lt_of_lt_of_le h.den (pow_mono hm)⟩
theorem divInt_num_le {a b : Int} (hb : 0 < b) : (Rat.divInt a b).num.natAbs ≤ a.natAbs := by
  rw [Rat.num_divInt, Int.sign_eq_one_of_pos hb, Int.one_mul]
  exact Int.natAbs_ediv_le_natAbs _ _
theorem divInt_den_le {a b : Int} (hb : 0 < b) : (Rat.divInt a b).den ≤ b.natAbs := by
  rw [Rat.den_divInt, if_neg (by omega)]
  exact Nat.div_le_self _ _
theorem mul_bits {a b m n : Nat} (h1 : a < 2 ^ m) (h2 : b < 2 ^ n) : a * b < 2 ^ (m + n) := by
  rw [Nat.pow_add]
  by_cases h0 : a = 0
  · subst h0; rw [Nat.zero_mul]; exact Nat.mul_pos (Nat.pow_pos (by decide)) (Nat.pow_pos (by decide))
  · exact Nat.lt_of_lt_of_le (Nat.mul_lt_mul_of_pos_left h2 (by omega)) (Nat.mul_le_mul_right _ (Nat.le_of_lt h1))
theorem add_bits {a b m : Nat} (h1 : a < 2 ^ m) (h2 : b < 2 ^ m) : a + b < 2 ^ (m + 1) := by rw [Nat.pow_succ]; omega
theorem sum_bits {p q : Rat} {m n : Nat} (h : QB m p) (h2 : QB n q) : (p.num * q.den + q.num * p.den).natAbs < 2 ^ (m + n + 1) ∧ ((p.den : Int) * q.den).natAbs < 2 ^ (m + n) := by
  refine ⟨Nat.lt_of_le_of_lt (Int.natAbs_add_le _ _) (add_bits ?_ ?_), ?_⟩
  · rw [Int.natAbs_mul, Int.natAbs_natCast]; exact mul_bits h.num h2.den
  · rw [Int.natAbs_mul, Int.natAbs_natCast, Nat.add_comm m n]; exact mul_bits h2.num h.den
  · rw [Int.natAbs_mul, Int.natAbs_natCast, Int.natAbs_natCast]; exact mul_bits h.den h2.den
theorem QB.add {m n : Nat} {p q : Rat} (h : QB m p) (h2 : QB n q) : QB (m + n + 1) (p + q) := by
  obtain ⟨b1, b2⟩ := sum_bits h h2
  rw [← add_eq]
  exact ⟨Nat.lt_of_le_of_lt (divInt_num_le (pdens p q)) b1, Nat.lt_of_le_of_lt (divInt_den_le (pdens p q)) (Nat.lt_of_lt_of_le b2 (pow_mono (by omega)))⟩
theorem QB.mul {m n : Nat} {p q : Rat} (h : QB m p) (h2 : QB n q) : QB (m + n) (p * q) := by
  rw [← mul_eq]
  refine ⟨Nat.lt_of_le_of_lt (divInt_num_le (pdens p q)) ?_, Nat.lt_of_le_of_lt (divInt_den_le (pdens p q)) ?_⟩
  · rw [Int.natAbs_mul]; exact mul_bits h.num h2.num
  · rw [Int.natAbs_mul, Int.natAbs_natCast, Int.natAbs_natCast]; exact mul_bits h.den h2.den
theorem QB.neg {m : Nat} {p : Rat} (h : QB m p) : QB m (-p) := ⟨by rw [Rat.neg_num, Int.natAbs_neg]; exact h.num, by rw [Rat.neg_den]; exact h.den⟩
theorem QB.sub {m n : Nat} {p q : Rat} (h : QB m p) (h2 : QB n q) : QB (m + n + 1) (p - q) := by
  rw [Rat.sub_eq_add_neg]; exact h.add h2.neg
theorem QB.int {i : Int} {n : Nat} (h : i.natAbs < 2 ^ n) (h0 : 0 < n) : QB n (i : Rat) := ⟨by simpa using h, by simpa using Nat.lt_of_lt_of_le (by decide : 1 < 2 ^ 1) (pow_mono h0)⟩
theorem QB.zero : QB 1 0 := ⟨by decide, by decide⟩
theorem QB.toQ {p : Int × Int} {n : Nat} (h : IsQ p) (h1 : p.1.natAbs < 2 ^ n) (h2 : p.2.natAbs < 2 ^ n) : QB n (toQ p) := by
  have e := ofQ_toQ h
  have e1 : (DV.toQ p).num = p.1 := congrArg Prod.fst e
  have e2 : ((DV.toQ p).den : Int) = p.2 := congrArg Prod.snd e
  exact ⟨by rw [e1]; exact h1, by omega⟩
theorem big_bits {a n : Nat} (h : a < 2 ^ n) (hn : n ≤ 8000) : a < BIG := by rw [BIG_eq]; exact Nat.lt_of_lt_of_le h (pow_mono hn)
theorem mulOk_bits {a b : Int} {m n : Nat} (h1 : a.natAbs < 2 ^ m) (h2 : b.natAbs < 2 ^ n) (hm : m ≤ 8000) (hn : n ≤ 8000) : MulOk a b := .inr ⟨big_bits h1 hm, big_bits h2 hn⟩
theorem gcd_pos' {a b : Int} (h : b ≠ 0) : 0 < Int.gcd a b := Int.gcd_pos_of_ne_zero_right a h
theorem gcd_le_r {a b : Int} (h : b ≠ 0) : Int.gcd a b ≤ b.natAbs := Nat.le_of_dvd (by omega) (Nat.gcd_dvd_right _ _)
/-- a sum from the left -/
def totQ : Rat → List Rat → Rat
  | a, [] => a
  | a, q :: l => totQ (a + q) l
theorem totQ_eq : ∀ (l : List Rat) (a : Rat), totQ a l = a + l.sum
  | [], a => by simp [totQ, Rat.add_zero]
  | q :: l, a => by rw [totQ, totQ_eq l, List.sum_cons]; grind
/-- all of a row are fractions: as Lean's own -/
theorem exists_ofQ : ∀ {l : List (Int × Int)}, (∀ p ∈ l, IsQ p) → ∃ qs : List Rat, l = qs.map ofQ
  | [], _ => ⟨[], rfl⟩
  | p :: l, h => by
    obtain ⟨qs, e⟩ := exists_ofQ fun x hx => h x (List.mem_cons_of_mem _ hx)
    exact ⟨toQ p :: qs, by rw [List.map_cons, ofQ_toQ (h p (by simp)), ← e]⟩
end DV

/-! DVp: plain helpers. -/
namespace DV
open PySem PySem.Spec PyProof.Rows L2
instance decFold {α T : Type} {ok : T → α → Prop} [∀ t x, Decidable (ok t x)] {step : T → α → T} : ∀ (t : T) (xs : List α), Decidable (okFold ok step t xs)
  | _, [] => isTrue trivial
  | t, x :: xs => @instDecidableAnd _ _ _ (decFold (step t x) xs)
theorem ixZ_nat {α : Type} [Inhabited α] (xs : List α) (i : Nat) : ixZ xs (i : Int) = xs.getD i default := by
  unfold ixZ ixP; rw [if_neg (by omega)]; rfl
theorem ixZ_0 {α : Type} [Inhabited α] (xs : List α) : ixZ xs 0 = xs.getD 0 default := ixZ_nat xs 0
theorem ixZ_1 {α : Type} [Inhabited α] (xs : List α) : ixZ xs 1 = xs.getD 1 default := ixZ_nat xs 1
theorem InR_nat {α : Type} {xs : List α} {i : Nat} (h : i < xs.length) : InR xs (i : Int) := ⟨by omega, by omega⟩
theorem ixZ_nat' {α : Type} [Inhabited α] {xs : List α} {i : Nat} (h : i < xs.length) : ixZ xs (i : Int) = xs[i] := by rw [ixZ_nat]; simp [h]
theorem setZ_nat {α : Type} (xs : List α) (i : Nat) (x : α) : setZ xs (i : Int) x = xs.set i x := by
  unfold setZ ixP; rw [if_neg (by omega)]; rfl
theorem rngZ_nat (n : Nat) : rngZ 0 (n : Int) = (List.range n).map fun (i : Nat) => (i : Int) := by unfold rngZ; simp
theorem rngZ_len (n : Nat) : (rngZ 0 (n : Int)).length = n := by rw [rngZ_nat]; simp
theorem mem_rngZ {a b x : Int} : x ∈ rngZ a b ↔ a ≤ x ∧ x < b := by
  unfold rngZ
  simp only [List.mem_map, List.mem_range]
  constructor
  · rintro ⟨i, hi, rfl⟩; omega
  · rintro ⟨h1, h2⟩; exact ⟨(x - a).toNat, by omega, by omega⟩
theorem mem_rngN {n : Nat} {x : Int} : x ∈ rngZ 0 (n : Int) ↔ ∃ i : Nat, i < n ∧ x = (i : Int) := by
  rw [mem_rngZ]
  constructor
  · rintro ⟨h1, h2⟩; exact ⟨x.toNat, by omega, by omega⟩
  · rintro ⟨i, h1, rfl⟩; omega
theorem enumZ_eq {α : Type} [Inhabited α] (xs : List α) : enumZ xs = (List.range xs.length).map fun (i : Nat) => ((i : Int), xs.getD i default) := by
  unfold enumZ
  apply List.ext_getElem
  · simp
  · intro i h1 h2
    simp at h1
    simp [h1]
theorem i62_nat {n : Nat} (h : n ≤ 16777216) : I62 (n : Int) := (i62 h).2
theorem dle_int (a b : Int) : dle (.int a) (.int b) = decide (a ≤ b) := by
  have := congrFun (congrFun (PySem.W.dataLe_int (fun i : Int => i)) a) b
  have e : dle (.int a) (.int b) = PySem.W.dataLe false (fun i : Int => PyData.int i) a b := by
    unfold dle PySem.W.dataLe PySem.W.sortLe
    simp [D.py]
  rw [e, this]
theorem sortZ_int (xs : List Int) : sortZ eI xs = xs.mergeSort fun a b => decide (a ≤ b) := by
  unfold sortZ
  have : (fun a b => dle (eI a) (eI b)) = fun a b : Int => decide (a ≤ b) := by funext a b; exact dle_int a b
  rw [this]
theorem sortI_perm (xs : List Int) : (sortZ eI xs).Perm xs := by rw [sortZ_int]; exact List.mergeSort_perm _ _
theorem sortI_sorted (xs : List Int) : (sortZ eI xs).Pairwise (· ≤ ·) := by
  rw [sortZ_int]
  have := List.pairwise_mergeSort (le := fun a b : Int => decide (a ≤ b)) (fun a b c h1 h2 => by simp at *; omega) (fun a b => by simp; omega) xs
  exact this.imp fun h => by simpa using h
theorem sortI_eq {xs ys : List Int} (h : xs.Perm ys) (hs : ys.Pairwise (· ≤ ·)) : sortZ eI xs = ys :=
  List.Perm.eq_of_pairwise (le := (· ≤ ·)) (fun a b _ _ h1 h2 => by omega) (sortI_sorted xs) hs ((sortI_perm xs).trans h)
theorem sortI_ok (xs : List Int) : D.fitL 31 (xs.map eI) = true ∧ alikeB (xs.map eI) = true ∧ sortableB (xs.map eI) = true := by
  refine ⟨fitL_map fun _ _ => fit_int, ?_, ?_⟩
  · unfold alikeB
    simp only [List.all_map, List.all_eq_true]
    intro a _
    simp [notNonB, dalike, D.py, PySem.W.alike]
  · unfold sortableB
    rw [Bool.or_eq_true]
    right
    simp
theorem rng_sorted (n : Nat) : (rngZ 0 (n : Int)).Pairwise (· ≤ ·) := by
  rw [rngZ_nat, List.pairwise_map]
  exact (List.pairwise_lt_range).imp fun h => by omega
theorem deq_str_av {v : AV} {s : Sx} : deq (eA v) (eS s) = true ↔ v.1 = .str s.1 := by
  obtain ⟨d, hd⟩ := v
  cases d with
  | str x => show deq (.str x) (.str s.1) = true ↔ _; simp
  | bl b => simp [deq, D.py, PyData.eqv]
  | tup x => simp [deq, D.py, PyData.eqv]
  | lst x => simp [deq, D.py, PyData.eqv]
  | int x => simp [deq, D.py, PyData.eqv]
  | non => show deq .non (.str s.1) = true ↔ _; simp
  | ref x => simp [D.av] at hd
  | fr x => simp [D.av] at hd
  | rng x y => simp [D.av] at hd
theorem deq_lst_int (xs ys : List Int) : deq (eL eI xs) (eL eI ys) = decide (xs = ys) := by rw [deq_lst, deqL_map (fun a b => by simp; rfl)]
namespace AV
theorem isI_iff (v : AV) : (v.isInt && !v.isBl) = v.isI := by
  obtain ⟨d, hd⟩ := v
  cases d <;> rfl
/-- a row of ints -/
theorem row_ints {v : AV} (h : v.isTup = true) (hi : ∀ x ∈ v.items, x.isI = true) : v.items.map eA = (v.items.map AV.int).map eI ∧ v.1 = eT eI (v.items.map AV.int) := by
  have e : v.items.map eA = (v.items.map AV.int).map eI := by
    rw [List.map_map]
    exact List.map_congr_left fun x hx => i_eq (hi x hx)
  exact ⟨e, by rw [tup_eq h]; show D.tup _ = D.tup _; rw [e]⟩
theorem items_tup {xs : List D} {h : D.av 9 (.tup xs) = true} : (AV.items ⟨.tup xs, h⟩).map eA = xs := by rw [items_raw]; rfl
theorem sorted_ints {v : AV} (hi : ∀ x ∈ v.items, x.isI = true) : (sortZ eA v.items).map eA = (sortZ eI (v.items.map AV.int)).map eI := by
  have e : v.items.map eA = (v.items.map AV.int).map eI := by
    rw [List.map_map]
    exact List.map_congr_left fun x hx => i_eq (hi x hx)
  have e1 : ∀ {α : Type} (en : α → D) (xs : List α), (sortZ en xs).map en = (xs.map en).mergeSort dle := fun en xs => List.map_mergeSort (f := en) (r := fun a b => dle (en a) (en b)) (s := dle) (l := xs) (fun a _ b _ => rfl)
  rw [e1, e1, e]
theorem small (v : AV) (x : AV) (h : x ∈ v.items) : x.int.natAbs < 2 ^ 40 := by
  have := int_lt x
  have e : (2 : Nat) ^ 40 = 1099511627776 := by decide
  rw [e]; exact this
end AV
theorem mkA_1 {d : D} (h : D.av 9 d = true) : (mkA d).1 = d := mkA_eq h
theorem mkA_eq' {d : D} (h : D.av 9 d = true) : mkA d = ⟨d, h⟩ := Subtype.ext (mkA_eq h)
theorem sum_perm {l1 l2 : List Int} (h : l1.Perm l2) : l1.sum = l2.sum := by
  induction h with
  | nil => rfl
  | cons x _ ih => simp [ih]
  | swap x y l => simp; omega
  | trans _ _ ih1 ih2 => exact ih1.trans ih2
theorem sum_permQ {l1 l2 : List Rat} (h : l1.Perm l2) : l1.sum = l2.sum := by
  induction h with
  | nil => rfl
  | cons x _ ih => simp [ih]
  | swap x y l => simp; grind
  | trans _ _ ih1 ih2 => exact ih1.trans ih2
end DV

/-! BFm: shortest ways by rounds, and pairings that can't be bettered. -/
namespace BF
def mn (f : Nat → Int) : Nat → Int
  | 0 => 0
  | 1 => f 0
  | m + 2 => min (mn f (m + 1)) (f (m + 1))
theorem mn_le (f : Nat → Int) : ∀ (n k : Nat), k < n → mn f n ≤ f k
  | 1, k, h => by have : k = 0 := by omega
                  subst this; exact Int.le_refl _
  | m + 2, k, h => by
    have ih := mn_le f (m + 1) k
    unfold mn
    by_cases hk : k = m + 1
    · subst hk; omega
    · have := ih (by omega); omega
theorem mn_ex (f : Nat → Int) : ∀ (n : Nat), 0 < n → ∃ k, k < n ∧ mn f n = f k
  | 1, _ => ⟨0, by omega, rfl⟩
  | m + 2, _ => by
    obtain ⟨k, h1, h2⟩ := mn_ex f (m + 1) (by omega)
    unfold mn
    by_cases h : mn f (m + 1) ≤ f (m + 1)
    · exact ⟨k, by omega, by omega⟩
    · exact ⟨m + 1, by omega, by omega⟩
theorem le_mn (f : Nat → Int) (n : Nat) (x : Int) (h0 : 0 < n) (h : ∀ k, k < n → x ≤ f k) : x ≤ mn f n := by
  obtain ⟨k, h1, h2⟩ := mn_ex f n h0
  rw [h2]; exact h k h1
section
variable (n : Nat) (d : Nat → Nat → Int) (u : Nat → Int)
def P : Nat → Nat → Int
  | 0, i => u i
  | t + 1, i => mn (fun k => P t k + d i k) n
def val : List Nat → Int
  | [] => 0
  | [i] => u i
  | i :: k :: r => d i k + val (k :: r)
/-- the cost of a walk from a, along r, to z -/
def wc (a : Nat) : List Nat → Nat → Int
  | [], z => d a z
  | b :: r, z => d a b + wc b r z
theorem val_wc : ∀ (r : List Nat) (a z : Nat) (C : List Nat), val d u (a :: (r ++ z :: C)) = wc d a r z + val d u (z :: C)
  | [], a, z, C => rfl
  | b :: r, a, z, C => by
    show d a b + val d u (b :: (r ++ z :: C)) = d a b + wc d b r z + val d u (z :: C)
    rw [val_wc r b z C]; omega
variable {n d u} (hn : 0 < n) (hd : ∀ i, d i i = 0)
include hn in
theorem P_le_val : ∀ (t i : Nat) (r : List Nat), r.length ≤ t → i < n → (∀ y ∈ r, y < n) → (hd : ∀ i, d i i = 0) → P n d u t i ≤ val d u (i :: r)
  | 0, i, r, h, _, _, _ => by
    have : r = [] := List.length_eq_zero_iff.mp (by omega)
    subst this; exact Int.le_refl _
  | t + 1, i, [], _, hi, hr, hd => by
    have h1 : P n d u (t + 1) i ≤ P n d u t i + d i i := mn_le _ n i hi
    have h2 := P_le_val t i [] (by simp) hi (by simp) hd
    rw [hd] at h1; omega
  | t + 1, i, k :: r, h, hi, hr, hd => by
    have h1 : P n d u (t + 1) i ≤ P n d u t k + d i k := mn_le _ n k (hr k (by simp))
    have h2 := P_le_val t k r (by simp at h; omega) (hr k (by simp)) (fun y hy => hr y (by simp [hy])) hd
    show _ ≤ d i k + val d u (k :: r)
    omega
include hn in
theorem P_ex : ∀ (t i : Nat), i < n → ∃ r : List Nat, (∀ y ∈ r, y < n) ∧ P n d u t i = val d u (i :: r)
  | 0, i, _ => ⟨[], by simp, rfl⟩
  | t + 1, i, hi => by
    obtain ⟨k, h1, h2⟩ := mn_ex (fun k => P n d u t k + d i k) n hn
    obtain ⟨r, h3, h4⟩ := P_ex t k h1
    refine ⟨k :: r, fun y hy => ?_, ?_⟩
    · rcases List.mem_cons.mp hy with rfl | hy
      · exact h1
      · exact h3 y hy
    · show mn _ n = d i k + val d u (k :: r)
      rw [h2, h4]; omega
/-- no circle costs less than nothing -/
def NC (n : Nat) (d : Nat → Nat → Int) : Prop := ∀ (x : Nat) (B : List Nat), (x :: B).Nodup → (∀ y ∈ x :: B, y < n) → 0 ≤ wc d x B x
theorem short (h : NC n d) : ∀ (r : List Nat) (i : Nat), i < n → (∀ y ∈ r, y < n) → ∃ r' : List Nat, (i :: r').Nodup ∧ (∀ y ∈ r', y < n) ∧ val d u (i :: r') ≤ val d u (i :: r)
  | [], i, hi, _ => ⟨[], by simp, by simp, Int.le_refl _⟩
  | k :: r, i, hi, hr => by
    obtain ⟨r1, h1, h2, h3⟩ := short h r k (hr k (by simp)) fun y hy => hr y (by simp [hy])
    have hk : ∀ y ∈ k :: r1, y < n := fun y hy => by
      rcases List.mem_cons.mp hy with rfl | hy
      · exact hr _ (by simp)
      · exact h2 y hy
    by_cases hm : i ∈ k :: r1
    · obtain ⟨B, C, e⟩ := List.append_of_mem hm
      have hnd : (B ++ i :: C).Nodup := by rw [← e]; exact h1
      have hall : ∀ y ∈ B ++ i :: C, y < n := by rw [← e]; exact hk
      rw [List.nodup_append] at hnd
      obtain ⟨n1, n2, n3⟩ := hnd
      have hiB : (i :: B).Nodup := List.nodup_cons.mpr ⟨fun hb => n3 i hb i (by simp) rfl, n1⟩
      have hc := h i B hiB fun y hy => by
        rcases List.mem_cons.mp hy with rfl | hy
        · exact hi
        · exact hall y (by simp [hy])
      have e2 : val d u (i :: k :: r1) = wc d i B i + val d u (i :: C) := by rw [e, val_wc]
      have e3 : val d u (i :: k :: r1) = d i k + val d u (k :: r1) := rfl
      refine ⟨C, n2, fun y hy => hall y (by simp [hy]), ?_⟩
      show _ ≤ d i k + val d u (k :: r)
      omega
    · refine ⟨k :: r1, List.nodup_cons.mpr ⟨hm, h1⟩, hk, ?_⟩
      show d i k + val d u (k :: r1) ≤ d i k + val d u (k :: r)
      omega
theorem nodup_len {l : List Nat} (h : l.Nodup) (hl : ∀ y ∈ l, y < n) : l.length ≤ n := by
  have := List.Nodup.length_le_of_subset (l₁ := l) (l₂ := List.range n) h fun y hy => List.mem_range.mpr (hl y hy)
  simpa using this
variable (n d u) in
def D (i : Nat) : Int := P n d u (n - 1) i
include hn hd in
theorem D_le (h : NC n d) {i : Nat} (hi : i < n) {r : List Nat} (hr : ∀ y ∈ r, y < n) : D n d u i ≤ val d u (i :: r) := by
  obtain ⟨r', h1, h2, h3⟩ := short (u := u) h r i hi hr
  have := nodup_len h1 fun y hy => by
    rcases List.mem_cons.mp hy with rfl | hy
    · exact hi
    · exact h2 y hy
  exact Int.le_trans (P_le_val hn (n - 1) i r' (by simp at this; omega) hi h2 hd) h3
include hn hd in
theorem D_u (h : NC n d) {i : Nat} (hi : i < n) : D n d u i ≤ u i := D_le (r := []) hn hd h hi (by simp)
include hn hd in
theorem D_fit (h : NC n d) {i k : Nat} (hi : i < n) (hk : k < n) : D n d u i ≤ D n d u k + d i k := by
  obtain ⟨r, h1, h2⟩ := P_ex (d := d) (u := u) hn (n - 1) k hk
  have := D_le (u := u) hn hd h hi (r := k :: r) fun y hy => by
    rcases List.mem_cons.mp hy with rfl | hy
    · exact hk
    · exact h1 y hy
  have e : val d u (i :: k :: r) = d i k + val d u (k :: r) := rfl
  have e2 : D n d u k = val d u (k :: r) := h2
  omega
include hn hd in
theorem P_down (t : Nat) {i : Nat} (hi : i < n) : P n d u (t + 1) i ≤ P n d u t i := by
  have h1 : P n d u (t + 1) i ≤ P n d u t i + d i i := mn_le _ n i hi
  rw [hd] at h1; omega
include hn hd in
theorem P_downs {s t : Nat} (h : s ≤ t) {i : Nat} (hi : i < n) : P n d u t i ≤ P n d u s i := by
  induction t with
  | zero => have : s = 0 := by omega
            subst this; exact Int.le_refl _
  | succ t ih =>
    by_cases hs : s = t + 1
    · subst hs; exact Int.le_refl _
    · exact Int.le_trans (P_down hn hd t hi) (ih (by omega))
/-- one after the other is brought down -/
def upd (h : Nat → Int) (i : Nat) (x : Int) : Nat → Int := fun j => if j = i then x else h j
def round (g : (Nat → Int) → Nat → Int) (h : Nat → Int) : Nat → Nat → Int
  | 0 => h
  | m + 1 => upd (round g h m) m (g (round g h m) m)
def rounds (g : (Nat → Int) → Nat → Int) (n : Nat) (h : Nat → Int) : Nat → Nat → Int
  | 0 => h
  | t + 1 => round g (rounds g n h t) n
/-- what is put in is the least of what the others allow -/
def Good (n : Nat) (d : Nat → Nat → Int) (g : (Nat → Int) → Nat → Int) : Prop := ∀ h i, i < n → (∀ k, k < n → g h i ≤ h k + d i k) ∧ ∃ k, k < n ∧ g h i = h k + d i k
variable {g : (Nat → Int) → Nat → Int} (hg : Good n d g)
include hn hd hg in
theorem round_ge (h : NC n d) {f : Nat → Int} (hf : ∀ i, i < n → D n d u i ≤ f i) : ∀ m, m ≤ n → ∀ i, i < n → D n d u i ≤ round g f m i
  | 0, _, i, hi => hf i hi
  | m + 1, hm, i, hi => by
    have ih := round_ge h hf m (by omega)
    unfold round upd
    by_cases e : i = m
    · subst e
      rw [if_pos rfl]
      obtain ⟨k, hk, e⟩ := (hg (round g f i) i hi).2
      rw [e]
      have := D_fit (u := u) hn hd h hi hk
      have := ih k hk
      omega
    · rw [if_neg e]; exact ih i hi
include hn hd hg in
theorem round_le {t : Nat} {f : Nat → Int} (hf : ∀ i, i < n → f i ≤ P n d u t i) : ∀ m, m ≤ n → (∀ i, i < n → round g f m i ≤ P n d u t i) ∧ ∀ i, i < m → round g f m i ≤ P n d u (t + 1) i
  | 0, _ => ⟨hf, fun i hi => by omega⟩
  | m + 1, hm => by
    obtain ⟨h1, h2⟩ := round_le hf m (by omega)
    have key : g (round g f m) m ≤ P n d u (t + 1) m := by
      refine le_mn _ n _ hn fun k hk => ?_
      have := (hg (round g f m) m (by omega)).1 k hk
      have := h1 k hk
      omega
    refine ⟨fun i hi => ?_, fun i hi => ?_⟩
    · unfold round upd
      by_cases e : i = m
      · subst e; rw [if_pos rfl]; exact Int.le_trans key (P_down hn hd t hi)
      · rw [if_neg e]; exact h1 i hi
    · unfold round upd
      by_cases e : i = m
      · subst e; rw [if_pos rfl]; exact key
      · rw [if_neg e]; exact h2 i (by omega)
include hn hd hg in
theorem rounds_D (h : NC n d) {T : Nat} (hT : n - 1 ≤ T) {i : Nat} (hi : i < n) : rounds g n u T i = D n d u i := by
  have lo : ∀ t, ∀ i, i < n → D n d u i ≤ rounds g n u t i := by
    intro t
    induction t with
    | zero => exact fun i hi => D_u hn hd h hi
    | succ t ih => exact fun i hi => round_ge hn hd hg h ih n (Nat.le_refl n) i hi
  have up : ∀ t, ∀ i, i < n → rounds g n u t i ≤ P n d u t i := by
    intro t
    induction t with
    | zero => exact fun i _ => Int.le_refl _
    | succ t ih => exact fun i hi => (round_le hn hd hg ih n (Nat.le_refl n)).2 i hi
  have h1 := lo T i hi
  have h2 := up T i hi
  have h3 := P_downs (u := u) hn hd hT hi
  unfold D at *
  omega
end
/-! ### pairings -/
/-- each of a, r goes to the next, the last to z -/
def nx : Nat → List Nat → Nat → Nat → Nat
  | a, [], z, i => if i = a then z else i
  | a, b :: r, z, i => if i = a then b else nx b r z i
theorem nx_out : ∀ (r : List Nat) (a z i : Nat), i ∉ a :: r → nx a r z i = i
  | [], a, z, i, h => by simp at h; simp [nx, h]
  | b :: r, a, z, i, h => by
    simp only [List.mem_cons, not_or] at h
    unfold nx; rw [if_neg h.1]; exact nx_out r b z i (by simp [h.2.1, h.2.2])
theorem nx_on : ∀ (r : List Nat) (a z j : Nat), (a :: r).Nodup → (j ∈ r ∨ j = z) → ∃ i, i ∈ a :: r ∧ nx a r z i = j
  | [], a, z, j, _, h => by
    rcases h with h | rfl
    · simp at h
    · exact ⟨a, by simp, by simp [nx]⟩
  | b :: r, a, z, j, hnd, h => by
    have hnd2 := List.nodup_cons.mp hnd
    by_cases hj : j = b
    · subst hj; exact ⟨a, by simp, by simp [nx]⟩
    · obtain ⟨i, h1, h2⟩ := nx_on r b z j hnd2.2 (by simpa [hj] using h)
      refine ⟨i, List.mem_cons_of_mem _ h1, ?_⟩
      unfold nx; rw [if_neg fun e : i = a => hnd2.1 (e ▸ h1)]; exact h2
theorem nx_lt {n : Nat} : ∀ (r : List Nat) (a z i : Nat), (∀ y ∈ r, y < n) → z < n → i < n → nx a r z i < n
  | [], a, z, i, _, hz, hi => by unfold nx; split <;> assumption
  | b :: r, a, z, i, hr, hz, hi => by
    unfold nx; split
    · exact hr b (by simp)
    · exact nx_lt r b z i (fun y hy => hr y (by simp [hy])) hz hi
def sumN (n : Nat) (f : Nat → Int) : Int := ((List.range n).map f).sum
theorem sumN_add (n : Nat) (f g : Nat → Int) : sumN n (fun i => f i + g i) = sumN n f + sumN n g := by
  unfold sumN
  induction (List.range n) with
  | nil => rfl
  | cons x l ih => simp only [List.map_cons, List.sum_cons, ih]; omega
theorem sumN_sub (n : Nat) (f g : Nat → Int) : sumN n (fun i => f i - g i) = sumN n f - sumN n g := by
  unfold sumN
  induction (List.range n) with
  | nil => rfl
  | cons x l ih => simp only [List.map_cons, List.sum_cons, ih]; omega
theorem sumN_one {n a : Nat} (ha : a < n) (c : Int) : sumN n (fun i => if i = a then c else 0) = c := by
  unfold sumN
  have key : ∀ l : List Nat, l.Nodup → (l.map fun i => if i = a then c else 0).sum = if a ∈ l then c else 0 := by
    intro l
    induction l with
    | nil => simp
    | cons x l ih =>
      intro hnd
      obtain ⟨h1, h2⟩ := List.nodup_cons.mp hnd
      rw [List.map_cons, List.sum_cons, ih h2]
      by_cases hx : x = a
      · subst hx; simp [h1]
      · have : ¬ a = x := fun e => hx e.symm
        simp [hx, this]
  rw [key _ List.nodup_range, if_pos (by simpa using ha)]
theorem sumN_congr {n : Nat} {f g : Nat → Int} (h : ∀ i, i < n → f i = g i) : sumN n f = sumN n g := by
  unfold sumN
  rw [List.map_congr_left fun i hi => h i (by simpa using hi)]
variable {n : Nat} (w : Nat → Nat → Int) (b : Nat → Nat)
theorem sum_wc : ∀ (r : List Nat) (a z : Nat), (a :: r).Nodup → (∀ y ∈ a :: r, y < n) → sumN n (fun i => w i (b i) - w i (b (nx a r z i))) = wc (fun i k => w i (b i) - w i (b k)) a r z
  | [], a, z, _, hl => by
    rw [sumN_congr (g := fun i => if i = a then w a (b a) - w a (b z) else 0), sumN_one (hl a (by simp))]
    · rfl
    · intro i _
      unfold nx
      by_cases e : i = a
      · subst e; simp
      · simp [e]
  | c :: r, a, z, hnd, hl => by
    obtain ⟨h1, h2⟩ := List.nodup_cons.mp hnd
    have ih := sum_wc r c z h2 fun y hy => hl y (List.mem_cons_of_mem _ hy)
    rw [sumN_congr (g := fun i => (if i = a then w a (b a) - w a (b c) else 0) + (w i (b i) - w i (b (nx c r z i)))), sumN_add, sumN_one (hl a (by simp)), ih]
    · rfl
    · intro i _
      show w i (b i) - w i (b (if i = a then c else nx c r z i)) = _
      by_cases e : i = a
      · subst e
        rw [if_pos rfl, if_pos rfl, nx_out r c z i h1]; omega
      · rw [if_neg e, if_neg e]; omega
theorem perm_of_sub {α : Type} : ∀ {l1 l2 : List α}, l1.Nodup → l1 ⊆ l2 → l2.length ≤ l1.length → l1.Perm l2
  | [], l2, _, _, h => by
    have : l2 = [] := List.length_eq_zero_iff.mp (by simpa using h)
    subst this; exact .nil
  | a :: t, l2, hnd, hs, hl => by
    obtain ⟨h1, h2⟩ := List.nodup_cons.mp hnd
    obtain ⟨s, u, rfl⟩ := List.append_of_mem (hs (List.mem_cons_self ..))
    have h3 : t ⊆ s ++ u := fun y hy => by
      have := hs (List.mem_cons_of_mem _ hy)
      simp only [List.mem_append, List.mem_cons] at this ⊢
      rcases this with h | rfl | h
      · exact .inl h
      · exact absurd hy h1
      · exact .inr h
    have h4 := perm_of_sub h2 h3 (by simp at hl ⊢; omega)
    exact (h4.cons a).trans (List.perm_middle.symm)
theorem nx_perm {x : Nat} {B : List Nat} (hnd : (x :: B).Nodup) (hl : ∀ y ∈ x :: B, y < n) : ((List.range n).map (nx x B x)).Perm (List.range n) := by
  have hsub : List.range n ⊆ (List.range n).map (nx x B x) := by
    intro j hj
    rw [List.mem_map]
    by_cases h : j ∈ x :: B
    · have h2 : j ∈ B ∨ j = x := by
        rcases List.mem_cons.mp h with h | h
        · exact .inr h
        · exact .inl h
      obtain ⟨i, h3, h4⟩ := nx_on B x x j hnd h2
      exact ⟨i, List.mem_range.mpr (hl i h3), h4⟩
    · exact ⟨j, hj, nx_out B x x j h⟩
  exact (perm_of_sub List.nodup_range hsub (by simp)).symm
/-- no circle costs less than nothing where no other pairing is worth more -/
theorem nc_of_best (hb : ∀ o : Nat → Nat, ((List.range n).map o).Perm (List.range n) → sumN n (fun i => w i (b (o i))) ≤ sumN n (fun i => w i (b i))) : NC n (fun i k => w i (b i) - w i (b k)) := by
  intro x B hnd hl
  rw [← sum_wc w b B x x hnd hl, sumN_sub]
  have := hb (nx x B x) (nx_perm hnd hl)
  omega
end BF
namespace BF
/-- one value is brought to the least that the others allow -/
structure Step (n : Nat) (d : Nat → Nat → Int) (h h' : Nat → Int) (i : Nat) : Prop where
  same : ∀ j, j < n → j ≠ i → h' j = h j
  le : ∀ k, k < n → h' i ≤ h k + d i k
  ex : ∃ k, k < n ∧ h' i = h k + d i k
section
variable {n : Nat} {d : Nat → Nat → Int} {u : Nat → Int} (hn : 0 < n) (hd : ∀ i, d i i = 0)
include hn hd in
theorem chain_ge (h : NC n d) {st : Nat → Nat → Int} (hc : ∀ m, m < n → Step n d (st m) (st (m + 1)) m) (hf : ∀ i, i < n → D n d u i ≤ st 0 i) : ∀ m, m ≤ n → ∀ i, i < n → D n d u i ≤ st m i
  | 0, _, i, hi => hf i hi
  | m + 1, hm, i, hi => by
    have ih := chain_ge h hc hf m (by omega)
    have s := hc m (by omega)
    by_cases e : i = m
    · subst e
      obtain ⟨k, hk, e⟩ := s.ex
      rw [e]
      have := D_fit (u := u) hn hd h hi hk
      have := ih k hk
      omega
    · rw [s.same i hi e]; exact ih i hi
include hn hd in
theorem chain_le {t : Nat} {st : Nat → Nat → Int} (hc : ∀ m, m < n → Step n d (st m) (st (m + 1)) m) (hf : ∀ i, i < n → st 0 i ≤ P n d u t i) : ∀ m, m ≤ n → (∀ i, i < n → st m i ≤ P n d u t i) ∧ ∀ i, i < m → st m i ≤ P n d u (t + 1) i
  | 0, _ => ⟨hf, fun i hi => by omega⟩
  | m + 1, hm => by
    obtain ⟨h1, h2⟩ := chain_le hc hf m (by omega)
    have s := hc m (by omega)
    have key : st (m + 1) m ≤ P n d u (t + 1) m := by
      refine le_mn _ n _ hn fun k hk => ?_
      have := s.le k hk
      have := h1 k hk
      omega
    refine ⟨fun i hi => ?_, fun i hi => ?_⟩
    · by_cases e : i = m
      · subst e; exact Int.le_trans key (P_down hn hd t hi)
      · rw [s.same i hi e]; exact h1 i hi
    · by_cases e : i = m
      · subst e; exact key
      · rw [s.same i (by omega) e]; exact h2 i (by omega)
include hn hd in
theorem rounds_to {rs : Nat → Nat → Int} (h : NC n d) (h0 : ∀ i, i < n → rs 0 i = u i) (hs : ∀ t, ∃ st : Nat → Nat → Int, st 0 = rs t ∧ st n = rs (t + 1) ∧ ∀ m, m < n → Step n d (st m) (st (m + 1)) m) {T : Nat} (hT : n - 1 ≤ T) {i : Nat} (hi : i < n) : rs T i = D n d u i := by
  have lo : ∀ t, ∀ i, i < n → D n d u i ≤ rs t i := by
    intro t
    induction t with
    | zero => exact fun i hi => by rw [h0 i hi]; exact D_u hn hd h hi
    | succ t ih =>
      obtain ⟨st, e1, e2, hc⟩ := hs t
      rw [← e2]
      exact fun i hi => chain_ge hn hd h hc (by rw [e1]; exact ih) n (Nat.le_refl n) i hi
  have up : ∀ t, ∀ i, i < n → rs t i ≤ P n d u t i := by
    intro t
    induction t with
    | zero => exact fun i hi => by rw [h0 i hi]; exact Int.le_refl _
    | succ t ih =>
      obtain ⟨st, e1, e2, hc⟩ := hs t
      rw [← e2]
      exact fun i hi => (chain_le hn hd hc (by rw [e1]; exact ih) n (Nat.le_refl n)).2 i hi
  have h1 := lo T i hi
  have h2 := up T i hi
  have h3 := P_downs (u := u) hn hd hT hi
  unfold D at *
  omega
end
end BF
namespace DV
/-! ### orders -/
theorem foldl_const {α β : Type} (f : α → α) : ∀ (xs : List β) (a : α), xs.foldl (fun t _ => f t) a = Nat.repeat f xs.length a
  | [], a => rfl
  | x :: xs, a => by
    have key : ∀ (n : Nat) (a : α), Nat.repeat f n (f a) = f (Nat.repeat f n a) := by
      intro n
      induction n with
      | zero => exact fun _ => rfl
      | succ n ih => intro a; show f (Nat.repeat f n (f a)) = _; rw [ih]; rfl
    rw [List.foldl_cons, foldl_const f xs, key]; rfl
theorem foldl_app {α β : Type} (g : α → List β) : ∀ (xs : List α) (a : List β), xs.foldl (fun acc x => acc ++ g x) a = a ++ xs.flatMap g
  | [], a => by simp
  | x :: xs, a => by rw [List.foldl_cons, foldl_app g xs, List.flatMap_cons, List.append_assoc]
/-- one more behind each -/
def ordS (n : Int) (t : List (List Int)) : List (List Int) := t.flatMap fun x => ((rngZ 0 n).filter fun y => !decide (y ∈ x)).map fun y => x ++ [y]
theorem mem_ordS (n : Int) : ∀ (t : Nat) (x : List Int), x ∈ Nat.repeat (ordS n) t [[]] ↔ x.length = t ∧ x.Nodup ∧ ∀ y ∈ x, 0 ≤ y ∧ y < n
  | 0, x => by
    show x ∈ [[]] ↔ _
    simp only [List.mem_cons, List.not_mem_nil, or_false, List.length_eq_zero_iff]
    constructor
    · rintro rfl; simp
    · exact fun h => h.1
  | t + 1, x => by
    show x ∈ ordS n (Nat.repeat (ordS n) t [[]]) ↔ _
    unfold ordS
    simp only [List.mem_flatMap, List.mem_map, List.mem_filter, Bool.not_eq_true', decide_eq_false_iff_not]
    constructor
    · rintro ⟨a, ha, y, ⟨h1, h2⟩, rfl⟩
      obtain ⟨l, nd, hr⟩ := (mem_ordS n t a).mp ha
      refine ⟨by simp [l], ?_, fun z hz => ?_⟩
      · rw [List.nodup_append]
        exact ⟨nd, by simp, fun p hp q hq => by simp at hq; subst hq; exact fun e => h2 (e ▸ hp)⟩
      · rcases List.mem_append.mp hz with hz | hz
        · exact hr z hz
        · simp at hz; subst hz; exact mem_rngZ.mp h1
    · rintro ⟨l, nd, hr⟩
      have hne : x ≠ [] := by intro e; subst e; simp at l
      refine ⟨x.dropLast, (mem_ordS n t _).mpr ⟨by simp [l], ?_, fun y hy => hr y ((List.dropLast_sublist x).subset hy)⟩, x.getLast hne, ⟨mem_rngZ.mpr (hr _ (List.getLast_mem hne)), ?_⟩, List.dropLast_concat_getLast hne⟩
      · exact nd.sublist (List.dropLast_sublist x)
      · intro h
        rw [← List.dropLast_concat_getLast hne, List.nodup_append] at nd
        exact nd.2.2 _ h _ (by simp) rfl
theorem ord_perm {n : Nat} {x : List Int} : x ∈ Nat.repeat (ordS n) n [[]] ↔ x.Perm (rngZ 0 (n : Int)) := by
  have hnd : (rngZ 0 (n : Int)).Nodup := by
    rw [rngZ_nat]
    exact List.Pairwise.map _ (fun a b h => by omega) List.nodup_range
  rw [mem_ordS]
  constructor
  · rintro ⟨l, nd, hr⟩
    exact BF.perm_of_sub nd (fun y hy => mem_rngZ.mpr (hr y hy)) (by rw [rngZ_len, l]; exact Nat.le_refl _)
  · intro p
    exact ⟨by rw [p.length_eq, rngZ_len], p.nodup_iff.mpr hnd, fun y hy => mem_rngZ.mp (p.mem_iff.mp hy)⟩
theorem ordS_len (n : Int) (t : List (List Int)) : (ordS n t).length ≤ t.length * n.toNat := by
  unfold ordS
  induction t with
  | nil => simp
  | cons x t ih =>
    rw [List.flatMap_cons, List.length_append, List.length_map, List.length_cons, Nat.succ_mul]
    have h1 := List.length_filter_le (fun y => !decide (y ∈ x)) (rngZ 0 n)
    have h2 : (rngZ 0 n).length = n.toNat := by unfold rngZ; simp
    omega
theorem ord_len (n : Int) : ∀ t : Nat, (Nat.repeat (ordS n) t [[]]).length ≤ n.toNat ^ t
  | 0 => Nat.le_refl _
  | t + 1 => by
    have h1 := ordS_len n (Nat.repeat (ordS n) t [[]])
    have h2 := ord_len n t
    have h3 : (Nat.repeat (ordS n) t [[]]).length * n.toNat ≤ n.toNat ^ t * n.toNat := Nat.mul_le_mul_right _ h2
    rw [Nat.pow_succ]
    exact Nat.le_trans h1 h3
theorem okFold_const {α β : Type} (f : α → α) (ok : α → Prop) (I : Nat → α → Prop) (hI : ∀ k t, I k t → I (k + 1) (f t)) : ∀ (xs : List β) (a : α) (k : Nat), I k a → (∀ j t, k ≤ j → j < k + xs.length → I j t → ok t) → okFold (fun t _ => ok t) (fun t _ => f t) a xs
  | [], _, _, _, _ => trivial
  | x :: xs, a, k, h, ho => ⟨ho k a (Nat.le_refl k) (by simp) h, okFold_const f ok I hI xs (f a) (k + 1) (hI k a h) fun j t h1 h2 h3 => ho j t (by omega) (by simp at h2 ⊢; omega) h3⟩
/-- a fold keeps what each step keeps -/
theorem okFold_inv {α T : Type} {ok : T → α → Prop} {step : T → α → T} (I : T → Prop) : ∀ (xs : List α) (t : T), I t → (∀ t x, x ∈ xs → I t → ok t x ∧ I (step t x)) → okFold ok step t xs ∧ I (xs.foldl step t)
  | [], _, h, _ => ⟨trivial, h⟩
  | x :: xs, t, h, st => by
    obtain ⟨h1, h2⟩ := st t x (by simp) h
    obtain ⟨h3, h4⟩ := okFold_inv I xs (step t x) h2 fun t y hy => st t y (List.mem_cons_of_mem _ hy)
    exact ⟨⟨h1, h3⟩, h4⟩
/-- the first with the greatest worth: as a pair, and as two values -/
theorem fold_best {α : Type} [Inhabited α] (S S' : α → Int) : ∀ (os : List α) (t : Option (Int × α)), (∀ o ∈ os, S o = S' o) → (∀ p, t = some p → p.1 = S p.2) →
    (os.foldl (fun (t1 : Option α × Option Int) x => (bif (t1.1.isNone || decide (getO t1.2 < S' x)) then some x else t1.1, bif (t1.1.isNone || decide (getO t1.2 < S' x)) then some (S' x) else t1.2)) (t.map (·.2), t.map (·.1)) =
      ((os.foldl (fun t1 x => bif (t1.isNone || decide ((getO t1).1 < S x)) then some (S x, x) else t1) t).map (·.2), (os.foldl (fun t1 x => bif (t1.isNone || decide ((getO t1).1 < S x)) then some (S x, x) else t1) t).map (·.1))) ∧
    ∀ r, os.foldl (fun t1 x => bif (t1.isNone || decide ((getO t1).1 < S x)) then some (S x, x) else t1) t = r → (∀ p, r = some p → p.1 = S p.2 ∧ (t = some p ∨ p.2 ∈ os) ∧ (∀ q, t = some q → q.1 ≤ p.1) ∧ ∀ o ∈ os, S o ≤ p.1) ∧ (r = none → t = none ∧ os = [])
  | [], t, _, h => ⟨rfl, fun r e => by subst e; exact ⟨fun p e => ⟨h p e, .inl e, fun q e2 => by have e : t = some p := e; rw [e] at e2; cases e2; exact Int.le_refl _, by simp⟩, fun e => ⟨e, rfl⟩⟩⟩
  | x :: os, t, hS, h => by
    have hx := hS x (by simp)
    have step : ∃ t', (bif (t.isNone || decide ((getO t).1 < S x)) then some (S x, x) else t) = t' ∧ (∀ p, t' = some p → p.1 = S p.2) ∧ ((bif ((t.map (·.2)).isNone || decide (getO (t.map (·.1)) < S' x)) then some x else t.map (·.2), bif ((t.map (·.2)).isNone || decide (getO (t.map (·.1)) < S' x)) then some (S' x) else t.map (·.1)) = (t'.map (·.2), t'.map (·.1))) ∧
        (∃ p, t' = some p ∧ (t = some p ∨ p.2 = x) ∧ (∀ q, t = some q → q.1 ≤ p.1) ∧ S x ≤ p.1) := by
      cases t with
      | none => exact ⟨some (S x, x), by simp, by simp, by simp [hx], (S x, x), rfl, .inr rfl, by simp, Int.le_refl _⟩
      | some p =>
        by_cases hlt : p.1 < S x
        · exact ⟨some (S x, x), by simp [hlt], by simp, by rw [hx] at hlt; simp [hlt, hx], (S x, x), rfl, .inr rfl, by rintro q ⟨⟩; exact Int.le_of_lt hlt, Int.le_refl _⟩
        · exact ⟨some p, by simp [hlt], h, by rw [hx] at hlt; simp [hlt], p, rfl, .inl rfl, by rintro q ⟨⟩; exact Int.le_refl _, by omega⟩
    obtain ⟨t', e1, e2, e3, p, e4, e5, e6, e7⟩ := step
    obtain ⟨i1, i2⟩ := fold_best S S' os t' (fun o ho => hS o (by simp [ho])) e2
    refine ⟨?_, fun r e => ?_⟩
    · rw [List.foldl_cons, List.foldl_cons, e1, ← i1]
      congr 1
    · rw [List.foldl_cons, e1] at e
      obtain ⟨j1, j2⟩ := i2 r e
      refine ⟨fun q hq => ?_, fun hr => ?_⟩
      · obtain ⟨k1, k2, k3, k4⟩ := j1 q hq
        refine ⟨k1, ?_, fun z hz => ?_, fun o ho => ?_⟩
        · rcases k2 with k2 | k2
          · rw [e4] at k2; cases k2
            rcases e5 with e5 | e5
            · exact .inl e5
            · exact .inr (by simp [e5])
          · exact .inr (by simp [k2])
        · exact Int.le_trans (e6 z hz) (k3 p e4)
        · rcases List.mem_cons.mp ho with rfl | ho
          · exact Int.le_trans e7 (k3 p e4)
          · exact k4 o ho
      · have := (j2 hr).1; rw [e4] at this; cases this
end DV

/-! DVr: any values: what judges look at. -/
namespace DV
open PySem PySem.Spec PyProof.Rows L2
theorem forP_any {α R : Type} (c : α → Bool) (r : α → R) : ∀ (xs : List α), (∀ x ∈ xs, ∀ y ∈ xs, r x = r y) → ∀ r0 : R, (∀ x ∈ xs, r x = r0) → forP (fun (_ : Unit) x => bif c x then Lo.rt (r x) else .nx ()) () xs = bif xs.any c then .rt r0 else .nx ()
  | [], _, _, _ => rfl
  | x :: xs, h, r0, h0 => by
    rw [List.any_cons]
    cases hc : c x with
    | true =>
      rw [forP_rt (r := r0) (by rw [hc, h0 x (by simp)]; rfl)]; rfl
    | false =>
      rw [forP_nx (t' := ()) (by rw [hc]; rfl), forP_any c r xs (fun a ha b hb => h a (by simp [ha]) b (by simp [hb])) r0 fun a ha => h0 a (by simp [ha])]; rfl
theorem forP_bool {α R : Type} (c : α → Bool) (r0 : R) (xs : List α) : forP (fun (_ : Unit) x => bif c x then Lo.rt r0 else .nx ()) () xs = bif xs.any c then .rt r0 else .nx () :=
  forP_any c (fun _ => r0) xs (fun _ _ _ _ => rfl) r0 fun _ _ => rfl
theorem forP_congr {α T R : Type} {s1 s2 : T → α → Lo T R} : ∀ (xs : List α) (t : T), (∀ t x, x ∈ xs → s1 t x = s2 t x) → forP s1 t xs = forP s2 t xs
  | [], _, _ => rfl
  | x :: xs, t, h => by
    have e := h t x (by simp)
    simp only [forP, e]
    cases s2 t x with
    | nx t' => exact forP_congr xs t' fun t y hy => h t y (by simp [hy])
    | bk t' => rfl
    | rt r => rfl
theorem okFor_all {α T R : Type} {ok : T → α → Prop} {step : T → α → Lo T R} : ∀ (xs : List α) (t : T), (∀ t x, x ∈ xs → ok t x) → okFor ok step t xs
  | [], _, _ => trivial
  | x :: xs, t, h => ⟨h t x (by simp), by
    cases step t x with
    | nx t' => exact okFor_all xs t' fun t y hy => h t y (by simp [hy])
    | bk _ => trivial
    | rt _ => trivial⟩
theorem okFor_map {α β T R : Type} {ok : T → β → Prop} {step : T → β → Lo T R} (f : α → β) : ∀ (xs : List α) (t : T), okFor ok step t (xs.map f) ↔ okFor (fun t x => ok t (f x)) (fun t x => step t (f x)) t xs
  | [], _ => Iff.rfl
  | x :: xs, t => by
    simp only [List.map_cons, okFor]
    refine and_congr Iff.rfl ?_
    cases step t (f x) with
    | nx t' => exact okFor_map f xs t'
    | bk _ => exact Iff.rfl
    | rt _ => exact Iff.rfl
theorem forP_map {α β T R : Type} {step : T → β → Lo T R} (f : α → β) : ∀ (xs : List α) (t : T), forP step t (xs.map f) = forP (fun t x => step t (f x)) t xs
  | [], _ => rfl
  | x :: xs, t => by
    simp only [List.map_cons, forP]
    cases step t (f x) with
    | nx t' => exact forP_map f xs t'
    | bk _ => rfl
    | rt _ => rfl
namespace AV
theorem isTup_of {y : AV} {ds : List D} (h : y.1 = .tup ds) : y.isTup = true := by unfold isTup; rw [h]
theorem items_of {y : AV} {ds : List D} (h : y.1 = .tup ds) : y.items.map eA = ds := by rw [items_raw]; unfold raw; rw [h]
theorem len_of' {y : AV} {ds : List D} (h : y.1 = .tup ds) : y.items.length = ds.length := by rw [← items_of h, List.length_map]
theorem ix_of {y : AV} {ds : List D} (h : y.1 = .tup ds) {i : Nat} (hi : i < ds.length) : (ixZ y.items (i : Int)).1 = ds[i] := by
  have hl : i < y.items.length := by rw [len_of' h]; exact hi
  rw [ixZ_nat' hl]
  have := items_of h
  have e : (y.items.map eA)[i]'(by rw [List.length_map]; exact hl) = ds[i] := by simp only [this]
  rw [← e, List.getElem_map]
theorem int_of {x : AV} {i : Int} (h : x.1 = .int i) : x.isI = true ∧ x.int = i := by
  unfold isI int; rw [h]; exact ⟨rfl, rfl⟩
theorem str_of {x : AV} {s : Str} (h : x.1 = .str s) : x.isStr = true := by unfold isStr; rw [h]
/-- a tuple of so many -/
theorem tup2 {y : AV} (h : y.isTup = true) (hl : y.items.length = 2) : y.1 = .tup [(ixZ y.items 0).1, (ixZ y.items 1).1] := by
  rw [tup_eq h]
  show D.tup _ = _
  conv => lhs; rw [len2 hl]
  rfl
theorem tup3 {y : AV} (h : y.isTup = true) (hl : y.items.length = 3) : y.1 = .tup [(ixZ y.items 0).1, (ixZ y.items 1).1, (ixZ y.items 2).1] := by
  rw [tup_eq h]
  show D.tup _ = _
  conv => lhs; rw [len3 hl]
  rfl
theorem mem_ix {y : AV} {i : Nat} (h : i < y.items.length) : ixZ y.items (i : Int) ∈ y.items := by rw [ixZ_nat' h]; exact List.getElem_mem h
end AV
/-- y is a fraction -/
def QA (y : AV) (q : Rat) : Prop := y.1 = eP2 eI eI (ofQ q)
theorem QA.tup {y : AV} {q : Rat} (h : QA y q) : y.isTup = true ∧ y.items.length = 2 ∧ (ixZ y.items 0).isI = true ∧ (ixZ y.items 0).int = q.num ∧ (ixZ y.items 1).isI = true ∧ (ixZ y.items 1).int = (q.den : Int) := by
  have h0 := AV.ix_of (i := 0) h (by simp)
  have h1 := AV.ix_of (i := 1) h (by simp)
  have i0 := AV.int_of (x := ixZ y.items 0) (i := q.num) h0
  have i1 := AV.int_of (x := ixZ y.items 1) (i := (q.den : Int)) h1
  exact ⟨AV.isTup_of h, by rw [AV.len_of' h]; rfl, i0.1, i0.2, i1.1, i1.2⟩
theorem QA.dec {y : AV} {q : Rat} (h : QA y q) : ((ixZ y.items 0).int, (ixZ y.items 1).int) = ofQ q := by
  obtain ⟨_, _, _, e1, _, e2⟩ := h.tup
  rw [e1, e2]; rfl
theorem QA.bits {y : AV} {q : Rat} (h : QA y q) : QB 40 q := by
  obtain ⟨_, _, _, e1, _, e2⟩ := h.tup
  have h1 := AV.int_lt (ixZ y.items 0)
  have h2 := AV.int_lt (ixZ y.items 1)
  have e : (2 : Nat) ^ 40 = 1099511627776 := by decide
  rw [e1] at h1
  rw [e2] at h2
  exact ⟨by rw [e]; exact h1, by rw [e]; simpa using h2⟩
/-- y is a row of fractions -/
def RA (y : AV) (qs : List Rat) : Prop := y.1 = eT (eP2 eI eI) (qs.map ofQ)
theorem RA.tup {y : AV} {qs : List Rat} (h : RA y qs) : y.isTup = true ∧ y.items.length = qs.length := by
  refine ⟨AV.isTup_of h, by rw [AV.len_of' h]; simp⟩
theorem RA.at {y : AV} {qs : List Rat} (h : RA y qs) {i : Nat} (hi : i < qs.length) : QA (ixZ y.items (i : Int)) (qs.getD i 0) := by
  have := AV.ix_of (i := i) h (by simpa using hi)
  unfold QA
  rw [this, getD_eq' hi]
  simp
where getD_eq' {qs : List Rat} {i : Nat} (hi : i < qs.length) : qs.getD i 0 = qs[i] := by simp [List.getD, hi]
theorem RA.dec {y : AV} {qs : List Rat} (h : RA y qs) : (y.items.map fun z => ((ixZ z.items 0).int, (ixZ z.items 1).int)) = qs.map ofQ := by
  apply List.ext_getElem
  · simp [h.tup.2]
  · intro i h1 h2
    simp at h1 h2
    have := (h.at h2).dec
    rw [ixZ_nat' h1] at this
    simp only [List.getElem_map]
    rw [this]; simp [List.getD, h2]
theorem RA.bits {y : AV} {qs : List Rat} (h : RA y qs) : ∀ q ∈ qs, QB 40 q := by
  intro q hq
  obtain ⟨i, hi, e⟩ := List.getElem_of_mem hq
  have := (h.at hi).bits
  rw [show qs.getD i 0 = qs[i] by simp [List.getD, hi], e] at this
  exact this
/-- y is a row of ints -/
def IA (y : AV) (xs : List Int) : Prop := y.1 = eT eI xs
theorem IA.tup {y : AV} {xs : List Int} (h : IA y xs) : y.isTup = true ∧ y.items.length = xs.length := ⟨AV.isTup_of h, by rw [AV.len_of' h]; simp⟩
theorem IA.at {y : AV} {xs : List Int} (h : IA y xs) {i : Nat} (hi : i < xs.length) : (ixZ y.items (i : Int)).isI = true ∧ (ixZ y.items (i : Int)).int = xs.getD i 0 := by
  have := AV.ix_of (i := i) h (by simpa using hi)
  have e : xs.getD i 0 = xs[i] := by simp [List.getD, hi]
  rw [e]
  exact AV.int_of (by rw [this]; simp)
theorem IA.mem {y : AV} {xs : List Int} (h : IA y xs) : ∀ z ∈ y.items, z.isI = true := by
  intro z hz
  obtain ⟨i, hi, e⟩ := List.getElem_of_mem hz
  have := (h.at (i := i) (by rw [← h.tup.2]; exact hi)).1
  rw [ixZ_nat' hi, e] at this; exact this
theorem IA.dec {y : AV} {xs : List Int} (h : IA y xs) : y.items.map AV.int = xs := by
  apply List.ext_getElem
  · simp [h.tup.2]
  · intro i h1 h2
    simp at h1
    have := (h.at h2).2
    rw [ixZ_nat' h1] at this
    simp only [List.getElem_map]
    rw [this]; simp [List.getD, h2]
theorem IA_of {y : AV} (h : y.isTup = true) (hi : ∀ z ∈ y.items, z.isI = true) : IA y (y.items.map AV.int) := (AV.row_ints h hi).2
theorem all_isI (y : AV) : ((y.items.map fun x => (x.isInt && !x.isBl)).all id) = true ↔ ∀ z ∈ y.items, z.isI = true := by
  simp only [List.all_map, List.all_eq_true, Function.comp]
  exact ⟨fun h z hz => by have := h z hz; rw [← AV.isI_iff]; exact this, fun h z hz => by show (z.isInt && !z.isBl) = true; rw [AV.isI_iff]; exact h z hz⟩
/-- the pieces of a sorted row of ints -/
theorem IA.sortOk {y : AV} {xs : List Int} (h : IA y xs) : D.fitL 31 (y.items.map eA) = true ∧ alikeB (y.items.map eA) = true ∧ sortableB (y.items.map eA) = true := by
  rw [AV.items_of h]; exact sortI_ok xs
theorem IA.sorted {y : AV} {xs : List Int} (h : IA y xs) (ys : List Int) : deq (eL eA (sortZ eA y.items)) (eL eI ys) = decide (sortZ eI xs = ys) := by
  have : eL eA (sortZ eA y.items) = eL eI (sortZ eI xs) := by
    show D.lst _ = D.lst _
    rw [AV.sorted_ints h.mem, h.dec]
  rw [this, deq_lst_int]
end DV

/-! ### the text, def by def: what it means over DV's values, and that the model does the same -/
namespace K62
open PySem PySem.Spec PyProof.Rows L2 DV
def topS (i : Nat) : Stmt := PySem.Challenge.pw_shareworth_k62_rooms_and_rent.main.body.getD i (.Pass ⟨0, 0, 0, 0⟩)
abbrev s_commonDivisor : Stmt := topS 2
abbrev N_commonDivisor : List Str := ["first", "second"]
theorem sc_commonDivisor : FnScope N_commonDivisor ["first", "second"] (defScope s_commonDivisor) := ⟨rfl, rfl, rfl, by decide +kernel, rfl, by decide +kernel, by decide +kernel⟩
abbrev s_ratio : Stmt := topS 3
abbrev N_ratio : List Str := ["above", "below", "both"]
theorem sc_ratio : FnScope N_ratio ["above", "below"] (defScope s_ratio) := ⟨rfl, rfl, rfl, by decide +kernel, rfl, by decide +kernel, by decide +kernel⟩
abbrev s_plus : Stmt := topS 4
abbrev N_plus : List Str := ["first", "second"]
theorem sc_plus : FnScope N_plus ["first", "second"] (defScope s_plus) := ⟨rfl, rfl, rfl, by decide +kernel, rfl, by decide +kernel, by decide +kernel⟩
abbrev s_times : Stmt := topS 5
abbrev N_times : List Str := ["first", "second"]
theorem sc_times : FnScope N_times ["first", "second"] (defScope s_times) := ⟨rfl, rfl, rfl, by decide +kernel, rfl, by decide +kernel, by decide +kernel⟩
abbrev s_negative : Stmt := topS 6
abbrev N_negative : List Str := ["one"]
theorem sc_negative : FnScope N_negative ["one"] (defScope s_negative) := ⟨rfl, rfl, rfl, by decide +kernel, rfl, by decide +kernel, by decide +kernel⟩
abbrev s_minus : Stmt := topS 7
abbrev N_minus : List Str := ["first", "second"]
theorem sc_minus : FnScope N_minus ["first", "second"] (defScope s_minus) := ⟨rfl, rfl, rfl, by decide +kernel, rfl, by decide +kernel, by decide +kernel⟩
abbrev s_inverse : Stmt := topS 8
abbrev N_inverse : List Str := ["one"]
theorem sc_inverse : FnScope N_inverse ["one"] (defScope s_inverse) := ⟨rfl, rfl, rfl, by decide +kernel, rfl, by decide +kernel, by decide +kernel⟩
abbrev s_isLess : Stmt := topS 9
abbrev N_isLess : List Str := ["first", "second"]
theorem sc_isLess : FnScope N_isLess ["first", "second"] (defScope s_isLess) := ⟨rfl, rfl, rfl, by decide +kernel, rfl, by decide +kernel, by decide +kernel⟩
abbrev s_total : Stmt := topS 10
abbrev N_total : List Str := ["fractions", "found", "one"]
theorem sc_total : FnScope N_total ["fractions"] (defScope s_total) := ⟨rfl, rfl, rfl, by decide +kernel, rfl, by decide +kernel, by decide +kernel⟩
abbrev s_isInteger : Stmt := topS 11
abbrev N_isInteger : List Str := ["value"]
theorem sc_isInteger : FnScope N_isInteger ["value"] (defScope s_isInteger) := ⟨rfl, rfl, rfl, by decide +kernel, rfl, by decide +kernel, by decide +kernel⟩
abbrev s_isRatio : Stmt := topS 12
abbrev N_isRatio : List Str := ["value"]
theorem sc_isRatio : FnScope N_isRatio ["value"] (defScope s_isRatio) := ⟨rfl, rfl, rfl, by decide +kernel, rfl, by decide +kernel, by decide +kernel⟩
abbrev s_areRatios : Stmt := topS 14
abbrev N_areRatios : List Str := ["value", "many", "one"]
theorem sc_areRatios : FnScope N_areRatios ["value", "many"] (defScope s_areRatios) := ⟨rfl, rfl, rfl, by decide +kernel, rfl, by decide +kernel, by decide +kernel⟩
abbrev s_ordersOf : Stmt := topS 16
abbrev N_ordersOf : List Str := ["n", "found", "turn", "row", "k"]
theorem sc_ordersOf : FnScope N_ordersOf ["n"] (defScope s_ordersOf) := ⟨rfl, rfl, rfl, by decide +kernel, rfl, by decide +kernel, by decide +kernel⟩
abbrev s_bestPairing : Stmt := topS 17
abbrev N_bestPairing : List Str := ["worths", "best", "row", "one", "i", "room"]
theorem sc_bestPairing : FnScope N_bestPairing ["worths"] (defScope s_bestPairing) := ⟨rfl, rfl, rfl, by decide +kernel, rfl, by decide +kernel, by decide +kernel⟩
abbrev s_highestRents : Stmt := topS 18
abbrev N_highestRents : List Str := ["worths", "pairing", "n", "rents", "turn", "i", "room", "k"]
theorem sc_highestRents : FnScope N_highestRents ["worths", "pairing"] (defScope s_highestRents) := ⟨rfl, rfl, rfl, by decide +kernel, rfl, by decide +kernel, by decide +kernel⟩
abbrev s_leastLeft : Stmt := topS 19
abbrev N_leastLeft : List Str := ["worths", "rent", "rents", "v", "one"]
theorem sc_leastLeft : FnScope N_leastLeft ["worths", "rent"] (defScope s_leastLeft) := ⟨rfl, rfl, rfl, by decide +kernel, rfl, by decide +kernel, by decide +kernel⟩
abbrev s_rentsPaper : Stmt := topS 20
abbrev N_rentsPaper : List Str := ["worths", "rent"]
theorem sc_rentsPaper : FnScope N_rentsPaper ["worths", "rent"] (defScope s_rentsPaper) := ⟨rfl, rfl, rfl, by decide +kernel, rfl, by decide +kernel, by decide +kernel⟩
abbrev s_judgeRents : Stmt := topS 21
abbrev N_judgeRents : List Str := ["worths", "rent", "value", "n", "pairing", "rents", "i", "room", "k", "one"]
theorem sc_judgeRents : FnScope N_judgeRents ["worths", "rent", "value"] (defScope s_judgeRents) := ⟨rfl, rfl, rfl, by decide +kernel, rfl, by decide +kernel, by decide +kernel⟩
abbrev s_LStart : Stmt := topS 23
abbrev N_LStart : List Str := ["script", "cell"]
theorem sc_LStart : FnScope N_LStart ["script"] (defScope s_LStart) := ⟨rfl, rfl, rfl, by decide +kernel, rfl, by decide +kernel, by decide +kernel⟩
abbrev s_LFill : Stmt := topS 24
abbrev N_LFill : List Str := ["c", "number"]
theorem sc_LFill : FnScope N_LFill ["c"] (defScope s_LFill) := ⟨rfl, rfl, rfl, by decide +kernel, rfl, by decide +kernel, by decide +kernel⟩
abbrev s_LTake : Stmt := topS 25
abbrev N_LTake : List Str := ["c", "many", "digit"]
theorem sc_LTake : FnScope N_LTake ["c", "many"] (defScope s_LTake) := ⟨rfl, rfl, rfl, by decide +kernel, rfl, by decide +kernel, by decide +kernel⟩
abbrev s_LDivisor : Stmt := topS 26
abbrev N_LDivisor : List Str := ["a", "b", "turn"]
theorem sc_LDivisor : FnScope N_LDivisor ["a", "b"] (defScope s_LDivisor) := ⟨rfl, rfl, rfl, by decide +kernel, rfl, by decide +kernel, by decide +kernel⟩
abbrev s_LFraction : Stmt := topS 27
abbrev N_LFraction : List Str := ["n", "d", "many"]
theorem sc_LFraction : FnScope N_LFraction ["n", "d"] (defScope s_LFraction) := ⟨rfl, rfl, rfl, by decide +kernel, rfl, by decide +kernel, by decide +kernel⟩
abbrev s_LPlus : Stmt := topS 28
abbrev N_LPlus : List Str := ["a", "b"]
theorem sc_LPlus : FnScope N_LPlus ["a", "b"] (defScope s_LPlus) := ⟨rfl, rfl, rfl, by decide +kernel, rfl, by decide +kernel, by decide +kernel⟩
abbrev s_LTimes : Stmt := topS 29
abbrev N_LTimes : List Str := ["a", "b"]
theorem sc_LTimes : FnScope N_LTimes ["a", "b"] (defScope s_LTimes) := ⟨rfl, rfl, rfl, by decide +kernel, rfl, by decide +kernel, by decide +kernel⟩
abbrev s_LIsInt : Stmt := topS 34
abbrev N_LIsInt : List Str := ["value"]
theorem sc_LIsInt : FnScope N_LIsInt ["value"] (defScope s_LIsInt) := ⟨rfl, rfl, rfl, by decide +kernel, rfl, by decide +kernel, by decide +kernel⟩
abbrev s_LAlike : Stmt := topS 35
abbrev N_LAlike : List Str := ["value", "due", "k"]
theorem sc_LAlike : FnScope N_LAlike ["value", "due"] (defScope s_LAlike) := ⟨rfl, rfl, rfl, by decide +kernel, rfl, by decide +kernel, by decide +kernel⟩
abbrev s_LSpoilt : Stmt := topS 36
abbrev N_LSpoilt : List Str := ["c", "value", "k"]
theorem sc_LSpoilt : FnScope N_LSpoilt ["c", "value"] (defScope s_LSpoilt) := ⟨rfl, rfl, rfl, by decide +kernel, rfl, by decide +kernel, by decide +kernel⟩
abbrev s_LBent : Stmt := topS 37
abbrev N_LBent : List Str := ["c", "value", "turn", "k"]
theorem sc_LBent : FnScope N_LBent ["c", "value", "turn"] (defScope s_LBent) := ⟨rfl, rfl, rfl, by decide +kernel, rfl, by decide +kernel, by decide +kernel⟩
abbrev s_LMinus : Stmt := topS 38
abbrev N_LMinus : List Str := ["a", "b"]
theorem sc_LMinus : FnScope N_LMinus ["a", "b"] (defScope s_LMinus) := ⟨rfl, rfl, rfl, by decide +kernel, rfl, by decide +kernel, by decide +kernel⟩
abbrev s_LLess : Stmt := topS 39
abbrev N_LLess : List Str := ["a", "b"]
theorem sc_LLess : FnScope N_LLess ["a", "b"] (defScope s_LLess) := ⟨rfl, rfl, rfl, by decide +kernel, rfl, by decide +kernel, by decide +kernel⟩
abbrev s_LTotal : Stmt := topS 40
abbrev N_LTotal : List Str := ["row", "found", "one"]
theorem sc_LTotal : FnScope N_LTotal ["row"] (defScope s_LTotal) := ⟨rfl, rfl, rfl, by decide +kernel, rfl, by decide +kernel, by decide +kernel⟩
abbrev s_LIsFraction : Stmt := topS 41
abbrev N_LIsFraction : List Str := ["value", "one"]
theorem sc_LIsFraction : FnScope N_LIsFraction ["value"] (defScope s_LIsFraction) := ⟨rfl, rfl, rfl, by decide +kernel, rfl, by decide +kernel, by decide +kernel⟩
abbrev s_LIsRow : Stmt := topS 42
abbrev N_LIsRow : List Str := ["value", "many", "one"]
theorem sc_LIsRow : FnScope N_LIsRow ["value", "many"] (defScope s_LIsRow) := ⟨rfl, rfl, rfl, by decide +kernel, rfl, by decide +kernel, by decide +kernel⟩
abbrev s_LOrders : Stmt := topS 43
abbrev N_LOrders : List Str := ["n", "found", "turn", "more", "one", "k"]
theorem sc_LOrders : FnScope N_LOrders ["n"] (defScope s_LOrders) := ⟨rfl, rfl, rfl, by decide +kernel, rfl, by decide +kernel, by decide +kernel⟩
abbrev s_LIsRents : Stmt := topS 44
abbrev N_LIsRents : List Str := ["worths", "rent", "value", "n", "i", "pairing", "rents", "own", "h", "one"]
theorem sc_LIsRents : FnScope N_LIsRents ["worths", "rent", "value"] (defScope s_LIsRents) := ⟨rfl, rfl, rfl, by decide +kernel, rfl, by decide +kernel, by decide +kernel⟩
abbrev s_LDue : Stmt := topS 45
abbrev N_LDue : List Str := ["worths", "rent", "n", "order", "high", "turn", "v", "rents", "i", "best", "most", "one", "k"]
theorem sc_LDue : FnScope N_LDue ["worths", "rent"] (defScope s_LDue) := ⟨rfl, rfl, rfl, by decide +kernel, rfl, by decide +kernel, by decide +kernel⟩
abbrev s_LAW : Stmt := topS 46
abbrev N_LAW : List Str := ["script", "c", "n", "worths", "rent", "paper", "more", "turn", "pairing", "rents", "v", "bent", "told", "k", "part", "row", "i", "one", "h"]
theorem sc_LAW : FnScope N_LAW ["script"] (defScope s_LAW) := ⟨rfl, rfl, rfl, by decide +kernel, rfl, by decide +kernel, by decide +kernel⟩
structure Txt (K : PySem.W.Frag) (mg : Str → Option Value) where
  f_commonDivisor : Addr
  d_commonDivisor : FuncData
  F_commonDivisor : Fun K "common_divisor" "common_divisor" s_commonDivisor f_commonDivisor d_commonDivisor
  b_commonDivisor : L2.Binds K d_commonDivisor ["first", "second"] []
  g_commonDivisor : mg "common_divisor" = some (.ref f_commonDivisor)
  f_ratio : Addr
  d_ratio : FuncData
  F_ratio : Fun K "ratio" "ratio" s_ratio f_ratio d_ratio
  b_ratio : L2.Binds K d_ratio ["above", "below"] []
  g_ratio : mg "ratio" = some (.ref f_ratio)
  f_plus : Addr
  d_plus : FuncData
  F_plus : Fun K "plus" "plus" s_plus f_plus d_plus
  b_plus : L2.Binds K d_plus ["first", "second"] []
  g_plus : mg "plus" = some (.ref f_plus)
  f_times : Addr
  d_times : FuncData
  F_times : Fun K "times" "times" s_times f_times d_times
  b_times : L2.Binds K d_times ["first", "second"] []
  g_times : mg "times" = some (.ref f_times)
  f_negative : Addr
  d_negative : FuncData
  F_negative : Fun K "negative" "negative" s_negative f_negative d_negative
  b_negative : L2.Binds K d_negative ["one"] []
  g_negative : mg "negative" = some (.ref f_negative)
  f_minus : Addr
  d_minus : FuncData
  F_minus : Fun K "minus" "minus" s_minus f_minus d_minus
  b_minus : L2.Binds K d_minus ["first", "second"] []
  g_minus : mg "minus" = some (.ref f_minus)
  f_inverse : Addr
  d_inverse : FuncData
  F_inverse : Fun K "inverse" "inverse" s_inverse f_inverse d_inverse
  b_inverse : L2.Binds K d_inverse ["one"] []
  g_inverse : mg "inverse" = some (.ref f_inverse)
  f_isLess : Addr
  d_isLess : FuncData
  F_isLess : Fun K "is_less" "is_less" s_isLess f_isLess d_isLess
  b_isLess : L2.Binds K d_isLess ["first", "second"] []
  g_isLess : mg "is_less" = some (.ref f_isLess)
  f_total : Addr
  d_total : FuncData
  F_total : Fun K "total" "total" s_total f_total d_total
  b_total : L2.Binds K d_total ["fractions"] []
  g_total : mg "total" = some (.ref f_total)
  f_isInteger : Addr
  d_isInteger : FuncData
  F_isInteger : Fun K "is_integer" "is_integer" s_isInteger f_isInteger d_isInteger
  b_isInteger : L2.Binds K d_isInteger ["value"] []
  g_isInteger : mg "is_integer" = some (.ref f_isInteger)
  f_isRatio : Addr
  d_isRatio : FuncData
  F_isRatio : Fun K "is_ratio" "is_ratio" s_isRatio f_isRatio d_isRatio
  b_isRatio : L2.Binds K d_isRatio ["value"] []
  g_isRatio : mg "is_ratio" = some (.ref f_isRatio)
  f_areRatios : Addr
  d_areRatios : FuncData
  F_areRatios : Fun K "are_ratios" "are_ratios" s_areRatios f_areRatios d_areRatios
  b_areRatios : L2.Binds K d_areRatios ["value", "many"] []
  g_areRatios : mg "are_ratios" = some (.ref f_areRatios)
  f_ordersOf : Addr
  d_ordersOf : FuncData
  F_ordersOf : Fun K "orders_of" "orders_of" s_ordersOf f_ordersOf d_ordersOf
  b_ordersOf : L2.Binds K d_ordersOf ["n"] []
  g_ordersOf : mg "orders_of" = some (.ref f_ordersOf)
  f_bestPairing : Addr
  d_bestPairing : FuncData
  F_bestPairing : Fun K "best_pairing" "best_pairing" s_bestPairing f_bestPairing d_bestPairing
  b_bestPairing : L2.Binds K d_bestPairing ["worths"] []
  g_bestPairing : mg "best_pairing" = some (.ref f_bestPairing)
  f_highestRents : Addr
  d_highestRents : FuncData
  F_highestRents : Fun K "highest_rents" "highest_rents" s_highestRents f_highestRents d_highestRents
  b_highestRents : L2.Binds K d_highestRents ["worths", "pairing"] []
  g_highestRents : mg "highest_rents" = some (.ref f_highestRents)
  f_leastLeft : Addr
  d_leastLeft : FuncData
  F_leastLeft : Fun K "least_left" "least_left" s_leastLeft f_leastLeft d_leastLeft
  b_leastLeft : L2.Binds K d_leastLeft ["worths", "rent"] []
  g_leastLeft : mg "least_left" = some (.ref f_leastLeft)
  f_rentsPaper : Addr
  d_rentsPaper : FuncData
  F_rentsPaper : Fun K "rents_paper" "rents_paper" s_rentsPaper f_rentsPaper d_rentsPaper
  b_rentsPaper : L2.Binds K d_rentsPaper ["worths", "rent"] []
  g_rentsPaper : mg "rents_paper" = some (.ref f_rentsPaper)
  f_judgeRents : Addr
  d_judgeRents : FuncData
  F_judgeRents : Fun K "judge_rents" "judge_rents" s_judgeRents f_judgeRents d_judgeRents
  b_judgeRents : L2.Binds K d_judgeRents ["worths", "rent", "value"] []
  g_judgeRents : mg "judge_rents" = some (.ref f_judgeRents)
  f_LStart : Addr
  d_LStart : FuncData
  F_LStart : Fun K "_law_start" "_law_start" s_LStart f_LStart d_LStart
  b_LStart : L2.Binds K d_LStart ["script"] []
  g_LStart : mg "_law_start" = some (.ref f_LStart)
  f_LFill : Addr
  d_LFill : FuncData
  F_LFill : Fun K "_law_fill" "_law_fill" s_LFill f_LFill d_LFill
  b_LFill : L2.Binds K d_LFill ["c"] []
  g_LFill : mg "_law_fill" = some (.ref f_LFill)
  f_LTake : Addr
  d_LTake : FuncData
  F_LTake : Fun K "_law_take" "_law_take" s_LTake f_LTake d_LTake
  b_LTake : L2.Binds K d_LTake ["c", "many"] []
  g_LTake : mg "_law_take" = some (.ref f_LTake)
  f_LDivisor : Addr
  d_LDivisor : FuncData
  F_LDivisor : Fun K "_law_divisor" "_law_divisor" s_LDivisor f_LDivisor d_LDivisor
  b_LDivisor : L2.Binds K d_LDivisor ["a", "b"] []
  g_LDivisor : mg "_law_divisor" = some (.ref f_LDivisor)
  f_LFraction : Addr
  d_LFraction : FuncData
  F_LFraction : Fun K "_law_fraction" "_law_fraction" s_LFraction f_LFraction d_LFraction
  b_LFraction : L2.Binds K d_LFraction ["n", "d"] []
  g_LFraction : mg "_law_fraction" = some (.ref f_LFraction)
  f_LPlus : Addr
  d_LPlus : FuncData
  F_LPlus : Fun K "_law_plus" "_law_plus" s_LPlus f_LPlus d_LPlus
  b_LPlus : L2.Binds K d_LPlus ["a", "b"] []
  g_LPlus : mg "_law_plus" = some (.ref f_LPlus)
  f_LTimes : Addr
  d_LTimes : FuncData
  F_LTimes : Fun K "_law_times" "_law_times" s_LTimes f_LTimes d_LTimes
  b_LTimes : L2.Binds K d_LTimes ["a", "b"] []
  g_LTimes : mg "_law_times" = some (.ref f_LTimes)
  f_LIsInt : Addr
  d_LIsInt : FuncData
  F_LIsInt : Fun K "_law_is_int" "_law_is_int" s_LIsInt f_LIsInt d_LIsInt
  b_LIsInt : L2.Binds K d_LIsInt ["value"] []
  g_LIsInt : mg "_law_is_int" = some (.ref f_LIsInt)
  f_LAlike : Addr
  d_LAlike : FuncData
  F_LAlike : Fun K "_law_alike" "_law_alike" s_LAlike f_LAlike d_LAlike
  b_LAlike : L2.Binds K d_LAlike ["value", "due"] []
  g_LAlike : mg "_law_alike" = some (.ref f_LAlike)
  f_LSpoilt : Addr
  d_LSpoilt : FuncData
  F_LSpoilt : Fun K "_law_spoilt" "_law_spoilt" s_LSpoilt f_LSpoilt d_LSpoilt
  b_LSpoilt : L2.Binds K d_LSpoilt ["c", "value"] []
  g_LSpoilt : mg "_law_spoilt" = some (.ref f_LSpoilt)
  f_LBent : Addr
  d_LBent : FuncData
  F_LBent : Fun K "_law_bent" "_law_bent" s_LBent f_LBent d_LBent
  b_LBent : L2.Binds K d_LBent ["c", "value", "turn"] []
  g_LBent : mg "_law_bent" = some (.ref f_LBent)
  f_LMinus : Addr
  d_LMinus : FuncData
  F_LMinus : Fun K "_law_minus" "_law_minus" s_LMinus f_LMinus d_LMinus
  b_LMinus : L2.Binds K d_LMinus ["a", "b"] []
  g_LMinus : mg "_law_minus" = some (.ref f_LMinus)
  f_LLess : Addr
  d_LLess : FuncData
  F_LLess : Fun K "_law_less" "_law_less" s_LLess f_LLess d_LLess
  b_LLess : L2.Binds K d_LLess ["a", "b"] []
  g_LLess : mg "_law_less" = some (.ref f_LLess)
  f_LTotal : Addr
  d_LTotal : FuncData
  F_LTotal : Fun K "_law_total" "_law_total" s_LTotal f_LTotal d_LTotal
  b_LTotal : L2.Binds K d_LTotal ["row"] []
  g_LTotal : mg "_law_total" = some (.ref f_LTotal)
  f_LIsFraction : Addr
  d_LIsFraction : FuncData
  F_LIsFraction : Fun K "_law_is_fraction" "_law_is_fraction" s_LIsFraction f_LIsFraction d_LIsFraction
  b_LIsFraction : L2.Binds K d_LIsFraction ["value"] []
  g_LIsFraction : mg "_law_is_fraction" = some (.ref f_LIsFraction)
  f_LIsRow : Addr
  d_LIsRow : FuncData
  F_LIsRow : Fun K "_law_is_row" "_law_is_row" s_LIsRow f_LIsRow d_LIsRow
  b_LIsRow : L2.Binds K d_LIsRow ["value", "many"] []
  g_LIsRow : mg "_law_is_row" = some (.ref f_LIsRow)
  f_LOrders : Addr
  d_LOrders : FuncData
  F_LOrders : Fun K "_law_orders" "_law_orders" s_LOrders f_LOrders d_LOrders
  b_LOrders : L2.Binds K d_LOrders ["n"] []
  g_LOrders : mg "_law_orders" = some (.ref f_LOrders)
  f_LIsRents : Addr
  d_LIsRents : FuncData
  F_LIsRents : Fun K "_law_is_rents" "_law_is_rents" s_LIsRents f_LIsRents d_LIsRents
  b_LIsRents : L2.Binds K d_LIsRents ["worths", "rent", "value"] []
  g_LIsRents : mg "_law_is_rents" = some (.ref f_LIsRents)
  f_LDue : Addr
  d_LDue : FuncData
  F_LDue : Fun K "_law_due" "_law_due" s_LDue f_LDue d_LDue
  b_LDue : L2.Binds K d_LDue ["worths", "rent"] []
  g_LDue : mg "_law_due" = some (.ref f_LDue)
  f_LAW : Addr
  d_LAW : FuncData
  F_LAW : Fun K "law" "law" s_LAW f_LAW d_LAW
  b_LAW : L2.Binds K d_LAW ["script"] []
  g_LAW : mg "law" = some (.ref f_LAW)
  n_abs : mg "abs" = none
  n_all : mg "all" = none
  n_any : mg "any" = none
  n_bool : mg "bool" = none
  n_enumerate : mg "enumerate" = none
  n_int : mg "int" = none
  n_isinstance : mg "isinstance" = none
  n_len : mg "len" = none
  n_list : mg "list" = none
  n_min : mg "min" = none
  n_range : mg "range" = none
  n_sorted : mg "sorted" = none
  n_str : mg "str" = none
  n_sum : mg "sum" = none
  n_tuple : mg "tuple" = none
  u_ZERO : Value
  m_ZERO : mg "ZERO" = some u_ZERO
  k_ZERO : KD K u_ZERO (.tup [(.int 0), (.int 1)])
section
variable {P : Program} {w : World} {K : PySem.W.Frag} {mg : Str → Option Value} {base : Heap}
def B_commonDivisor : MS := (mSeq (mPar 0 1 (mCons (mCB fAbs (mCons (mV 0) mNil)) (mCons (mCB fAbs (mCons (mV 1) mNil)) mNil)))
    (mSeq (mWhile 1000000 (mTV (mBin fNe (mV 1) (mC (.int 0)))) (mPar 0 1 (mCons (mV 1) (mCons (mBin fMod (mV 0) (mV 1)) mNil))))
    (mRet (mV 0))))
def M_commonDivisor : Fn := fnM 2 2 .pure B_commonDivisor
theorem ok_commonDivisor (T : Txt K mg) : FnOk P w K mg base CX0 1 T.f_commonDivisor T.d_commonDivisor ["first", "second"] (spD K 2 M_commonDivisor) := by
  have h := fn_D (P := P) (w := w) (mg := mg) (base := base) (k := 0) (m := .pure) (body := B_commonDivisor) T.F_commonDivisor sc_commonDivisor fun cdv A outer s H E hr => (ass_cons (as_par rfl sc_commonDivisor.nd (aa_cons (ae_abs T.n_abs (aa_cons (av 0) aa_nil)) (aa_cons (ae_abs T.n_abs (aa_cons (av 1) aa_nil)) aa_nil)))
    (ass_cons (as_while 1000000 PassesOwn.never (at_ne hr (av 1) ae_int) (ass_one (as_par rfl sc_commonDivisor.nd (aa_cons (av 1) (aa_cons (ae_mod (av 0) (av 1)) aa_nil)))))
    (ass_one (as_ret (av 0)))))
  exact h
def B_ratio : MS := (mSeq (mIfS (mTV (mBin fLtD (mV 1) (mC (.int 0)))) (mPar 0 1 (mCons (mUn fNeg (mV 0)) (mCons (mUn fNeg (mV 1)) mNil))) mSkip)
    (mSeq (mIfS (mTV (mBin fNe (mV 1) (mC (.int 1)))) (mSeq (mAsg (mCall M_commonDivisor (mCons (mV 0) (mCons (mV 1) mNil))) (.nm 2))
    (mPar 0 1 (mCons (mBin fDiv (mV 0) (mV 2)) (mCons (mBin fDiv (mV 1) (mV 2)) mNil)))) mSkip)
    (mRet (mTup (mCons (mV 0) (mCons (mV 1) mNil))))))
def M_ratio : Fn := fnM 3 2 .pure B_ratio
theorem ok_ratio (T : Txt K mg) : FnOk P w K mg base CX0 2 T.f_ratio T.d_ratio ["above", "below"] (spD K 2 M_ratio) := by
  have h := fn_D (P := P) (w := w) (mg := mg) (base := base) (k := 1) (m := .pure) (body := B_ratio) T.F_ratio sc_ratio fun cdv A outer s H E hr => (ass_cons (as_if (at_lt hr (av 1) ae_int) (ass_one (as_par rfl sc_ratio.nd (aa_cons (ae_neg (av 0)) (aa_cons (ae_neg (av 1)) aa_nil)))) ass_nil)
    (ass_cons (as_if (at_ne hr (av 1) ae_int) (ass_cons (as_set sc_ratio.nd (ae_call (ok_commonDivisor T) hr T.g_commonDivisor T.F_commonDivisor.kp T.b_commonDivisor (aa_cons (av 0) (aa_cons (av 1) aa_nil)) (np_cons (np_cons (fun _ _ _ _ h => np_nil h))) (by omega)))
    (ass_one (as_par rfl sc_ratio.nd (aa_cons (ae_div (av 0) (av 2)) (aa_cons (ae_div (av 1) (av 2)) aa_nil))))) ass_nil)
    (ass_one (as_ret (ae_tup (aa_cons (av 0) (aa_cons (av 1) aa_nil)))))))
  exact h
def B_plus : MS := (mSeq (mIfS (mTV (mChain fEq fEq (mBin fIx (mV 0) (mC (.int 1))) (mBin fIx (mV 1) (mC (.int 1))) (mC (.int 1)))) (mRet (mTup (mCons (mBin fAdd (mBin fIx (mV 0) (mC (.int 0))) (mBin fIx (mV 1) (mC (.int 0)))) (mCons (mC (.int 1)) mNil)))) mSkip)
    (mRet (mCall M_ratio (mCons (mBin fAdd (mBin fMul (mBin fIx (mV 0) (mC (.int 0))) (mBin fIx (mV 1) (mC (.int 1)))) (mBin fMul (mBin fIx (mV 1) (mC (.int 0))) (mBin fIx (mV 0) (mC (.int 1))))) (mCons (mBin fMul (mBin fIx (mV 0) (mC (.int 1))) (mBin fIx (mV 1) (mC (.int 1)))) mNil)))))
def M_plus : Fn := fnM 2 2 .pure B_plus
theorem ok_plus (T : Txt K mg) : FnOk P w K mg base CX0 3 T.f_plus T.d_plus ["first", "second"] (spD K 2 M_plus) := by
  have h := fn_D (P := P) (w := w) (mg := mg) (base := base) (k := 2) (m := .pure) (body := B_plus) T.F_plus sc_plus fun cdv A outer s H E hr => (ass_cons (as_if (at_eqeq hr (ae_sub' (av 0) ae_int) (ae_sub' (av 1) ae_int) ae_int) (ass_one (as_ret (ae_tup (aa_cons (ae_add (ae_sub' (av 0) ae_int) (ae_sub' (av 1) ae_int)) (aa_cons ae_int aa_nil))))) ass_nil)
    (ass_one (as_ret (ae_call (ok_ratio T) hr T.g_ratio T.F_ratio.kp T.b_ratio (aa_cons (ae_add (ae_mul (ae_sub' (av 0) ae_int) (ae_sub' (av 1) ae_int)) (ae_mul (ae_sub' (av 1) ae_int) (ae_sub' (av 0) ae_int))) (aa_cons (ae_mul (ae_sub' (av 0) ae_int) (ae_sub' (av 1) ae_int)) aa_nil)) (np_cons (np_cons (fun _ _ _ _ h => np_nil h))) (by omega)))))
  exact h
def B_times : MS := (mRet (mCall M_ratio (mCons (mBin fMul (mBin fIx (mV 0) (mC (.int 0))) (mBin fIx (mV 1) (mC (.int 0)))) (mCons (mBin fMul (mBin fIx (mV 0) (mC (.int 1))) (mBin fIx (mV 1) (mC (.int 1)))) mNil))))
def M_times : Fn := fnM 2 2 .pure B_times
theorem ok_times (T : Txt K mg) : FnOk P w K mg base CX0 3 T.f_times T.d_times ["first", "second"] (spD K 2 M_times) := by
  have h := fn_D (P := P) (w := w) (mg := mg) (base := base) (k := 2) (m := .pure) (body := B_times) T.F_times sc_times fun cdv A outer s H E hr => (ass_one (as_ret (ae_call (ok_ratio T) hr T.g_ratio T.F_ratio.kp T.b_ratio (aa_cons (ae_mul (ae_sub' (av 0) ae_int) (ae_sub' (av 1) ae_int)) (aa_cons (ae_mul (ae_sub' (av 0) ae_int) (ae_sub' (av 1) ae_int)) aa_nil)) (np_cons (np_cons (fun _ _ _ _ h => np_nil h))) (by omega))))
  exact h
def B_negative : MS := (mRet (mTup (mCons (mUn fNeg (mBin fIx (mV 0) (mC (.int 0)))) (mCons (mBin fIx (mV 0) (mC (.int 1))) mNil))))
def M_negative : Fn := fnM 1 1 .pure B_negative
theorem ok_negative (T : Txt K mg) : FnOk P w K mg base CX0 1 T.f_negative T.d_negative ["one"] (spD K 1 M_negative) := by
  have h := fn_D (P := P) (w := w) (mg := mg) (base := base) (k := 0) (m := .pure) (body := B_negative) T.F_negative sc_negative fun cdv A outer s H E hr => (ass_one (as_ret (ae_tup (aa_cons (ae_neg (ae_sub' (av 0) ae_int)) (aa_cons (ae_sub' (av 0) ae_int) aa_nil)))))
  exact h
def B_minus : MS := (mRet (mCall M_plus (mCons (mV 0) (mCons (mCall M_negative (mCons (mV 1) mNil)) mNil))))
def M_minus : Fn := fnM 2 2 .pure B_minus
theorem ok_minus (T : Txt K mg) : FnOk P w K mg base CX0 4 T.f_minus T.d_minus ["first", "second"] (spD K 2 M_minus) := by
  have h := fn_D (P := P) (w := w) (mg := mg) (base := base) (k := 3) (m := .pure) (body := B_minus) T.F_minus sc_minus fun cdv A outer s H E hr => (ass_one (as_ret (ae_call (ok_plus T) hr T.g_plus T.F_plus.kp T.b_plus (aa_cons (av 0) (aa_cons (ae_call (ok_negative T) hr T.g_negative T.F_negative.kp T.b_negative (aa_cons (av 1) aa_nil) (np_cons (fun _ _ _ _ h => np_nil h)) (by omega)) aa_nil)) (np_cons (np_cons (fun _ _ _ _ h => np_nil h))) (by omega))))
  exact h
def B_inverse : MS := (mRet (mCall M_ratio (mCons (mBin fIx (mV 0) (mC (.int 1))) (mCons (mBin fIx (mV 0) (mC (.int 0))) mNil))))
def M_inverse : Fn := fnM 1 1 .pure B_inverse
theorem ok_inverse (T : Txt K mg) : FnOk P w K mg base CX0 3 T.f_inverse T.d_inverse ["one"] (spD K 1 M_inverse) := by
  have h := fn_D (P := P) (w := w) (mg := mg) (base := base) (k := 2) (m := .pure) (body := B_inverse) T.F_inverse sc_inverse fun cdv A outer s H E hr => (ass_one (as_ret (ae_call (ok_ratio T) hr T.g_ratio T.F_ratio.kp T.b_ratio (aa_cons (ae_sub' (av 0) ae_int) (aa_cons (ae_sub' (av 0) ae_int) aa_nil)) (np_cons (np_cons (fun _ _ _ _ h => np_nil h))) (by omega))))
  exact h
def B_isLess : MS := (mRet (mBin fLtD (mBin fMul (mBin fIx (mV 0) (mC (.int 0))) (mBin fIx (mV 1) (mC (.int 1)))) (mBin fMul (mBin fIx (mV 1) (mC (.int 0))) (mBin fIx (mV 0) (mC (.int 1))))))
def M_isLess : Fn := fnM 2 2 .pure B_isLess
theorem ok_isLess (T : Txt K mg) : FnOk P w K mg base CX0 1 T.f_isLess T.d_isLess ["first", "second"] (spD K 2 M_isLess) := by
  have h := fn_D (P := P) (w := w) (mg := mg) (base := base) (k := 0) (m := .pure) (body := B_isLess) T.F_isLess sc_isLess fun cdv A outer s H E hr => (ass_one (as_ret (ae_lt hr (ae_mul (ae_sub' (av 0) ae_int) (ae_sub' (av 1) ae_int)) (ae_mul (ae_sub' (av 1) ae_int) (ae_sub' (av 0) ae_int)))))
  exact h
def B_total : MS := (mSeq (mAsg (mC (.tup [(.int 0), (.int 1)])) (.nm 1))
    (mSeq (mFor (mIt (mV 0)) (.nm 2) (mAsg (mCall M_plus (mCons (mV 1) (mCons (mV 2) mNil))) (.nm 1)))
    (mRet (mV 1))))
def M_total : Fn := fnM 3 1 .pure B_total
theorem ok_total (T : Txt K mg) : FnOk P w K mg base CX0 4 T.f_total T.d_total ["fractions"] (spD K 1 M_total) := by
  have h := fn_D (P := P) (w := w) (mg := mg) (base := base) (k := 3) (m := .pure) (body := B_total) T.F_total sc_total fun cdv A outer s H E hr => (ass_cons (as_set sc_total.nd (ae_gk rfl T.m_ZERO T.k_ZERO))
    (ass_cons (as_for PassesOwn.never rfl (ai_any (av 0)) (ag_name 2 sc_total.nd) (ass_one (as_set sc_total.nd (ae_call (ok_plus T) hr T.g_plus T.F_plus.kp T.b_plus (aa_cons (av 1) (aa_cons (av 2) aa_nil)) (np_cons (np_cons (fun _ _ _ _ h => np_nil h))) (by omega)))))
    (ass_one (as_ret (av 1)))))
  exact h
def B_isInteger : MS := (mRet (mAndV (mIsi "int" (mV 0)) (mNotV (mIsi "bool" (mV 0)))))
def M_isInteger : Fn := fnM 1 1 .pure B_isInteger
theorem ok_isInteger (T : Txt K mg) : FnOk P w K mg base CX0 1 T.f_isInteger T.d_isInteger ["value"] (spD K 1 M_isInteger) := by
  have h := fn_D (P := P) (w := w) (mg := mg) (base := base) (k := 0) (m := .pure) (body := B_isInteger) T.F_isInteger sc_isInteger fun cdv A outer s H E hr => (ass_one (as_ret (ae_and (ae_isi T.n_isinstance T.n_int (av 0)) (ae_one (ae_not (ae_isi T.n_isinstance T.n_bool (av 0)))))))
  exact h
def B_isRatio : MS := (mSeq (mIfS (mOr (mNot (mTru (mIsi "tuple" (mV 0)))) (mOr (mTV (mBin fNe (mCB fLen (mCons (mV 0) mNil)) (mC (.int 2)))) (mOr (mNot (mTru (mCall M_isInteger (mCons (mBin fIx (mV 0) (mC (.int 0))) mNil)))) (mNot (mTru (mCall M_isInteger (mCons (mBin fIx (mV 0) (mC (.int 1))) mNil))))))) (mRet (mC (.bl false))) mSkip)
    (mRet (mAndV (mBin fGtD (mBin fIx (mV 0) (mC (.int 1))) (mC (.int 0))) (mBin fEq (mCall M_commonDivisor (mCons (mBin fIx (mV 0) (mC (.int 0))) (mCons (mBin fIx (mV 0) (mC (.int 1))) mNil))) (mC (.int 1))))))
def M_isRatio : Fn := fnM 1 1 .pure B_isRatio
theorem ok_isRatio (T : Txt K mg) : FnOk P w K mg base CX0 2 T.f_isRatio T.d_isRatio ["value"] (spD K 1 M_isRatio) := by
  have h := fn_D (P := P) (w := w) (mg := mg) (base := base) (k := 1) (m := .pure) (body := B_isRatio) T.F_isRatio sc_isRatio fun cdv A outer s H E hr => (ass_cons (as_if (PW.pt (aw_or (at_not (at_truth (ae_isi T.n_isinstance T.n_tuple (av 0)))) (aw_or (at_ne hr (ae_len T.n_len (aa_cons (av 0) aa_nil)) ae_int) (aw_or (at_not (at_truth (ae_call (ok_isInteger T) hr T.g_isInteger T.F_isInteger.kp T.b_isInteger (aa_cons (ae_sub' (av 0) ae_int) aa_nil) (np_cons (fun _ _ _ _ h => np_nil h)) (by omega)))) (aw_or1 (at_not (at_truth (ae_call (ok_isInteger T) hr T.g_isInteger T.F_isInteger.kp T.b_isInteger (aa_cons (ae_sub' (av 0) ae_int) aa_nil) (np_cons (fun _ _ _ _ h => np_nil h)) (by omega))))))))) (ass_one (as_ret ae_bl)) ass_nil)
    (ass_one (as_ret (ae_and (ae_gt hr (ae_sub' (av 0) ae_int) ae_int) (ae_one (ae_eq hr (ae_call (ok_commonDivisor T) hr T.g_commonDivisor T.F_commonDivisor.kp T.b_commonDivisor (aa_cons (ae_sub' (av 0) ae_int) (aa_cons (ae_sub' (av 0) ae_int) aa_nil)) (np_cons (np_cons (fun _ _ _ _ h => np_nil h))) (by omega)) ae_int))))))
  exact h
def B_areRatios : MS := (mRet (mAndV (mIsi "tuple" (mV 0)) (mAndV (mBin fEq (mCB fLen (mCons (mV 0) mNil)) (mV 1)) (mCB fAll (mCons (mVal (mLC (mIt (mV 0)) (.nm 2) mYes (mCall M_isRatio (mCons (mV 2) mNil)) [2])) mNil)))))
def M_areRatios : Fn := fnM 3 2 .pure B_areRatios
theorem ok_areRatios (T : Txt K mg) : FnOk P w K mg base CX0 3 T.f_areRatios T.d_areRatios ["value", "many"] (spD K 2 M_areRatios) := by
  have h := fn_D (P := P) (w := w) (mg := mg) (base := base) (k := 2) (m := .pure) (body := B_areRatios) T.F_areRatios sc_areRatios fun cdv A outer s H E hr => (ass_one (as_ret (ae_and (ae_isi T.n_isinstance T.n_tuple (av 0)) (ae_and (ae_eq hr (ae_len T.n_len (aa_cons (av 0) aa_nil)) (av 1)) (ae_one (ae_all rfl T.n_all (aa_cons (ae_val (af_lc [("one", 2)] rfl sc_areRatios.nd (ai_any (av 0)) (blkOk_by (by first | exact rfl | decide +kernel)) (fun _ _ _ _ _ => (ag_name 2 sc_areRatios.nd)) (fun _ _ _ _ _ => ats_nil) (fun _ _ _ _ _ => (ae_call (ok_isRatio T) hr T.g_isRatio T.F_isRatio.kp T.b_isRatio (aa_cons (av 2) aa_nil) (np_cons (fun _ _ _ _ h => np_nil h)) (by omega))))) aa_nil)))))))
  exact h
def B_ordersOf : MS := (mSeq (mAsg (mVal (mLst (mCons (mTup mNil) mNil))) (.nm 1))
    (mSeq (mFor (mRg1 (mCons (mV 0) mNil)) (.nm 2) (mAsg (mVal (mLC2 (mIt (mV 1)) (.nm 3) mYes (mRg1 (mCons (mV 0) mNil)) (.nm 4) (mTV (mBin fNotIn (mV 4) (mV 3))) (mBin fAdd (mV 3) (mTup (mCons (mV 4) mNil))) [3, 4] [4])) (.nm 1)))
    (mRet (mV 1))))
def M_ordersOf : Fn := fnM 5 1 .pure B_ordersOf
theorem ok_ordersOf (T : Txt K mg) : FnOk P w K mg base CX0 1 T.f_ordersOf T.d_ordersOf ["n"] (spD K 1 M_ordersOf) := by
  have h := fn_D (P := P) (w := w) (mg := mg) (base := base) (k := 0) (m := .pure) (body := B_ordersOf) T.F_ordersOf sc_ordersOf fun cdv A outer s H E hr => (ass_cons (as_set sc_ordersOf.nd (ae_val (af_lst (aa_cons (ae_tup aa_nil) aa_nil))))
    (ass_cons (as_for PassesOwn.never rfl (ai_range1 T.n_range (aa_cons (av 0) aa_nil)) (ag_name 2 sc_ordersOf.nd) (ass_one (as_setLc2 [("row", 3), ("k", 4)] [4] rfl sc_ordersOf.nd (ai_any (av 1)) (blkOk_by (by first | exact rfl | decide +kernel)) (fun _ _ _ _ _ => (ag_name 3 sc_ordersOf.nd)) (fun _ _ _ _ _ => ats_nil) (fun _ _ _ _ _ => (ai_range1 T.n_range (aa_cons (av 0) aa_nil))) (fun _ _ _ _ _ => (ag_name 4 sc_ordersOf.nd)) (fun _ _ _ _ _ => (ats_one (at_nin hr (av 4) (av 3)))) (fun _ _ _ _ _ => (ae_add (av 3) (ae_tup (aa_cons (av 4) aa_nil)))) (sto := false))))
    (ass_one (as_ret (av 1)))))
  exact h
def B_bestPairing : MS := (mSeq (mAsg (mC .non) (.nm 1))
    (mSeq (mFor (mIt (mCall M_ordersOf (mCons (mCB fLen (mCons (mV 0) mNil)) mNil))) (.nm 2) (mSeq (mAsg (mCB fSum (mCons (mVal (mLC (mEnum (mV 2)) (.tp [4, 5]) mYes (mBin fIx (mBin fIx (mV 0) (mV 4)) (mV 5)) [4, 5])) mNil)) (.nm 3))
    (mIfS (mOr (mTV (mBin fIsN (mV 1) (mC .non))) (mTV (mBin fGtD (mV 3) (mBin fIx (mV 1) (mC (.int 0)))))) (mAsg (mTup (mCons (mV 3) (mCons (mV 2) mNil))) (.nm 1)) mSkip)))
    (mRet (mBin fIx (mV 1) (mC (.int 1))))))
def M_bestPairing : Fn := fnM 6 1 .pure B_bestPairing
theorem ok_bestPairing (T : Txt K mg) : FnOk P w K mg base CX0 2 T.f_bestPairing T.d_bestPairing ["worths"] (spD K 1 M_bestPairing) := by
  have h := fn_D (P := P) (w := w) (mg := mg) (base := base) (k := 1) (m := .pure) (body := B_bestPairing) T.F_bestPairing sc_bestPairing fun cdv A outer s H E hr => (ass_cons (as_set sc_bestPairing.nd ae_non)
    (ass_cons (as_for PassesOwn.never rfl (ai_any (ae_call (ok_ordersOf T) hr T.g_ordersOf T.F_ordersOf.kp T.b_ordersOf (aa_cons (ae_len T.n_len (aa_cons (av 0) aa_nil)) aa_nil) (np_cons (fun _ _ _ _ h => np_nil h)) (by omega))) (ag_name 2 sc_bestPairing.nd) (ass_cons (as_set sc_bestPairing.nd (ae_sum rfl T.n_sum (aa_cons (ae_val (af_lc [("i", 4), ("room", 5)] rfl sc_bestPairing.nd (ai_enum T.n_enumerate (av 2)) (blkOk_by (by first | exact rfl | decide +kernel)) (fun _ _ _ _ _ => (ag_tup rfl (pgs_cons (ag_name 4 sc_bestPairing.nd) (pgs_cons (ag_name 5 sc_bestPairing.nd) agn_nil)))) (fun _ _ _ _ _ => ats_nil) (fun _ _ _ _ _ => (ae_sub' (ae_sub' (av 0) (av 4)) (av 5))))) aa_nil)))
    (ass_one (as_if (PW.pt (aw_or (at_is (av 1) ae_non) (aw_or1 (at_gt hr (av 3) (ae_sub' (av 1) ae_int))))) (ass_one (as_set sc_bestPairing.nd (ae_tup (aa_cons (av 3) (aa_cons (av 2) aa_nil))))) ass_nil))))
    (ass_one (as_ret (ae_sub' (av 1) ae_int)))))
  exact h
def B_highestRents : MS := (mSeq (mAsg (mCB fLen (mCons (mV 0) mNil)) (.nm 2))
    (mSeq (mAsg (mSto (mRepL (mVal (mLst (mCons (mC (.int 0)) mNil))) (mV 2))) (.nm 3))
    (mSeq (mFor (mEnum (mV 1)) (.tp [5, 6]) (mSetIx (mBin fIx (mBin fIx (mV 0) (mV 5)) (mV 6)) (mV 3) (mV 6)))
    (mSeq (mFor (mRg1 (mCons (mV 2) mNil)) (.nm 4) (mFor (mEnum (mV 1)) (.tp [5, 6]) (mSetIx (mCB fMinA (mCons (mVal (mLC (mRg1 (mCons (mV 2) mNil)) (.nm 7) mYes (mBin fSub (mBin fAdd (mBin fIx (mV 3) (mV 7)) (mBin fIx (mBin fIx (mV 0) (mV 5)) (mV 6))) (mBin fIx (mBin fIx (mV 0) (mV 5)) (mV 7))) [7])) mNil)) (mV 3) (mV 6))))
    (mRet (mV 3))))))
def M_highestRents : Fn := fnM 8 2 .pure B_highestRents
theorem ok_highestRents (T : Txt K mg) : FnOk P w K mg base CX0 1 T.f_highestRents T.d_highestRents ["worths", "pairing"] (spD K 2 M_highestRents) := by
  have h := fn_D (P := P) (w := w) (mg := mg) (base := base) (k := 0) (m := .pure) (body := B_highestRents) T.F_highestRents sc_highestRents fun cdv A outer s H E hr => (ass_cons (as_set sc_highestRents.nd (ae_len T.n_len (aa_cons (av 0) aa_nil)))
    (ass_cons (as_set sc_highestRents.nd (ae_sto (af_rep (ae_val (af_lst (aa_cons ae_int aa_nil))) (av 2))))
    (ass_cons (as_for PassesOwn.never rfl (ai_enum T.n_enumerate (av 1)) (ag_tup rfl (pgs_cons (ag_name 5 sc_highestRents.nd) (pgs_cons (ag_name 6 sc_highestRents.nd) agn_nil))) (ass_one (as_setIx (ae_sub' (ae_sub' (av 0) (av 5)) (av 6)) (av 3) (av 6))))
    (ass_cons (as_for PassesOwn.never rfl (ai_range1 T.n_range (aa_cons (av 2) aa_nil)) (ag_name 4 sc_highestRents.nd) (ass_one (as_for PassesOwn.never rfl (ai_enum T.n_enumerate (av 1)) (ag_tup rfl (pgs_cons (ag_name 5 sc_highestRents.nd) (pgs_cons (ag_name 6 sc_highestRents.nd) agn_nil))) (ass_one (as_setIx (ae_min hr rfl T.n_min (aa_cons (ae_val (af_lc [("k", 7)] rfl sc_highestRents.nd (ai_range1 T.n_range (aa_cons (av 2) aa_nil)) (blkOk_by (by first | exact rfl | decide +kernel)) (fun _ _ _ _ _ => (ag_name 7 sc_highestRents.nd)) (fun _ _ _ _ _ => ats_nil) (fun _ _ _ _ _ => (ae_sub (ae_add (ae_sub' (av 3) (av 7)) (ae_sub' (ae_sub' (av 0) (av 5)) (av 6))) (ae_sub' (ae_sub' (av 0) (av 5)) (av 7)))))) aa_nil)) (av 3) (av 6))))))
    (ass_one (as_ret (av 3)))))))
  exact h
def B_leastLeft : MS := (mSeq (mAsg (mCall M_highestRents (mCons (mV 0) (mCons (mCall M_bestPairing (mCons (mV 0) mNil)) mNil))) (.nm 2))
    (mSeq (mAsg (mCall M_times (mCons (mCall M_minus (mCons (mTup (mCons (mCB fSum (mCons (mV 2) mNil)) (mCons (mC (.int 1)) mNil))) (mCons (mV 1) mNil))) (mCons (mCall M_inverse (mCons (mTup (mCons (mCB fLen (mCons (mV 2) mNil)) (mCons (mC (.int 1)) mNil))) mNil)) mNil))) (.nm 3))
    (mRet (mTup (mCons (mV 3) (mCons (mCB fTuple (mCons (mVal (mLC (mIt (mV 2)) (.nm 4) mYes (mCall M_minus (mCons (mTup (mCons (mV 4) (mCons (mC (.int 1)) mNil))) (mCons (mV 3) mNil))) [4])) mNil)) mNil))))))
def M_leastLeft : Fn := fnM 5 2 .pure B_leastLeft
theorem ok_leastLeft (T : Txt K mg) : FnOk P w K mg base CX0 5 T.f_leastLeft T.d_leastLeft ["worths", "rent"] (spD K 2 M_leastLeft) := by
  have h := fn_D (P := P) (w := w) (mg := mg) (base := base) (k := 4) (m := .pure) (body := B_leastLeft) T.F_leastLeft sc_leastLeft fun cdv A outer s H E hr => (ass_cons (as_set sc_leastLeft.nd (ae_call (ok_highestRents T) hr T.g_highestRents T.F_highestRents.kp T.b_highestRents (aa_cons (av 0) (aa_cons (ae_call (ok_bestPairing T) hr T.g_bestPairing T.F_bestPairing.kp T.b_bestPairing (aa_cons (av 0) aa_nil) (np_cons (fun _ _ _ _ h => np_nil h)) (by omega)) aa_nil)) (np_cons (np_cons (fun _ _ _ _ h => np_nil h))) (by omega)))
    (ass_cons (as_set sc_leastLeft.nd (ae_call (ok_times T) hr T.g_times T.F_times.kp T.b_times (aa_cons (ae_call (ok_minus T) hr T.g_minus T.F_minus.kp T.b_minus (aa_cons (ae_tup (aa_cons (ae_sum rfl T.n_sum (aa_cons (av 2) aa_nil)) (aa_cons ae_int aa_nil))) (aa_cons (av 1) aa_nil)) (np_cons (np_cons (fun _ _ _ _ h => np_nil h))) (by omega)) (aa_cons (ae_call (ok_inverse T) hr T.g_inverse T.F_inverse.kp T.b_inverse (aa_cons (ae_tup (aa_cons (ae_len T.n_len (aa_cons (av 2) aa_nil)) (aa_cons ae_int aa_nil))) aa_nil) (np_cons (fun _ _ _ _ h => np_nil h)) (by omega)) aa_nil)) (np_cons (np_cons (fun _ _ _ _ h => np_nil h))) (by omega)))
    (ass_one (as_ret (ae_tup (aa_cons (av 3) (aa_cons (ae_tuple T.n_tuple (aa_cons (ae_val (af_lc [("one", 4)] rfl sc_leastLeft.nd (ai_any (av 2)) (blkOk_by (by first | exact rfl | decide +kernel)) (fun _ _ _ _ _ => (ag_name 4 sc_leastLeft.nd)) (fun _ _ _ _ _ => ats_nil) (fun _ _ _ _ _ => (ae_call (ok_minus T) hr T.g_minus T.F_minus.kp T.b_minus (aa_cons (ae_tup (aa_cons (av 4) (aa_cons ae_int aa_nil))) (aa_cons (av 3) aa_nil)) (np_cons (np_cons (fun _ _ _ _ h => np_nil h))) (by omega))))) aa_nil)) aa_nil)))))))
  exact h
def B_rentsPaper : MS := (mRet (mTup (mCons (mC (.str "rents")) (mCons (mCall M_bestPairing (mCons (mV 0) mNil)) (mCons (mBin fIx (mCall M_leastLeft (mCons (mV 0) (mCons (mV 1) mNil))) (mC (.int 1))) mNil)))))
def M_rentsPaper : Fn := fnM 2 2 .pure B_rentsPaper
theorem ok_rentsPaper (T : Txt K mg) : FnOk P w K mg base CX0 6 T.f_rentsPaper T.d_rentsPaper ["worths", "rent"] (spD K 2 M_rentsPaper) := by
  have h := fn_D (P := P) (w := w) (mg := mg) (base := base) (k := 5) (m := .pure) (body := B_rentsPaper) T.F_rentsPaper sc_rentsPaper fun cdv A outer s H E hr => (ass_one (as_ret (ae_tup (aa_cons ae_str (aa_cons (ae_call (ok_bestPairing T) hr T.g_bestPairing T.F_bestPairing.kp T.b_bestPairing (aa_cons (av 0) aa_nil) (np_cons (fun _ _ _ _ h => np_nil h)) (by omega)) (aa_cons (ae_sub' (ae_call (ok_leastLeft T) hr T.g_leastLeft T.F_leastLeft.kp T.b_leastLeft (aa_cons (av 0) (aa_cons (av 1) aa_nil)) (np_cons (np_cons (fun _ _ _ _ h => np_nil h))) (by omega)) ae_int) aa_nil))))))
  exact h
def B_judgeRents : MS := (mSeq (mAsg (mCB fLen (mCons (mV 0) mNil)) (.nm 3))
    (mSeq (mIfS (mOr (mNot (mTru (mIsi "tuple" (mV 2)))) (mOr (mTV (mBin fNe (mCB fLen (mCons (mV 2) mNil)) (mC (.int 3)))) (mOr (mTV (mBin fNe (mBin fIx (mV 2) (mC (.int 0))) (mC (.str "rents")))) (mNot (mTru (mCall M_areRatios (mCons (mBin fIx (mV 2) (mC (.int 2))) (mCons (mV 3) mNil)))))))) (mRet (mC (.bl false))) mSkip)
    (mSeq (mAsg (mSl fSlT (mV 2) (mO1 (mC (.int 1))) mO0) (.tp [4, 5]))
    (mSeq (mIfS (mOr (mNot (mTru (mIsi "tuple" (mV 4)))) (mNot (mTru (mCB fAll (mCons (mVal (mLC (mIt (mV 4)) (.nm 9) mYes (mCall M_isInteger (mCons (mV 9) mNil)) [9])) mNil))))) (mRet (mC (.bl false))) mSkip)
    (mSeq (mIfS (mOr (mTV (mBin fNe (mVal (mSorted (mV 4))) (mVal (mLstRg (mV 3))))) (mTV (mBin fNe (mCall M_total (mCons (mV 5) mNil)) (mV 1)))) (mRet (mC (.bl false))) mSkip)
    (mSeq (mFor (mEnum (mV 4)) (.tp [6, 7]) (mFor (mRg1 (mCons (mV 3) mNil)) (.nm 8) (mIfS (mTru (mCall M_isLess (mCons (mCall M_plus (mCons (mTup (mCons (mBin fIx (mBin fIx (mV 0) (mV 6)) (mV 7)) (mCons (mC (.int 1)) mNil))) (mCons (mBin fIx (mV 5) (mV 8)) mNil))) (mCons (mCall M_plus (mCons (mTup (mCons (mBin fIx (mBin fIx (mV 0) (mV 6)) (mV 8)) (mCons (mC (.int 1)) mNil))) (mCons (mBin fIx (mV 5) (mV 7)) mNil))) mNil)))) (mRet (mC (.bl false))) mSkip)))
    (mRet (mC (.bl true)))))))))
def M_judgeRents : Fn := fnM 10 3 .pure B_judgeRents
theorem ok_judgeRents (T : Txt K mg) : FnOk P w K mg base CX0 5 T.f_judgeRents T.d_judgeRents ["worths", "rent", "value"] (spD K 3 M_judgeRents) := by
  have h := fn_D (P := P) (w := w) (mg := mg) (base := base) (k := 4) (m := .pure) (body := B_judgeRents) T.F_judgeRents sc_judgeRents fun cdv A outer s H E hr => (ass_cons (as_set sc_judgeRents.nd (ae_len T.n_len (aa_cons (av 0) aa_nil)))
    (ass_cons (as_if (PW.pt (aw_or (at_not (at_truth (ae_isi T.n_isinstance T.n_tuple (av 2)))) (aw_or (at_ne hr (ae_len T.n_len (aa_cons (av 2) aa_nil)) ae_int) (aw_or (at_ne hr (ae_sub' (av 2) ae_int) ae_str) (aw_or1 (at_not (at_truth (ae_call (ok_areRatios T) hr T.g_areRatios T.F_areRatios.kp T.b_areRatios (aa_cons (ae_sub' (av 2) ae_int) (aa_cons (av 3) aa_nil)) (np_cons (np_cons (fun _ _ _ _ h => np_nil h))) (by omega))))))))) (ass_one (as_ret ae_bl)) ass_nil)
    (ass_cons (as_asg (ae_slT (av 2) (ao_some ae_int) ao_none) (ag_tup rfl (pgs_cons (ag_name 4 sc_judgeRents.nd) (pgs_cons (ag_name 5 sc_judgeRents.nd) agn_nil))))
    (ass_cons (as_if (PW.pt (aw_or (at_not (at_truth (ae_isi T.n_isinstance T.n_tuple (av 4)))) (aw_or1 (at_not (at_truth (ae_all rfl T.n_all (aa_cons (ae_val (af_lc [("one", 9)] rfl sc_judgeRents.nd (ai_any (av 4)) (blkOk_by (by first | exact rfl | decide +kernel)) (fun _ _ _ _ _ => (ag_name 9 sc_judgeRents.nd)) (fun _ _ _ _ _ => ats_nil) (fun _ _ _ _ _ => (ae_call (ok_isInteger T) hr T.g_isInteger T.F_isInteger.kp T.b_isInteger (aa_cons (av 9) aa_nil) (np_cons (fun _ _ _ _ h => np_nil h)) (by omega))))) aa_nil))))))) (ass_one (as_ret ae_bl)) ass_nil)
    (ass_cons (as_if (PW.pt (aw_or (at_ne hr (ae_val (af_sorted hr T.n_sorted (av 4))) (ae_val (af_listRg rfl T.n_list T.n_range (av 3)))) (aw_or1 (at_ne hr (ae_call (ok_total T) hr T.g_total T.F_total.kp T.b_total (aa_cons (av 5) aa_nil) (np_cons (fun _ _ _ _ h => np_nil h)) (by omega)) (av 1))))) (ass_one (as_ret ae_bl)) ass_nil)
    (ass_cons (as_for PassesOwn.never rfl (ai_enum T.n_enumerate (av 4)) (ag_tup rfl (pgs_cons (ag_name 6 sc_judgeRents.nd) (pgs_cons (ag_name 7 sc_judgeRents.nd) agn_nil))) (ass_one (as_for PassesOwn.never rfl (ai_range1 T.n_range (aa_cons (av 3) aa_nil)) (ag_name 8 sc_judgeRents.nd) (ass_one (as_if (at_truth (ae_call (ok_isLess T) hr T.g_isLess T.F_isLess.kp T.b_isLess (aa_cons (ae_call (ok_plus T) hr T.g_plus T.F_plus.kp T.b_plus (aa_cons (ae_tup (aa_cons (ae_sub' (ae_sub' (av 0) (av 6)) (av 7)) (aa_cons ae_int aa_nil))) (aa_cons (ae_sub' (av 5) (av 8)) aa_nil)) (np_cons (np_cons (fun _ _ _ _ h => np_nil h))) (by omega)) (aa_cons (ae_call (ok_plus T) hr T.g_plus T.F_plus.kp T.b_plus (aa_cons (ae_tup (aa_cons (ae_sub' (ae_sub' (av 0) (av 6)) (av 8)) (aa_cons ae_int aa_nil))) (aa_cons (ae_sub' (av 5) (av 7)) aa_nil)) (np_cons (np_cons (fun _ _ _ _ h => np_nil h))) (by omega)) aa_nil)) (np_cons (np_cons (fun _ _ _ _ h => np_nil h))) (by omega))) (ass_one (as_ret ae_bl)) ass_nil)))))
    (ass_one (as_ret ae_bl))))))))
  exact h
def B_LStart : MS := (mRet (mSto (mLst (mCons (mVal (mLC (mIt (mVal (mSlL (mV 0) mO0 (mO1 (mC (.int 63)))))) (.nm 1) mYes (mCB fInt (mCons (mV 1) mNil)) [1])) (mCons (mC (.int 0)) (mCons (mC (.int 0)) (mCons (mC (.int 0)) (mCons (mC (.int 20)) mNil))))))))
def M_LStart : Fn := fnM 2 1 .keep B_LStart
theorem ok_LStart (T : Txt K mg) : FnOk P w K mg base CX0 1 T.f_LStart T.d_LStart ["script"] (spD K 1 M_LStart) := by
  have h := fn_D (P := P) (w := w) (mg := mg) (base := base) (k := 0) (m := .keep) (body := B_LStart) T.F_LStart sc_LStart fun cdv A outer s H E hr => (ass_one (as_ret (ae_sto (af_lst (aa_cons (ae_val (af_lc [("cell", 1)] rfl sc_LStart.nd (ai_any (ae_val (af_slL (av 0) ao_none (ao_some ae_int)))) (blkOk_by (by first | exact rfl | decide +kernel)) (fun _ _ _ _ _ => (ag_name 1 sc_LStart.nd)) (fun _ _ _ _ _ => ats_nil) (fun _ _ _ _ _ => (ae_intC T.n_int (aa_cons (av 1) aa_nil))))) (aa_cons ae_int (aa_cons ae_int (aa_cons ae_int (aa_cons ae_int aa_nil)))))))))
  exact h
def B_LFill : MS := (mSeq (mSetIx (mBin fAdd (mBin fIx (mV 0) (mC (.int 3))) (mC (.int 1))) (mV 0) (mC (.int 3)))
    (mSeq (mAsg (mBin fAdd (mBin fMul (mBin fIx (mV 0) (mC (.int 3))) (mC (.int 69621))) (mC (.int 12345))) (.nm 1))
    (mSeq (mIfS (mTV (mBin fLtD (mBin fIx (mV 0) (mC (.int 1))) (mCB fLen (mCons (mBin fIx (mV 0) (mC (.int 0))) mNil)))) (mSeq (mAsg (mBin fIx (mBin fIx (mV 0) (mC (.int 0))) (mBin fIx (mV 0) (mC (.int 1)))) (.nm 1))
    (mSeq (mSetIx (mBin fAdd (mBin fIx (mV 0) (mC (.int 1))) (mC (.int 1))) (mV 0) (mC (.int 1)))
    (mSeq (mIfS (mTV (mBin fLtD (mV 1) (mC (.int 0)))) (mAsg (mBin fSub (mBin fSub (mC (.int 0)) (mC (.int 1))) (mV 1)) (.nm 1)) mSkip)
    (mIfS (mTV (mBin fGeD (mV 1) (mBin fPow (mC (.int 10)) (mC (.int 18))))) (mRet (mV 1)) mSkip)))) mSkip)
    (mSeq (mIfS (mAnd (mTru (mBin fIx (mV 0) (mC (.int 0)))) (mTV (mBin fGeD (mBin fIx (mV 0) (mC (.int 1))) (mCB fLen (mCons (mBin fIx (mV 0) (mC (.int 0))) mNil))))) (mAsg (mBin fAdd (mV 1) (mBin fMod (mCB fInt (mCons (mBin fIx (mBin fIx (mV 0) (mC (.int 0))) (mUn fNeg (mC (.int 1)))) mNil)) (mC (.int 1000003)))) (.nm 1)) mSkip)
    (mSeq (mAsg (mBin fMod (mCB fInt (mCons (mBin fAdd (mBin fMul (mV 1) (mC (.int 48271))) (mBin fMul (mBin fIx (mV 0) (mC (.int 3))) (mC (.int 69621)))) mNil)) (mC (.int 2147483647))) (.nm 1))
    (mRet (mBin fAdd (mBin fDiv (mCB fInt (mCons (mBin fAdd (mBin fAdd (mBin fMul (mV 1) (mV 1)) (mBin fMul (mBin fIx (mV 0) (mC (.int 3))) (mC (.int 7919)))) (mC (.int 11))) mNil)) (mC (.int 64))) (mC (.int 36028797018963968)))))))))
def M_LFill : Fn := fnM 2 1 .keep B_LFill
theorem ok_LFill (T : Txt K mg) : FnOk P w K mg base CX0 1 T.f_LFill T.d_LFill ["c"] (spD K 1 M_LFill) := by
  have h := fn_D (P := P) (w := w) (mg := mg) (base := base) (k := 0) (m := .keep) (body := B_LFill) T.F_LFill sc_LFill fun cdv A outer s H E hr => (ass_cons (as_setIx (ae_add (ae_sub' (av 0) ae_int) ae_int) (av 0) ae_int)
    (ass_cons (as_set sc_LFill.nd (ae_add (ae_mul (ae_sub' (av 0) ae_int) ae_int) ae_int))
    (ass_cons (as_if (at_lt hr (ae_sub' (av 0) ae_int) (ae_len T.n_len (aa_cons (ae_sub' (av 0) ae_int) aa_nil))) (ass_cons (as_set sc_LFill.nd (ae_sub' (ae_sub' (av 0) ae_int) (ae_sub' (av 0) ae_int)))
    (ass_cons (as_setIx (ae_add (ae_sub' (av 0) ae_int) ae_int) (av 0) ae_int)
    (ass_cons (as_if (at_lt hr (av 1) ae_int) (ass_one (as_set sc_LFill.nd (ae_sub (ae_sub ae_int ae_int) (av 1)))) ass_nil)
    (ass_one (as_if (at_ge hr (av 1) (ae_pow ae_int ae_int)) (ass_one (as_ret (av 1))) ass_nil))))) ass_nil)
    (ass_cons (as_if (PW.pt (aw_and (at_truth (ae_sub' (av 0) ae_int)) (aw_and1 (at_ge hr (ae_sub' (av 0) ae_int) (ae_len T.n_len (aa_cons (ae_sub' (av 0) ae_int) aa_nil)))))) (ass_one (as_set sc_LFill.nd (ae_add (av 1) (ae_mod (ae_intC T.n_int (aa_cons (ae_sub' (ae_sub' (av 0) ae_int) (ae_neg ae_int)) aa_nil)) ae_int)))) ass_nil)
    (ass_cons (as_set sc_LFill.nd (ae_mod (ae_intC T.n_int (aa_cons (ae_add (ae_mul (av 1) ae_int) (ae_mul (ae_sub' (av 0) ae_int) ae_int)) aa_nil)) ae_int))
    (ass_one (as_ret (ae_add (ae_div (ae_intC T.n_int (aa_cons (ae_add (ae_add (ae_mul (av 1) (av 1)) (ae_mul (ae_sub' (av 0) ae_int) ae_int)) ae_int) aa_nil)) ae_int) ae_int))))))))
  exact h
def B_LTake : MS := (mSeq (mIfS (mTV (mBin fLtD (mBin fIx (mV 0) (mC (.int 2))) (mV 1))) (mSetIx (mCall M_LFill (mCons (mV 0) mNil)) (mV 0) (mC (.int 2))) mSkip)
    (mSeq (mAsg (mBin fMod (mCB fInt (mCons (mBin fIx (mV 0) (mC (.int 2))) mNil)) (mV 1)) (.nm 2))
    (mSeq (mSetIx (mBin fDiv (mBin fIx (mV 0) (mC (.int 2))) (mV 1)) (mV 0) (mC (.int 2)))
    (mRet (mV 2)))))
def M_LTake : Fn := fnM 3 2 .keep B_LTake
theorem ok_LTake (T : Txt K mg) : FnOk P w K mg base CX0 2 T.f_LTake T.d_LTake ["c", "many"] (spD K 2 M_LTake) := by
  have h := fn_D (P := P) (w := w) (mg := mg) (base := base) (k := 1) (m := .keep) (body := B_LTake) T.F_LTake sc_LTake fun cdv A outer s H E hr => (ass_cons (as_if (at_lt hr (ae_sub' (av 0) ae_int) (av 1)) (ass_one (as_setIx (ae_call (ok_LFill T) hr T.g_LFill T.F_LFill.kp T.b_LFill (aa_cons (av 0) aa_nil) (np_cons (fun _ _ _ _ h => np_nil h)) (by omega)) (av 0) ae_int)) ass_nil)
    (ass_cons (as_set sc_LTake.nd (ae_mod (ae_intC T.n_int (aa_cons (ae_sub' (av 0) ae_int) aa_nil)) (av 1)))
    (ass_cons (as_setIx (ae_div (ae_sub' (av 0) ae_int) (av 1)) (av 0) ae_int)
    (ass_one (as_ret (av 2))))))
  exact h
def B_LDivisor : MS := (mSeq (mFor (mRg1 (mCons (mC (.int 20000)) mNil)) (.nm 2) (mSeq (mIfS (mTV (mBin fEq (mV 1) (mC (.int 0)))) (mRet (mCB fAbs (mCons (mV 0) mNil))) mSkip)
    (mPar 0 1 (mCons (mV 1) (mCons (mBin fMod (mV 0) (mV 1)) mNil)))))
    (mRet (mC (.int 1))))
def M_LDivisor : Fn := fnM 3 2 .pure B_LDivisor
theorem ok_LDivisor (T : Txt K mg) : FnOk P w K mg base CX0 1 T.f_LDivisor T.d_LDivisor ["a", "b"] (spD K 2 M_LDivisor) := by
  have h := fn_D (P := P) (w := w) (mg := mg) (base := base) (k := 0) (m := .pure) (body := B_LDivisor) T.F_LDivisor sc_LDivisor fun cdv A outer s H E hr => (ass_cons (as_for PassesOwn.never rfl (ai_range1 T.n_range (aa_cons ae_int aa_nil)) (ag_name 2 sc_LDivisor.nd) (ass_cons (as_if (at_eq hr (av 1) ae_int) (ass_one (as_ret (ae_abs T.n_abs (aa_cons (av 0) aa_nil)))) ass_nil)
    (ass_one (as_par rfl sc_LDivisor.nd (aa_cons (av 1) (aa_cons (ae_mod (av 0) (av 1)) aa_nil))))))
    (ass_one (as_ret ae_int)))
  exact h
def B_LFraction : MS := (mSeq (mAsg (mCall M_LDivisor (mCons (mV 0) (mCons (mV 1) mNil))) (.nm 2))
    (mSeq (mAsg (mIf (mTV (mBin fGtD (mV 1) (mC (.int 0)))) (mV 2) (mBin fSub (mC (.int 0)) (mV 2))) (.nm 2))
    (mRet (mTup (mCons (mBin fDiv (mV 0) (mV 2)) (mCons (mBin fDiv (mV 1) (mV 2)) mNil))))))
def M_LFraction : Fn := fnM 3 2 .pure B_LFraction
theorem ok_LFraction (T : Txt K mg) : FnOk P w K mg base CX0 2 T.f_LFraction T.d_LFraction ["n", "d"] (spD K 2 M_LFraction) := by
  have h := fn_D (P := P) (w := w) (mg := mg) (base := base) (k := 1) (m := .pure) (body := B_LFraction) T.F_LFraction sc_LFraction fun cdv A outer s H E hr => (ass_cons (as_set sc_LFraction.nd (ae_call (ok_LDivisor T) hr T.g_LDivisor T.F_LDivisor.kp T.b_LDivisor (aa_cons (av 0) (aa_cons (av 1) aa_nil)) (np_cons (np_cons (fun _ _ _ _ h => np_nil h))) (by omega)))
    (ass_cons (as_set sc_LFraction.nd (ae_if (at_gt hr (av 1) ae_int) (av 2) (ae_sub ae_int (av 2))))
    (ass_one (as_ret (ae_tup (aa_cons (ae_div (av 0) (av 2)) (aa_cons (ae_div (av 1) (av 2)) aa_nil)))))))
  exact h
def B_LPlus : MS := (mRet (mCall M_LFraction (mCons (mBin fAdd (mBin fMul (mBin fIx (mV 0) (mC (.int 0))) (mBin fIx (mV 1) (mC (.int 1)))) (mBin fMul (mBin fIx (mV 1) (mC (.int 0))) (mBin fIx (mV 0) (mC (.int 1))))) (mCons (mBin fMul (mBin fIx (mV 0) (mC (.int 1))) (mBin fIx (mV 1) (mC (.int 1)))) mNil))))
def M_LPlus : Fn := fnM 2 2 .pure B_LPlus
theorem ok_LPlus (T : Txt K mg) : FnOk P w K mg base CX0 3 T.f_LPlus T.d_LPlus ["a", "b"] (spD K 2 M_LPlus) := by
  have h := fn_D (P := P) (w := w) (mg := mg) (base := base) (k := 2) (m := .pure) (body := B_LPlus) T.F_LPlus sc_LPlus fun cdv A outer s H E hr => (ass_one (as_ret (ae_call (ok_LFraction T) hr T.g_LFraction T.F_LFraction.kp T.b_LFraction (aa_cons (ae_add (ae_mul (ae_sub' (av 0) ae_int) (ae_sub' (av 1) ae_int)) (ae_mul (ae_sub' (av 1) ae_int) (ae_sub' (av 0) ae_int))) (aa_cons (ae_mul (ae_sub' (av 0) ae_int) (ae_sub' (av 1) ae_int)) aa_nil)) (np_cons (np_cons (fun _ _ _ _ h => np_nil h))) (by omega))))
  exact h
def B_LTimes : MS := (mRet (mCall M_LFraction (mCons (mBin fMul (mBin fIx (mV 0) (mC (.int 0))) (mBin fIx (mV 1) (mC (.int 0)))) (mCons (mBin fMul (mBin fIx (mV 0) (mC (.int 1))) (mBin fIx (mV 1) (mC (.int 1)))) mNil))))
def M_LTimes : Fn := fnM 2 2 .pure B_LTimes
theorem ok_LTimes (T : Txt K mg) : FnOk P w K mg base CX0 3 T.f_LTimes T.d_LTimes ["a", "b"] (spD K 2 M_LTimes) := by
  have h := fn_D (P := P) (w := w) (mg := mg) (base := base) (k := 2) (m := .pure) (body := B_LTimes) T.F_LTimes sc_LTimes fun cdv A outer s H E hr => (ass_one (as_ret (ae_call (ok_LFraction T) hr T.g_LFraction T.F_LFraction.kp T.b_LFraction (aa_cons (ae_mul (ae_sub' (av 0) ae_int) (ae_sub' (av 1) ae_int)) (aa_cons (ae_mul (ae_sub' (av 0) ae_int) (ae_sub' (av 1) ae_int)) aa_nil)) (np_cons (np_cons (fun _ _ _ _ h => np_nil h))) (by omega))))
  exact h
def B_LIsInt : MS := (mRet (mAndV (mIsi "int" (mV 0)) (mNotV (mIsi "bool" (mV 0)))))
def M_LIsInt : Fn := fnM 1 1 .pure B_LIsInt
theorem ok_LIsInt (T : Txt K mg) : FnOk P w K mg base CX0 1 T.f_LIsInt T.d_LIsInt ["value"] (spD K 1 M_LIsInt) := by
  have h := fn_D (P := P) (w := w) (mg := mg) (base := base) (k := 0) (m := .pure) (body := B_LIsInt) T.F_LIsInt sc_LIsInt fun cdv A outer s H E hr => (ass_one (as_ret (ae_and (ae_isi T.n_isinstance T.n_int (av 0)) (ae_one (ae_not (ae_isi T.n_isinstance T.n_bool (av 0)))))))
  exact h
def B_LAlike (r : Fn) : MS := (mSeq (mIfS (mTru (mIsi "tuple" (mV 1))) (mRet (mAndV (mIsi "tuple" (mV 0)) (mAndV (mBin fEq (mCB fLen (mCons (mV 0) mNil)) (mCB fLen (mCons (mV 1) mNil))) (mCB fAll (mCons (mVal (mLC (mRg1 (mCons (mCB fLen (mCons (mV 1) mNil)) mNil)) (.nm 2) mYes (mCall r (mCons (mBin fIx (mV 0) (mV 2)) (mCons (mBin fIx (mV 1) (mV 2)) mNil))) [2])) mNil))))) mSkip)
    (mSeq (mIfS (mTV (mBin fIsN (mV 1) (mC .non))) (mRet (mBin fIsN (mV 0) (mC .non))) mSkip)
    (mSeq (mIfS (mOr (mTru (mIsi "bool" (mV 0))) (mTV (mBin fNe (mIsi "str" (mV 0)) (mIsi "str" (mV 1))))) (mRet (mC (.bl false))) mSkip)
    (mRet (mAndV (mIsi2 "int" "str" (mV 0)) (mBin fEq (mV 0) (mV 1)))))))
def MR_LAlike : Nat → Fn
  | 0 => fun _ _ => none
  | n + 1 => fnM 3 2 .pure (B_LAlike (MR_LAlike n))
abbrev M_LAlike : Fn := MR_LAlike 16
theorem okr_LAlike (T : Txt K mg) : ∀ n : Nat, FnOk P w K mg base CX0 (n + 1) T.f_LAlike T.d_LAlike ["value", "due"] (spD K 2 (MR_LAlike n))
  | 0 => ⟨fun _ _ _ _ h => h.1, fun _ _ _ _ _ _ _ _ _ _ _ _ _ h => by obtain ⟨_, _, _, _, _, _, _, _, hm, _⟩ := h; cases hm⟩
  | n + 1 => by
    have R := okr_LAlike T n
    have e : n + 1 + 1 = (n + 1) + 1 := by omega
    rw [e]
    have h := fn_D (P := P) (w := w) (mg := mg) (base := base) (k := n + 1) (m := .pure) (body := B_LAlike (MR_LAlike n)) T.F_LAlike sc_LAlike fun cdv A outer s H E hr => (ass_cons (as_if (at_truth (ae_isi T.n_isinstance T.n_tuple (av 1))) (ass_one (as_ret (ae_and (ae_isi T.n_isinstance T.n_tuple (av 0)) (ae_and (ae_eq hr (ae_len T.n_len (aa_cons (av 0) aa_nil)) (ae_len T.n_len (aa_cons (av 1) aa_nil))) (ae_one (ae_all rfl T.n_all (aa_cons (ae_val (af_lc [("k", 2)] rfl sc_LAlike.nd (ai_range1 T.n_range (aa_cons (ae_len T.n_len (aa_cons (av 1) aa_nil)) aa_nil)) (blkOk_by (by first | exact rfl | decide +kernel)) (fun _ _ _ _ _ => (ag_name 2 sc_LAlike.nd)) (fun _ _ _ _ _ => ats_nil) (fun _ _ _ _ _ => (ae_call R hr T.g_LAlike T.F_LAlike.kp T.b_LAlike (aa_cons (ae_sub' (av 0) (av 2)) (aa_cons (ae_sub' (av 1) (av 2)) aa_nil)) (np_cons (np_cons (fun _ _ _ _ h => np_nil h))) (by omega))))) aa_nil))))))) ass_nil)
    (ass_cons (as_if (at_is (av 1) ae_non) (ass_one (as_ret (ae_is (av 0) ae_non))) ass_nil)
    (ass_cons (as_if (PW.pt (aw_or (at_truth (ae_isi T.n_isinstance T.n_bool (av 0))) (aw_or1 (at_ne hr (ae_isi T.n_isinstance T.n_str (av 0)) (ae_isi T.n_isinstance T.n_str (av 1)))))) (ass_one (as_ret ae_bl)) ass_nil)
    (ass_one (as_ret (ae_and (ae_isi2 T.n_isinstance T.n_int T.n_str (av 0)) (ae_one (ae_eq hr (av 0) (av 1)))))))))
    exact h
theorem ok_LAlike (T : Txt K mg) : FnOk P w K mg base CX0 17 T.f_LAlike T.d_LAlike ["value", "due"] (spD K 2 M_LAlike) := okr_LAlike T 16
def B_LSpoilt (r : Fn) : MS := (mSeq (mIfS (mTru (mIsi "str" (mV 1))) (mRet (mBin fIx (mVal (mLst (mCons (mC (.str "")) (mCons (mC (.str "winner")) (mCons (mC (.str "none")) (mCons (mC (.str "widest")) (mCons (mC (.str "no way")) (mCons (mC (.str "line")) (mCons (mC (.str "worst")) (mCons (mC (.str "crossed")) (mCons (mC (.str "core")) (mCons (mC (.str "no core")) (mCons (mC (.str "tree")) mNil))))))))))))) (mCall M_LTake (mCons (mV 0) (mCons (mC (.int 11)) mNil))))) mSkip)
    (mSeq (mIfS (mNot (mTru (mIsi "tuple" (mV 1)))) (mRet (mBin fIx (mVal (mLst (mCons (mC (.int 0)) (mCons (mC (.int 1)) (mCons (mC (.int 2)) (mCons (mUn fNeg (mC (.int 1))) (mCons (mC (.bl true)) (mCons (mC .non) (mCons (mC (.int 3)) mNil))))))))) (mCall M_LTake (mCons (mV 0) (mCons (mC (.int 7)) mNil))))) mSkip)
    (mSeq (mIfS (mOr (mNot (mTru (mV 1))) (mTV (mBin fEq (mCall M_LTake (mCons (mV 0) (mCons (mC (.int 5)) mNil))) (mC (.int 0))))) (mRet (mBin fIx (mVal (mLst (mCons (mSl fSlT (mV 1) (mO1 (mC (.int 1))) mO0) (mCons (mSl fSlT (mV 1) mO0 (mO1 (mUn fNeg (mC (.int 1))))) (mCons (mBin fAdd (mV 1) (mSl fSlT (mV 1) (mO1 (mUn fNeg (mC (.int 1)))) mO0)) (mCons (mRevT (mV 1)) (mCons (mVal (mListOf (mV 1))) (mCons (mBin fAdd (mV 1) (mTup (mCons (mC (.int 0)) mNil))) (mCons (mTup mNil) (mCons (mTup (mCons (mC (.int 1)) (mCons (mC (.int 0)) mNil))) mNil)))))))))) (mCall M_LTake (mCons (mV 0) (mCons (mC (.int 8)) mNil))))) mSkip)
    (mSeq (mAsg (mCall M_LTake (mCons (mV 0) (mCons (mCB fLen (mCons (mV 1) mNil)) mNil))) (.nm 2))
    (mRet (mBin fAdd (mBin fAdd (mSl fSlT (mV 1) mO0 (mO1 (mV 2))) (mTup (mCons (mCall r (mCons (mV 0) (mCons (mBin fIx (mV 1) (mV 2)) mNil))) mNil))) (mSl fSlT (mV 1) (mO1 (mBin fAdd (mV 2) (mC (.int 1)))) mO0)))))))
def MR_LSpoilt : Nat → Fn
  | 0 => fun _ _ => none
  | n + 1 => fnM 3 2 .keep (B_LSpoilt (MR_LSpoilt n))
abbrev M_LSpoilt : Fn := MR_LSpoilt 16
theorem okr_LSpoilt (T : Txt K mg) : ∀ n : Nat, FnOk P w K mg base CX0 (n + 3) T.f_LSpoilt T.d_LSpoilt ["c", "value"] (spD K 2 (MR_LSpoilt n))
  | 0 => ⟨fun _ _ _ _ h => h.1, fun _ _ _ _ _ _ _ _ _ _ _ _ _ h => by obtain ⟨_, _, _, _, _, _, _, _, hm, _⟩ := h; cases hm⟩
  | n + 1 => by
    have R := okr_LSpoilt T n
    have e : n + 1 + 3 = (n + 3) + 1 := by omega
    rw [e]
    have h := fn_D (P := P) (w := w) (mg := mg) (base := base) (k := n + 3) (m := .keep) (body := B_LSpoilt (MR_LSpoilt n)) T.F_LSpoilt sc_LSpoilt fun cdv A outer s H E hr => (ass_cons (as_if (at_truth (ae_isi T.n_isinstance T.n_str (av 1))) (ass_one (as_ret (ae_sub' (ae_val (af_lst (aa_cons ae_str (aa_cons ae_str (aa_cons ae_str (aa_cons ae_str (aa_cons ae_str (aa_cons ae_str (aa_cons ae_str (aa_cons ae_str (aa_cons ae_str (aa_cons ae_str (aa_cons ae_str aa_nil))))))))))))) (ae_call (ok_LTake T) hr T.g_LTake T.F_LTake.kp T.b_LTake (aa_cons (av 0) (aa_cons ae_int aa_nil)) (np_cons (np_cons (fun _ _ _ _ h => np_nil h))) (by omega))))) ass_nil)
    (ass_cons (as_if (at_not (at_truth (ae_isi T.n_isinstance T.n_tuple (av 1)))) (ass_one (as_ret (ae_sub' (ae_val (af_lst (aa_cons ae_int (aa_cons ae_int (aa_cons ae_int (aa_cons (ae_neg ae_int) (aa_cons ae_bl (aa_cons ae_non (aa_cons ae_int aa_nil))))))))) (ae_call (ok_LTake T) hr T.g_LTake T.F_LTake.kp T.b_LTake (aa_cons (av 0) (aa_cons ae_int aa_nil)) (np_cons (np_cons (fun _ _ _ _ h => np_nil h))) (by omega))))) ass_nil)
    (ass_cons (as_if (PW.pt (aw_or (at_not (at_truth (av 1))) (aw_or1 (at_eq hr (ae_call (ok_LTake T) hr T.g_LTake T.F_LTake.kp T.b_LTake (aa_cons (av 0) (aa_cons ae_int aa_nil)) (np_cons (np_cons (fun _ _ _ _ h => np_nil h))) (by omega)) ae_int)))) (ass_one (as_ret (ae_sub' (ae_val (af_lst (aa_cons (ae_slT (av 1) (ao_some ae_int) ao_none) (aa_cons (ae_slT (av 1) ao_none (ao_some (ae_neg ae_int))) (aa_cons (ae_add (av 1) (ae_slT (av 1) (ao_some (ae_neg ae_int)) ao_none)) (aa_cons (ae_revT (av 1)) (aa_cons (ae_val (af_list T.n_list (av 1))) (aa_cons (ae_add (av 1) (ae_tup (aa_cons ae_int aa_nil))) (aa_cons (ae_tup aa_nil) (aa_cons (ae_tup (aa_cons ae_int (aa_cons ae_int aa_nil))) aa_nil)))))))))) (ae_call (ok_LTake T) hr T.g_LTake T.F_LTake.kp T.b_LTake (aa_cons (av 0) (aa_cons ae_int aa_nil)) (np_cons (np_cons (fun _ _ _ _ h => np_nil h))) (by omega))))) ass_nil)
    (ass_cons (as_set sc_LSpoilt.nd (ae_call (ok_LTake T) hr T.g_LTake T.F_LTake.kp T.b_LTake (aa_cons (av 0) (aa_cons (ae_len T.n_len (aa_cons (av 1) aa_nil)) aa_nil)) (np_cons (np_cons (fun _ _ _ _ h => np_nil h))) (by omega)))
    (ass_one (as_ret (ae_add (ae_add (ae_slT (av 1) ao_none (ao_some (av 2))) (ae_tup (aa_cons (ae_call R hr T.g_LSpoilt T.F_LSpoilt.kp T.b_LSpoilt (aa_cons (av 0) (aa_cons (ae_sub' (av 1) (av 2)) aa_nil)) (np_cons (np_cons (fun _ _ _ _ h => np_nil h))) (by omega)) aa_nil))) (ae_slT (av 1) (ao_some (ae_add (av 2) ae_int)) ao_none))))))))
    exact h
theorem ok_LSpoilt (T : Txt K mg) : FnOk P w K mg base CX0 19 T.f_LSpoilt T.d_LSpoilt ["c", "value"] (spD K 2 M_LSpoilt) := okr_LSpoilt T 16
def B_LBent : MS := (mSeq (mFor (mRg1 (mCons (mBin fMul (mCB fInt (mCons (mBin fGtD (mV 2) (mC (.int 0))) mNil)) (mBin fAdd (mC (.int 1)) (mCall M_LTake (mCons (mV 0) (mCons (mC (.int 2)) mNil))))) mNil)) (.nm 3) (mAsg (mCall M_LSpoilt (mCons (mV 0) (mCons (mV 1) mNil))) (.nm 1)))
    (mRet (mV 1)))
def M_LBent : Fn := fnM 4 3 .keep B_LBent
theorem ok_LBent (T : Txt K mg) : FnOk P w K mg base CX0 20 T.f_LBent T.d_LBent ["c", "value", "turn"] (spD K 3 M_LBent) := by
  have h := fn_D (P := P) (w := w) (mg := mg) (base := base) (k := 19) (m := .keep) (body := B_LBent) T.F_LBent sc_LBent fun cdv A outer s H E hr => (ass_cons (as_for PassesOwn.never rfl (ai_range1 T.n_range (aa_cons (ae_mul (ae_intC T.n_int (aa_cons (ae_gt hr (av 2) ae_int) aa_nil)) (ae_add ae_int (ae_call (ok_LTake T) hr T.g_LTake T.F_LTake.kp T.b_LTake (aa_cons (av 0) (aa_cons ae_int aa_nil)) (np_cons (np_cons (fun _ _ _ _ h => np_nil h))) (by omega)))) aa_nil)) (ag_name 3 sc_LBent.nd) (ass_one (as_set sc_LBent.nd (ae_call (ok_LSpoilt T) hr T.g_LSpoilt T.F_LSpoilt.kp T.b_LSpoilt (aa_cons (av 0) (aa_cons (av 1) aa_nil)) (np_cons (np_cons (fun _ _ _ _ h => np_nil h))) (by omega)))))
    (ass_one (as_ret (av 1))))
  exact h
def B_LMinus : MS := (mRet (mCall M_LPlus (mCons (mV 0) (mCons (mTup (mCons (mBin fSub (mC (.int 0)) (mBin fIx (mV 1) (mC (.int 0)))) (mCons (mBin fIx (mV 1) (mC (.int 1))) mNil))) mNil))))
def M_LMinus : Fn := fnM 2 2 .pure B_LMinus
theorem ok_LMinus (T : Txt K mg) : FnOk P w K mg base CX0 4 T.f_LMinus T.d_LMinus ["a", "b"] (spD K 2 M_LMinus) := by
  have h := fn_D (P := P) (w := w) (mg := mg) (base := base) (k := 3) (m := .pure) (body := B_LMinus) T.F_LMinus sc_LMinus fun cdv A outer s H E hr => (ass_one (as_ret (ae_call (ok_LPlus T) hr T.g_LPlus T.F_LPlus.kp T.b_LPlus (aa_cons (av 0) (aa_cons (ae_tup (aa_cons (ae_sub ae_int (ae_sub' (av 1) ae_int)) (aa_cons (ae_sub' (av 1) ae_int) aa_nil))) aa_nil)) (np_cons (np_cons (fun _ _ _ _ h => np_nil h))) (by omega))))
  exact h
def B_LLess : MS := (mRet (mBin fLtD (mBin fMul (mBin fIx (mV 0) (mC (.int 0))) (mBin fIx (mV 1) (mC (.int 1)))) (mBin fMul (mBin fIx (mV 1) (mC (.int 0))) (mBin fIx (mV 0) (mC (.int 1))))))
def M_LLess : Fn := fnM 2 2 .pure B_LLess
theorem ok_LLess (T : Txt K mg) : FnOk P w K mg base CX0 1 T.f_LLess T.d_LLess ["a", "b"] (spD K 2 M_LLess) := by
  have h := fn_D (P := P) (w := w) (mg := mg) (base := base) (k := 0) (m := .pure) (body := B_LLess) T.F_LLess sc_LLess fun cdv A outer s H E hr => (ass_one (as_ret (ae_lt hr (ae_mul (ae_sub' (av 0) ae_int) (ae_sub' (av 1) ae_int)) (ae_mul (ae_sub' (av 1) ae_int) (ae_sub' (av 0) ae_int)))))
  exact h
def B_LTotal : MS := (mSeq (mAsg (mTup (mCons (mC (.int 0)) (mCons (mC (.int 1)) mNil))) (.nm 1))
    (mSeq (mFor (mIt (mV 0)) (.nm 2) (mAsg (mCall M_LPlus (mCons (mV 1) (mCons (mV 2) mNil))) (.nm 1)))
    (mRet (mV 1))))
def M_LTotal : Fn := fnM 3 1 .pure B_LTotal
theorem ok_LTotal (T : Txt K mg) : FnOk P w K mg base CX0 4 T.f_LTotal T.d_LTotal ["row"] (spD K 1 M_LTotal) := by
  have h := fn_D (P := P) (w := w) (mg := mg) (base := base) (k := 3) (m := .pure) (body := B_LTotal) T.F_LTotal sc_LTotal fun cdv A outer s H E hr => (ass_cons (as_set sc_LTotal.nd (ae_tup (aa_cons ae_int (aa_cons ae_int aa_nil))))
    (ass_cons (as_for PassesOwn.never rfl (ai_any (av 0)) (ag_name 2 sc_LTotal.nd) (ass_one (as_set sc_LTotal.nd (ae_call (ok_LPlus T) hr T.g_LPlus T.F_LPlus.kp T.b_LPlus (aa_cons (av 1) (aa_cons (av 2) aa_nil)) (np_cons (np_cons (fun _ _ _ _ h => np_nil h))) (by omega)))))
    (ass_one (as_ret (av 1)))))
  exact h
def B_LIsFraction : MS := (mSeq (mIfS (mOr (mNot (mTru (mIsi "tuple" (mV 0)))) (mOr (mTV (mBin fNe (mCB fLen (mCons (mV 0) mNil)) (mC (.int 2)))) (mNot (mTru (mCB fAll (mCons (mVal (mLC (mIt (mV 0)) (.nm 1) mYes (mCall M_LIsInt (mCons (mV 1) mNil)) [1])) mNil)))))) (mRet (mC (.bl false))) mSkip)
    (mRet (mAndV (mBin fGtD (mBin fIx (mV 0) (mC (.int 1))) (mC (.int 0))) (mBin fEq (mCall M_LDivisor (mCons (mBin fIx (mV 0) (mC (.int 0))) (mCons (mBin fIx (mV 0) (mC (.int 1))) mNil))) (mC (.int 1))))))
def M_LIsFraction : Fn := fnM 2 1 .pure B_LIsFraction
theorem ok_LIsFraction (T : Txt K mg) : FnOk P w K mg base CX0 2 T.f_LIsFraction T.d_LIsFraction ["value"] (spD K 1 M_LIsFraction) := by
  have h := fn_D (P := P) (w := w) (mg := mg) (base := base) (k := 1) (m := .pure) (body := B_LIsFraction) T.F_LIsFraction sc_LIsFraction fun cdv A outer s H E hr => (ass_cons (as_if (PW.pt (aw_or (at_not (at_truth (ae_isi T.n_isinstance T.n_tuple (av 0)))) (aw_or (at_ne hr (ae_len T.n_len (aa_cons (av 0) aa_nil)) ae_int) (aw_or1 (at_not (at_truth (ae_all rfl T.n_all (aa_cons (ae_val (af_lc [("one", 1)] rfl sc_LIsFraction.nd (ai_any (av 0)) (blkOk_by (by first | exact rfl | decide +kernel)) (fun _ _ _ _ _ => (ag_name 1 sc_LIsFraction.nd)) (fun _ _ _ _ _ => ats_nil) (fun _ _ _ _ _ => (ae_call (ok_LIsInt T) hr T.g_LIsInt T.F_LIsInt.kp T.b_LIsInt (aa_cons (av 1) aa_nil) (np_cons (fun _ _ _ _ h => np_nil h)) (by omega))))) aa_nil)))))))) (ass_one (as_ret ae_bl)) ass_nil)
    (ass_one (as_ret (ae_and (ae_gt hr (ae_sub' (av 0) ae_int) ae_int) (ae_one (ae_eq hr (ae_call (ok_LDivisor T) hr T.g_LDivisor T.F_LDivisor.kp T.b_LDivisor (aa_cons (ae_sub' (av 0) ae_int) (aa_cons (ae_sub' (av 0) ae_int) aa_nil)) (np_cons (np_cons (fun _ _ _ _ h => np_nil h))) (by omega)) ae_int))))))
  exact h
def B_LIsRow : MS := (mRet (mAndV (mIsi "tuple" (mV 0)) (mAndV (mBin fEq (mCB fLen (mCons (mV 0) mNil)) (mV 1)) (mCB fAll (mCons (mVal (mLC (mIt (mV 0)) (.nm 2) mYes (mCall M_LIsFraction (mCons (mV 2) mNil)) [2])) mNil)))))
def M_LIsRow : Fn := fnM 3 2 .pure B_LIsRow
theorem ok_LIsRow (T : Txt K mg) : FnOk P w K mg base CX0 3 T.f_LIsRow T.d_LIsRow ["value", "many"] (spD K 2 M_LIsRow) := by
  have h := fn_D (P := P) (w := w) (mg := mg) (base := base) (k := 2) (m := .pure) (body := B_LIsRow) T.F_LIsRow sc_LIsRow fun cdv A outer s H E hr => (ass_one (as_ret (ae_and (ae_isi T.n_isinstance T.n_tuple (av 0)) (ae_and (ae_eq hr (ae_len T.n_len (aa_cons (av 0) aa_nil)) (av 1)) (ae_one (ae_all rfl T.n_all (aa_cons (ae_val (af_lc [("one", 2)] rfl sc_LIsRow.nd (ai_any (av 0)) (blkOk_by (by first | exact rfl | decide +kernel)) (fun _ _ _ _ _ => (ag_name 2 sc_LIsRow.nd)) (fun _ _ _ _ _ => ats_nil) (fun _ _ _ _ _ => (ae_call (ok_LIsFraction T) hr T.g_LIsFraction T.F_LIsFraction.kp T.b_LIsFraction (aa_cons (av 2) aa_nil) (np_cons (fun _ _ _ _ h => np_nil h)) (by omega))))) aa_nil)))))))
  exact h
def B_LOrders : MS := (mSeq (mAsg (mVal (mLst (mCons (mTup mNil) mNil))) (.nm 1))
    (mSeq (mFor (mRg1 (mCons (mV 0) mNil)) (.nm 2) (mSeq (mAsg (mVal (mLst mNil)) (.nm 3))
    (mSeq (mFor (mIt (mV 1)) (.nm 4) (mAsg (mBin fAdd (mV 3) (mVal (mLC (mRg1 (mCons (mV 0) mNil)) (.nm 5) (mTV (mBin fNotIn (mV 5) (mV 4))) (mBin fAdd (mV 4) (mTup (mCons (mV 5) mNil))) [5]))) (.nm 3)))
    (mAsg (mV 3) (.nm 1)))))
    (mRet (mV 1))))
def M_LOrders : Fn := fnM 6 1 .pure B_LOrders
theorem ok_LOrders (T : Txt K mg) : FnOk P w K mg base CX0 1 T.f_LOrders T.d_LOrders ["n"] (spD K 1 M_LOrders) := by
  have h := fn_D (P := P) (w := w) (mg := mg) (base := base) (k := 0) (m := .pure) (body := B_LOrders) T.F_LOrders sc_LOrders fun cdv A outer s H E hr => (ass_cons (as_set sc_LOrders.nd (ae_val (af_lst (aa_cons (ae_tup aa_nil) aa_nil))))
    (ass_cons (as_for PassesOwn.never rfl (ai_range1 T.n_range (aa_cons (av 0) aa_nil)) (ag_name 2 sc_LOrders.nd) (ass_cons (as_set sc_LOrders.nd (ae_val (af_lst aa_nil)))
    (ass_cons (as_for PassesOwn.never rfl (ai_any (av 1)) (ag_name 4 sc_LOrders.nd) (ass_one (as_set sc_LOrders.nd (ae_add (av 3) (ae_val (af_lc [("k", 5)] rfl sc_LOrders.nd (ai_range1 T.n_range (aa_cons (av 0) aa_nil)) (blkOk_by (by first | exact rfl | decide +kernel)) (fun _ _ _ _ _ => (ag_name 5 sc_LOrders.nd)) (fun _ _ _ _ _ => (ats_one (at_nin hr (av 5) (av 4)))) (fun _ _ _ _ _ => (ae_add (av 4) (ae_tup (aa_cons (av 5) aa_nil))))))))))
    (ass_one (as_set sc_LOrders.nd (av 3))))))
    (ass_one (as_ret (av 1)))))
  exact h
def B_LIsRents : MS := (mSeq (mAsg (mCB fLen (mCons (mV 0) mNil)) (.nm 3))
    (mSeq (mIfS (mOr (mNot (mTru (mIsi "tuple" (mV 2)))) (mOr (mTV (mBin fNe (mCB fLen (mCons (mV 2) mNil)) (mC (.int 3)))) (mOr (mNot (mTru (mIsi "str" (mBin fIx (mV 2) (mC (.int 0)))))) (mTV (mBin fNe (mBin fIx (mV 2) (mC (.int 0))) (mC (.str "rents"))))))) (mRet (mC (.bl false))) mSkip)
    (mSeq (mAsg (mSl fSlT (mV 2) (mO1 (mC (.int 1))) mO0) (.tp [5, 6]))
    (mSeq (mIfS (mOr (mNot (mTru (mIsi "tuple" (mV 5)))) (mOr (mNot (mTru (mCB fAll (mCons (mVal (mLC (mIt (mV 5)) (.nm 9) mYes (mCall M_LIsInt (mCons (mV 9) mNil)) [9])) mNil)))) (mTV (mBin fNe (mVal (mSorted (mV 5))) (mVal (mLstRg (mV 3))))))) (mRet (mC (.bl false))) mSkip)
    (mSeq (mIfS (mOr (mNot (mTru (mCall M_LIsRow (mCons (mV 6) (mCons (mV 3) mNil))))) (mTV (mBin fNe (mCall M_LTotal (mCons (mV 6) mNil)) (mV 1)))) (mRet (mC (.bl false))) mSkip)
    (mSeq (mFor (mRg1 (mCons (mV 3) mNil)) (.nm 4) (mSeq (mAsg (mCall M_LMinus (mCons (mTup (mCons (mBin fIx (mBin fIx (mV 0) (mV 4)) (mBin fIx (mV 5) (mV 4))) (mCons (mC (.int 1)) mNil))) (mCons (mBin fIx (mV 6) (mBin fIx (mV 5) (mV 4))) mNil))) (.nm 7))
    (mIfS (mTru (mCB fAny (mCons (mVal (mLC (mRg1 (mCons (mV 3) mNil)) (.nm 8) mYes (mCall M_LLess (mCons (mV 7) (mCons (mCall M_LMinus (mCons (mTup (mCons (mBin fIx (mBin fIx (mV 0) (mV 4)) (mV 8)) (mCons (mC (.int 1)) mNil))) (mCons (mBin fIx (mV 6) (mV 8)) mNil))) mNil))) [8])) mNil))) (mRet (mC (.bl false))) mSkip)))
    (mRet (mC (.bl true)))))))))
def M_LIsRents : Fn := fnM 10 3 .pure B_LIsRents
theorem ok_LIsRents (T : Txt K mg) : FnOk P w K mg base CX0 5 T.f_LIsRents T.d_LIsRents ["worths", "rent", "value"] (spD K 3 M_LIsRents) := by
  have h := fn_D (P := P) (w := w) (mg := mg) (base := base) (k := 4) (m := .pure) (body := B_LIsRents) T.F_LIsRents sc_LIsRents fun cdv A outer s H E hr => (ass_cons (as_set sc_LIsRents.nd (ae_len T.n_len (aa_cons (av 0) aa_nil)))
    (ass_cons (as_if (PW.pt (aw_or (at_not (at_truth (ae_isi T.n_isinstance T.n_tuple (av 2)))) (aw_or (at_ne hr (ae_len T.n_len (aa_cons (av 2) aa_nil)) ae_int) (aw_or (at_not (at_truth (ae_isi T.n_isinstance T.n_str (ae_sub' (av 2) ae_int)))) (aw_or1 (at_ne hr (ae_sub' (av 2) ae_int) ae_str)))))) (ass_one (as_ret ae_bl)) ass_nil)
    (ass_cons (as_asg (ae_slT (av 2) (ao_some ae_int) ao_none) (ag_tup rfl (pgs_cons (ag_name 5 sc_LIsRents.nd) (pgs_cons (ag_name 6 sc_LIsRents.nd) agn_nil))))
    (ass_cons (as_if (PW.pt (aw_or (at_not (at_truth (ae_isi T.n_isinstance T.n_tuple (av 5)))) (aw_or (at_not (at_truth (ae_all rfl T.n_all (aa_cons (ae_val (af_lc [("one", 9)] rfl sc_LIsRents.nd (ai_any (av 5)) (blkOk_by (by first | exact rfl | decide +kernel)) (fun _ _ _ _ _ => (ag_name 9 sc_LIsRents.nd)) (fun _ _ _ _ _ => ats_nil) (fun _ _ _ _ _ => (ae_call (ok_LIsInt T) hr T.g_LIsInt T.F_LIsInt.kp T.b_LIsInt (aa_cons (av 9) aa_nil) (np_cons (fun _ _ _ _ h => np_nil h)) (by omega))))) aa_nil)))) (aw_or1 (at_ne hr (ae_val (af_sorted hr T.n_sorted (av 5))) (ae_val (af_listRg rfl T.n_list T.n_range (av 3)))))))) (ass_one (as_ret ae_bl)) ass_nil)
    (ass_cons (as_if (PW.pt (aw_or (at_not (at_truth (ae_call (ok_LIsRow T) hr T.g_LIsRow T.F_LIsRow.kp T.b_LIsRow (aa_cons (av 6) (aa_cons (av 3) aa_nil)) (np_cons (np_cons (fun _ _ _ _ h => np_nil h))) (by omega)))) (aw_or1 (at_ne hr (ae_call (ok_LTotal T) hr T.g_LTotal T.F_LTotal.kp T.b_LTotal (aa_cons (av 6) aa_nil) (np_cons (fun _ _ _ _ h => np_nil h)) (by omega)) (av 1))))) (ass_one (as_ret ae_bl)) ass_nil)
    (ass_cons (as_for PassesOwn.never rfl (ai_range1 T.n_range (aa_cons (av 3) aa_nil)) (ag_name 4 sc_LIsRents.nd) (ass_cons (as_set sc_LIsRents.nd (ae_call (ok_LMinus T) hr T.g_LMinus T.F_LMinus.kp T.b_LMinus (aa_cons (ae_tup (aa_cons (ae_sub' (ae_sub' (av 0) (av 4)) (ae_sub' (av 5) (av 4))) (aa_cons ae_int aa_nil))) (aa_cons (ae_sub' (av 6) (ae_sub' (av 5) (av 4))) aa_nil)) (np_cons (np_cons (fun _ _ _ _ h => np_nil h))) (by omega)))
    (ass_one (as_if (at_truth (ae_any rfl T.n_any (aa_cons (ae_val (af_lc [("h", 8)] rfl sc_LIsRents.nd (ai_range1 T.n_range (aa_cons (av 3) aa_nil)) (blkOk_by (by first | exact rfl | decide +kernel)) (fun _ _ _ _ _ => (ag_name 8 sc_LIsRents.nd)) (fun _ _ _ _ _ => ats_nil) (fun _ _ _ _ _ => (ae_call (ok_LLess T) hr T.g_LLess T.F_LLess.kp T.b_LLess (aa_cons (av 7) (aa_cons (ae_call (ok_LMinus T) hr T.g_LMinus T.F_LMinus.kp T.b_LMinus (aa_cons (ae_tup (aa_cons (ae_sub' (ae_sub' (av 0) (av 4)) (av 8)) (aa_cons ae_int aa_nil))) (aa_cons (ae_sub' (av 6) (av 8)) aa_nil)) (np_cons (np_cons (fun _ _ _ _ h => np_nil h))) (by omega)) aa_nil)) (np_cons (np_cons (fun _ _ _ _ h => np_nil h))) (by omega))))) aa_nil))) (ass_one (as_ret ae_bl)) ass_nil))))
    (ass_one (as_ret ae_bl))))))))
  exact h
def B_LDue : MS := (mSeq (mAsg (mCB fLen (mCons (mV 0) mNil)) (.nm 2))
    (mSeq (mAsg (mTup (mCons (mC .non) (mCons (mC .non) mNil))) (.tp [9, 10]))
    (mSeq (mFor (mIt (mCall M_LOrders (mCons (mV 2) mNil))) (.nm 3) (mSeq (mAsg (mCB fSum (mCons (mVal (mLC (mRg1 (mCons (mV 2) mNil)) (.nm 8) mYes (mBin fIx (mBin fIx (mV 0) (mV 8)) (mBin fIx (mV 3) (mV 8))) [8])) mNil)) (.nm 11))
    (mIfS (mOr (mTV (mBin fIsN (mV 9) (mC .non))) (mTV (mBin fGtD (mV 11) (mV 10)))) (mAsg (mTup (mCons (mV 3) (mCons (mV 11) mNil))) (.tp [9, 10])) mSkip)))
    (mSeq (mAsg (mSto (mLC (mRg1 (mCons (mV 2) mNil)) (.nm 8) mYes (mBin fIx (mBin fIx (mV 0) (mV 8)) (mBin fIx (mV 9) (mV 8))) [8])) (.nm 4))
    (mSeq (mFor (mRg1 (mCons (mBin fAdd (mV 2) (mC (.int 1))) mNil)) (.nm 5) (mFor (mRg1 (mCons (mV 2) mNil)) (.nm 8) (mFor (mRg1 (mCons (mV 2) mNil)) (.nm 12) (mSetIx (mCB fMinA (mCons (mBin fIx (mV 4) (mV 8)) (mCons (mBin fSub (mBin fAdd (mBin fIx (mV 4) (mV 12)) (mBin fIx (mBin fIx (mV 0) (mV 8)) (mBin fIx (mV 9) (mV 8)))) (mBin fIx (mBin fIx (mV 0) (mV 8)) (mBin fIx (mV 9) (mV 12)))) mNil))) (mV 4) (mV 8)))))
    (mSeq (mAsg (mCall M_LTimes (mCons (mCall M_LMinus (mCons (mTup (mCons (mCB fSum (mCons (mV 4) mNil)) (mCons (mC (.int 1)) mNil))) (mCons (mV 1) mNil))) (mCons (mTup (mCons (mC (.int 1)) (mCons (mV 2) mNil))) mNil))) (.nm 6))
    (mSeq (mAsg (mSto (mRepL (mVal (mLst (mCons (mC .non) mNil))) (mV 2))) (.nm 7))
    (mSeq (mFor (mRg1 (mCons (mV 2) mNil)) (.nm 8) (mSetIx (mCall M_LMinus (mCons (mTup (mCons (mBin fIx (mV 4) (mV 8)) (mCons (mC (.int 1)) mNil))) (mCons (mV 6) mNil))) (mV 7) (mBin fIx (mV 9) (mV 8))))
    (mRet (mVal (mLst (mCons (mV 9) (mCons (mCB fTuple (mCons (mV 7) mNil)) (mCons (mV 6) mNil))))))))))))))
def M_LDue : Fn := fnM 13 2 .pure B_LDue
theorem ok_LDue (T : Txt K mg) : FnOk P w K mg base CX0 5 T.f_LDue T.d_LDue ["worths", "rent"] (spD K 2 M_LDue) := by
  have h := fn_D (P := P) (w := w) (mg := mg) (base := base) (k := 4) (m := .pure) (body := B_LDue) T.F_LDue sc_LDue fun cdv A outer s H E hr => (ass_cons (as_set sc_LDue.nd (ae_len T.n_len (aa_cons (av 0) aa_nil)))
    (ass_cons (as_asg (ae_tup (aa_cons ae_non (aa_cons ae_non aa_nil))) (ag_tup rfl (pgs_cons (ag_name 9 sc_LDue.nd) (pgs_cons (ag_name 10 sc_LDue.nd) agn_nil))))
    (ass_cons (as_for PassesOwn.never rfl (ai_any (ae_call (ok_LOrders T) hr T.g_LOrders T.F_LOrders.kp T.b_LOrders (aa_cons (av 2) aa_nil) (np_cons (fun _ _ _ _ h => np_nil h)) (by omega))) (ag_name 3 sc_LDue.nd) (ass_cons (as_set sc_LDue.nd (ae_sum rfl T.n_sum (aa_cons (ae_val (af_lc [("i", 8)] rfl sc_LDue.nd (ai_range1 T.n_range (aa_cons (av 2) aa_nil)) (blkOk_by (by first | exact rfl | decide +kernel)) (fun _ _ _ _ _ => (ag_name 8 sc_LDue.nd)) (fun _ _ _ _ _ => ats_nil) (fun _ _ _ _ _ => (ae_sub' (ae_sub' (av 0) (av 8)) (ae_sub' (av 3) (av 8)))))) aa_nil)))
    (ass_one (as_if (PW.pt (aw_or (at_is (av 9) ae_non) (aw_or1 (at_gt hr (av 11) (av 10))))) (ass_one (as_asg (ae_tup (aa_cons (av 3) (aa_cons (av 11) aa_nil))) (ag_tup rfl (pgs_cons (ag_name 9 sc_LDue.nd) (pgs_cons (ag_name 10 sc_LDue.nd) agn_nil))))) ass_nil))))
    (ass_cons (as_setLc [("i", 8)] rfl sc_LDue.nd (ai_range1 T.n_range (aa_cons (av 2) aa_nil)) (blkOk_by (by first | exact rfl | decide +kernel)) (fun _ _ _ _ _ => (ag_name 8 sc_LDue.nd)) (fun _ _ _ _ _ => ats_nil) (fun _ _ _ _ _ => (ae_sub' (ae_sub' (av 0) (av 8)) (ae_sub' (av 9) (av 8)))) (sto := true))
    (ass_cons (as_for PassesOwn.never rfl (ai_range1 T.n_range (aa_cons (ae_add (av 2) ae_int) aa_nil)) (ag_name 5 sc_LDue.nd) (ass_one (as_for PassesOwn.never rfl (ai_range1 T.n_range (aa_cons (av 2) aa_nil)) (ag_name 8 sc_LDue.nd) (ass_one (as_for PassesOwn.never rfl (ai_range1 T.n_range (aa_cons (av 2) aa_nil)) (ag_name 12 sc_LDue.nd) (ass_one (as_setIx (ae_min hr rfl T.n_min (aa_cons (ae_sub' (av 4) (av 8)) (aa_cons (ae_sub (ae_add (ae_sub' (av 4) (av 12)) (ae_sub' (ae_sub' (av 0) (av 8)) (ae_sub' (av 9) (av 8)))) (ae_sub' (ae_sub' (av 0) (av 8)) (ae_sub' (av 9) (av 12)))) aa_nil))) (av 4) (av 8))))))))
    (ass_cons (as_set sc_LDue.nd (ae_call (ok_LTimes T) hr T.g_LTimes T.F_LTimes.kp T.b_LTimes (aa_cons (ae_call (ok_LMinus T) hr T.g_LMinus T.F_LMinus.kp T.b_LMinus (aa_cons (ae_tup (aa_cons (ae_sum rfl T.n_sum (aa_cons (av 4) aa_nil)) (aa_cons ae_int aa_nil))) (aa_cons (av 1) aa_nil)) (np_cons (np_cons (fun _ _ _ _ h => np_nil h))) (by omega)) (aa_cons (ae_tup (aa_cons ae_int (aa_cons (av 2) aa_nil))) aa_nil)) (np_cons (np_cons (fun _ _ _ _ h => np_nil h))) (by omega)))
    (ass_cons (as_set sc_LDue.nd (ae_sto (af_rep (ae_val (af_lst (aa_cons ae_non aa_nil))) (av 2))))
    (ass_cons (as_for PassesOwn.never rfl (ai_range1 T.n_range (aa_cons (av 2) aa_nil)) (ag_name 8 sc_LDue.nd) (ass_one (as_setIx (ae_call (ok_LMinus T) hr T.g_LMinus T.F_LMinus.kp T.b_LMinus (aa_cons (ae_tup (aa_cons (ae_sub' (av 4) (av 8)) (aa_cons ae_int aa_nil))) (aa_cons (av 6) aa_nil)) (np_cons (np_cons (fun _ _ _ _ h => np_nil h))) (by omega)) (av 7) (ae_sub' (av 9) (av 8)))))
    (ass_one (as_ret (ae_val (af_lst (aa_cons (av 9) (aa_cons (ae_tuple T.n_tuple (aa_cons (av 7) aa_nil)) (aa_cons (av 6) aa_nil)))))))))))))))
  exact h
def B_LAW : MS := (mSeq (mAsg (mCall M_LStart (mCons (mV 0) mNil)) (.nm 1))
    (mSeq (mAsg (mBin fAdd (mC (.int 1)) (mCall M_LTake (mCons (mV 1) (mCons (mC (.int 4)) mNil)))) (.nm 2))
    (mSeq (mAsg (mCB fTuple (mCons (mVal (mLC (mRg1 (mCons (mV 2) mNil)) (.nm 16) mYes (mCB fTuple (mCons (mVal (mLC (mRg1 (mCons (mV 2) mNil)) (.nm 18) mYes (mCall M_LTake (mCons (mV 1) (mCons (mC (.int 12)) mNil))) [18])) mNil)) [16])) mNil)) (.nm 3))
    (mSeq (mAsg (mCall M_LFraction (mCons (mBin fSub (mCall M_LTake (mCons (mV 1) (mCons (mC (.int 60)) mNil))) (mC (.int 10))) (mCons (mBin fAdd (mC (.int 1)) (mCall M_LTake (mCons (mV 1) (mCons (mC (.int 3)) mNil)))) mNil))) (.nm 4))
    (mSeq (mAsg (mCall M_LDue (mCons (mV 3) (mCons (mV 4) mNil))) (.tp [8, 9, 10]))
    (mSeq (mAsg (mCall M_rentsPaper (mCons (mV 3) (mCons (mV 4) mNil))) (.nm 5))
    (mSeq (mIfS (mOr (mNot (mTru (mCall M_LAlike (mCons (mV 5) (mCons (mTup (mCons (mC (.str "rents")) (mCons (mV 8) (mCons (mV 9) mNil)))) mNil))))) (mNot (mTru (mCall M_LIsRents (mCons (mV 3) (mCons (mV 4) (mCons (mV 5) mNil))))))) (mRet (mC (.bl false))) mSkip)
    (mSeq (mIfS (mNot (mTru (mCall M_LAlike (mCons (mCall M_leastLeft (mCons (mV 3) (mCons (mV 4) mNil))) (mCons (mTup (mCons (mV 10) (mCons (mV 9) mNil))) mNil))))) (mRet (mC (.bl false))) mSkip)
    (mSeq (mAsg (mCB fTuple (mCons (mVal (mLC (mIt (mV 9)) (.nm 17) mYes (mCall M_LPlus (mCons (mV 17) (mCons (mTup (mCons (mC (.int 1)) (mCons (mC (.int 2)) mNil))) mNil))) [17])) mNil)) (.nm 6))
    (mSeq (mIfS (mTV (mBin (fIsB true) (mCall M_judgeRents (mCons (mV 3) (mCons (mCall M_LPlus (mCons (mV 4) (mCons (mCall M_LFraction (mCons (mV 2) (mCons (mC (.int 2)) mNil))) mNil))) (mCons (mTup (mCons (mC (.str "rents")) (mCons (mV 8) (mCons (mV 6) mNil)))) mNil)))) (mC (.bl true)))) (mRet (mC (.bl false))) mSkip)
    (mSeq (mFor (mRg1 (mCons (mC (.int 7)) mNil)) (.nm 7) (mSeq (mAsg (mCall M_LBent (mCons (mV 1) (mCons (mV 5) (mCons (mV 7) mNil)))) (.nm 11))
    (mSeq (mIfS (mAnd (mTV (mBin fEq (mV 7) (mC (.int 6)))) (mTV (mBin fGtD (mV 2) (mC (.int 1))))) (mSeq (mAsg (mCall M_LTake (mCons (mV 1) (mCons (mBin fSub (mV 2) (mC (.int 1))) mNil))) (.nm 13))
    (mSeq (mAsg (mCall M_LFraction (mCons (mBin fAdd (mC (.int 1)) (mCall M_LTake (mCons (mV 1) (mCons (mC (.int 3)) mNil)))) (mCons (mC (.int 2)) mNil))) (.nm 14))
    (mSeq (mAsg (mSto (mListOf (mV 9))) (.nm 15))
    (mSeq (mSwap (mTup (mCons (mCall M_LPlus (mCons (mBin fIx (mV 15) (mV 13)) (mCons (mV 14) mNil))) (mCons (mCall M_LMinus (mCons (mBin fIx (mV 15) (mBin fAdd (mV 13) (mC (.int 1)))) (mCons (mV 14) mNil))) mNil))) (mV 15) (mV 13) (mV 15) (mBin fAdd (mV 13) (mC (.int 1))))
    (mAsg (mTup (mCons (mC (.str "rents")) (mCons (mV 8) (mCons (mCB fTuple (mCons (mV 15) mNil)) mNil)))) (.nm 11)))))) mSkip)
    (mSeq (mAsg (mCall M_judgeRents (mCons (mV 3) (mCons (mV 4) (mCons (mV 11) mNil)))) (.nm 12))
    (mIfS (mOr (mNot (mTru (mIsi "bool" (mV 12)))) (mTV (mBin fNe (mV 12) (mCall M_LIsRents (mCons (mV 3) (mCons (mV 4) (mCons (mV 11) mNil))))))) (mRet (mC (.bl false))) mSkip)))))
    (mRet (mC (.bl true))))))))))))))
def M_LAW : Fn := fnM 19 1 .keep B_LAW
theorem ok_LAW (T : Txt K mg) : FnOk P w K mg base CX0 21 T.f_LAW T.d_LAW ["script"] (spD K 1 M_LAW) := by
  have h := fn_D (P := P) (w := w) (mg := mg) (base := base) (k := 20) (m := .keep) (body := B_LAW) T.F_LAW sc_LAW fun cdv A outer s H E hr => (ass_cons (as_set sc_LAW.nd (ae_call (ok_LStart T) hr T.g_LStart T.F_LStart.kp T.b_LStart (aa_cons (av 0) aa_nil) (np_cons (fun _ _ _ _ h => np_nil h)) (by omega)))
    (ass_cons (as_set sc_LAW.nd (ae_add ae_int (ae_call (ok_LTake T) hr T.g_LTake T.F_LTake.kp T.b_LTake (aa_cons (av 1) (aa_cons ae_int aa_nil)) (np_cons (np_cons (fun _ _ _ _ h => np_nil h))) (by omega))))
    (ass_cons (as_set sc_LAW.nd (ae_tuple T.n_tuple (aa_cons (ae_val (af_lc [("i", 16)] rfl sc_LAW.nd (ai_range1 T.n_range (aa_cons (av 2) aa_nil)) (blkOk_by (by first | exact rfl | decide +kernel)) (fun _ _ _ _ _ => (ag_name 16 sc_LAW.nd)) (fun _ _ _ _ _ => ats_nil) (fun _ _ _ _ _ => (ae_tuple T.n_tuple (aa_cons (ae_val (af_lc [("h", 18)] rfl sc_LAW.nd (ai_range1 T.n_range (aa_cons (av 2) aa_nil)) (blkOk_by (by first | exact rfl | decide +kernel)) (fun _ _ _ _ _ => (ag_name 18 sc_LAW.nd)) (fun _ _ _ _ _ => ats_nil) (fun _ _ _ _ _ => (ae_call (ok_LTake T) hr T.g_LTake T.F_LTake.kp T.b_LTake (aa_cons (av 1) (aa_cons ae_int aa_nil)) (np_cons (np_cons (fun _ _ _ _ h => np_nil h))) (by omega))))) aa_nil))))) aa_nil)))
    (ass_cons (as_set sc_LAW.nd (ae_call (ok_LFraction T) hr T.g_LFraction T.F_LFraction.kp T.b_LFraction (aa_cons (ae_sub (ae_call (ok_LTake T) hr T.g_LTake T.F_LTake.kp T.b_LTake (aa_cons (av 1) (aa_cons ae_int aa_nil)) (np_cons (np_cons (fun _ _ _ _ h => np_nil h))) (by omega)) ae_int) (aa_cons (ae_add ae_int (ae_call (ok_LTake T) hr T.g_LTake T.F_LTake.kp T.b_LTake (aa_cons (av 1) (aa_cons ae_int aa_nil)) (np_cons (np_cons (fun _ _ _ _ h => np_nil h))) (by omega))) aa_nil)) (np_cons (np_cons (fun _ _ _ _ h => np_nil h))) (by omega)))
    (ass_cons (as_asg (ae_call (ok_LDue T) hr T.g_LDue T.F_LDue.kp T.b_LDue (aa_cons (av 3) (aa_cons (av 4) aa_nil)) (np_cons (np_cons (fun _ _ _ _ h => np_nil h))) (by omega)) (ag_tup rfl (pgs_cons (ag_name 8 sc_LAW.nd) (pgs_cons (ag_name 9 sc_LAW.nd) (pgs_cons (ag_name 10 sc_LAW.nd) agn_nil)))))
    (ass_cons (as_set sc_LAW.nd (ae_call (ok_rentsPaper T) hr T.g_rentsPaper T.F_rentsPaper.kp T.b_rentsPaper (aa_cons (av 3) (aa_cons (av 4) aa_nil)) (np_cons (np_cons (fun _ _ _ _ h => np_nil h))) (by omega)))
    (ass_cons (as_if (PW.pt (aw_or (at_not (at_truth (ae_call (ok_LAlike T) hr T.g_LAlike T.F_LAlike.kp T.b_LAlike (aa_cons (av 5) (aa_cons (ae_tup (aa_cons ae_str (aa_cons (av 8) (aa_cons (av 9) aa_nil)))) aa_nil)) (np_cons (np_cons (fun _ _ _ _ h => np_nil h))) (by omega)))) (aw_or1 (at_not (at_truth (ae_call (ok_LIsRents T) hr T.g_LIsRents T.F_LIsRents.kp T.b_LIsRents (aa_cons (av 3) (aa_cons (av 4) (aa_cons (av 5) aa_nil))) (np_cons (np_cons (np_cons (fun _ _ _ _ h => np_nil h)))) (by omega))))))) (ass_one (as_ret ae_bl)) ass_nil)
    (ass_cons (as_if (at_not (at_truth (ae_call (ok_LAlike T) hr T.g_LAlike T.F_LAlike.kp T.b_LAlike (aa_cons (ae_call (ok_leastLeft T) hr T.g_leastLeft T.F_leastLeft.kp T.b_leastLeft (aa_cons (av 3) (aa_cons (av 4) aa_nil)) (np_cons (np_cons (fun _ _ _ _ h => np_nil h))) (by omega)) (aa_cons (ae_tup (aa_cons (av 10) (aa_cons (av 9) aa_nil))) aa_nil)) (np_cons (np_cons (fun _ _ _ _ h => np_nil h))) (by omega)))) (ass_one (as_ret ae_bl)) ass_nil)
    (ass_cons (as_set sc_LAW.nd (ae_tuple T.n_tuple (aa_cons (ae_val (af_lc [("one", 17)] rfl sc_LAW.nd (ai_any (av 9)) (blkOk_by (by first | exact rfl | decide +kernel)) (fun _ _ _ _ _ => (ag_name 17 sc_LAW.nd)) (fun _ _ _ _ _ => ats_nil) (fun _ _ _ _ _ => (ae_call (ok_LPlus T) hr T.g_LPlus T.F_LPlus.kp T.b_LPlus (aa_cons (av 17) (aa_cons (ae_tup (aa_cons ae_int (aa_cons ae_int aa_nil))) aa_nil)) (np_cons (np_cons (fun _ _ _ _ h => np_nil h))) (by omega))))) aa_nil)))
    (ass_cons (as_if (at_notB (ae_call (ok_judgeRents T) hr T.g_judgeRents T.F_judgeRents.kp T.b_judgeRents (aa_cons (av 3) (aa_cons (ae_call (ok_LPlus T) hr T.g_LPlus T.F_LPlus.kp T.b_LPlus (aa_cons (av 4) (aa_cons (ae_call (ok_LFraction T) hr T.g_LFraction T.F_LFraction.kp T.b_LFraction (aa_cons (av 2) (aa_cons ae_int aa_nil)) (np_cons (np_cons (fun _ _ _ _ h => np_nil h))) (by omega)) aa_nil)) (np_cons (np_cons (fun _ _ _ _ h => np_nil h))) (by omega)) (aa_cons (ae_tup (aa_cons ae_str (aa_cons (av 8) (aa_cons (av 6) aa_nil)))) aa_nil))) (np_cons (np_cons (np_cons (fun _ _ _ _ h => np_nil h)))) (by omega)) ae_bl) (ass_one (as_ret ae_bl)) ass_nil)
    (ass_cons (as_for PassesOwn.never rfl (ai_range1 T.n_range (aa_cons ae_int aa_nil)) (ag_name 7 sc_LAW.nd) (ass_cons (as_set sc_LAW.nd (ae_call (ok_LBent T) hr T.g_LBent T.F_LBent.kp T.b_LBent (aa_cons (av 1) (aa_cons (av 5) (aa_cons (av 7) aa_nil))) (np_cons (np_cons (np_cons (fun _ _ _ _ h => np_nil h)))) (by omega)))
    (ass_cons (as_if (PW.pt (aw_and (at_eq hr (av 7) ae_int) (aw_and1 (at_gt hr (av 2) ae_int)))) (ass_cons (as_set sc_LAW.nd (ae_call (ok_LTake T) hr T.g_LTake T.F_LTake.kp T.b_LTake (aa_cons (av 1) (aa_cons (ae_sub (av 2) ae_int) aa_nil)) (np_cons (np_cons (fun _ _ _ _ h => np_nil h))) (by omega)))
    (ass_cons (as_set sc_LAW.nd (ae_call (ok_LFraction T) hr T.g_LFraction T.F_LFraction.kp T.b_LFraction (aa_cons (ae_add ae_int (ae_call (ok_LTake T) hr T.g_LTake T.F_LTake.kp T.b_LTake (aa_cons (av 1) (aa_cons ae_int aa_nil)) (np_cons (np_cons (fun _ _ _ _ h => np_nil h))) (by omega))) (aa_cons ae_int aa_nil)) (np_cons (np_cons (fun _ _ _ _ h => np_nil h))) (by omega)))
    (ass_cons (as_set sc_LAW.nd (ae_sto (af_list T.n_list (av 9))))
    (ass_cons (as_swap rfl (ae_tup (aa_cons (ae_call (ok_LPlus T) hr T.g_LPlus T.F_LPlus.kp T.b_LPlus (aa_cons (ae_sub' (av 15) (av 13)) (aa_cons (av 14) aa_nil)) (np_cons (np_cons (fun _ _ _ _ h => np_nil h))) (by omega)) (aa_cons (ae_call (ok_LMinus T) hr T.g_LMinus T.F_LMinus.kp T.b_LMinus (aa_cons (ae_sub' (av 15) (ae_add (av 13) ae_int)) (aa_cons (av 14) aa_nil)) (np_cons (np_cons (fun _ _ _ _ h => np_nil h))) (by omega)) aa_nil))) (av 15) (av 13) (av 15) (ae_add (av 13) ae_int))
    (ass_one (as_set sc_LAW.nd (ae_tup (aa_cons ae_str (aa_cons (av 8) (aa_cons (ae_tuple T.n_tuple (aa_cons (av 15) aa_nil)) aa_nil)))))))))) ass_nil)
    (ass_cons (as_set sc_LAW.nd (ae_call (ok_judgeRents T) hr T.g_judgeRents T.F_judgeRents.kp T.b_judgeRents (aa_cons (av 3) (aa_cons (av 4) (aa_cons (av 11) aa_nil))) (np_cons (np_cons (np_cons (fun _ _ _ _ h => np_nil h)))) (by omega)))
    (ass_one (as_if (PW.pt (aw_or (at_not (at_truth (ae_isi T.n_isinstance T.n_bool (av 12)))) (aw_or1 (at_ne hr (av 12) (ae_call (ok_LIsRents T) hr T.g_LIsRents T.F_LIsRents.kp T.b_LIsRents (aa_cons (av 3) (aa_cons (av 4) (aa_cons (av 11) aa_nil))) (np_cons (np_cons (np_cons (fun _ _ _ _ h => np_nil h)))) (by omega)))))) (ass_one (as_ret ae_bl)) ass_nil))))))
    (ass_one (as_ret ae_bl)))))))))))))
  exact h
end
def spLaw (K : PySem.W.Frag) : Sp := fun vs H Q _ => ∃ (a : Addr) (ns : List Int), vs = [.ref a] ∧ SqL K H a (ns.map V.int) ∧ ns.length ≤ 63 ∧ ∀ H', Q (.bl true) H'
/-- what is to be shown of the law, without the program -/
def Good : Prop := ∀ ns : List Int, ns.length ≤ 63 → ∃ S', M_LAW [.fr (ns.map D.int)] [] = some (.bl true, S')
theorem sp_law {K : PySem.W.Frag} (G : Good) (vs : List V) (H : Hp) (Q : VK) (E : XK) (h : spLaw K vs H Q E) : spD K 1 M_LAW vs H Q E := by
  obtain ⟨a, ns, rfl, hs, hl, q⟩ := h
  obtain ⟨S', hg⟩ := G ns hl
  refine ⟨rfl, ⟨[], fun _ => False⟩, [], _, _, S', .cons (.of_SqL (fun _ _ => ⟨by simp, fun z => z⟩) hs .map_int) .nil, ⟨rfl, List.nodup_nil, fun i a o h => by simp at h, fun a h => by simp at h, fun _ z => z.elim⟩, hg, fun w' H' v _ _ r => ?_⟩
  rw [r.bl_inv]
  exact q H'
set_option maxHeartbeats 0 in
theorem all_mk (G : Good) {l : PySem.W.OpenLaw} {w : World} {K : PySem.W.Frag} {h : Heap} {mg : Str → Option Value} {fa f0 f1 f2 f3 f4 f5 f6 f7 f8 f9 f10 f11 f12 f13 f14 f15 f16 f17 f18 f19 f20 f21 f22 f23 f24 f25 f26 f27 f28 f29 f30 f31 f32 f33 f34 f35 f36 f37 : Addr} (X : K.In h) (GG : h.Ns mainGlobals mg) (hfa : mg "law" = some (.ref fa))
    {od0 an0 od1 an1 od2 an2 od3 an3 od4 an4 od5 an5 od6 an6 od7 an7 od8 an8 od9 an9 od10 an10 od11 an11 od12 an12 od13 an13 od14 an14 od15 an15 od16 an16 od17 an17 od18 an18 od19 an19 od20 an20 od21 an21 od22 an22 od23 an23 od24 an24 od25 an25 od26 an26 od27 an27 od28 an28 od29 an29 od30 an30 od31 an31 od32 an32 od33 an33 od34 an34 od35 an35 od36 an36 od37 an37 : Option Addr} {sl0 sl1 sl2 sl3 sl4 sl5 sl6 sl7 sl8 sl9 sl10 sl11 sl12 sl13 sl14 sl15 sl16 sl17 sl18 sl19 sl20 sl21 sl22 sl23 sl24 sl25 sl26 sl27 sl28 sl29 sl30 sl31 sl32 sl33 sl34 sl35 sl36 sl37 : Array (Option Value)} {oc0 kV0 dc0 pm0 cd0 ct0 oc1 kV1 dc1 pm1 cd1 ct1 oc2 kV2 dc2 pm2 cd2 ct2 oc3 kV3 dc3 pm3 cd3 ct3 oc4 kV4 dc4 pm4 cd4 ct4 oc5 kV5 dc5 pm5 cd5 ct5 oc6 kV6 dc6 pm6 cd6 ct6 oc7 kV7 dc7 pm7 cd7 ct7 oc8 kV8 dc8 pm8 cd8 ct8 oc9 kV9 dc9 pm9 cd9 ct9 oc10 kV10 dc10 pm10 cd10 ct10 oc11 kV11 dc11 pm11 cd11 ct11 oc12 kV12 dc12 pm12 cd12 ct12 oc13 kV13 dc13 pm13 cd13 ct13 oc14 kV14 dc14 pm14 cd14 ct14 oc15 kV15 dc15 pm15 cd15 ct15 oc16 kV16 dc16 pm16 cd16 ct16 oc17 kV17 dc17 pm17 cd17 ct17 oc18 kV18 dc18 pm18 cd18 ct18 oc19 kV19 dc19 pm19 cd19 ct19 oc20 kV20 dc20 pm20 cd20 ct20 oc21 kV21 dc21 pm21 cd21 ct21 oc22 kV22 dc22 pm22 cd22 ct22 oc23 kV23 dc23 pm23 cd23 ct23 oc24 kV24 dc24 pm24 cd24 ct24 oc25 kV25 dc25 pm25 cd25 ct25 oc26 kV26 dc26 pm26 cd26 ct26 oc27 kV27 dc27 pm27 cd27 ct27 oc28 kV28 dc28 pm28 cd28 ct28 oc29 kV29 dc29 pm29 cd29 ct29 oc30 kV30 dc30 pm30 cd30 ct30 oc31 kV31 dc31 pm31 cd31 ct31 oc32 kV32 dc32 pm32 cd32 ct32 oc33 kV33 dc33 pm33 cd33 ct33 oc34 kV34 dc34 pm34 cd34 ct34 oc35 kV35 dc35 pm35 cd35 ct35 oc36 kV36 dc36 pm36 cd36 ct36 oc37 kV37 dc37 pm37 cd37 ct37 : Value}
    (a0 : PySem.W.nsIn K mainGlobals "common_divisor" = some (some (.ref f0))) (l0 : K.lookup f0 = some ⟨oc0, od0, .func (PySem.W.fnOf "common_divisor" "common_divisor" (defArgs s_commonDivisor) (defBody s_commonDivisor) (defScope s_commonDivisor) .none kV0 dc0 pm0 an0 cd0 ct0), sl0⟩) (c0 : PySem.W.codeIn K cd0 "common_divisor" = true) (k0 : PySem.W.keepIn K (.ref f0) = true)
    (a1 : PySem.W.nsIn K mainGlobals "ratio" = some (some (.ref f1))) (l1 : K.lookup f1 = some ⟨oc1, od1, .func (PySem.W.fnOf "ratio" "ratio" (defArgs s_ratio) (defBody s_ratio) (defScope s_ratio) .none kV1 dc1 pm1 an1 cd1 ct1), sl1⟩) (c1 : PySem.W.codeIn K cd1 "ratio" = true) (k1 : PySem.W.keepIn K (.ref f1) = true)
    (a2 : PySem.W.nsIn K mainGlobals "plus" = some (some (.ref f2))) (l2 : K.lookup f2 = some ⟨oc2, od2, .func (PySem.W.fnOf "plus" "plus" (defArgs s_plus) (defBody s_plus) (defScope s_plus) .none kV2 dc2 pm2 an2 cd2 ct2), sl2⟩) (c2 : PySem.W.codeIn K cd2 "plus" = true) (k2 : PySem.W.keepIn K (.ref f2) = true)
    (a3 : PySem.W.nsIn K mainGlobals "times" = some (some (.ref f3))) (l3 : K.lookup f3 = some ⟨oc3, od3, .func (PySem.W.fnOf "times" "times" (defArgs s_times) (defBody s_times) (defScope s_times) .none kV3 dc3 pm3 an3 cd3 ct3), sl3⟩) (c3 : PySem.W.codeIn K cd3 "times" = true) (k3 : PySem.W.keepIn K (.ref f3) = true)
    (a4 : PySem.W.nsIn K mainGlobals "negative" = some (some (.ref f4))) (l4 : K.lookup f4 = some ⟨oc4, od4, .func (PySem.W.fnOf "negative" "negative" (defArgs s_negative) (defBody s_negative) (defScope s_negative) .none kV4 dc4 pm4 an4 cd4 ct4), sl4⟩) (c4 : PySem.W.codeIn K cd4 "negative" = true) (k4 : PySem.W.keepIn K (.ref f4) = true)
    (a5 : PySem.W.nsIn K mainGlobals "minus" = some (some (.ref f5))) (l5 : K.lookup f5 = some ⟨oc5, od5, .func (PySem.W.fnOf "minus" "minus" (defArgs s_minus) (defBody s_minus) (defScope s_minus) .none kV5 dc5 pm5 an5 cd5 ct5), sl5⟩) (c5 : PySem.W.codeIn K cd5 "minus" = true) (k5 : PySem.W.keepIn K (.ref f5) = true)
    (a6 : PySem.W.nsIn K mainGlobals "inverse" = some (some (.ref f6))) (l6 : K.lookup f6 = some ⟨oc6, od6, .func (PySem.W.fnOf "inverse" "inverse" (defArgs s_inverse) (defBody s_inverse) (defScope s_inverse) .none kV6 dc6 pm6 an6 cd6 ct6), sl6⟩) (c6 : PySem.W.codeIn K cd6 "inverse" = true) (k6 : PySem.W.keepIn K (.ref f6) = true)
    (a7 : PySem.W.nsIn K mainGlobals "is_less" = some (some (.ref f7))) (l7 : K.lookup f7 = some ⟨oc7, od7, .func (PySem.W.fnOf "is_less" "is_less" (defArgs s_isLess) (defBody s_isLess) (defScope s_isLess) .none kV7 dc7 pm7 an7 cd7 ct7), sl7⟩) (c7 : PySem.W.codeIn K cd7 "is_less" = true) (k7 : PySem.W.keepIn K (.ref f7) = true)
    (a8 : PySem.W.nsIn K mainGlobals "total" = some (some (.ref f8))) (l8 : K.lookup f8 = some ⟨oc8, od8, .func (PySem.W.fnOf "total" "total" (defArgs s_total) (defBody s_total) (defScope s_total) .none kV8 dc8 pm8 an8 cd8 ct8), sl8⟩) (c8 : PySem.W.codeIn K cd8 "total" = true) (k8 : PySem.W.keepIn K (.ref f8) = true)
    (a9 : PySem.W.nsIn K mainGlobals "is_integer" = some (some (.ref f9))) (l9 : K.lookup f9 = some ⟨oc9, od9, .func (PySem.W.fnOf "is_integer" "is_integer" (defArgs s_isInteger) (defBody s_isInteger) (defScope s_isInteger) .none kV9 dc9 pm9 an9 cd9 ct9), sl9⟩) (c9 : PySem.W.codeIn K cd9 "is_integer" = true) (k9 : PySem.W.keepIn K (.ref f9) = true)
    (a10 : PySem.W.nsIn K mainGlobals "is_ratio" = some (some (.ref f10))) (l10 : K.lookup f10 = some ⟨oc10, od10, .func (PySem.W.fnOf "is_ratio" "is_ratio" (defArgs s_isRatio) (defBody s_isRatio) (defScope s_isRatio) .none kV10 dc10 pm10 an10 cd10 ct10), sl10⟩) (c10 : PySem.W.codeIn K cd10 "is_ratio" = true) (k10 : PySem.W.keepIn K (.ref f10) = true)
    (a11 : PySem.W.nsIn K mainGlobals "are_ratios" = some (some (.ref f11))) (l11 : K.lookup f11 = some ⟨oc11, od11, .func (PySem.W.fnOf "are_ratios" "are_ratios" (defArgs s_areRatios) (defBody s_areRatios) (defScope s_areRatios) .none kV11 dc11 pm11 an11 cd11 ct11), sl11⟩) (c11 : PySem.W.codeIn K cd11 "are_ratios" = true) (k11 : PySem.W.keepIn K (.ref f11) = true)
    (a12 : PySem.W.nsIn K mainGlobals "orders_of" = some (some (.ref f12))) (l12 : K.lookup f12 = some ⟨oc12, od12, .func (PySem.W.fnOf "orders_of" "orders_of" (defArgs s_ordersOf) (defBody s_ordersOf) (defScope s_ordersOf) .none kV12 dc12 pm12 an12 cd12 ct12), sl12⟩) (c12 : PySem.W.codeIn K cd12 "orders_of" = true) (k12 : PySem.W.keepIn K (.ref f12) = true)
    (a13 : PySem.W.nsIn K mainGlobals "best_pairing" = some (some (.ref f13))) (l13 : K.lookup f13 = some ⟨oc13, od13, .func (PySem.W.fnOf "best_pairing" "best_pairing" (defArgs s_bestPairing) (defBody s_bestPairing) (defScope s_bestPairing) .none kV13 dc13 pm13 an13 cd13 ct13), sl13⟩) (c13 : PySem.W.codeIn K cd13 "best_pairing" = true) (k13 : PySem.W.keepIn K (.ref f13) = true)
    (a14 : PySem.W.nsIn K mainGlobals "highest_rents" = some (some (.ref f14))) (l14 : K.lookup f14 = some ⟨oc14, od14, .func (PySem.W.fnOf "highest_rents" "highest_rents" (defArgs s_highestRents) (defBody s_highestRents) (defScope s_highestRents) .none kV14 dc14 pm14 an14 cd14 ct14), sl14⟩) (c14 : PySem.W.codeIn K cd14 "highest_rents" = true) (k14 : PySem.W.keepIn K (.ref f14) = true)
    (a15 : PySem.W.nsIn K mainGlobals "least_left" = some (some (.ref f15))) (l15 : K.lookup f15 = some ⟨oc15, od15, .func (PySem.W.fnOf "least_left" "least_left" (defArgs s_leastLeft) (defBody s_leastLeft) (defScope s_leastLeft) .none kV15 dc15 pm15 an15 cd15 ct15), sl15⟩) (c15 : PySem.W.codeIn K cd15 "least_left" = true) (k15 : PySem.W.keepIn K (.ref f15) = true)
    (a16 : PySem.W.nsIn K mainGlobals "rents_paper" = some (some (.ref f16))) (l16 : K.lookup f16 = some ⟨oc16, od16, .func (PySem.W.fnOf "rents_paper" "rents_paper" (defArgs s_rentsPaper) (defBody s_rentsPaper) (defScope s_rentsPaper) .none kV16 dc16 pm16 an16 cd16 ct16), sl16⟩) (c16 : PySem.W.codeIn K cd16 "rents_paper" = true) (k16 : PySem.W.keepIn K (.ref f16) = true)
    (a17 : PySem.W.nsIn K mainGlobals "judge_rents" = some (some (.ref f17))) (l17 : K.lookup f17 = some ⟨oc17, od17, .func (PySem.W.fnOf "judge_rents" "judge_rents" (defArgs s_judgeRents) (defBody s_judgeRents) (defScope s_judgeRents) .none kV17 dc17 pm17 an17 cd17 ct17), sl17⟩) (c17 : PySem.W.codeIn K cd17 "judge_rents" = true) (k17 : PySem.W.keepIn K (.ref f17) = true)
    (a18 : PySem.W.nsIn K mainGlobals "_law_start" = some (some (.ref f18))) (l18 : K.lookup f18 = some ⟨oc18, od18, .func (PySem.W.fnOf "_law_start" "_law_start" (defArgs s_LStart) (defBody s_LStart) (defScope s_LStart) .none kV18 dc18 pm18 an18 cd18 ct18), sl18⟩) (c18 : PySem.W.codeIn K cd18 "_law_start" = true) (k18 : PySem.W.keepIn K (.ref f18) = true)
    (a19 : PySem.W.nsIn K mainGlobals "_law_fill" = some (some (.ref f19))) (l19 : K.lookup f19 = some ⟨oc19, od19, .func (PySem.W.fnOf "_law_fill" "_law_fill" (defArgs s_LFill) (defBody s_LFill) (defScope s_LFill) .none kV19 dc19 pm19 an19 cd19 ct19), sl19⟩) (c19 : PySem.W.codeIn K cd19 "_law_fill" = true) (k19 : PySem.W.keepIn K (.ref f19) = true)
    (a20 : PySem.W.nsIn K mainGlobals "_law_take" = some (some (.ref f20))) (l20 : K.lookup f20 = some ⟨oc20, od20, .func (PySem.W.fnOf "_law_take" "_law_take" (defArgs s_LTake) (defBody s_LTake) (defScope s_LTake) .none kV20 dc20 pm20 an20 cd20 ct20), sl20⟩) (c20 : PySem.W.codeIn K cd20 "_law_take" = true) (k20 : PySem.W.keepIn K (.ref f20) = true)
    (a21 : PySem.W.nsIn K mainGlobals "_law_divisor" = some (some (.ref f21))) (l21 : K.lookup f21 = some ⟨oc21, od21, .func (PySem.W.fnOf "_law_divisor" "_law_divisor" (defArgs s_LDivisor) (defBody s_LDivisor) (defScope s_LDivisor) .none kV21 dc21 pm21 an21 cd21 ct21), sl21⟩) (c21 : PySem.W.codeIn K cd21 "_law_divisor" = true) (k21 : PySem.W.keepIn K (.ref f21) = true)
    (a22 : PySem.W.nsIn K mainGlobals "_law_fraction" = some (some (.ref f22))) (l22 : K.lookup f22 = some ⟨oc22, od22, .func (PySem.W.fnOf "_law_fraction" "_law_fraction" (defArgs s_LFraction) (defBody s_LFraction) (defScope s_LFraction) .none kV22 dc22 pm22 an22 cd22 ct22), sl22⟩) (c22 : PySem.W.codeIn K cd22 "_law_fraction" = true) (k22 : PySem.W.keepIn K (.ref f22) = true)
    (a23 : PySem.W.nsIn K mainGlobals "_law_plus" = some (some (.ref f23))) (l23 : K.lookup f23 = some ⟨oc23, od23, .func (PySem.W.fnOf "_law_plus" "_law_plus" (defArgs s_LPlus) (defBody s_LPlus) (defScope s_LPlus) .none kV23 dc23 pm23 an23 cd23 ct23), sl23⟩) (c23 : PySem.W.codeIn K cd23 "_law_plus" = true) (k23 : PySem.W.keepIn K (.ref f23) = true)
    (a24 : PySem.W.nsIn K mainGlobals "_law_times" = some (some (.ref f24))) (l24 : K.lookup f24 = some ⟨oc24, od24, .func (PySem.W.fnOf "_law_times" "_law_times" (defArgs s_LTimes) (defBody s_LTimes) (defScope s_LTimes) .none kV24 dc24 pm24 an24 cd24 ct24), sl24⟩) (c24 : PySem.W.codeIn K cd24 "_law_times" = true) (k24 : PySem.W.keepIn K (.ref f24) = true)
    (a25 : PySem.W.nsIn K mainGlobals "_law_is_int" = some (some (.ref f25))) (l25 : K.lookup f25 = some ⟨oc25, od25, .func (PySem.W.fnOf "_law_is_int" "_law_is_int" (defArgs s_LIsInt) (defBody s_LIsInt) (defScope s_LIsInt) .none kV25 dc25 pm25 an25 cd25 ct25), sl25⟩) (c25 : PySem.W.codeIn K cd25 "_law_is_int" = true) (k25 : PySem.W.keepIn K (.ref f25) = true)
    (a26 : PySem.W.nsIn K mainGlobals "_law_alike" = some (some (.ref f26))) (l26 : K.lookup f26 = some ⟨oc26, od26, .func (PySem.W.fnOf "_law_alike" "_law_alike" (defArgs s_LAlike) (defBody s_LAlike) (defScope s_LAlike) .none kV26 dc26 pm26 an26 cd26 ct26), sl26⟩) (c26 : PySem.W.codeIn K cd26 "_law_alike" = true) (k26 : PySem.W.keepIn K (.ref f26) = true)
    (a27 : PySem.W.nsIn K mainGlobals "_law_spoilt" = some (some (.ref f27))) (l27 : K.lookup f27 = some ⟨oc27, od27, .func (PySem.W.fnOf "_law_spoilt" "_law_spoilt" (defArgs s_LSpoilt) (defBody s_LSpoilt) (defScope s_LSpoilt) .none kV27 dc27 pm27 an27 cd27 ct27), sl27⟩) (c27 : PySem.W.codeIn K cd27 "_law_spoilt" = true) (k27 : PySem.W.keepIn K (.ref f27) = true)
    (a28 : PySem.W.nsIn K mainGlobals "_law_bent" = some (some (.ref f28))) (l28 : K.lookup f28 = some ⟨oc28, od28, .func (PySem.W.fnOf "_law_bent" "_law_bent" (defArgs s_LBent) (defBody s_LBent) (defScope s_LBent) .none kV28 dc28 pm28 an28 cd28 ct28), sl28⟩) (c28 : PySem.W.codeIn K cd28 "_law_bent" = true) (k28 : PySem.W.keepIn K (.ref f28) = true)
    (a29 : PySem.W.nsIn K mainGlobals "_law_minus" = some (some (.ref f29))) (l29 : K.lookup f29 = some ⟨oc29, od29, .func (PySem.W.fnOf "_law_minus" "_law_minus" (defArgs s_LMinus) (defBody s_LMinus) (defScope s_LMinus) .none kV29 dc29 pm29 an29 cd29 ct29), sl29⟩) (c29 : PySem.W.codeIn K cd29 "_law_minus" = true) (k29 : PySem.W.keepIn K (.ref f29) = true)
    (a30 : PySem.W.nsIn K mainGlobals "_law_less" = some (some (.ref f30))) (l30 : K.lookup f30 = some ⟨oc30, od30, .func (PySem.W.fnOf "_law_less" "_law_less" (defArgs s_LLess) (defBody s_LLess) (defScope s_LLess) .none kV30 dc30 pm30 an30 cd30 ct30), sl30⟩) (c30 : PySem.W.codeIn K cd30 "_law_less" = true) (k30 : PySem.W.keepIn K (.ref f30) = true)
    (a31 : PySem.W.nsIn K mainGlobals "_law_total" = some (some (.ref f31))) (l31 : K.lookup f31 = some ⟨oc31, od31, .func (PySem.W.fnOf "_law_total" "_law_total" (defArgs s_LTotal) (defBody s_LTotal) (defScope s_LTotal) .none kV31 dc31 pm31 an31 cd31 ct31), sl31⟩) (c31 : PySem.W.codeIn K cd31 "_law_total" = true) (k31 : PySem.W.keepIn K (.ref f31) = true)
    (a32 : PySem.W.nsIn K mainGlobals "_law_is_fraction" = some (some (.ref f32))) (l32 : K.lookup f32 = some ⟨oc32, od32, .func (PySem.W.fnOf "_law_is_fraction" "_law_is_fraction" (defArgs s_LIsFraction) (defBody s_LIsFraction) (defScope s_LIsFraction) .none kV32 dc32 pm32 an32 cd32 ct32), sl32⟩) (c32 : PySem.W.codeIn K cd32 "_law_is_fraction" = true) (k32 : PySem.W.keepIn K (.ref f32) = true)
    (a33 : PySem.W.nsIn K mainGlobals "_law_is_row" = some (some (.ref f33))) (l33 : K.lookup f33 = some ⟨oc33, od33, .func (PySem.W.fnOf "_law_is_row" "_law_is_row" (defArgs s_LIsRow) (defBody s_LIsRow) (defScope s_LIsRow) .none kV33 dc33 pm33 an33 cd33 ct33), sl33⟩) (c33 : PySem.W.codeIn K cd33 "_law_is_row" = true) (k33 : PySem.W.keepIn K (.ref f33) = true)
    (a34 : PySem.W.nsIn K mainGlobals "_law_orders" = some (some (.ref f34))) (l34 : K.lookup f34 = some ⟨oc34, od34, .func (PySem.W.fnOf "_law_orders" "_law_orders" (defArgs s_LOrders) (defBody s_LOrders) (defScope s_LOrders) .none kV34 dc34 pm34 an34 cd34 ct34), sl34⟩) (c34 : PySem.W.codeIn K cd34 "_law_orders" = true) (k34 : PySem.W.keepIn K (.ref f34) = true)
    (a35 : PySem.W.nsIn K mainGlobals "_law_is_rents" = some (some (.ref f35))) (l35 : K.lookup f35 = some ⟨oc35, od35, .func (PySem.W.fnOf "_law_is_rents" "_law_is_rents" (defArgs s_LIsRents) (defBody s_LIsRents) (defScope s_LIsRents) .none kV35 dc35 pm35 an35 cd35 ct35), sl35⟩) (c35 : PySem.W.codeIn K cd35 "_law_is_rents" = true) (k35 : PySem.W.keepIn K (.ref f35) = true)
    (a36 : PySem.W.nsIn K mainGlobals "_law_due" = some (some (.ref f36))) (l36 : K.lookup f36 = some ⟨oc36, od36, .func (PySem.W.fnOf "_law_due" "_law_due" (defArgs s_LDue) (defBody s_LDue) (defScope s_LDue) .none kV36 dc36 pm36 an36 cd36 ct36), sl36⟩) (c36 : PySem.W.codeIn K cd36 "_law_due" = true) (k36 : PySem.W.keepIn K (.ref f36) = true)
    (a37 : PySem.W.nsIn K mainGlobals "law" = some (some (.ref f37))) (l37 : K.lookup f37 = some ⟨oc37, od37, .func (PySem.W.fnOf "law" "law" (defArgs s_LAW) (defBody s_LAW) (defScope s_LAW) .none kV37 dc37 pm37 an37 cd37 ct37), sl37⟩) (c37 : PySem.W.codeIn K cd37 "law" = true) (k37 : PySem.W.keepIn K (.ref f37) = true)
    (z_abs : PySem.W.nsIn K mainGlobals "abs" = some none)
    (z_all : PySem.W.nsIn K mainGlobals "all" = some none)
    (z_any : PySem.W.nsIn K mainGlobals "any" = some none)
    (z_bool : PySem.W.nsIn K mainGlobals "bool" = some none)
    (z_enumerate : PySem.W.nsIn K mainGlobals "enumerate" = some none)
    (z_int : PySem.W.nsIn K mainGlobals "int" = some none)
    (z_isinstance : PySem.W.nsIn K mainGlobals "isinstance" = some none)
    (z_len : PySem.W.nsIn K mainGlobals "len" = some none)
    (z_list : PySem.W.nsIn K mainGlobals "list" = some none)
    (z_min : PySem.W.nsIn K mainGlobals "min" = some none)
    (z_range : PySem.W.nsIn K mainGlobals "range" = some none)
    (z_sorted : PySem.W.nsIn K mainGlobals "sorted" = some none)
    (z_str : PySem.W.nsIn K mainGlobals "str" = some none)
    (z_sum : PySem.W.nsIn K mainGlobals "sum" = some none)
    (z_tuple : PySem.W.nsIn K mainGlobals "tuple" = some none)
    {AZERO nAZERO : Nat} {oAZERO : Obj} {tZERO_0 : Tok} {tZERO_1 : Tok} (qZERO : PySem.W.nsIn K mainGlobals "ZERO" = some (some (.ref AZERO))) (hAZERO : K.lookup AZERO = some oAZERO) (cAZERO : oAZERO.cls = .type "tuple") (dAZERO : oAZERO.data = .seq [(.int (0) tZERO_0), (.int (1) tZERO_1)].toArray nAZERO)
    : ∃ fd : FuncData, (∀ (s : Shared) (v : Value), BindsTo s fd ⟨[v], []⟩ [("script", v)]) ∧ ∀ base : Heap, K.In base → base.Ns mainGlobals mg → FnOk l.prog w K mg base CX0 21 fa fd ["script"] (spLaw K) := by
  have e := hfa.symm.trans (PySem.W.mg_of X GG a37)
  cases e
  have F0 := fun_mk (st := s_commonDivisor) l0 c0 k0
  have b0 := F0.binds (ps := ["first", "second"]) fun _ _ _ _ _ _ us hl => match us, hl with | [_, _], _ => rfl
  have F1 := fun_mk (st := s_ratio) l1 c1 k1
  have b1 := F1.binds (ps := ["above", "below"]) fun _ _ _ _ _ _ us hl => match us, hl with | [_, _], _ => rfl
  have F2 := fun_mk (st := s_plus) l2 c2 k2
  have b2 := F2.binds (ps := ["first", "second"]) fun _ _ _ _ _ _ us hl => match us, hl with | [_, _], _ => rfl
  have F3 := fun_mk (st := s_times) l3 c3 k3
  have b3 := F3.binds (ps := ["first", "second"]) fun _ _ _ _ _ _ us hl => match us, hl with | [_, _], _ => rfl
  have F4 := fun_mk (st := s_negative) l4 c4 k4
  have b4 := F4.binds (ps := ["one"]) fun _ _ _ _ _ _ us hl => match us, hl with | [_], _ => rfl
  have F5 := fun_mk (st := s_minus) l5 c5 k5
  have b5 := F5.binds (ps := ["first", "second"]) fun _ _ _ _ _ _ us hl => match us, hl with | [_, _], _ => rfl
  have F6 := fun_mk (st := s_inverse) l6 c6 k6
  have b6 := F6.binds (ps := ["one"]) fun _ _ _ _ _ _ us hl => match us, hl with | [_], _ => rfl
  have F7 := fun_mk (st := s_isLess) l7 c7 k7
  have b7 := F7.binds (ps := ["first", "second"]) fun _ _ _ _ _ _ us hl => match us, hl with | [_, _], _ => rfl
  have F8 := fun_mk (st := s_total) l8 c8 k8
  have b8 := F8.binds (ps := ["fractions"]) fun _ _ _ _ _ _ us hl => match us, hl with | [_], _ => rfl
  have F9 := fun_mk (st := s_isInteger) l9 c9 k9
  have b9 := F9.binds (ps := ["value"]) fun _ _ _ _ _ _ us hl => match us, hl with | [_], _ => rfl
  have F10 := fun_mk (st := s_isRatio) l10 c10 k10
  have b10 := F10.binds (ps := ["value"]) fun _ _ _ _ _ _ us hl => match us, hl with | [_], _ => rfl
  have F11 := fun_mk (st := s_areRatios) l11 c11 k11
  have b11 := F11.binds (ps := ["value", "many"]) fun _ _ _ _ _ _ us hl => match us, hl with | [_, _], _ => rfl
  have F12 := fun_mk (st := s_ordersOf) l12 c12 k12
  have b12 := F12.binds (ps := ["n"]) fun _ _ _ _ _ _ us hl => match us, hl with | [_], _ => rfl
  have F13 := fun_mk (st := s_bestPairing) l13 c13 k13
  have b13 := F13.binds (ps := ["worths"]) fun _ _ _ _ _ _ us hl => match us, hl with | [_], _ => rfl
  have F14 := fun_mk (st := s_highestRents) l14 c14 k14
  have b14 := F14.binds (ps := ["worths", "pairing"]) fun _ _ _ _ _ _ us hl => match us, hl with | [_, _], _ => rfl
  have F15 := fun_mk (st := s_leastLeft) l15 c15 k15
  have b15 := F15.binds (ps := ["worths", "rent"]) fun _ _ _ _ _ _ us hl => match us, hl with | [_, _], _ => rfl
  have F16 := fun_mk (st := s_rentsPaper) l16 c16 k16
  have b16 := F16.binds (ps := ["worths", "rent"]) fun _ _ _ _ _ _ us hl => match us, hl with | [_, _], _ => rfl
  have F17 := fun_mk (st := s_judgeRents) l17 c17 k17
  have b17 := F17.binds (ps := ["worths", "rent", "value"]) fun _ _ _ _ _ _ us hl => match us, hl with | [_, _, _], _ => rfl
  have F18 := fun_mk (st := s_LStart) l18 c18 k18
  have b18 := F18.binds (ps := ["script"]) fun _ _ _ _ _ _ us hl => match us, hl with | [_], _ => rfl
  have F19 := fun_mk (st := s_LFill) l19 c19 k19
  have b19 := F19.binds (ps := ["c"]) fun _ _ _ _ _ _ us hl => match us, hl with | [_], _ => rfl
  have F20 := fun_mk (st := s_LTake) l20 c20 k20
  have b20 := F20.binds (ps := ["c", "many"]) fun _ _ _ _ _ _ us hl => match us, hl with | [_, _], _ => rfl
  have F21 := fun_mk (st := s_LDivisor) l21 c21 k21
  have b21 := F21.binds (ps := ["a", "b"]) fun _ _ _ _ _ _ us hl => match us, hl with | [_, _], _ => rfl
  have F22 := fun_mk (st := s_LFraction) l22 c22 k22
  have b22 := F22.binds (ps := ["n", "d"]) fun _ _ _ _ _ _ us hl => match us, hl with | [_, _], _ => rfl
  have F23 := fun_mk (st := s_LPlus) l23 c23 k23
  have b23 := F23.binds (ps := ["a", "b"]) fun _ _ _ _ _ _ us hl => match us, hl with | [_, _], _ => rfl
  have F24 := fun_mk (st := s_LTimes) l24 c24 k24
  have b24 := F24.binds (ps := ["a", "b"]) fun _ _ _ _ _ _ us hl => match us, hl with | [_, _], _ => rfl
  have F25 := fun_mk (st := s_LIsInt) l25 c25 k25
  have b25 := F25.binds (ps := ["value"]) fun _ _ _ _ _ _ us hl => match us, hl with | [_], _ => rfl
  have F26 := fun_mk (st := s_LAlike) l26 c26 k26
  have b26 := F26.binds (ps := ["value", "due"]) fun _ _ _ _ _ _ us hl => match us, hl with | [_, _], _ => rfl
  have F27 := fun_mk (st := s_LSpoilt) l27 c27 k27
  have b27 := F27.binds (ps := ["c", "value"]) fun _ _ _ _ _ _ us hl => match us, hl with | [_, _], _ => rfl
  have F28 := fun_mk (st := s_LBent) l28 c28 k28
  have b28 := F28.binds (ps := ["c", "value", "turn"]) fun _ _ _ _ _ _ us hl => match us, hl with | [_, _, _], _ => rfl
  have F29 := fun_mk (st := s_LMinus) l29 c29 k29
  have b29 := F29.binds (ps := ["a", "b"]) fun _ _ _ _ _ _ us hl => match us, hl with | [_, _], _ => rfl
  have F30 := fun_mk (st := s_LLess) l30 c30 k30
  have b30 := F30.binds (ps := ["a", "b"]) fun _ _ _ _ _ _ us hl => match us, hl with | [_, _], _ => rfl
  have F31 := fun_mk (st := s_LTotal) l31 c31 k31
  have b31 := F31.binds (ps := ["row"]) fun _ _ _ _ _ _ us hl => match us, hl with | [_], _ => rfl
  have F32 := fun_mk (st := s_LIsFraction) l32 c32 k32
  have b32 := F32.binds (ps := ["value"]) fun _ _ _ _ _ _ us hl => match us, hl with | [_], _ => rfl
  have F33 := fun_mk (st := s_LIsRow) l33 c33 k33
  have b33 := F33.binds (ps := ["value", "many"]) fun _ _ _ _ _ _ us hl => match us, hl with | [_, _], _ => rfl
  have F34 := fun_mk (st := s_LOrders) l34 c34 k34
  have b34 := F34.binds (ps := ["n"]) fun _ _ _ _ _ _ us hl => match us, hl with | [_], _ => rfl
  have F35 := fun_mk (st := s_LIsRents) l35 c35 k35
  have b35 := F35.binds (ps := ["worths", "rent", "value"]) fun _ _ _ _ _ _ us hl => match us, hl with | [_, _, _], _ => rfl
  have F36 := fun_mk (st := s_LDue) l36 c36 k36
  have b36 := F36.binds (ps := ["worths", "rent"]) fun _ _ _ _ _ _ us hl => match us, hl with | [_, _], _ => rfl
  have F37 := fun_mk (st := s_LAW) l37 c37 k37
  have b37 := F37.binds (ps := ["script"]) fun _ _ _ _ _ _ us hl => match us, hl with | [_], _ => rfl
  let T : Txt K mg := {
    f_commonDivisor := f0, d_commonDivisor := _, F_commonDivisor := F0, b_commonDivisor := b0, g_commonDivisor := PySem.W.mg_of X GG a0,
    f_ratio := f1, d_ratio := _, F_ratio := F1, b_ratio := b1, g_ratio := PySem.W.mg_of X GG a1,
    f_plus := f2, d_plus := _, F_plus := F2, b_plus := b2, g_plus := PySem.W.mg_of X GG a2,
    f_times := f3, d_times := _, F_times := F3, b_times := b3, g_times := PySem.W.mg_of X GG a3,
    f_negative := f4, d_negative := _, F_negative := F4, b_negative := b4, g_negative := PySem.W.mg_of X GG a4,
    f_minus := f5, d_minus := _, F_minus := F5, b_minus := b5, g_minus := PySem.W.mg_of X GG a5,
    f_inverse := f6, d_inverse := _, F_inverse := F6, b_inverse := b6, g_inverse := PySem.W.mg_of X GG a6,
    f_isLess := f7, d_isLess := _, F_isLess := F7, b_isLess := b7, g_isLess := PySem.W.mg_of X GG a7,
    f_total := f8, d_total := _, F_total := F8, b_total := b8, g_total := PySem.W.mg_of X GG a8,
    f_isInteger := f9, d_isInteger := _, F_isInteger := F9, b_isInteger := b9, g_isInteger := PySem.W.mg_of X GG a9,
    f_isRatio := f10, d_isRatio := _, F_isRatio := F10, b_isRatio := b10, g_isRatio := PySem.W.mg_of X GG a10,
    f_areRatios := f11, d_areRatios := _, F_areRatios := F11, b_areRatios := b11, g_areRatios := PySem.W.mg_of X GG a11,
    f_ordersOf := f12, d_ordersOf := _, F_ordersOf := F12, b_ordersOf := b12, g_ordersOf := PySem.W.mg_of X GG a12,
    f_bestPairing := f13, d_bestPairing := _, F_bestPairing := F13, b_bestPairing := b13, g_bestPairing := PySem.W.mg_of X GG a13,
    f_highestRents := f14, d_highestRents := _, F_highestRents := F14, b_highestRents := b14, g_highestRents := PySem.W.mg_of X GG a14,
    f_leastLeft := f15, d_leastLeft := _, F_leastLeft := F15, b_leastLeft := b15, g_leastLeft := PySem.W.mg_of X GG a15,
    f_rentsPaper := f16, d_rentsPaper := _, F_rentsPaper := F16, b_rentsPaper := b16, g_rentsPaper := PySem.W.mg_of X GG a16,
    f_judgeRents := f17, d_judgeRents := _, F_judgeRents := F17, b_judgeRents := b17, g_judgeRents := PySem.W.mg_of X GG a17,
    f_LStart := f18, d_LStart := _, F_LStart := F18, b_LStart := b18, g_LStart := PySem.W.mg_of X GG a18,
    f_LFill := f19, d_LFill := _, F_LFill := F19, b_LFill := b19, g_LFill := PySem.W.mg_of X GG a19,
    f_LTake := f20, d_LTake := _, F_LTake := F20, b_LTake := b20, g_LTake := PySem.W.mg_of X GG a20,
    f_LDivisor := f21, d_LDivisor := _, F_LDivisor := F21, b_LDivisor := b21, g_LDivisor := PySem.W.mg_of X GG a21,
    f_LFraction := f22, d_LFraction := _, F_LFraction := F22, b_LFraction := b22, g_LFraction := PySem.W.mg_of X GG a22,
    f_LPlus := f23, d_LPlus := _, F_LPlus := F23, b_LPlus := b23, g_LPlus := PySem.W.mg_of X GG a23,
    f_LTimes := f24, d_LTimes := _, F_LTimes := F24, b_LTimes := b24, g_LTimes := PySem.W.mg_of X GG a24,
    f_LIsInt := f25, d_LIsInt := _, F_LIsInt := F25, b_LIsInt := b25, g_LIsInt := PySem.W.mg_of X GG a25,
    f_LAlike := f26, d_LAlike := _, F_LAlike := F26, b_LAlike := b26, g_LAlike := PySem.W.mg_of X GG a26,
    f_LSpoilt := f27, d_LSpoilt := _, F_LSpoilt := F27, b_LSpoilt := b27, g_LSpoilt := PySem.W.mg_of X GG a27,
    f_LBent := f28, d_LBent := _, F_LBent := F28, b_LBent := b28, g_LBent := PySem.W.mg_of X GG a28,
    f_LMinus := f29, d_LMinus := _, F_LMinus := F29, b_LMinus := b29, g_LMinus := PySem.W.mg_of X GG a29,
    f_LLess := f30, d_LLess := _, F_LLess := F30, b_LLess := b30, g_LLess := PySem.W.mg_of X GG a30,
    f_LTotal := f31, d_LTotal := _, F_LTotal := F31, b_LTotal := b31, g_LTotal := PySem.W.mg_of X GG a31,
    f_LIsFraction := f32, d_LIsFraction := _, F_LIsFraction := F32, b_LIsFraction := b32, g_LIsFraction := PySem.W.mg_of X GG a32,
    f_LIsRow := f33, d_LIsRow := _, F_LIsRow := F33, b_LIsRow := b33, g_LIsRow := PySem.W.mg_of X GG a33,
    f_LOrders := f34, d_LOrders := _, F_LOrders := F34, b_LOrders := b34, g_LOrders := PySem.W.mg_of X GG a34,
    f_LIsRents := f35, d_LIsRents := _, F_LIsRents := F35, b_LIsRents := b35, g_LIsRents := PySem.W.mg_of X GG a35,
    f_LDue := f36, d_LDue := _, F_LDue := F36, b_LDue := b36, g_LDue := PySem.W.mg_of X GG a36,
    f_LAW := fa, d_LAW := _, F_LAW := F37, b_LAW := b37, g_LAW := PySem.W.mg_of X GG a37,
    n_abs := PySem.W.mg_none_of X GG z_abs,
    n_all := PySem.W.mg_none_of X GG z_all,
    n_any := PySem.W.mg_none_of X GG z_any,
    n_bool := PySem.W.mg_none_of X GG z_bool,
    n_enumerate := PySem.W.mg_none_of X GG z_enumerate,
    n_int := PySem.W.mg_none_of X GG z_int,
    n_isinstance := PySem.W.mg_none_of X GG z_isinstance,
    n_len := PySem.W.mg_none_of X GG z_len,
    n_list := PySem.W.mg_none_of X GG z_list,
    n_min := PySem.W.mg_none_of X GG z_min,
    n_range := PySem.W.mg_none_of X GG z_range,
    n_sorted := PySem.W.mg_none_of X GG z_sorted,
    n_str := PySem.W.mg_none_of X GG z_str,
    n_sum := PySem.W.mg_none_of X GG z_sum,
    n_tuple := PySem.W.mg_none_of X GG z_tuple,
    u_ZERO := _, m_ZERO := PySem.W.mg_of X GG qZERO, k_ZERO := (KD.tup hAZERO cAZERO dAZERO (by simp) (KDs.cons KD.int (KDs.cons KD.int KDs.nil))) }
  exact ⟨_, fun s v => .of_eq rfl, fun base _ _ => (ok_LAW (P := l.prog) (w := w) (base := base) T).imp (sp_law G)⟩
end K62

set_option maxHeartbeats 400000
namespace K62
open PySem PySem.Spec PyProof.Rows L2 DV
def sx_rents : Sx := ⟨"rents", by decide +kernel⟩
def P_commonDivisor_l1 (p_first : Int) (p_second : Int) : (Lo (Int × Int) Int) := (whileP (fun (t1 : (Int × Int)) => (!decide (t1.2 = 0))) (fun (t1 : (Int × Int)) => ((.nx (t1.2, (t1.1 % t1.2))) : (Lo (Int × Int) Int))) 1000000 ((absZ p_first), (absZ p_second)))
def P_commonDivisor (p_first : Int) (p_second : Int) : Int := ((P_commonDivisor_l1 p_first p_second).fin (fun (t6 : (Int × Int)) => t6.1))
def Ok_commonDivisor (p_first : Int) (p_second : Int) : Prop := (okWhile (fun (t1 : (Int × Int)) => True) (fun (t1 : (Int × Int)) => (0 < t1.2)) (fun (t1 : (Int × Int)) => (!decide (t1.2 = 0))) (fun (t1 : (Int × Int)) => ((.nx (t1.2, (t1.1 % t1.2))) : (Lo (Int × Int) Int))) 1000000 ((absZ p_first), (absZ p_second)))
theorem P_commonDivisor_eq (p_first : Int) (p_second : Int) (h : Ok_commonDivisor p_first p_second) (S : Store) : M_commonDivisor [eI p_first, eI p_second] S = some (eI (P_commonDivisor p_first p_second), S) := by
  unfold P_commonDivisor
  exact fn_P (ρ := (fun z => (eI z, S))) rfl ((pb_seq (e1 := [some (eI (absZ p_first)), some (eI (absZ p_second))]) (par_E (cons_of (abs_E rfl) (cons_of (abs_E rfl) nil_of))) (pb_while (QR := (RQ .pure S (fun z => (eI z, S)))) (E := (fun (t : (Int × Int)) (j : Unit) => [some (eI t.1), some (eI t.2)])) (σ := (fun (t : (Int × Int)) (j : Unit) => S)) (cond := (fun (t1 : (Int × Int)) => (!decide (t1.2 = 0)))) (step := (fun (t1 : (Int × Int)) => ((.nx (t1.2, (t1.1 % t1.2))) : (Lo (Int × Int) Int)))) (okc := (fun (t1 : (Int × Int)) => True)) (ok := (fun (t1 : (Int × Int)) => (0 < t1.2))) (k := (fun (t6 : (Int × Int)) => t6.1)) (t0 := ((absZ p_first), (absZ p_second))) (j0 := ()) rfl rfl h (fun t1 j2 h5 => (tv_of (bin_of rfl rfl (ne_E (en := eI) (p := t1.2) (q := 0) eqv_I)))) (fun t1 j2 h4 => (pb_end (e1 := [some (eI t1.2), some (eI (t1.1 % t1.2))]) (par_E (cons_of rfl (cons_of (bin_of rfl rfl (mod_of h4)) nil_of))) ⟨(), .inl rfl, rfl⟩)) fun t6 j7 h8 => (pb_ret rfl (fin_pure (d := eI t6.1) (fit_I t6.1))))))
def P_ratio_v1 (p_above : Int) (p_below : Int) : Int := (bif decide (p_below < 0) then (-p_above) else p_above)
def P_ratio_v2 (p_below : Int) : Int := (bif decide (p_below < 0) then (-p_below) else p_below)
def P_ratio_v3 (p_above : Int) (p_below : Int) : Int := (P_commonDivisor (P_ratio_v1 p_above p_below) (P_ratio_v2 p_below))
def P_ratio_v4 (p_above : Int) (p_below : Int) : Int := ((P_ratio_v1 p_above p_below) / (P_ratio_v3 p_above p_below))
def P_ratio_v5 (p_above : Int) (p_below : Int) : Int := ((P_ratio_v2 p_below) / (P_ratio_v3 p_above p_below))
def P_ratio (p_above : Int) (p_below : Int) : (Int × Int) := (bif (!decide ((P_ratio_v2 p_below) = 1)) then ((P_ratio_v4 p_above p_below), (P_ratio_v5 p_above p_below)) else ((P_ratio_v1 p_above p_below), (P_ratio_v2 p_below)))
def Ok_ratio (p_above : Int) (p_below : Int) : Prop := ((!decide ((P_ratio_v2 p_below) = 1)) = true → (Ok_commonDivisor (P_ratio_v1 p_above p_below) (P_ratio_v2 p_below)) ∧ (0 < (P_ratio_v3 p_above p_below) ∧ (P_ratio_v3 p_above p_below).natAbs < BIG))
theorem P_ratio_eq (p_above : Int) (p_below : Int) (h : Ok_ratio p_above p_below) (S : Store) : M_ratio [eI p_above, eI p_below] S = some ((eP2 eI eI) (P_ratio p_above p_below), S) := by
  unfold P_ratio
  exact fn_P (ρ := (fun z => ((eP2 eI eI) z, S))) rfl ((pb_seq (e1 := [some (eI (P_ratio_v1 p_above p_below)), some (eI (P_ratio_v2 p_below)), none]) (ifs_join (E := fun b => [some (eI (bif b then (-p_above) else p_above)), some (eI (bif b then (-p_below) else p_below)), none]) (σ := fun b => S) (tv_of (bin_of rfl rfl rfl)) (fun h1 => (par_E (cons_of rfl (cons_of rfl nil_of)))) fun h2 => rfl) (pb_seq_if (Q := (RQ .pure S (fun z => ((eP2 eI eI) z, S)))) (p := ((P_ratio_v4 p_above p_below), (P_ratio_v5 p_above p_below))) (q := ((P_ratio_v1 p_above p_below), (P_ratio_v2 p_below))) (tv_of (bin_of rfl rfl (ne_E (en := eI) (p := (P_ratio_v2 p_below)) (q := 1) eqv_I))) (fun h3 => (pb_assoc (pb_seq (e1 := [some (eI (P_ratio_v1 p_above p_below)), some (eI (P_ratio_v2 p_below)), some (eI (P_ratio_v3 p_above p_below))]) (asg_of (call_of (cons_of rfl (cons_of rfl nil_of)) (P_commonDivisor_eq (P_ratio_v1 p_above p_below) (P_ratio_v2 p_below) (h h3).1 _))) (pb_seq (e1 := [some (eI (P_ratio_v4 p_above p_below)), some (eI (P_ratio_v5 p_above p_below)), some (eI (P_ratio_v3 p_above p_below))]) (par_E (cons_of (bin_of rfl rfl (div_big (h h3).2)) (cons_of (bin_of rfl rfl (div_big (h h3).2)) nil_of))) (pb_ret (tup_of (cons_of rfl (cons_of rfl nil_of)) (Nat.le_of_ble_eq_true rfl)) (fin_pure (d := (eP2 eI eI) ((P_ratio_v4 p_above p_below), (P_ratio_v5 p_above p_below))) ((fit_P2 fit_I fit_I) ((P_ratio_v4 p_above p_below), (P_ratio_v5 p_above p_below))))))))) fun h4 => (pb_seq_skip (pb_ret (tup_of (cons_of rfl (cons_of rfl nil_of)) (Nat.le_of_ble_eq_true rfl)) (fin_pure (d := (eP2 eI eI) ((P_ratio_v1 p_above p_below), (P_ratio_v2 p_below))) ((fit_P2 fit_I fit_I) ((P_ratio_v1 p_above p_below), (P_ratio_v2 p_below)))))))))
def P_times (p_first : (Int × Int)) (p_second : (Int × Int)) : (Int × Int) := (P_ratio (p_first.1 * p_second.1) (p_first.2 * p_second.2))
def Ok_times (p_first : (Int × Int)) (p_second : (Int × Int)) : Prop := (MulOk p_first.1 p_second.1) ∧ (MulOk p_first.2 p_second.2) ∧ (Ok_ratio (p_first.1 * p_second.1) (p_first.2 * p_second.2))
theorem P_times_eq (p_first : (Int × Int)) (p_second : (Int × Int)) (h : Ok_times p_first p_second) (S : Store) : M_times [(eP2 eI eI) p_first, (eP2 eI eI) p_second] S = some ((eP2 eI eI) (P_times p_first p_second), S) := by
  unfold P_times
  exact fn_P (ρ := (fun z => ((eP2 eI eI) z, S))) rfl ((pb_ret (call_of (cons_of (bin_of (bin_of rfl rfl rfl) (bin_of rfl rfl rfl) (mul_big h.1)) (cons_of (bin_of (bin_of rfl rfl rfl) (bin_of rfl rfl rfl) (mul_big h.2.1)) nil_of)) (P_ratio_eq (p_first.1 * p_second.1) (p_first.2 * p_second.2) h.2.2 _)) (fin_pure (d := (eP2 eI eI) (P_ratio (p_first.1 * p_second.1) (p_first.2 * p_second.2))) ((fit_P2 fit_I fit_I) (P_ratio (p_first.1 * p_second.1) (p_first.2 * p_second.2))))))
def P_plus (p_first : (Int × Int)) (p_second : (Int × Int)) : (Int × Int) := (bif (decide (p_first.2 = p_second.2) && decide (p_second.2 = 1)) then ((p_first.1 + p_second.1), 1) else (P_ratio ((p_first.1 * p_second.2) + (p_second.1 * p_first.2)) (p_first.2 * p_second.2)))
def Ok_plus (p_first : (Int × Int)) (p_second : (Int × Int)) : Prop := ((decide (p_first.2 = p_second.2) && decide (p_second.2 = 1)) = false → (MulOk p_first.1 p_second.2) ∧ (MulOk p_second.1 p_first.2) ∧ (MulOk p_first.2 p_second.2) ∧ (Ok_ratio ((p_first.1 * p_second.2) + (p_second.1 * p_first.2)) (p_first.2 * p_second.2)))
theorem P_plus_eq (p_first : (Int × Int)) (p_second : (Int × Int)) (h : Ok_plus p_first p_second) (S : Store) : M_plus [(eP2 eI eI) p_first, (eP2 eI eI) p_second] S = some ((eP2 eI eI) (P_plus p_first p_second), S) := by
  unfold P_plus
  exact fn_P (ρ := (fun z => ((eP2 eI eI) z, S))) rfl ((pb_seq_if (Q := (RQ .pure S (fun z => ((eP2 eI eI) z, S)))) (p := ((p_first.1 + p_second.1), 1)) (q := (P_ratio ((p_first.1 * p_second.2) + (p_second.1 * p_first.2)) (p_first.2 * p_second.2))) (tv_of (chain_of (x := decide (p_first.2 = p_second.2)) (y := decide (p_second.2 = 1)) (bin_of rfl rfl rfl) (bin_of rfl rfl rfl) (eq_E (en := eI) (p := p_first.2) (q := p_second.2) eqv_I) (fun h1 => rfl) fun h1 => (eq_E (en := eI) (p := p_second.2) (q := 1) eqv_I))) (fun h2 => (pb_seq_ret (tup_of (cons_of (bin_of (bin_of rfl rfl rfl) (bin_of rfl rfl rfl) r_add) (cons_of rfl nil_of)) (Nat.le_of_ble_eq_true rfl)) (fin_pure (d := (eP2 eI eI) ((p_first.1 + p_second.1), 1)) ((fit_P2 fit_I fit_I) ((p_first.1 + p_second.1), 1))))) fun h3 => (pb_seq_skip (pb_ret (call_of (cons_of (bin_of (bin_of (bin_of rfl rfl rfl) (bin_of rfl rfl rfl) (mul_big (h h3).1)) (bin_of (bin_of rfl rfl rfl) (bin_of rfl rfl rfl) (mul_big (h h3).2.1)) r_add) (cons_of (bin_of (bin_of rfl rfl rfl) (bin_of rfl rfl rfl) (mul_big (h h3).2.2.1)) nil_of)) (P_ratio_eq ((p_first.1 * p_second.2) + (p_second.1 * p_first.2)) (p_first.2 * p_second.2) (h h3).2.2.2 _)) (fin_pure (d := (eP2 eI eI) (P_ratio ((p_first.1 * p_second.2) + (p_second.1 * p_first.2)) (p_first.2 * p_second.2))) ((fit_P2 fit_I fit_I) (P_ratio ((p_first.1 * p_second.2) + (p_second.1 * p_first.2)) (p_first.2 * p_second.2))))))))
def P_negative (p_one : (Int × Int)) : (Int × Int) := ((-p_one.1), p_one.2)
theorem P_negative_eq (p_one : (Int × Int)) (S : Store) : M_negative [(eP2 eI eI) p_one] S = some ((eP2 eI eI) (P_negative p_one), S) := by
  unfold P_negative
  exact fn_P (ρ := (fun z => ((eP2 eI eI) z, S))) rfl ((pb_ret (tup_of (cons_of (neg_of (bin_of rfl rfl rfl)) (cons_of (bin_of rfl rfl rfl) nil_of)) (Nat.le_of_ble_eq_true rfl)) (fin_pure (d := (eP2 eI eI) ((-p_one.1), p_one.2)) ((fit_P2 fit_I fit_I) ((-p_one.1), p_one.2)))))
def P_minus (p_first : (Int × Int)) (p_second : (Int × Int)) : (Int × Int) := (P_plus p_first (P_negative p_second))
def Ok_minus (p_first : (Int × Int)) (p_second : (Int × Int)) : Prop := (Ok_plus p_first (P_negative p_second))
theorem P_minus_eq (p_first : (Int × Int)) (p_second : (Int × Int)) (h : Ok_minus p_first p_second) (S : Store) : M_minus [(eP2 eI eI) p_first, (eP2 eI eI) p_second] S = some ((eP2 eI eI) (P_minus p_first p_second), S) := by
  unfold P_minus
  exact fn_P (ρ := (fun z => ((eP2 eI eI) z, S))) rfl ((pb_ret (call_of (cons_of rfl (cons_of (call_of (cons_of rfl nil_of) (P_negative_eq p_second  _)) nil_of)) (P_plus_eq p_first (P_negative p_second) h _)) (fin_pure (d := (eP2 eI eI) (P_plus p_first (P_negative p_second))) ((fit_P2 fit_I fit_I) (P_plus p_first (P_negative p_second))))))
def P_inverse (p_one : (Int × Int)) : (Int × Int) := (P_ratio p_one.2 p_one.1)
def Ok_inverse (p_one : (Int × Int)) : Prop := (Ok_ratio p_one.2 p_one.1)
theorem P_inverse_eq (p_one : (Int × Int)) (h : Ok_inverse p_one) (S : Store) : M_inverse [(eP2 eI eI) p_one] S = some ((eP2 eI eI) (P_inverse p_one), S) := by
  unfold P_inverse
  exact fn_P (ρ := (fun z => ((eP2 eI eI) z, S))) rfl ((pb_ret (call_of (cons_of (bin_of rfl rfl rfl) (cons_of (bin_of rfl rfl rfl) nil_of)) (P_ratio_eq p_one.2 p_one.1 h _)) (fin_pure (d := (eP2 eI eI) (P_ratio p_one.2 p_one.1)) ((fit_P2 fit_I fit_I) (P_ratio p_one.2 p_one.1)))))
def P_ordersOf_v1 (p_n : Int) (t1 : (List (List Int))) : (List (List Int)) := ((t1.filter fun x5 => true).flatMap fun x5 => ((rngZ 0 p_n).filter fun x8 => (!decide (x8 ∈ x5))).map fun x8 => (x5 ++ [x8]))
def Ok_ordersOf_2 (p_n : Int) (t1 : (List (List Int))) : Prop := (∀ x5 ∈ t1, (I62 p_n) ∧ (∀ x8 ∈ (rngZ 0 p_n), ((!decide (x8 ∈ x5)) = true → (x5.length + [x8].length ≤ LIM)))) ∧ (((t1.filter fun x5 => true).flatMap fun x5 => ((rngZ 0 p_n).filter fun x8 => (!decide (x8 ∈ x5))).map fun x8 => (x5 ++ [x8])).length ≤ LIM)
def P_ordersOf_l3 (p_n : Int) : (List (List Int)) := ((rngZ 0 p_n).foldl (fun (t1 : (List (List Int))) (x3 : Int) => (P_ordersOf_v1 p_n t1)) [[]])
def P_ordersOf (p_n : Int) : (List (List Int)) := (P_ordersOf_l3 p_n)
def Ok_ordersOf (p_n : Int) : Prop := (I62 p_n) ∧ (okFold (fun (t1 : (List (List Int))) (x3 : Int) => (Ok_ordersOf_2 p_n t1)) (fun (t1 : (List (List Int))) (x3 : Int) => (P_ordersOf_v1 p_n t1)) [[]] (rngZ 0 p_n))
theorem P_ordersOf_eq (p_n : Int) (h : Ok_ordersOf p_n) (S : Store) : M_ordersOf [eI p_n] S = some ((eL (eT eI)) (P_ordersOf p_n), S) := by
  unfold P_ordersOf
  exact fn_P (ρ := (fun z => ((eL (eT eI)) z, S))) rfl ((pb_seq (e1 := [some (eI p_n), some ((eL (eT eI)) [[]]), none, none, none]) (asg_of (val_E (lst_E (cons_of (tup_of nil_of (Nat.le_of_ble_eq_true rfl)) nil_of) (Nat.le_of_ble_eq_true rfl)))) (pb_for_F (E := (fun (t : (List (List Int))) (j : (Option D)) => [some (eI p_n), some ((eL (eT eI)) t), j, none, none])) (σ := (fun (t : (List (List Int))) (j : (Option D)) => S)) (step := (fun (t1 : (List (List Int))) (x3 : Int) => (P_ordersOf_v1 p_n t1))) (ok := (fun (t1 : (List (List Int))) (x3 : Int) => (Ok_ordersOf_2 p_n t1))) (t0 := [[]]) (j0 := none) (en := eI) (xs := (rngZ 0 p_n)) (src_rg1 rfl h.1) rfl rfl h.2 (fun t1 j2 x3 h4 => ⟨_, rfl, (pb_end (e1 := [some (eI p_n), some ((eL (eT eI)) (P_ordersOf_v1 p_n t1)), some (eI x3), none, none]) (asg_of (val_E (lc2_E (en := (eT eI)) (en2 := eI) (en3 := (eT eI)) (xs := t1) (p := fun x5 => true) (ys := fun x5 => (rngZ 0 p_n)) (q := fun x5 x8 => (!decide (x8 ∈ x5))) (f := fun x5 x8 => (x5 ++ [x8])) (src_L rfl) h4.2 fun x5 h6 => ⟨_, rfl, rfl, fun h7 => ⟨(src_rg1 rfl (h4.1 x5 h6).1), fun x8 h9 => ⟨_, rfl, (tv_of (bin_of rfl rfl (nin_E eqv_I rfl))), fun h10 => (bin_of rfl (tup_of (cons_of rfl nil_of) (Nat.le_of_ble_eq_true rfl)) (add_T (en := eI) (xs := x5) (ys := [x8]) (((h4.1 x5 h6).2 x8 h9) h10)))⟩⟩⟩))) ⟨some (eI x3), .inl rfl, rfl⟩)⟩) fun j11 => (pb_ret rfl (fin_pure (d := (eL (eT eI)) (P_ordersOf_l3 p_n)) ((fit_L (fit_T fit_I)) (P_ordersOf_l3 p_n)))))))
def P_bestPairing_v1 (p_worths : (List (List Int))) (x3 : (List Int)) : Int := ((enumZ x3).map fun x5 => (ixZ (ixZ p_worths x5.1) x5.2)).sum
def P_bestPairing_v2 (p_worths : (List (List Int))) (x3 : (List Int)) : (Option (Int × (List Int))) := (some ((P_bestPairing_v1 p_worths x3), x3))
def P_bestPairing_v3 (p_worths : (List (List Int))) (t1 : (Option (Int × (List Int)))) (x3 : (List Int)) : (Option (Int × (List Int))) := (bif (t1.isNone || decide ((getO t1).1 < (P_bestPairing_v1 p_worths x3))) then (P_bestPairing_v2 p_worths x3) else t1)
def Ok_bestPairing_4 (p_worths : (List (List Int))) (t1 : (Option (Int × (List Int)))) (x3 : (List Int)) : Prop := (∀ x5 ∈ (enumZ x3), (InR p_worths x5.1) ∧ (InR (ixZ p_worths x5.1) x5.2)) ∧ ((enumZ x3).length ≤ LIM) ∧ (t1.isNone = false → (t1.isSome = true))
def P_bestPairing_l5 (p_worths : (List (List Int))) : (Option (Int × (List Int))) := ((P_ordersOf (p_worths.length : Int)).foldl (fun (t1 : (Option (Int × (List Int)))) (x3 : (List Int)) => (P_bestPairing_v3 p_worths t1 x3)) none)
def P_bestPairing (p_worths : (List (List Int))) : (List Int) := (getO (P_bestPairing_l5 p_worths)).2
def Ok_bestPairing (p_worths : (List (List Int))) : Prop := (Ok_ordersOf (p_worths.length : Int)) ∧ (okFold (fun (t1 : (Option (Int × (List Int)))) (x3 : (List Int)) => (Ok_bestPairing_4 p_worths t1 x3)) (fun (t1 : (Option (Int × (List Int)))) (x3 : (List Int)) => (P_bestPairing_v3 p_worths t1 x3)) none (P_ordersOf (p_worths.length : Int))) ∧ ((P_bestPairing_l5 p_worths).isSome = true)
theorem P_bestPairing_eq (p_worths : (List (List Int))) (h : Ok_bestPairing p_worths) (S : Store) : M_bestPairing [(eT (eT eI)) p_worths] S = some ((eT eI) (P_bestPairing p_worths), S) := by
  unfold P_bestPairing
  exact fn_P (ρ := (fun z => ((eT eI) z, S))) rfl ((pb_seq (e1 := [some ((eT (eT eI)) p_worths), some ((eO (eP2 eI (eT eI))) none), none, none, none, none]) (asg_of rfl) (pb_for_F (E := (fun (t : (Option (Int × (List Int)))) (j : ((Option D) × (Option D))) => [some ((eT (eT eI)) p_worths), some ((eO (eP2 eI (eT eI))) t), j.1, j.2, none, none])) (σ := (fun (t : (Option (Int × (List Int)))) (j : ((Option D) × (Option D))) => S)) (step := (fun (t1 : (Option (Int × (List Int)))) (x3 : (List Int)) => (P_bestPairing_v3 p_worths t1 x3))) (ok := (fun (t1 : (Option (Int × (List Int)))) (x3 : (List Int)) => (Ok_bestPairing_4 p_worths t1 x3))) (t0 := none) (j0 := (none, none)) (en := (eT eI)) (xs := (P_ordersOf (p_worths.length : Int))) (src_L (call_of (cons_of (len_E (en := (eT eI)) (xs := p_worths) rfl (fun _ h => nomatch h) rfl) nil_of) (P_ordersOf_eq (p_worths.length : Int) h.1 _))) rfl rfl h.2.1 (fun t1 j2 x3 h4 => ⟨_, rfl, (pb_seq (e1 := [some ((eT (eT eI)) p_worths), some ((eO (eP2 eI (eT eI))) t1), some ((eT eI) x3), some (eI (P_bestPairing_v1 p_worths x3)), none, none]) (asg_of (sum_E (val_E (lcm_E (en := (eP2 eI eI)) (en2 := eI) (xs := (enumZ x3)) (f := fun x5 => (ixZ (ixZ p_worths x5.1) x5.2)) (src_enT rfl) h4.2.1 fun x5 h6 => ⟨_, tgP2, (ix_T (ix_T rfl rfl (h4.1 x5 h6).1) rfl (h4.1 x5 h6).2)⟩)) rfl)) (pb_end (e1 := [some ((eT (eT eI)) p_worths), some ((eO (eP2 eI (eT eI))) (P_bestPairing_v3 p_worths t1 x3)), some ((eT eI) x3), some (eI (P_bestPairing_v1 p_worths x3)), none, none]) (ifs_join (E := fun b => [some ((eT (eT eI)) p_worths), some ((eO (eP2 eI (eT eI))) (bif b then (P_bestPairing_v2 p_worths x3) else t1)), some ((eT eI) x3), some (eI (P_bestPairing_v1 p_worths x3)), none, none]) (σ := fun b => S) (or_E (tv_of (bin_of rfl rfl (isN_O fun _ => rfl))) fun h7 => (tv_of (bin_of rfl (bin_of (coO rfl (h4.2.2 h7)) rfl rfl) rfl))) (fun h8 => (asg_of (tup_of (cons_of rfl (cons_of rfl nil_of)) (Nat.le_of_ble_eq_true rfl)))) fun h9 => rfl) ⟨(some ((eT eI) x3), some (eI (P_bestPairing_v1 p_worths x3))), .inl rfl, rfl⟩))⟩) fun j10 => (pb_ret (bin_of (coO rfl h.2.2) rfl rfl) (fin_pure (d := (eT eI) ((getO (P_bestPairing_l5 p_worths)).2)) ((fit_T fit_I) ((getO (P_bestPairing_l5 p_worths)).2)))))))
def P_highestRents_v1 (p_worths : (List (List Int))) (t1 : (List Int)) (x3 : (Int × Int)) : (List Int) := (setZ t1 x3.2 (ixZ (ixZ p_worths x3.1) x3.2))
def Ok_highestRents_2 (p_worths : (List (List Int))) (t1 : (List Int)) (x3 : (Int × Int)) : Prop := (InR p_worths x3.1) ∧ (InR (ixZ p_worths x3.1) x3.2) ∧ (InR t1 x3.2)
def P_highestRents_l3 (p_worths : (List (List Int))) (p_pairing : (List Int)) : (List Int) := ((enumZ p_pairing).foldl (fun (t1 : (List Int)) (x3 : (Int × Int)) => (P_highestRents_v1 p_worths t1 x3)) (repZ (p_worths.length : Int) [0]))
def P_highestRents_v4 (p_worths : (List (List Int))) (t10 : (List Int)) (x12 : (Int × Int)) : (List Int) := (setZ t10 x12.2 (minZ ((rngZ 0 (p_worths.length : Int)).map fun x14 => (((ixZ t10 x14) + (ixZ (ixZ p_worths x12.1) x12.2)) - (ixZ (ixZ p_worths x12.1) x14)))))
def Ok_highestRents_5 (p_worths : (List (List Int))) (t10 : (List Int)) (x12 : (Int × Int)) : Prop := (I62 (p_worths.length : Int)) ∧ (∀ x14 ∈ (rngZ 0 (p_worths.length : Int)), (InR t10 x14) ∧ (InR p_worths x12.1) ∧ (InR (ixZ p_worths x12.1) x12.2) ∧ (InR (ixZ p_worths x12.1) x14)) ∧ ((rngZ 0 (p_worths.length : Int)).length ≤ LIM) ∧ (((rngZ 0 (p_worths.length : Int)).map fun x14 => (((ixZ t10 x14) + (ixZ (ixZ p_worths x12.1) x12.2)) - (ixZ (ixZ p_worths x12.1) x14))) ≠ []) ∧ (InR t10 x12.2)
def P_highestRents_l6 (p_worths : (List (List Int))) (p_pairing : (List Int)) (t6 : (List Int)) : (List Int) := ((enumZ p_pairing).foldl (fun (t10 : (List Int)) (x12 : (Int × Int)) => (P_highestRents_v4 p_worths t10 x12)) t6)
def P_highestRents_s7 (p_worths : (List (List Int))) (p_pairing : (List Int)) (t6 : (List Int)) : (List Int) := (P_highestRents_l6 p_worths p_pairing t6)
def Ok_highestRents_8 (p_worths : (List (List Int))) (p_pairing : (List Int)) (t6 : (List Int)) : Prop := (okFold (fun (t10 : (List Int)) (x12 : (Int × Int)) => (Ok_highestRents_5 p_worths t10 x12)) (fun (t10 : (List Int)) (x12 : (Int × Int)) => (P_highestRents_v4 p_worths t10 x12)) t6 (enumZ p_pairing))
def P_highestRents_l9 (p_worths : (List (List Int))) (p_pairing : (List Int)) : (List Int) := ((rngZ 0 (p_worths.length : Int)).foldl (fun (t6 : (List Int)) (x8 : Int) => (P_highestRents_s7 p_worths p_pairing t6)) (P_highestRents_l3 p_worths p_pairing))
def P_highestRents (p_worths : (List (List Int))) (p_pairing : (List Int)) : (List Int) := (P_highestRents_l9 p_worths p_pairing)
def Ok_highestRents (p_worths : (List (List Int))) (p_pairing : (List Int)) : Prop := (-(2 ^ 63) ≤ (p_worths.length : Int) ∧ (p_worths.length : Int) < 2 ^ 63 ∧ [0].length * (p_worths.length : Int).toNat ≤ LIM) ∧ (okFold (fun (t1 : (List Int)) (x3 : (Int × Int)) => (Ok_highestRents_2 p_worths t1 x3)) (fun (t1 : (List Int)) (x3 : (Int × Int)) => (P_highestRents_v1 p_worths t1 x3)) (repZ (p_worths.length : Int) [0]) (enumZ p_pairing)) ∧ (I62 (p_worths.length : Int)) ∧ (okFold (fun (t6 : (List Int)) (x8 : Int) => (Ok_highestRents_8 p_worths p_pairing t6)) (fun (t6 : (List Int)) (x8 : Int) => (P_highestRents_s7 p_worths p_pairing t6)) (P_highestRents_l3 p_worths p_pairing) (rngZ 0 (p_worths.length : Int)))
theorem P_highestRents_eq (p_worths : (List (List Int))) (p_pairing : (List Int)) (h : Ok_highestRents p_worths p_pairing) (S : Store) : M_highestRents [(eT (eT eI)) p_worths, (eT eI) p_pairing] S = some ((eL eI) (P_highestRents p_worths p_pairing), S) := by
  unfold P_highestRents
  exact fn_P (ρ := (fun z => ((eL eI) z, S))) rfl (pb_app0 (pb_seq (e1 := [some ((eT (eT eI)) p_worths), some ((eT eI) p_pairing), some (eI (p_worths.length : Int)), none, none, none, none, none]) (asg_of (len_E (en := (eT eI)) (xs := p_worths) rfl (fun _ h => nomatch h) rfl)) (pb_seq (e1 := [some ((eT (eT eI)) p_worths), some ((eT eI) p_pairing), some (eI (p_worths.length : Int)), some (.ref (S.length + 0)), none, none, none, none]) (asg_of (stoG_E (n := (S.length + 0)) (S2 := (S ++ [DV.Ob.lst ((repZ (p_worths.length : Int) [0]).map eI)])) (repL_of (en := eI) (xs := [0]) (val_E (lst_E (cons_of rfl nil_of) (Nat.le_of_ble_eq_true rfl))) rfl ltr_lst h.1) (by first | rfl | (simp <;> omega)) (by first | rfl | (simp only [List.append_assoc, List.cons_append, List.nil_append]; done) | (simp only [List.append_assoc, List.cons_append, List.nil_append]; rfl)))) (pb_for_F (E := (fun (t : (List Int)) (j : ((Option D) × (Option D))) => [some ((eT (eT eI)) p_worths), some ((eT eI) p_pairing), some (eI (p_worths.length : Int)), some (.ref (S.length + 0)), none, j.1, j.2, none])) (σ := (fun (t : (List Int)) (j : ((Option D) × (Option D))) => (S ++ [DV.Ob.lst (t.map eI)]))) (step := (fun (t1 : (List Int)) (x3 : (Int × Int)) => (P_highestRents_v1 p_worths t1 x3))) (ok := (fun (t1 : (List Int)) (x3 : (Int × Int)) => (Ok_highestRents_2 p_worths t1 x3))) (t0 := (repZ (p_worths.length : Int) [0])) (j0 := (none, none)) (en := (eP2 eI eI)) (xs := (enumZ p_pairing)) (src_enT rfl) rfl rfl h.2.1 (fun t1 j2 x3 h4 => ⟨_, tgP2, (pb_end (e1 := [some ((eT (eT eI)) p_worths), some ((eT eI) p_pairing), some (eI (p_worths.length : Int)), some (.ref (S.length + 0)), none, some (eI x3.1), some (eI x3.2), none]) (setG_E (en := eI) (xs := t1) (y := (ixZ (ixZ p_worths x3.1) x3.2)) (ix_T (ix_T rfl rfl h4.1) rfl h4.2.1) rfl rfl (getJ (A := S) (n := S.length) rfl rfl) h4.2.2 (setJ (A := S) (n := S.length) rfl rfl)) ⟨(some (eI x3.1), some (eI x3.2)), .inl rfl, rfl⟩)⟩) fun j5 => (pb_for_F (E := (fun (t : (List Int)) (j : ((Option D) × (Option D) × (Option D))) => [some ((eT (eT eI)) p_worths), some ((eT eI) p_pairing), some (eI (p_worths.length : Int)), some (.ref (S.length + 0)), j.1, j.2.1, j.2.2, none])) (σ := (fun (t : (List Int)) (j : ((Option D) × (Option D) × (Option D))) => (S ++ [DV.Ob.lst (t.map eI)]))) (step := (fun (t6 : (List Int)) (x8 : Int) => (P_highestRents_s7 p_worths p_pairing t6))) (ok := (fun (t6 : (List Int)) (x8 : Int) => (Ok_highestRents_8 p_worths p_pairing t6))) (t0 := (P_highestRents_l3 p_worths p_pairing)) (j0 := (none, j5.1, j5.2)) (en := eI) (xs := (rngZ 0 (p_worths.length : Int))) (src_rg1 rfl h.2.2.1) rfl rfl h.2.2.2 (fun t6 j7 x8 h9 => ⟨_, rfl, (pb_for_F_end (E := (fun (t : (List Int)) (j : ((Option D) × (Option D))) => [some ((eT (eT eI)) p_worths), some ((eT eI) p_pairing), some (eI (p_worths.length : Int)), some (.ref (S.length + 0)), some (eI x8), j.1, j.2, none])) (σ := (fun (t : (List Int)) (j : ((Option D) × (Option D))) => (S ++ [DV.Ob.lst (t.map eI)]))) (step := (fun (t10 : (List Int)) (x12 : (Int × Int)) => (P_highestRents_v4 p_worths t10 x12))) (ok := (fun (t10 : (List Int)) (x12 : (Int × Int)) => (Ok_highestRents_5 p_worths t10 x12))) (t0 := t6) (j0 := (j7.2.1, j7.2.2)) (en := (eP2 eI eI)) (xs := (enumZ p_pairing)) (src_enT rfl) rfl rfl h9 (fun t10 j11 x12 h13 => ⟨_, tgP2, (pb_end (e1 := [some ((eT (eT eI)) p_worths), some ((eT eI) p_pairing), some (eI (p_worths.length : Int)), some (.ref (S.length + 0)), some (eI x8), some (eI x12.1), some (eI x12.2), none]) (setG_E (en := eI) (xs := t10) (y := (minZ ((rngZ 0 (p_worths.length : Int)).map fun x14 => (((ixZ t10 x14) + (ixZ (ixZ p_worths x12.1) x12.2)) - (ixZ (ixZ p_worths x12.1) x14))))) (min_L (val_E (lcm_E (en := eI) (en2 := eI) (xs := (rngZ 0 (p_worths.length : Int))) (f := fun x14 => (((ixZ t10 x14) + (ixZ (ixZ p_worths x12.1) x12.2)) - (ixZ (ixZ p_worths x12.1) x14))) (src_rg1 rfl h13.1) h13.2.2.1 fun x14 h15 => ⟨_, rfl, (bin_of (bin_of (ix_R rfl rfl (getJ (A := S) (n := S.length) rfl rfl) (h13.2.1 x14 h15).1) (ix_T (ix_T rfl rfl (h13.2.1 x14 h15).2.1) rfl (h13.2.1 x14 h15).2.2.1) r_add) (ix_T (ix_T rfl rfl (h13.2.1 x14 h15).2.1) rfl (h13.2.1 x14 h15).2.2.2) r_subI)⟩)) h13.2.2.2.1) rfl rfl (getJ (A := S) (n := S.length) rfl rfl) h13.2.2.2.2 (setJ (A := S) (n := S.length) rfl rfl)) ⟨(some (eI x12.1), some (eI x12.2)), .inl rfl, rfl⟩)⟩) fun j16 => ⟨(some (eI x8), j16.1, j16.2), .inl rfl, rfl⟩)⟩) fun j17 => (pb_ret rfl (fin_ref (S := S) (en := eI) (xs := (P_highestRents_l9 p_worths p_pairing)) (L := [DV.Ob.lst ((P_highestRents_l9 p_worths p_pairing).map eI)]) (k := 0) rfl fit_I)))))))
def P_leastLeft_v1 (p_worths : (List (List Int))) : (List Int) := (P_highestRents p_worths (P_bestPairing p_worths))
def P_leastLeft_v2 (p_worths : (List (List Int))) (p_rent : (Int × Int)) : (Int × Int) := (P_times (P_minus ((P_leastLeft_v1 p_worths).sum, 1) p_rent) (P_inverse (((P_leastLeft_v1 p_worths).length : Int), 1)))
def P_leastLeft (p_worths : (List (List Int))) (p_rent : (Int × Int)) : ((Int × Int) × (List (Int × Int))) := ((P_leastLeft_v2 p_worths p_rent), ((P_leastLeft_v1 p_worths).map fun x1 => (P_minus (x1, 1) (P_leastLeft_v2 p_worths p_rent))))
def Ok_leastLeft (p_worths : (List (List Int))) (p_rent : (Int × Int)) : Prop := (Ok_bestPairing p_worths) ∧ (Ok_highestRents p_worths (P_bestPairing p_worths)) ∧ (Ok_minus ((P_leastLeft_v1 p_worths).sum, 1) p_rent) ∧ (Ok_inverse (((P_leastLeft_v1 p_worths).length : Int), 1)) ∧ (Ok_times (P_minus ((P_leastLeft_v1 p_worths).sum, 1) p_rent) (P_inverse (((P_leastLeft_v1 p_worths).length : Int), 1))) ∧ (∀ x1 ∈ (P_leastLeft_v1 p_worths), (Ok_minus (x1, 1) (P_leastLeft_v2 p_worths p_rent))) ∧ ((P_leastLeft_v1 p_worths).length ≤ LIM)
theorem P_leastLeft_eq (p_worths : (List (List Int))) (p_rent : (Int × Int)) (h : Ok_leastLeft p_worths p_rent) (S : Store) : M_leastLeft [(eT (eT eI)) p_worths, (eP2 eI eI) p_rent] S = some ((eP2 (eP2 eI eI) (eT (eP2 eI eI))) (P_leastLeft p_worths p_rent), S) := by
  unfold P_leastLeft
  exact fn_P (ρ := (fun z => ((eP2 (eP2 eI eI) (eT (eP2 eI eI))) z, S))) rfl ((pb_seq (e1 := [some ((eT (eT eI)) p_worths), some ((eP2 eI eI) p_rent), some ((eL eI) (P_leastLeft_v1 p_worths)), none, none]) (asg_of (call_of (cons_of rfl (cons_of (call_of (cons_of rfl nil_of) (P_bestPairing_eq p_worths h.1 _)) nil_of)) (P_highestRents_eq p_worths (P_bestPairing p_worths) h.2.1 _))) (pb_seq (e1 := [some ((eT (eT eI)) p_worths), some ((eP2 eI eI) p_rent), some ((eL eI) (P_leastLeft_v1 p_worths)), some ((eP2 eI eI) (P_leastLeft_v2 p_worths p_rent)), none]) (asg_of (call_of (cons_of (call_of (cons_of (tup_of (cons_of (sum_E rfl rfl) (cons_of rfl nil_of)) (Nat.le_of_ble_eq_true rfl)) (cons_of rfl nil_of)) (P_minus_eq ((P_leastLeft_v1 p_worths).sum, 1) p_rent h.2.2.1 _)) (cons_of (call_of (cons_of (tup_of (cons_of (len_E (en := eI) (xs := (P_leastLeft_v1 p_worths)) rfl (fun _ h => nomatch h) rfl) (cons_of rfl nil_of)) (Nat.le_of_ble_eq_true rfl)) nil_of) (P_inverse_eq (((P_leastLeft_v1 p_worths).length : Int), 1) h.2.2.2.1 _)) nil_of)) (P_times_eq (P_minus ((P_leastLeft_v1 p_worths).sum, 1) p_rent) (P_inverse (((P_leastLeft_v1 p_worths).length : Int), 1)) h.2.2.2.2.1 _))) (pb_ret (tup_of (cons_of rfl (cons_of (tuple_E (en := (eP2 eI eI)) (xs := ((P_leastLeft_v1 p_worths).map fun x1 => (P_minus (x1, 1) (P_leastLeft_v2 p_worths p_rent)))) (val_E (lcm_E (en := eI) (en2 := (eP2 eI eI)) (xs := (P_leastLeft_v1 p_worths)) (f := fun x1 => (P_minus (x1, 1) (P_leastLeft_v2 p_worths p_rent))) (src_L rfl) h.2.2.2.2.2.2 fun x1 h2 => ⟨_, rfl, (call_of (cons_of (tup_of (cons_of rfl (cons_of rfl nil_of)) (Nat.le_of_ble_eq_true rfl)) (cons_of rfl nil_of)) (P_minus_eq (x1, 1) (P_leastLeft_v2 p_worths p_rent) (h.2.2.2.2.2.1 x1 h2) _))⟩)) rfl) nil_of)) (Nat.le_of_ble_eq_true rfl)) (fin_pure (d := (eP2 (eP2 eI eI) (eT (eP2 eI eI))) ((P_leastLeft_v2 p_worths p_rent), ((P_leastLeft_v1 p_worths).map fun x1 => (P_minus (x1, 1) (P_leastLeft_v2 p_worths p_rent))))) ((fit_P2 (fit_P2 fit_I fit_I) (fit_T (fit_P2 fit_I fit_I))) ((P_leastLeft_v2 p_worths p_rent), ((P_leastLeft_v1 p_worths).map fun x1 => (P_minus (x1, 1) (P_leastLeft_v2 p_worths p_rent))))))))))
def P_rentsPaper (p_worths : (List (List Int))) (p_rent : (Int × Int)) : (Sx × (List Int) × (List (Int × Int))) := (sx_rents, (P_bestPairing p_worths), (P_leastLeft p_worths p_rent).2)
def Ok_rentsPaper (p_worths : (List (List Int))) (p_rent : (Int × Int)) : Prop := (Ok_bestPairing p_worths) ∧ (Ok_leastLeft p_worths p_rent)
theorem P_rentsPaper_eq (p_worths : (List (List Int))) (p_rent : (Int × Int)) (h : Ok_rentsPaper p_worths p_rent) (S : Store) : M_rentsPaper [(eT (eT eI)) p_worths, (eP2 eI eI) p_rent] S = some ((eP3 eS (eT eI) (eT (eP2 eI eI))) (P_rentsPaper p_worths p_rent), S) := by
  unfold P_rentsPaper
  exact fn_P (ρ := (fun z => ((eP3 eS (eT eI) (eT (eP2 eI eI))) z, S))) rfl ((pb_ret (tup_of (cons_of rfl (cons_of (call_of (cons_of rfl nil_of) (P_bestPairing_eq p_worths h.1 _)) (cons_of (bin_of (call_of (cons_of rfl (cons_of rfl nil_of)) (P_leastLeft_eq p_worths p_rent h.2 _)) rfl rfl) nil_of))) (Nat.le_of_ble_eq_true rfl)) (fin_pure (d := (eP3 eS (eT eI) (eT (eP2 eI eI))) (sx_rents, (P_bestPairing p_worths), (P_leastLeft p_worths p_rent).2)) ((fit_P3 fit_S (fit_T fit_I) (fit_T (fit_P2 fit_I fit_I))) (sx_rents, (P_bestPairing p_worths), (P_leastLeft p_worths p_rent).2)))))
def P_isLess (p_first : (Int × Int)) (p_second : (Int × Int)) : Bool := decide ((p_first.1 * p_second.2) < (p_second.1 * p_first.2))
def Ok_isLess (p_first : (Int × Int)) (p_second : (Int × Int)) : Prop := (MulOk p_first.1 p_second.2) ∧ (MulOk p_second.1 p_first.2)
theorem P_isLess_eq (p_first : (Int × Int)) (p_second : (Int × Int)) (h : Ok_isLess p_first p_second) (S : Store) : M_isLess [(eP2 eI eI) p_first, (eP2 eI eI) p_second] S = some (eB (P_isLess p_first p_second), S) := by
  unfold P_isLess
  exact fn_P (ρ := (fun z => (eB z, S))) rfl ((pb_ret (bin_of (bin_of (bin_of rfl rfl rfl) (bin_of rfl rfl rfl) (mul_big h.1)) (bin_of (bin_of rfl rfl rfl) (bin_of rfl rfl rfl) (mul_big h.2)) rfl) (fin_pure (d := eB (decide ((p_first.1 * p_second.2) < (p_second.1 * p_first.2)))) (fit_B (decide ((p_first.1 * p_second.2) < (p_second.1 * p_first.2)))))))
def P_total_l1 (p_fractions : (List (Int × Int))) : (Int × Int) := (p_fractions.foldl (fun (t1 : (Int × Int)) (x3 : (Int × Int)) => (P_plus t1 x3)) (0, 1))
def P_total (p_fractions : (List (Int × Int))) : (Int × Int) := (P_total_l1 p_fractions)
def Ok_total (p_fractions : (List (Int × Int))) : Prop := (okFold (fun (t1 : (Int × Int)) (x3 : (Int × Int)) => (Ok_plus t1 x3)) (fun (t1 : (Int × Int)) (x3 : (Int × Int)) => (P_plus t1 x3)) (0, 1) p_fractions)
theorem P_total_eq (p_fractions : (List (Int × Int))) (h : Ok_total p_fractions) (S : Store) : M_total [(eT (eP2 eI eI)) p_fractions] S = some ((eP2 eI eI) (P_total p_fractions), S) := by
  unfold P_total
  exact fn_P (ρ := (fun z => ((eP2 eI eI) z, S))) rfl ((pb_seq (e1 := [some ((eT (eP2 eI eI)) p_fractions), some ((eP2 eI eI) (0, 1)), none]) (asg_of rfl) (pb_for_F (E := (fun (t : (Int × Int)) (j : (Option D)) => [some ((eT (eP2 eI eI)) p_fractions), some ((eP2 eI eI) t), j])) (σ := (fun (t : (Int × Int)) (j : (Option D)) => S)) (step := (fun (t1 : (Int × Int)) (x3 : (Int × Int)) => (P_plus t1 x3))) (ok := (fun (t1 : (Int × Int)) (x3 : (Int × Int)) => (Ok_plus t1 x3))) (t0 := (0, 1)) (j0 := none) (en := (eP2 eI eI)) (xs := p_fractions) (src_T rfl) rfl rfl h (fun t1 j2 x3 h4 => ⟨_, rfl, (pb_end (e1 := [some ((eT (eP2 eI eI)) p_fractions), some ((eP2 eI eI) (P_plus t1 x3)), some ((eP2 eI eI) x3)]) (asg_of (call_of (cons_of rfl (cons_of rfl nil_of)) (P_plus_eq t1 x3 h4 _))) ⟨some ((eP2 eI eI) x3), .inl rfl, rfl⟩)⟩) fun j5 => (pb_ret rfl (fin_pure (d := (eP2 eI eI) (P_total_l1 p_fractions)) ((fit_P2 fit_I fit_I) (P_total_l1 p_fractions)))))))
def P_isInteger (p_value : AV) : Bool := (p_value.isInt && (!p_value.isBl))
theorem P_isInteger_eq (p_value : AV) (S : Store) : M_isInteger [eA p_value] S = some (eB (P_isInteger p_value), S) := by
  unfold P_isInteger
  exact fn_P (ρ := (fun z => (eB z, S))) rfl ((pb_ret (andv_E (isi_int rfl) fun h1 => (notv_E (isi_bl rfl) tr_bl)) (fin_pure (d := eB (p_value.isInt && (!p_value.isBl))) (fit_B (p_value.isInt && (!p_value.isBl))))))
def P_isRatio (p_value : AV) : Bool := (bif ((!p_value.isTup) || ((!decide ((p_value.items.length : Int) = 2)) || ((!(P_isInteger (ixZ p_value.items 0))) || (!(P_isInteger (ixZ p_value.items 1)))))) then false else (decide (0 < (ixZ p_value.items 1).int) && decide ((P_commonDivisor ((ixZ p_value.items 0).int) ((ixZ p_value.items 1).int)) = 1)))
def Ok_isRatio (p_value : AV) : Prop := ((!p_value.isTup) = false → (p_value.isTup = true) ∧ ((!decide ((p_value.items.length : Int) = 2)) = false → (p_value.isTup = true) ∧ (InR p_value.items 0) ∧ ((!(P_isInteger (ixZ p_value.items 0))) = false → (p_value.isTup = true) ∧ (InR p_value.items 1)))) ∧ (((!p_value.isTup) || ((!decide ((p_value.items.length : Int) = 2)) || ((!(P_isInteger (ixZ p_value.items 0))) || (!(P_isInteger (ixZ p_value.items 1)))))) = false → (p_value.isTup = true) ∧ (InR p_value.items 1) ∧ ((ixZ p_value.items 1).isI = true) ∧ ((decide (0 < (ixZ p_value.items 1).int)) = true → (p_value.isTup = true) ∧ (InR p_value.items 0) ∧ ((ixZ p_value.items 0).isI = true) ∧ (InR p_value.items 1) ∧ ((ixZ p_value.items 1).isI = true) ∧ (Ok_commonDivisor ((ixZ p_value.items 0).int) ((ixZ p_value.items 1).int))))
theorem P_isRatio_eq (p_value : AV) (h : Ok_isRatio p_value) (S : Store) : M_isRatio [eA p_value] S = some (eB (P_isRatio p_value), S) := by
  unfold P_isRatio
  exact fn_P (ρ := (fun z => (eB z, S))) rfl ((pb_seq_if (Q := (RQ .pure S (fun z => (eB z, S)))) (p := false) (q := (decide (0 < (ixZ p_value.items 1).int) && decide ((P_commonDivisor ((ixZ p_value.items 0).int) ((ixZ p_value.items 1).int)) = 1))) (or_E (not_of (tru_of' (isi_tup rfl) tr_bl)) fun h1 => (or_E (tv_of (bin_of (len_A rfl (h.1 h1).1) rfl (ne_E (en := eI) (p := (p_value.items.length : Int)) (q := 2) eqv_I))) fun h2 => (or_E (not_of (tru_of' (call_of (cons_of (ix_A rfl rfl ((h.1 h1).2 h2).1 ((h.1 h1).2 h2).2.1) nil_of) (P_isInteger_eq (ixZ p_value.items 0)  _)) tr_bl)) fun h3 => (not_of (tru_of' (call_of (cons_of (ix_A rfl rfl (((h.1 h1).2 h2).2.2 h3).1 (((h.1 h1).2 h2).2.2 h3).2) nil_of) (P_isInteger_eq (ixZ p_value.items 1)  _)) tr_bl))))) (fun h4 => (pb_seq_ret rfl (fin_pure (d := eB false) (fit_B false)))) fun h5 => (pb_seq_skip (pb_ret (andv_E (bin_of (coI (ix_A rfl rfl (h.2 h5).1 (h.2 h5).2.1) (h.2 h5).2.2.1) rfl rfl) fun h6 => (bin_of (call_of (cons_of (coI (ix_A rfl rfl ((h.2 h5).2.2.2 h6).1 ((h.2 h5).2.2.2 h6).2.1) ((h.2 h5).2.2.2 h6).2.2.1) (cons_of (coI (ix_A rfl rfl ((h.2 h5).2.2.2 h6).1 ((h.2 h5).2.2.2 h6).2.2.2.1) ((h.2 h5).2.2.2 h6).2.2.2.2.1) nil_of)) (P_commonDivisor_eq ((ixZ p_value.items 0).int) ((ixZ p_value.items 1).int) ((h.2 h5).2.2.2 h6).2.2.2.2.2 _)) rfl (eq_E (en := eI) (p := (P_commonDivisor ((ixZ p_value.items 0).int) ((ixZ p_value.items 1).int))) (q := 1) eqv_I))) (fin_pure (d := eB (decide (0 < (ixZ p_value.items 1).int) && decide ((P_commonDivisor ((ixZ p_value.items 0).int) ((ixZ p_value.items 1).int)) = 1))) (fit_B (decide (0 < (ixZ p_value.items 1).int) && decide ((P_commonDivisor ((ixZ p_value.items 0).int) ((ixZ p_value.items 1).int)) = 1))))))))
def P_areRatios (p_value : AV) (p_many : Int) : Bool := (p_value.isTup && (decide ((p_value.items.length : Int) = p_many) && ((p_value.items.map fun x3 => (P_isRatio x3)).all id)))
def Ok_areRatios (p_value : AV) (p_many : Int) : Prop := (p_value.isTup = true → (p_value.isTup = true) ∧ ((decide ((p_value.items.length : Int) = p_many)) = true → (p_value.isTup = true) ∧ (∀ x3 ∈ p_value.items, (Ok_isRatio x3)) ∧ (p_value.items.length ≤ LIM)))
theorem P_areRatios_eq (p_value : AV) (p_many : Int) (h : Ok_areRatios p_value p_many) (S : Store) : M_areRatios [eA p_value, eI p_many] S = some (eB (P_areRatios p_value p_many), S) := by
  unfold P_areRatios
  exact fn_P (ρ := (fun z => (eB z, S))) rfl ((pb_ret (andv_E (isi_tup rfl) fun h1 => (andv_E (bin_of (len_A rfl (h h1).1) rfl (eq_E (en := eI) (p := (p_value.items.length : Int)) (q := p_many) eqv_I)) fun h2 => (all_E (val_E (lcm_E (en := eA) (en2 := eB) (xs := p_value.items) (f := fun x3 => (P_isRatio x3)) (src_T (coT rfl ((h h1).2 h2).1)) ((h h1).2 h2).2.2 fun x3 h4 => ⟨_, rfl, (call_of (cons_of rfl nil_of) (P_isRatio_eq x3 (((h h1).2 h2).2.1 x3 h4) _))⟩)) rfl))) (fin_pure (d := eB (p_value.isTup && (decide ((p_value.items.length : Int) = p_many) && ((p_value.items.map fun x3 => (P_isRatio x3)).all id)))) (fit_B (p_value.isTup && (decide ((p_value.items.length : Int) = p_many) && ((p_value.items.map fun x3 => (P_isRatio x3)).all id)))))))
def P_judgeRents_v1 (p_value : AV) : AV := (ixZ (cutZ p_value.items (some 1) none) 0)
def P_judgeRents_v2 (p_value : AV) : AV := (ixZ (cutZ p_value.items (some 1) none) 1)
def P_judgeRents_s3 (p_worths : (List (List Int))) (p_value : AV) (x16 : (Int × AV)) (x20 : Int) : (Lo Unit (Lo Unit Bool)) := (bif (P_isLess (P_plus ((ixZ (ixZ p_worths x16.1) x16.2.int), 1) ((ixZ (ixZ (P_judgeRents_v2 p_value).items x20).items 0).int, (ixZ (ixZ (P_judgeRents_v2 p_value).items x20).items 1).int)) (P_plus ((ixZ (ixZ p_worths x16.1) x20), 1) ((ixZ (ixZ (P_judgeRents_v2 p_value).items x16.2.int).items 0).int, (ixZ (ixZ (P_judgeRents_v2 p_value).items x16.2.int).items 1).int))) then (.rt (.rt false)) else (.nx ()))
def Ok_judgeRents_4 (p_worths : (List (List Int))) (p_value : AV) (x16 : (Int × AV)) (x20 : Int) : Prop := (InR p_worths x16.1) ∧ (x16.2.isI = true) ∧ (InR (ixZ p_worths x16.1) x16.2.int) ∧ ((P_judgeRents_v2 p_value).isTup = true) ∧ (InR (P_judgeRents_v2 p_value).items x20) ∧ ((eP2 eI eI) ((ixZ (ixZ (P_judgeRents_v2 p_value).items x20).items 0).int, (ixZ (ixZ (P_judgeRents_v2 p_value).items x20).items 1).int) = (ixZ (P_judgeRents_v2 p_value).items x20).1) ∧ (Ok_plus ((ixZ (ixZ p_worths x16.1) x16.2.int), 1) ((ixZ (ixZ (P_judgeRents_v2 p_value).items x20).items 0).int, (ixZ (ixZ (P_judgeRents_v2 p_value).items x20).items 1).int)) ∧ (InR (ixZ p_worths x16.1) x20) ∧ (InR (P_judgeRents_v2 p_value).items x16.2.int) ∧ ((eP2 eI eI) ((ixZ (ixZ (P_judgeRents_v2 p_value).items x16.2.int).items 0).int, (ixZ (ixZ (P_judgeRents_v2 p_value).items x16.2.int).items 1).int) = (ixZ (P_judgeRents_v2 p_value).items x16.2.int).1) ∧ (Ok_plus ((ixZ (ixZ p_worths x16.1) x20), 1) ((ixZ (ixZ (P_judgeRents_v2 p_value).items x16.2.int).items 0).int, (ixZ (ixZ (P_judgeRents_v2 p_value).items x16.2.int).items 1).int)) ∧ (Ok_isLess (P_plus ((ixZ (ixZ p_worths x16.1) x16.2.int), 1) ((ixZ (ixZ (P_judgeRents_v2 p_value).items x20).items 0).int, (ixZ (ixZ (P_judgeRents_v2 p_value).items x20).items 1).int)) (P_plus ((ixZ (ixZ p_worths x16.1) x20), 1) ((ixZ (ixZ (P_judgeRents_v2 p_value).items x16.2.int).items 0).int, (ixZ (ixZ (P_judgeRents_v2 p_value).items x16.2.int).items 1).int)))
def P_judgeRents_l5 (p_worths : (List (List Int))) (p_value : AV) (x16 : (Int × AV)) : (Lo Unit (Lo Unit Bool)) := (forP (fun (t18 : Unit) (x20 : Int) => ((P_judgeRents_s3 p_worths p_value x16 x20) : (Lo Unit (Lo Unit Bool)))) () (rngZ 0 (p_worths.length : Int)))
def P_judgeRents_s6 (p_worths : (List (List Int))) (p_value : AV) (x16 : (Int × AV)) : (Lo Unit Bool) := ((P_judgeRents_l5 p_worths p_value x16).fin (fun (t24 : Unit) => (.nx ())))
def Ok_judgeRents_7 (p_worths : (List (List Int))) (p_value : AV) (x16 : (Int × AV)) : Prop := (I62 (p_worths.length : Int)) ∧ (okFor (fun (t18 : Unit) (x20 : Int) => (Ok_judgeRents_4 p_worths p_value x16 x20)) (fun (t18 : Unit) (x20 : Int) => ((P_judgeRents_s3 p_worths p_value x16 x20) : (Lo Unit (Lo Unit Bool)))) () (rngZ 0 (p_worths.length : Int)))
def P_judgeRents_l8 (p_worths : (List (List Int))) (p_value : AV) : (Lo Unit Bool) := (forP (fun (t14 : Unit) (x16 : (Int × AV)) => ((P_judgeRents_s6 p_worths p_value x16) : (Lo Unit Bool))) () (enumZ ((P_judgeRents_v1 p_value).items)))
def P_judgeRents (p_worths : (List (List Int))) (p_rent : (Int × Int)) (p_value : AV) : Bool := (bif ((!p_value.isTup) || ((!decide ((p_value.items.length : Int) = 3)) || ((!(deq (eA (ixZ p_value.items 0)) (eS sx_rents))) || (!(P_areRatios (ixZ p_value.items 2) (p_worths.length : Int)))))) then false else (bif ((!((P_judgeRents_v1 p_value).isTup)) || (!((((P_judgeRents_v1 p_value).items).map fun x7 => (P_isInteger x7)).all id))) then false else (bif ((!(deq ((eL eA) (sortZ eA ((P_judgeRents_v1 p_value).items))) ((eL eI) (rngZ 0 (p_worths.length : Int))))) || (!decide ((P_total ((P_judgeRents_v2 p_value).items.map fun z => ((ixZ z.items 0).int, (ixZ z.items 1).int))) = p_rent))) then false else ((P_judgeRents_l8 p_worths p_value).fin (fun (t27 : Unit) => true)))))
def Ok_judgeRents (p_worths : (List (List Int))) (p_rent : (Int × Int)) (p_value : AV) : Prop := ((!p_value.isTup) = false → (p_value.isTup = true) ∧ ((!decide ((p_value.items.length : Int) = 3)) = false → (p_value.isTup = true) ∧ (InR p_value.items 0) ∧ ((!(deq (eA (ixZ p_value.items 0)) (eS sx_rents))) = false → (p_value.isTup = true) ∧ (InR p_value.items 2) ∧ (Ok_areRatios (ixZ p_value.items 2) (p_worths.length : Int))))) ∧ (((!p_value.isTup) || ((!decide ((p_value.items.length : Int) = 3)) || ((!(deq (eA (ixZ p_value.items 0)) (eS sx_rents))) || (!(P_areRatios (ixZ p_value.items 2) (p_worths.length : Int)))))) = false → (p_value.isTup = true) ∧ ((cutZ p_value.items (some 1) none).length = 2) ∧ ((!((P_judgeRents_v1 p_value).isTup)) = false → ((P_judgeRents_v1 p_value).isTup = true) ∧ (((P_judgeRents_v1 p_value).items).length ≤ LIM)) ∧ (((!((P_judgeRents_v1 p_value).isTup)) || (!((((P_judgeRents_v1 p_value).items).map fun x7 => (P_isInteger x7)).all id))) = false → ((P_judgeRents_v1 p_value).isTup = true) ∧ (D.fitL 31 (((P_judgeRents_v1 p_value).items).map eA) = true ∧ alikeB (((P_judgeRents_v1 p_value).items).map eA) = true ∧ sortableB (((P_judgeRents_v1 p_value).items).map eA) = true) ∧ (0 ≤ (p_worths.length : Int) ∧ (p_worths.length : Int) ≤ 16777216) ∧ ((!(deq ((eL eA) (sortZ eA ((P_judgeRents_v1 p_value).items))) ((eL eI) (rngZ 0 (p_worths.length : Int))))) = false → ((eT (eP2 eI eI)) ((P_judgeRents_v2 p_value).items.map fun z => ((ixZ z.items 0).int, (ixZ z.items 1).int)) = (P_judgeRents_v2 p_value).1) ∧ (Ok_total ((P_judgeRents_v2 p_value).items.map fun z => ((ixZ z.items 0).int, (ixZ z.items 1).int)))) ∧ (((!(deq ((eL eA) (sortZ eA ((P_judgeRents_v1 p_value).items))) ((eL eI) (rngZ 0 (p_worths.length : Int))))) || (!decide ((P_total ((P_judgeRents_v2 p_value).items.map fun z => ((ixZ z.items 0).int, (ixZ z.items 1).int))) = p_rent))) = false → ((P_judgeRents_v1 p_value).isTup = true) ∧ (okFor (fun (t14 : Unit) (x16 : (Int × AV)) => (Ok_judgeRents_7 p_worths p_value x16)) (fun (t14 : Unit) (x16 : (Int × AV)) => ((P_judgeRents_s6 p_worths p_value x16) : (Lo Unit Bool))) () (enumZ ((P_judgeRents_v1 p_value).items))))))
theorem P_judgeRents_eq (p_worths : (List (List Int))) (p_rent : (Int × Int)) (p_value : AV) (h : Ok_judgeRents p_worths p_rent p_value) (S : Store) : M_judgeRents [(eT (eT eI)) p_worths, (eP2 eI eI) p_rent, eA p_value] S = some (eB (P_judgeRents p_worths p_rent p_value), S) := by
  unfold P_judgeRents
  exact fn_P (ρ := (fun z => (eB z, S))) rfl ((pb_seq (e1 := [some ((eT (eT eI)) p_worths), some ((eP2 eI eI) p_rent), some (eA p_value), some (eI (p_worths.length : Int)), none, none, none, none, none, none]) (asg_of (len_E (en := (eT eI)) (xs := p_worths) rfl (fun _ h => nomatch h) rfl)) (pb_seq_if (Q := (RQ .pure S (fun z => (eB z, S)))) (p := false) (q := (bif ((!((P_judgeRents_v1 p_value).isTup)) || (!((((P_judgeRents_v1 p_value).items).map fun x7 => (P_isInteger x7)).all id))) then false else (bif ((!(deq ((eL eA) (sortZ eA ((P_judgeRents_v1 p_value).items))) ((eL eI) (rngZ 0 (p_worths.length : Int))))) || (!decide ((P_total ((P_judgeRents_v2 p_value).items.map fun z => ((ixZ z.items 0).int, (ixZ z.items 1).int))) = p_rent))) then false else ((P_judgeRents_l8 p_worths p_value).fin (fun (t27 : Unit) => true))))) (or_E (not_of (tru_of' (isi_tup rfl) tr_bl)) fun h1 => (or_E (tv_of (bin_of (len_A rfl (h.1 h1).1) rfl (ne_E (en := eI) (p := (p_value.items.length : Int)) (q := 3) eqv_I))) fun h2 => (or_E (tv_of (bin_of (ix_A rfl rfl ((h.1 h1).2 h2).1 ((h.1 h1).2 h2).2.1) rfl (ne_D (k := 32) (l := 32) ((fit_up (fit_A (k := 0)) (by decide)) (ixZ p_value.items 0)) (fit_S sx_rents) (by decide) (by decide)))) fun h3 => (not_of (tru_of' (call_of (cons_of (ix_A rfl rfl (((h.1 h1).2 h2).2.2 h3).1 (((h.1 h1).2 h2).2.2 h3).2.1) (cons_of rfl nil_of)) (P_areRatios_eq (ixZ p_value.items 2) (p_worths.length : Int) (((h.1 h1).2 h2).2.2 h3).2.2 _)) tr_bl))))) (fun h4 => (pb_seq_ret rfl (fin_pure (d := eB false) (fit_B false)))) fun h5 => (pb_seq_skip (pb_seq (e1 := [some ((eT (eT eI)) p_worths), some ((eP2 eI eI) p_rent), some (eA p_value), some (eI (p_worths.length : Int)), some (eA (P_judgeRents_v1 p_value)), some (eA (P_judgeRents_v2 p_value)), none, none, none, none]) (asg_tpT2 (sl_T (coT rfl (h.2 h5).1) (o1_of rfl) rfl) (h.2 h5).2.1) (pb_seq_if (Q := (RQ .pure S (fun z => (eB z, S)))) (p := false) (q := (bif ((!(deq ((eL eA) (sortZ eA ((P_judgeRents_v1 p_value).items))) ((eL eI) (rngZ 0 (p_worths.length : Int))))) || (!decide ((P_total ((P_judgeRents_v2 p_value).items.map fun z => ((ixZ z.items 0).int, (ixZ z.items 1).int))) = p_rent))) then false else ((P_judgeRents_l8 p_worths p_value).fin (fun (t27 : Unit) => true)))) (or_E (not_of (tru_of' (isi_tup rfl) tr_bl)) fun h6 => (not_of (tru_of' (all_E (val_E (lcm_E (en := eA) (en2 := eB) (xs := (P_judgeRents_v1 p_value).items) (f := fun x7 => (P_isInteger x7)) (src_T (coT rfl ((h.2 h5).2.2.1 h6).1)) ((h.2 h5).2.2.1 h6).2 fun x7 h8 => ⟨_, rfl, (call_of (cons_of rfl nil_of) (P_isInteger_eq x7  _))⟩)) rfl) tr_bl))) (fun h9 => (pb_seq_ret rfl (fin_pure (d := eB false) (fit_B false)))) fun h10 => (pb_seq_skip (pb_seq_if (Q := (RQ .pure S (fun z => (eB z, S)))) (p := false) (q := ((P_judgeRents_l8 p_worths p_value).fin (fun (t27 : Unit) => true))) (or_E (tv_of (bin_of (val_E (sorted_E (en := eA) (xs := (P_judgeRents_v1 p_value).items) (coT rfl ((h.2 h5).2.2.2 h10).1) rfl ((h.2 h5).2.2.2 h10).2.1)) (val_E (lstRg_E rfl ((h.2 h5).2.2.2 h10).2.2.1)) (ne_D (k := 32) (l := 32) ((fit_L (fit_up (fit_A (k := 0)) (by decide))) (sortZ eA ((P_judgeRents_v1 p_value).items))) ((fit_L fit_I) (rngZ 0 (p_worths.length : Int))) (by decide) (by decide)))) fun h11 => (tv_of (bin_of (call_of (cons_of (coD (en := (eT (eP2 eI eI))) (z := ((P_judgeRents_v2 p_value).items.map fun z => ((ixZ z.items 0).int, (ixZ z.items 1).int))) (v := (P_judgeRents_v2 p_value)) rfl (((h.2 h5).2.2.2 h10).2.2.2.1 h11).1) nil_of) (P_total_eq ((P_judgeRents_v2 p_value).items.map fun z => ((ixZ z.items 0).int, (ixZ z.items 1).int)) (((h.2 h5).2.2.2 h10).2.2.2.1 h11).2 _)) rfl (ne_E (en := (eP2 eI eI)) (p := (P_total ((P_judgeRents_v2 p_value).items.map fun z => ((ixZ z.items 0).int, (ixZ z.items 1).int)))) (q := p_rent) (eqv_P2 eqv_I eqv_I))))) (fun h12 => (pb_seq_ret rfl (fin_pure (d := eB false) (fit_B false)))) fun h13 => (pb_seq_skip (pb_for_P (QR := (RQ .pure S (fun z => (eB z, S)))) (E := (fun (t : Unit) (j : ((Option D) × (Option D) × (Option D))) => [some ((eT (eT eI)) p_worths), some ((eP2 eI eI) p_rent), some (eA p_value), some (eI (p_worths.length : Int)), some (eA (P_judgeRents_v1 p_value)), some (eA (P_judgeRents_v2 p_value)), j.1, j.2.1, j.2.2, none])) (σ := (fun (t : Unit) (j : ((Option D) × (Option D) × (Option D))) => S)) (step := (fun (t14 : Unit) (x16 : (Int × AV)) => ((P_judgeRents_s6 p_worths p_value x16) : (Lo Unit Bool)))) (ok := (fun (t14 : Unit) (x16 : (Int × AV)) => (Ok_judgeRents_7 p_worths p_value x16))) (k := (fun (t27 : Unit) => true)) (t0 := ()) (j0 := (none, none, none)) (en := (eP2 eI eA)) (xs := (enumZ ((P_judgeRents_v1 p_value).items))) (src_enT (coT rfl (((h.2 h5).2.2.2 h10).2.2.2.2 h13).1)) rfl rfl (((h.2 h5).2.2.2 h10).2.2.2.2 h13).2 (fun t14 j15 x16 h17 => ⟨_, tgP2, (pb_for_P_end (QR := (LQ (fun (t : Unit) (j : ((Option D) × (Option D) × (Option D))) => [some ((eT (eT eI)) p_worths), some ((eP2 eI eI) p_rent), some (eA p_value), some (eI (p_worths.length : Int)), some (eA (P_judgeRents_v1 p_value)), some (eA (P_judgeRents_v2 p_value)), j.1, j.2.1, j.2.2, none]) (fun (t : Unit) (j : ((Option D) × (Option D) × (Option D))) => S) (RQ .pure S (fun z => (eB z, S))))) (E := (fun (t : Unit) (j : (Option D)) => [some ((eT (eT eI)) p_worths), some ((eP2 eI eI) p_rent), some (eA p_value), some (eI (p_worths.length : Int)), some (eA (P_judgeRents_v1 p_value)), some (eA (P_judgeRents_v2 p_value)), some (eI x16.1), some (eA x16.2), j, none])) (σ := (fun (t : Unit) (j : (Option D)) => S)) (step := (fun (t18 : Unit) (x20 : Int) => ((P_judgeRents_s3 p_worths p_value x16 x20) : (Lo Unit (Lo Unit Bool))))) (ok := (fun (t18 : Unit) (x20 : Int) => (Ok_judgeRents_4 p_worths p_value x16 x20))) (k := (fun (t24 : Unit) => (.nx ()))) (t0 := ()) (j0 := j15.2.2) (en := eI) (xs := (rngZ 0 (p_worths.length : Int))) (src_rg1 rfl h17.1) rfl rfl h17.2 (fun t18 j19 x20 h21 => ⟨_, rfl, (pb_if (Q := (LQ (fun (t : Unit) (j : (Option D)) => [some ((eT (eT eI)) p_worths), some ((eP2 eI eI) p_rent), some (eA p_value), some (eI (p_worths.length : Int)), some (eA (P_judgeRents_v1 p_value)), some (eA (P_judgeRents_v2 p_value)), some (eI x16.1), some (eA x16.2), j, none]) (fun (t : Unit) (j : (Option D)) => S) (LQ (fun (t : Unit) (j : ((Option D) × (Option D) × (Option D))) => [some ((eT (eT eI)) p_worths), some ((eP2 eI eI) p_rent), some (eA p_value), some (eI (p_worths.length : Int)), some (eA (P_judgeRents_v1 p_value)), some (eA (P_judgeRents_v2 p_value)), j.1, j.2.1, j.2.2, none]) (fun (t : Unit) (j : ((Option D) × (Option D) × (Option D))) => S) (RQ .pure S (fun z => (eB z, S)))))) (p := (.rt (.rt false))) (q := (.nx ())) (tru_of' (call_of (cons_of (call_of (cons_of (tup_of (cons_of (ix_T (ix_T rfl rfl h21.1) (coI rfl h21.2.1) h21.2.2.1) (cons_of rfl nil_of)) (Nat.le_of_ble_eq_true rfl)) (cons_of (coD (en := (eP2 eI eI)) (z := ((ixZ (ixZ (P_judgeRents_v2 p_value).items x20).items 0).int, (ixZ (ixZ (P_judgeRents_v2 p_value).items x20).items 1).int)) (v := (ixZ (P_judgeRents_v2 p_value).items x20)) (ix_A rfl rfl h21.2.2.2.1 h21.2.2.2.2.1) h21.2.2.2.2.2.1) nil_of)) (P_plus_eq ((ixZ (ixZ p_worths x16.1) x16.2.int), 1) ((ixZ (ixZ (P_judgeRents_v2 p_value).items x20).items 0).int, (ixZ (ixZ (P_judgeRents_v2 p_value).items x20).items 1).int) h21.2.2.2.2.2.2.1 _)) (cons_of (call_of (cons_of (tup_of (cons_of (ix_T (ix_T rfl rfl h21.1) rfl h21.2.2.2.2.2.2.2.1) (cons_of rfl nil_of)) (Nat.le_of_ble_eq_true rfl)) (cons_of (coD (en := (eP2 eI eI)) (z := ((ixZ (ixZ (P_judgeRents_v2 p_value).items x16.2.int).items 0).int, (ixZ (ixZ (P_judgeRents_v2 p_value).items x16.2.int).items 1).int)) (v := (ixZ (P_judgeRents_v2 p_value).items x16.2.int)) (ix_A rfl (coI rfl h21.2.1) h21.2.2.2.1 h21.2.2.2.2.2.2.2.2.1) h21.2.2.2.2.2.2.2.2.2.1) nil_of)) (P_plus_eq ((ixZ (ixZ p_worths x16.1) x20), 1) ((ixZ (ixZ (P_judgeRents_v2 p_value).items x16.2.int).items 0).int, (ixZ (ixZ (P_judgeRents_v2 p_value).items x16.2.int).items 1).int) h21.2.2.2.2.2.2.2.2.2.2.1 _)) nil_of)) (P_isLess_eq (P_plus ((ixZ (ixZ p_worths x16.1) x16.2.int), 1) ((ixZ (ixZ (P_judgeRents_v2 p_value).items x20).items 0).int, (ixZ (ixZ (P_judgeRents_v2 p_value).items x20).items 1).int)) (P_plus ((ixZ (ixZ p_worths x16.1) x20), 1) ((ixZ (ixZ (P_judgeRents_v2 p_value).items x16.2.int).items 0).int, (ixZ (ixZ (P_judgeRents_v2 p_value).items x16.2.int).items 1).int)) h21.2.2.2.2.2.2.2.2.2.2.2 _)) tr_bl) (fun h22 => (pb_ret rfl ⟨⟨_, rfl⟩, ⟨⟨_, rfl⟩, (fin_pure (d := eB false) (fit_B false))⟩⟩)) fun h23 => (pb_skip ⟨some (eI x20), .inl rfl, rfl⟩))⟩) fun t24 j25 h26 => ⟨(some (eI x16.1), some (eA x16.2), j25), .inl rfl, rfl⟩)⟩) fun t27 j28 h29 => (pb_ret rfl (fin_pure (d := eB true) (fit_B true)))))))))))))
--@ LStart
--@ LFill
noncomputable def P_LTake (c : Cu) (m : Int) : Int × Cu := takeG M_LTake c m
def Ok_LTake (c : Cu) (m : Int) : Prop := 0 < m ∧ m < 1073741824
theorem LTake_ok : TakeOk M_LTake := take_ok fillA_ok
theorem P_LTake_eq (c : Cu) (m : Int) (h : Ok_LTake c m) (L : Store) : M_LTake [.ref 0, eI m] (c.ob :: L) = some (eI (P_LTake c m).1, (P_LTake c m).2.ob :: L) := (takeG_ok LTake_ok h).2.2 L
theorem P_LTake_lt {c : Cu} {m : Int} (h : Ok_LTake c m) : 0 ≤ (P_LTake c m).1 ∧ (P_LTake c m).1 < m := ⟨(takeG_ok LTake_ok h).1, (takeG_ok LTake_ok h).2.1⟩
def P_LDivisor_s1 (t1 : (Int × Int)) : (Lo (Int × Int) Int) := (bif decide (t1.2 = 0) then (.rt (absZ t1.1)) else (.nx (t1.2, (t1.1 % t1.2))))
def P_LDivisor_l2 (p_a : Int) (p_b : Int) : (Lo (Int × Int) Int) := (forP (fun (t1 : (Int × Int)) (x3 : Int) => ((P_LDivisor_s1 t1) : (Lo (Int × Int) Int))) (p_a, p_b) (rngZ 0 20000))
def P_LDivisor (p_a : Int) (p_b : Int) : Int := ((P_LDivisor_l2 p_a p_b).fin (fun (t7 : (Int × Int)) => 1))
def Ok_LDivisor (p_a : Int) (p_b : Int) : Prop := (okFor (fun (t1 : (Int × Int)) (x3 : Int) => ((decide (t1.2 = 0)) = false → (0 < t1.2))) (fun (t1 : (Int × Int)) (x3 : Int) => ((P_LDivisor_s1 t1) : (Lo (Int × Int) Int))) (p_a, p_b) (rngZ 0 20000))
theorem P_LDivisor_eq (p_a : Int) (p_b : Int) (h : Ok_LDivisor p_a p_b) (S : Store) : M_LDivisor [eI p_a, eI p_b] S = some (eI (P_LDivisor p_a p_b), S) := by
  unfold P_LDivisor
  exact fn_P (ρ := (fun z => (eI z, S))) rfl ((pb_for_P (QR := (RQ .pure S (fun z => (eI z, S)))) (E := (fun (t : (Int × Int)) (j : (Option D)) => [some (eI t.1), some (eI t.2), j])) (σ := (fun (t : (Int × Int)) (j : (Option D)) => S)) (step := (fun (t1 : (Int × Int)) (x3 : Int) => ((P_LDivisor_s1 t1) : (Lo (Int × Int) Int)))) (ok := (fun (t1 : (Int × Int)) (x3 : Int) => ((decide (t1.2 = 0)) = false → (0 < t1.2)))) (k := (fun (t7 : (Int × Int)) => 1)) (t0 := (p_a, p_b)) (j0 := none) (en := eI) (xs := (rngZ 0 20000)) (src_rg1 rfl (by decide)) rfl rfl h (fun t1 j2 x3 h4 => ⟨_, rfl, (pb_seq_if (Q := (LQ (fun (t : (Int × Int)) (j : (Option D)) => [some (eI t.1), some (eI t.2), j]) (fun (t : (Int × Int)) (j : (Option D)) => S) (RQ .pure S (fun z => (eI z, S))))) (p := (.rt (absZ t1.1))) (q := (.nx (t1.2, (t1.1 % t1.2)))) (tv_of (bin_of rfl rfl (eq_E (en := eI) (p := t1.2) (q := 0) eqv_I))) (fun h5 => (pb_seq_ret (abs_E rfl) ⟨⟨_, rfl⟩, (fin_pure (d := eI (absZ t1.1)) (fit_I (absZ t1.1)))⟩)) fun h6 => (pb_seq_skip (pb_end (e1 := [some (eI t1.2), some (eI (t1.1 % t1.2)), some (eI x3)]) (par_E (cons_of rfl (cons_of (bin_of rfl rfl (mod_of (h4 h6))) nil_of))) ⟨some (eI x3), .inl rfl, rfl⟩)))⟩) fun t7 j8 h9 => (pb_ret rfl (fin_pure (d := eI 1) (fit_I 1)))))
def P_LFraction_v1 (p_n : Int) (p_d : Int) : Int := (bif decide (0 < p_d) then (P_LDivisor p_n p_d) else (0 - (P_LDivisor p_n p_d)))
def P_LFraction (p_n : Int) (p_d : Int) : (Int × Int) := ((p_n / (P_LFraction_v1 p_n p_d)), (p_d / (P_LFraction_v1 p_n p_d)))
def Ok_LFraction (p_n : Int) (p_d : Int) : Prop := (Ok_LDivisor p_n p_d) ∧ (0 < (P_LFraction_v1 p_n p_d) ∧ (P_LFraction_v1 p_n p_d).natAbs < BIG)
theorem P_LFraction_eq (p_n : Int) (p_d : Int) (h : Ok_LFraction p_n p_d) (S : Store) : M_LFraction [eI p_n, eI p_d] S = some ((eP2 eI eI) (P_LFraction p_n p_d), S) := by
  unfold P_LFraction
  exact fn_P (ρ := (fun z => ((eP2 eI eI) z, S))) rfl ((pb_seq (e1 := [some (eI p_n), some (eI p_d), some (eI (P_LDivisor p_n p_d))]) (asg_of (call_of (cons_of rfl (cons_of rfl nil_of)) (P_LDivisor_eq p_n p_d h.1 _))) (pb_seq (e1 := [some (eI p_n), some (eI p_d), some (eI (P_LFraction_v1 p_n p_d))]) (asg_of (if_E (en := eI) (tv_of (bin_of rfl rfl rfl)) (fun h1 => rfl) fun h2 => (bin_of rfl rfl r_subI))) (pb_ret (tup_of (cons_of (bin_of rfl rfl (div_big h.2)) (cons_of (bin_of rfl rfl (div_big h.2)) nil_of)) (Nat.le_of_ble_eq_true rfl)) (fin_pure (d := (eP2 eI eI) ((p_n / (P_LFraction_v1 p_n p_d)), (p_d / (P_LFraction_v1 p_n p_d)))) ((fit_P2 fit_I fit_I) ((p_n / (P_LFraction_v1 p_n p_d)), (p_d / (P_LFraction_v1 p_n p_d)))))))))
def P_LPlus (p_a : (Int × Int)) (p_b : (Int × Int)) : (Int × Int) := (P_LFraction ((p_a.1 * p_b.2) + (p_b.1 * p_a.2)) (p_a.2 * p_b.2))
def Ok_LPlus (p_a : (Int × Int)) (p_b : (Int × Int)) : Prop := (MulOk p_a.1 p_b.2) ∧ (MulOk p_b.1 p_a.2) ∧ (MulOk p_a.2 p_b.2) ∧ (Ok_LFraction ((p_a.1 * p_b.2) + (p_b.1 * p_a.2)) (p_a.2 * p_b.2))
theorem P_LPlus_eq (p_a : (Int × Int)) (p_b : (Int × Int)) (h : Ok_LPlus p_a p_b) (S : Store) : M_LPlus [(eP2 eI eI) p_a, (eP2 eI eI) p_b] S = some ((eP2 eI eI) (P_LPlus p_a p_b), S) := by
  unfold P_LPlus
  exact fn_P (ρ := (fun z => ((eP2 eI eI) z, S))) rfl ((pb_ret (call_of (cons_of (bin_of (bin_of (bin_of rfl rfl rfl) (bin_of rfl rfl rfl) (mul_big h.1)) (bin_of (bin_of rfl rfl rfl) (bin_of rfl rfl rfl) (mul_big h.2.1)) r_add) (cons_of (bin_of (bin_of rfl rfl rfl) (bin_of rfl rfl rfl) (mul_big h.2.2.1)) nil_of)) (P_LFraction_eq ((p_a.1 * p_b.2) + (p_b.1 * p_a.2)) (p_a.2 * p_b.2) h.2.2.2 _)) (fin_pure (d := (eP2 eI eI) (P_LFraction ((p_a.1 * p_b.2) + (p_b.1 * p_a.2)) (p_a.2 * p_b.2))) ((fit_P2 fit_I fit_I) (P_LFraction ((p_a.1 * p_b.2) + (p_b.1 * p_a.2)) (p_a.2 * p_b.2))))))
def P_LAlike (v w : AV) : Bool := true
def Ok_LAlike (v w : AV) : Prop := v = w ∧ D.alk 9 v.1 = true
theorem MR_LAlike_e : ∀ n, MR_LAlike n = alikeR n := by
  intro n
  induction n with
  | zero => rfl
  | succ n ih => show fnM 3 2 .pure (B_LAlike (MR_LAlike n)) = fnM 3 2 .pure (alikeT (alikeR n)); rw [ih]; rfl
theorem P_LAlike_eq (v w : AV) (h : Ok_LAlike v w) (S : Store) : M_LAlike [eA v, eA w] S = some (eB (P_LAlike v w), S) := by
  obtain ⟨rfl, h⟩ := h
  unfold M_LAlike
  rw [MR_LAlike_e]; exact alike_alk 9 16 v.1 h (by decide)
--@ LSpoilt
theorem MR_LSpoilt_e : ∀ n, MR_LSpoilt n = spoiltR M_LTake n := by
  intro n
  induction n with
  | zero => rfl
  | succ n ih => show fnM 3 2 .keep (B_LSpoilt (MR_LSpoilt n)) = fnM 3 2 .keep (spoiltT M_LTake (spoiltR M_LTake n)); rw [ih]; rfl
theorem LBent_ok : BentOk M_LBent := by
  have := bent_ok LTake_ok
  rw [← MR_LSpoilt_e] at this
  exact this
noncomputable def P_LBent (c : Cu) (v : AV) (t : Int) : AV × Cu := bentG M_LBent c v t
def Ok_LBent (c : Cu) (v : AV) (t : Int) : Prop := Sm 1000 8 v.1
theorem P_LBent_eq (c : Cu) (v : AV) (t : Int) (h : Ok_LBent c v t) (L : Store) : M_LBent [.ref 0, eA v, eI t] (c.ob :: L) = some (eA (P_LBent c v t).1, (P_LBent c v t).2.ob :: L) := bentG_ok LBent_ok h L
def P_LMinus (p_a : (Int × Int)) (p_b : (Int × Int)) : (Int × Int) := (P_LPlus p_a ((0 - p_b.1), p_b.2))
def Ok_LMinus (p_a : (Int × Int)) (p_b : (Int × Int)) : Prop := (Ok_LPlus p_a ((0 - p_b.1), p_b.2))
theorem P_LMinus_eq (p_a : (Int × Int)) (p_b : (Int × Int)) (h : Ok_LMinus p_a p_b) (S : Store) : M_LMinus [(eP2 eI eI) p_a, (eP2 eI eI) p_b] S = some ((eP2 eI eI) (P_LMinus p_a p_b), S) := by
  unfold P_LMinus
  exact fn_P (ρ := (fun z => ((eP2 eI eI) z, S))) rfl ((pb_ret (call_of (cons_of rfl (cons_of (tup_of (cons_of (bin_of rfl (bin_of rfl rfl rfl) r_subI) (cons_of (bin_of rfl rfl rfl) nil_of)) (Nat.le_of_ble_eq_true rfl)) nil_of)) (P_LPlus_eq p_a ((0 - p_b.1), p_b.2) h _)) (fin_pure (d := (eP2 eI eI) (P_LPlus p_a ((0 - p_b.1), p_b.2))) ((fit_P2 fit_I fit_I) (P_LPlus p_a ((0 - p_b.1), p_b.2))))))
def P_LIsInt (p_value : AV) : Bool := (p_value.isInt && (!p_value.isBl))
theorem P_LIsInt_eq (p_value : AV) (S : Store) : M_LIsInt [eA p_value] S = some (eB (P_LIsInt p_value), S) := by
  unfold P_LIsInt
  exact fn_P (ρ := (fun z => (eB z, S))) rfl ((pb_ret (andv_E (isi_int rfl) fun h1 => (notv_E (isi_bl rfl) tr_bl)) (fin_pure (d := eB (p_value.isInt && (!p_value.isBl))) (fit_B (p_value.isInt && (!p_value.isBl))))))
def P_LLess (p_a : (Int × Int)) (p_b : (Int × Int)) : Bool := decide ((p_a.1 * p_b.2) < (p_b.1 * p_a.2))
def Ok_LLess (p_a : (Int × Int)) (p_b : (Int × Int)) : Prop := (MulOk p_a.1 p_b.2) ∧ (MulOk p_b.1 p_a.2)
theorem P_LLess_eq (p_a : (Int × Int)) (p_b : (Int × Int)) (h : Ok_LLess p_a p_b) (S : Store) : M_LLess [(eP2 eI eI) p_a, (eP2 eI eI) p_b] S = some (eB (P_LLess p_a p_b), S) := by
  unfold P_LLess
  exact fn_P (ρ := (fun z => (eB z, S))) rfl ((pb_ret (bin_of (bin_of (bin_of rfl rfl rfl) (bin_of rfl rfl rfl) (mul_big h.1)) (bin_of (bin_of rfl rfl rfl) (bin_of rfl rfl rfl) (mul_big h.2)) rfl) (fin_pure (d := eB (decide ((p_a.1 * p_b.2) < (p_b.1 * p_a.2)))) (fit_B (decide ((p_a.1 * p_b.2) < (p_b.1 * p_a.2)))))))
def P_LTotal_l1 (p_row : (List (Int × Int))) : (Int × Int) := (p_row.foldl (fun (t1 : (Int × Int)) (x3 : (Int × Int)) => (P_LPlus t1 x3)) (0, 1))
def P_LTotal (p_row : (List (Int × Int))) : (Int × Int) := (P_LTotal_l1 p_row)
def Ok_LTotal (p_row : (List (Int × Int))) : Prop := (okFold (fun (t1 : (Int × Int)) (x3 : (Int × Int)) => (Ok_LPlus t1 x3)) (fun (t1 : (Int × Int)) (x3 : (Int × Int)) => (P_LPlus t1 x3)) (0, 1) p_row)
theorem P_LTotal_eq (p_row : (List (Int × Int))) (h : Ok_LTotal p_row) (S : Store) : M_LTotal [(eT (eP2 eI eI)) p_row] S = some ((eP2 eI eI) (P_LTotal p_row), S) := by
  unfold P_LTotal
  exact fn_P (ρ := (fun z => ((eP2 eI eI) z, S))) rfl ((pb_seq (e1 := [some ((eT (eP2 eI eI)) p_row), some ((eP2 eI eI) (0, 1)), none]) (asg_of (tup_of (cons_of rfl (cons_of rfl nil_of)) (Nat.le_of_ble_eq_true rfl))) (pb_for_F (E := (fun (t : (Int × Int)) (j : (Option D)) => [some ((eT (eP2 eI eI)) p_row), some ((eP2 eI eI) t), j])) (σ := (fun (t : (Int × Int)) (j : (Option D)) => S)) (step := (fun (t1 : (Int × Int)) (x3 : (Int × Int)) => (P_LPlus t1 x3))) (ok := (fun (t1 : (Int × Int)) (x3 : (Int × Int)) => (Ok_LPlus t1 x3))) (t0 := (0, 1)) (j0 := none) (en := (eP2 eI eI)) (xs := p_row) (src_T rfl) rfl rfl h (fun t1 j2 x3 h4 => ⟨_, rfl, (pb_end (e1 := [some ((eT (eP2 eI eI)) p_row), some ((eP2 eI eI) (P_LPlus t1 x3)), some ((eP2 eI eI) x3)]) (asg_of (call_of (cons_of rfl (cons_of rfl nil_of)) (P_LPlus_eq t1 x3 h4 _))) ⟨some ((eP2 eI eI) x3), .inl rfl, rfl⟩)⟩) fun j5 => (pb_ret rfl (fin_pure (d := (eP2 eI eI) (P_LTotal_l1 p_row)) ((fit_P2 fit_I fit_I) (P_LTotal_l1 p_row)))))))
def P_LIsFraction (p_value : AV) : Bool := (bif ((!p_value.isTup) || ((!decide ((p_value.items.length : Int) = 2)) || (!((p_value.items.map fun x3 => (P_LIsInt x3)).all id)))) then false else (decide (0 < (ixZ p_value.items 1).int) && decide ((P_LDivisor ((ixZ p_value.items 0).int) ((ixZ p_value.items 1).int)) = 1)))
def Ok_LIsFraction (p_value : AV) : Prop := ((!p_value.isTup) = false → (p_value.isTup = true) ∧ ((!decide ((p_value.items.length : Int) = 2)) = false → (p_value.isTup = true) ∧ (p_value.items.length ≤ LIM))) ∧ (((!p_value.isTup) || ((!decide ((p_value.items.length : Int) = 2)) || (!((p_value.items.map fun x3 => (P_LIsInt x3)).all id)))) = false → (p_value.isTup = true) ∧ (InR p_value.items 1) ∧ ((ixZ p_value.items 1).isI = true) ∧ ((decide (0 < (ixZ p_value.items 1).int)) = true → (p_value.isTup = true) ∧ (InR p_value.items 0) ∧ ((ixZ p_value.items 0).isI = true) ∧ (InR p_value.items 1) ∧ ((ixZ p_value.items 1).isI = true) ∧ (Ok_LDivisor ((ixZ p_value.items 0).int) ((ixZ p_value.items 1).int))))
theorem P_LIsFraction_eq (p_value : AV) (h : Ok_LIsFraction p_value) (S : Store) : M_LIsFraction [eA p_value] S = some (eB (P_LIsFraction p_value), S) := by
  unfold P_LIsFraction
  exact fn_P (ρ := (fun z => (eB z, S))) rfl ((pb_seq_if (Q := (RQ .pure S (fun z => (eB z, S)))) (p := false) (q := (decide (0 < (ixZ p_value.items 1).int) && decide ((P_LDivisor ((ixZ p_value.items 0).int) ((ixZ p_value.items 1).int)) = 1))) (or_E (not_of (tru_of' (isi_tup rfl) tr_bl)) fun h1 => (or_E (tv_of (bin_of (len_A rfl (h.1 h1).1) rfl (ne_E (en := eI) (p := (p_value.items.length : Int)) (q := 2) eqv_I))) fun h2 => (not_of (tru_of' (all_E (val_E (lcm_E (en := eA) (en2 := eB) (xs := p_value.items) (f := fun x3 => (P_LIsInt x3)) (src_T (coT rfl ((h.1 h1).2 h2).1)) ((h.1 h1).2 h2).2 fun x3 h4 => ⟨_, rfl, (call_of (cons_of rfl nil_of) (P_LIsInt_eq x3  _))⟩)) rfl) tr_bl)))) (fun h5 => (pb_seq_ret rfl (fin_pure (d := eB false) (fit_B false)))) fun h6 => (pb_seq_skip (pb_ret (andv_E (bin_of (coI (ix_A rfl rfl (h.2 h6).1 (h.2 h6).2.1) (h.2 h6).2.2.1) rfl rfl) fun h7 => (bin_of (call_of (cons_of (coI (ix_A rfl rfl ((h.2 h6).2.2.2 h7).1 ((h.2 h6).2.2.2 h7).2.1) ((h.2 h6).2.2.2 h7).2.2.1) (cons_of (coI (ix_A rfl rfl ((h.2 h6).2.2.2 h7).1 ((h.2 h6).2.2.2 h7).2.2.2.1) ((h.2 h6).2.2.2 h7).2.2.2.2.1) nil_of)) (P_LDivisor_eq ((ixZ p_value.items 0).int) ((ixZ p_value.items 1).int) ((h.2 h6).2.2.2 h7).2.2.2.2.2 _)) rfl (eq_E (en := eI) (p := (P_LDivisor ((ixZ p_value.items 0).int) ((ixZ p_value.items 1).int))) (q := 1) eqv_I))) (fin_pure (d := eB (decide (0 < (ixZ p_value.items 1).int) && decide ((P_LDivisor ((ixZ p_value.items 0).int) ((ixZ p_value.items 1).int)) = 1))) (fit_B (decide (0 < (ixZ p_value.items 1).int) && decide ((P_LDivisor ((ixZ p_value.items 0).int) ((ixZ p_value.items 1).int)) = 1))))))))
def P_LIsRow (p_value : AV) (p_many : Int) : Bool := (p_value.isTup && (decide ((p_value.items.length : Int) = p_many) && ((p_value.items.map fun x3 => (P_LIsFraction x3)).all id)))
def Ok_LIsRow (p_value : AV) (p_many : Int) : Prop := (p_value.isTup = true → (p_value.isTup = true) ∧ ((decide ((p_value.items.length : Int) = p_many)) = true → (p_value.isTup = true) ∧ (∀ x3 ∈ p_value.items, (Ok_LIsFraction x3)) ∧ (p_value.items.length ≤ LIM)))
theorem P_LIsRow_eq (p_value : AV) (p_many : Int) (h : Ok_LIsRow p_value p_many) (S : Store) : M_LIsRow [eA p_value, eI p_many] S = some (eB (P_LIsRow p_value p_many), S) := by
  unfold P_LIsRow
  exact fn_P (ρ := (fun z => (eB z, S))) rfl ((pb_ret (andv_E (isi_tup rfl) fun h1 => (andv_E (bin_of (len_A rfl (h h1).1) rfl (eq_E (en := eI) (p := (p_value.items.length : Int)) (q := p_many) eqv_I)) fun h2 => (all_E (val_E (lcm_E (en := eA) (en2 := eB) (xs := p_value.items) (f := fun x3 => (P_LIsFraction x3)) (src_T (coT rfl ((h h1).2 h2).1)) ((h h1).2 h2).2.2 fun x3 h4 => ⟨_, rfl, (call_of (cons_of rfl nil_of) (P_LIsFraction_eq x3 (((h h1).2 h2).2.1 x3 h4) _))⟩)) rfl))) (fin_pure (d := eB (p_value.isTup && (decide ((p_value.items.length : Int) = p_many) && ((p_value.items.map fun x3 => (P_LIsFraction x3)).all id)))) (fit_B (p_value.isTup && (decide ((p_value.items.length : Int) = p_many) && ((p_value.items.map fun x3 => (P_LIsFraction x3)).all id)))))))
def P_LIsRents_v1 (p_value : AV) : AV := (ixZ (cutZ p_value.items (some 1) none) 0)
def P_LIsRents_v2 (p_value : AV) : AV := (ixZ (cutZ p_value.items (some 1) none) 1)
def P_LIsRents_v3 (p_worths : (List (List Int))) (p_value : AV) (x17 : Int) : (Int × Int) := (P_LMinus ((ixZ (ixZ p_worths x17) ((ixZ (P_LIsRents_v1 p_value).items x17).int)), 1) ((ixZ (ixZ (P_LIsRents_v2 p_value).items ((ixZ (P_LIsRents_v1 p_value).items x17).int)).items 0).int, (ixZ (ixZ (P_LIsRents_v2 p_value).items ((ixZ (P_LIsRents_v1 p_value).items x17).int)).items 1).int))
def P_LIsRents_s4 (p_worths : (List (List Int))) (p_value : AV) (x17 : Int) : (Lo Unit Bool) := (bif (((rngZ 0 (p_worths.length : Int)).map fun x19 => (P_LLess (P_LIsRents_v3 p_worths p_value x17) (P_LMinus ((ixZ (ixZ p_worths x17) x19), 1) ((ixZ (ixZ (P_LIsRents_v2 p_value).items x19).items 0).int, (ixZ (ixZ (P_LIsRents_v2 p_value).items x19).items 1).int)))).any id) then (.rt false) else (.nx ()))
def Ok_LIsRents_5 (p_worths : (List (List Int))) (p_value : AV) (x17 : Int) : Prop := (InR p_worths x17) ∧ ((P_LIsRents_v1 p_value).isTup = true) ∧ (InR (P_LIsRents_v1 p_value).items x17) ∧ ((ixZ (P_LIsRents_v1 p_value).items x17).isI = true) ∧ (InR (ixZ p_worths x17) ((ixZ (P_LIsRents_v1 p_value).items x17).int)) ∧ ((P_LIsRents_v2 p_value).isTup = true) ∧ (InR (P_LIsRents_v2 p_value).items ((ixZ (P_LIsRents_v1 p_value).items x17).int)) ∧ ((eP2 eI eI) ((ixZ (ixZ (P_LIsRents_v2 p_value).items ((ixZ (P_LIsRents_v1 p_value).items x17).int)).items 0).int, (ixZ (ixZ (P_LIsRents_v2 p_value).items ((ixZ (P_LIsRents_v1 p_value).items x17).int)).items 1).int) = (ixZ (P_LIsRents_v2 p_value).items ((ixZ (P_LIsRents_v1 p_value).items x17).int)).1) ∧ (Ok_LMinus ((ixZ (ixZ p_worths x17) ((ixZ (P_LIsRents_v1 p_value).items x17).int)), 1) ((ixZ (ixZ (P_LIsRents_v2 p_value).items ((ixZ (P_LIsRents_v1 p_value).items x17).int)).items 0).int, (ixZ (ixZ (P_LIsRents_v2 p_value).items ((ixZ (P_LIsRents_v1 p_value).items x17).int)).items 1).int)) ∧ (I62 (p_worths.length : Int)) ∧ (∀ x19 ∈ (rngZ 0 (p_worths.length : Int)), (InR p_worths x17) ∧ (InR (ixZ p_worths x17) x19) ∧ ((P_LIsRents_v2 p_value).isTup = true) ∧ (InR (P_LIsRents_v2 p_value).items x19) ∧ ((eP2 eI eI) ((ixZ (ixZ (P_LIsRents_v2 p_value).items x19).items 0).int, (ixZ (ixZ (P_LIsRents_v2 p_value).items x19).items 1).int) = (ixZ (P_LIsRents_v2 p_value).items x19).1) ∧ (Ok_LMinus ((ixZ (ixZ p_worths x17) x19), 1) ((ixZ (ixZ (P_LIsRents_v2 p_value).items x19).items 0).int, (ixZ (ixZ (P_LIsRents_v2 p_value).items x19).items 1).int)) ∧ (Ok_LLess (P_LIsRents_v3 p_worths p_value x17) (P_LMinus ((ixZ (ixZ p_worths x17) x19), 1) ((ixZ (ixZ (P_LIsRents_v2 p_value).items x19).items 0).int, (ixZ (ixZ (P_LIsRents_v2 p_value).items x19).items 1).int)))) ∧ ((rngZ 0 (p_worths.length : Int)).length ≤ LIM)
def P_LIsRents_l6 (p_worths : (List (List Int))) (p_value : AV) : (Lo Unit Bool) := (forP (fun (t15 : Unit) (x17 : Int) => ((P_LIsRents_s4 p_worths p_value x17) : (Lo Unit Bool))) () (rngZ 0 (p_worths.length : Int)))
def P_LIsRents (p_worths : (List (List Int))) (p_rent : (Int × Int)) (p_value : AV) : Bool := (bif ((!p_value.isTup) || ((!decide ((p_value.items.length : Int) = 3)) || ((!((ixZ p_value.items 0).isStr)) || (!(deq (eA (ixZ p_value.items 0)) (eS sx_rents)))))) then false else (bif ((!((P_LIsRents_v1 p_value).isTup)) || ((!((((P_LIsRents_v1 p_value).items).map fun x7 => (P_LIsInt x7)).all id)) || (!(deq ((eL eA) (sortZ eA ((P_LIsRents_v1 p_value).items))) ((eL eI) (rngZ 0 (p_worths.length : Int))))))) then false else (bif ((!(P_LIsRow (P_LIsRents_v2 p_value) (p_worths.length : Int))) || (!decide ((P_LTotal ((P_LIsRents_v2 p_value).items.map fun z => ((ixZ z.items 0).int, (ixZ z.items 1).int))) = p_rent))) then false else ((P_LIsRents_l6 p_worths p_value).fin (fun (t23 : Unit) => true)))))
def Ok_LIsRents (p_worths : (List (List Int))) (p_rent : (Int × Int)) (p_value : AV) : Prop := ((!p_value.isTup) = false → (p_value.isTup = true) ∧ ((!decide ((p_value.items.length : Int) = 3)) = false → (p_value.isTup = true) ∧ (InR p_value.items 0) ∧ ((!((ixZ p_value.items 0).isStr)) = false → (p_value.isTup = true) ∧ (InR p_value.items 0)))) ∧ (((!p_value.isTup) || ((!decide ((p_value.items.length : Int) = 3)) || ((!((ixZ p_value.items 0).isStr)) || (!(deq (eA (ixZ p_value.items 0)) (eS sx_rents)))))) = false → (p_value.isTup = true) ∧ ((cutZ p_value.items (some 1) none).length = 2) ∧ ((!((P_LIsRents_v1 p_value).isTup)) = false → ((P_LIsRents_v1 p_value).isTup = true) ∧ (((P_LIsRents_v1 p_value).items).length ≤ LIM) ∧ ((!((((P_LIsRents_v1 p_value).items).map fun x7 => (P_LIsInt x7)).all id)) = false → ((P_LIsRents_v1 p_value).isTup = true) ∧ (D.fitL 31 (((P_LIsRents_v1 p_value).items).map eA) = true ∧ alikeB (((P_LIsRents_v1 p_value).items).map eA) = true ∧ sortableB (((P_LIsRents_v1 p_value).items).map eA) = true) ∧ (0 ≤ (p_worths.length : Int) ∧ (p_worths.length : Int) ≤ 16777216))) ∧ (((!((P_LIsRents_v1 p_value).isTup)) || ((!((((P_LIsRents_v1 p_value).items).map fun x7 => (P_LIsInt x7)).all id)) || (!(deq ((eL eA) (sortZ eA ((P_LIsRents_v1 p_value).items))) ((eL eI) (rngZ 0 (p_worths.length : Int))))))) = false → (Ok_LIsRow (P_LIsRents_v2 p_value) (p_worths.length : Int)) ∧ ((!(P_LIsRow (P_LIsRents_v2 p_value) (p_worths.length : Int))) = false → ((eT (eP2 eI eI)) ((P_LIsRents_v2 p_value).items.map fun z => ((ixZ z.items 0).int, (ixZ z.items 1).int)) = (P_LIsRents_v2 p_value).1) ∧ (Ok_LTotal ((P_LIsRents_v2 p_value).items.map fun z => ((ixZ z.items 0).int, (ixZ z.items 1).int)))) ∧ (((!(P_LIsRow (P_LIsRents_v2 p_value) (p_worths.length : Int))) || (!decide ((P_LTotal ((P_LIsRents_v2 p_value).items.map fun z => ((ixZ z.items 0).int, (ixZ z.items 1).int))) = p_rent))) = false → (I62 (p_worths.length : Int)) ∧ (okFor (fun (t15 : Unit) (x17 : Int) => (Ok_LIsRents_5 p_worths p_value x17)) (fun (t15 : Unit) (x17 : Int) => ((P_LIsRents_s4 p_worths p_value x17) : (Lo Unit Bool))) () (rngZ 0 (p_worths.length : Int))))))
theorem P_LIsRents_eq (p_worths : (List (List Int))) (p_rent : (Int × Int)) (p_value : AV) (h : Ok_LIsRents p_worths p_rent p_value) (S : Store) : M_LIsRents [(eT (eT eI)) p_worths, (eP2 eI eI) p_rent, eA p_value] S = some (eB (P_LIsRents p_worths p_rent p_value), S) := by
  unfold P_LIsRents
  exact fn_P (ρ := (fun z => (eB z, S))) rfl ((pb_seq (e1 := [some ((eT (eT eI)) p_worths), some ((eP2 eI eI) p_rent), some (eA p_value), some (eI (p_worths.length : Int)), none, none, none, none, none, none]) (asg_of (len_E (en := (eT eI)) (xs := p_worths) rfl (fun _ h => nomatch h) rfl)) (pb_seq_if (Q := (RQ .pure S (fun z => (eB z, S)))) (p := false) (q := (bif ((!((P_LIsRents_v1 p_value).isTup)) || ((!((((P_LIsRents_v1 p_value).items).map fun x7 => (P_LIsInt x7)).all id)) || (!(deq ((eL eA) (sortZ eA ((P_LIsRents_v1 p_value).items))) ((eL eI) (rngZ 0 (p_worths.length : Int))))))) then false else (bif ((!(P_LIsRow (P_LIsRents_v2 p_value) (p_worths.length : Int))) || (!decide ((P_LTotal ((P_LIsRents_v2 p_value).items.map fun z => ((ixZ z.items 0).int, (ixZ z.items 1).int))) = p_rent))) then false else ((P_LIsRents_l6 p_worths p_value).fin (fun (t23 : Unit) => true))))) (or_E (not_of (tru_of' (isi_tup rfl) tr_bl)) fun h1 => (or_E (tv_of (bin_of (len_A rfl (h.1 h1).1) rfl (ne_E (en := eI) (p := (p_value.items.length : Int)) (q := 3) eqv_I))) fun h2 => (or_E (not_of (tru_of' (isi_str (ix_A rfl rfl ((h.1 h1).2 h2).1 ((h.1 h1).2 h2).2.1)) tr_bl)) fun h3 => (tv_of (bin_of (ix_A rfl rfl (((h.1 h1).2 h2).2.2 h3).1 (((h.1 h1).2 h2).2.2 h3).2) rfl (ne_D (k := 32) (l := 32) ((fit_up (fit_A (k := 0)) (by decide)) (ixZ p_value.items 0)) (fit_S sx_rents) (by decide) (by decide))))))) (fun h4 => (pb_seq_ret rfl (fin_pure (d := eB false) (fit_B false)))) fun h5 => (pb_seq_skip (pb_seq (e1 := [some ((eT (eT eI)) p_worths), some ((eP2 eI eI) p_rent), some (eA p_value), some (eI (p_worths.length : Int)), none, some (eA (P_LIsRents_v1 p_value)), some (eA (P_LIsRents_v2 p_value)), none, none, none]) (asg_tpT2 (sl_T (coT rfl (h.2 h5).1) (o1_of rfl) rfl) (h.2 h5).2.1) (pb_seq_if (Q := (RQ .pure S (fun z => (eB z, S)))) (p := false) (q := (bif ((!(P_LIsRow (P_LIsRents_v2 p_value) (p_worths.length : Int))) || (!decide ((P_LTotal ((P_LIsRents_v2 p_value).items.map fun z => ((ixZ z.items 0).int, (ixZ z.items 1).int))) = p_rent))) then false else ((P_LIsRents_l6 p_worths p_value).fin (fun (t23 : Unit) => true)))) (or_E (not_of (tru_of' (isi_tup rfl) tr_bl)) fun h6 => (or_E (not_of (tru_of' (all_E (val_E (lcm_E (en := eA) (en2 := eB) (xs := (P_LIsRents_v1 p_value).items) (f := fun x7 => (P_LIsInt x7)) (src_T (coT rfl ((h.2 h5).2.2.1 h6).1)) ((h.2 h5).2.2.1 h6).2.1 fun x7 h8 => ⟨_, rfl, (call_of (cons_of rfl nil_of) (P_LIsInt_eq x7  _))⟩)) rfl) tr_bl)) fun h9 => (tv_of (bin_of (val_E (sorted_E (en := eA) (xs := (P_LIsRents_v1 p_value).items) (coT rfl (((h.2 h5).2.2.1 h6).2.2 h9).1) rfl (((h.2 h5).2.2.1 h6).2.2 h9).2.1)) (val_E (lstRg_E rfl (((h.2 h5).2.2.1 h6).2.2 h9).2.2)) (ne_D (k := 32) (l := 32) ((fit_L (fit_up (fit_A (k := 0)) (by decide))) (sortZ eA ((P_LIsRents_v1 p_value).items))) ((fit_L fit_I) (rngZ 0 (p_worths.length : Int))) (by decide) (by decide)))))) (fun h10 => (pb_seq_ret rfl (fin_pure (d := eB false) (fit_B false)))) fun h11 => (pb_seq_skip (pb_seq_if (Q := (RQ .pure S (fun z => (eB z, S)))) (p := false) (q := ((P_LIsRents_l6 p_worths p_value).fin (fun (t23 : Unit) => true))) (or_E (not_of (tru_of' (call_of (cons_of rfl (cons_of rfl nil_of)) (P_LIsRow_eq (P_LIsRents_v2 p_value) (p_worths.length : Int) ((h.2 h5).2.2.2 h11).1 _)) tr_bl)) fun h12 => (tv_of (bin_of (call_of (cons_of (coD (en := (eT (eP2 eI eI))) (z := ((P_LIsRents_v2 p_value).items.map fun z => ((ixZ z.items 0).int, (ixZ z.items 1).int))) (v := (P_LIsRents_v2 p_value)) rfl (((h.2 h5).2.2.2 h11).2.1 h12).1) nil_of) (P_LTotal_eq ((P_LIsRents_v2 p_value).items.map fun z => ((ixZ z.items 0).int, (ixZ z.items 1).int)) (((h.2 h5).2.2.2 h11).2.1 h12).2 _)) rfl (ne_E (en := (eP2 eI eI)) (p := (P_LTotal ((P_LIsRents_v2 p_value).items.map fun z => ((ixZ z.items 0).int, (ixZ z.items 1).int)))) (q := p_rent) (eqv_P2 eqv_I eqv_I))))) (fun h13 => (pb_seq_ret rfl (fin_pure (d := eB false) (fit_B false)))) fun h14 => (pb_seq_skip (pb_for_P (QR := (RQ .pure S (fun z => (eB z, S)))) (E := (fun (t : Unit) (j : ((Option D) × (Option D))) => [some ((eT (eT eI)) p_worths), some ((eP2 eI eI) p_rent), some (eA p_value), some (eI (p_worths.length : Int)), j.1, some (eA (P_LIsRents_v1 p_value)), some (eA (P_LIsRents_v2 p_value)), j.2, none, none])) (σ := (fun (t : Unit) (j : ((Option D) × (Option D))) => S)) (step := (fun (t15 : Unit) (x17 : Int) => ((P_LIsRents_s4 p_worths p_value x17) : (Lo Unit Bool)))) (ok := (fun (t15 : Unit) (x17 : Int) => (Ok_LIsRents_5 p_worths p_value x17))) (k := (fun (t23 : Unit) => true)) (t0 := ()) (j0 := (none, none)) (en := eI) (xs := (rngZ 0 (p_worths.length : Int))) (src_rg1 rfl (((h.2 h5).2.2.2 h11).2.2 h14).1) rfl rfl (((h.2 h5).2.2.2 h11).2.2 h14).2 (fun t15 j16 x17 h18 => ⟨_, rfl, (pb_seq (e1 := [some ((eT (eT eI)) p_worths), some ((eP2 eI eI) p_rent), some (eA p_value), some (eI (p_worths.length : Int)), some (eI x17), some (eA (P_LIsRents_v1 p_value)), some (eA (P_LIsRents_v2 p_value)), some ((eP2 eI eI) (P_LIsRents_v3 p_worths p_value x17)), none, none]) (asg_of (call_of (cons_of (tup_of (cons_of (ix_T (ix_T rfl rfl h18.1) (coI (ix_A rfl rfl h18.2.1 h18.2.2.1) h18.2.2.2.1) h18.2.2.2.2.1) (cons_of rfl nil_of)) (Nat.le_of_ble_eq_true rfl)) (cons_of (coD (en := (eP2 eI eI)) (z := ((ixZ (ixZ (P_LIsRents_v2 p_value).items ((ixZ (P_LIsRents_v1 p_value).items x17).int)).items 0).int, (ixZ (ixZ (P_LIsRents_v2 p_value).items ((ixZ (P_LIsRents_v1 p_value).items x17).int)).items 1).int)) (v := (ixZ (P_LIsRents_v2 p_value).items ((ixZ (P_LIsRents_v1 p_value).items x17).int))) (ix_A rfl (coI (ix_A rfl rfl h18.2.1 h18.2.2.1) h18.2.2.2.1) h18.2.2.2.2.2.1 h18.2.2.2.2.2.2.1) h18.2.2.2.2.2.2.2.1) nil_of)) (P_LMinus_eq ((ixZ (ixZ p_worths x17) ((ixZ (P_LIsRents_v1 p_value).items x17).int)), 1) ((ixZ (ixZ (P_LIsRents_v2 p_value).items ((ixZ (P_LIsRents_v1 p_value).items x17).int)).items 0).int, (ixZ (ixZ (P_LIsRents_v2 p_value).items ((ixZ (P_LIsRents_v1 p_value).items x17).int)).items 1).int) h18.2.2.2.2.2.2.2.2.1 _))) (pb_if (Q := (LQ (fun (t : Unit) (j : ((Option D) × (Option D))) => [some ((eT (eT eI)) p_worths), some ((eP2 eI eI) p_rent), some (eA p_value), some (eI (p_worths.length : Int)), j.1, some (eA (P_LIsRents_v1 p_value)), some (eA (P_LIsRents_v2 p_value)), j.2, none, none]) (fun (t : Unit) (j : ((Option D) × (Option D))) => S) (RQ .pure S (fun z => (eB z, S))))) (p := (.rt false)) (q := (.nx ())) (tru_of' (any_E (val_E (lcm_E (en := eI) (en2 := eB) (xs := (rngZ 0 (p_worths.length : Int))) (f := fun x19 => (P_LLess (P_LIsRents_v3 p_worths p_value x17) (P_LMinus ((ixZ (ixZ p_worths x17) x19), 1) ((ixZ (ixZ (P_LIsRents_v2 p_value).items x19).items 0).int, (ixZ (ixZ (P_LIsRents_v2 p_value).items x19).items 1).int)))) (src_rg1 rfl h18.2.2.2.2.2.2.2.2.2.1) h18.2.2.2.2.2.2.2.2.2.2.2 fun x19 h20 => ⟨_, rfl, (call_of (cons_of rfl (cons_of (call_of (cons_of (tup_of (cons_of (ix_T (ix_T rfl rfl (h18.2.2.2.2.2.2.2.2.2.2.1 x19 h20).1) rfl (h18.2.2.2.2.2.2.2.2.2.2.1 x19 h20).2.1) (cons_of rfl nil_of)) (Nat.le_of_ble_eq_true rfl)) (cons_of (coD (en := (eP2 eI eI)) (z := ((ixZ (ixZ (P_LIsRents_v2 p_value).items x19).items 0).int, (ixZ (ixZ (P_LIsRents_v2 p_value).items x19).items 1).int)) (v := (ixZ (P_LIsRents_v2 p_value).items x19)) (ix_A rfl rfl (h18.2.2.2.2.2.2.2.2.2.2.1 x19 h20).2.2.1 (h18.2.2.2.2.2.2.2.2.2.2.1 x19 h20).2.2.2.1) (h18.2.2.2.2.2.2.2.2.2.2.1 x19 h20).2.2.2.2.1) nil_of)) (P_LMinus_eq ((ixZ (ixZ p_worths x17) x19), 1) ((ixZ (ixZ (P_LIsRents_v2 p_value).items x19).items 0).int, (ixZ (ixZ (P_LIsRents_v2 p_value).items x19).items 1).int) (h18.2.2.2.2.2.2.2.2.2.2.1 x19 h20).2.2.2.2.2.1 _)) nil_of)) (P_LLess_eq (P_LIsRents_v3 p_worths p_value x17) (P_LMinus ((ixZ (ixZ p_worths x17) x19), 1) ((ixZ (ixZ (P_LIsRents_v2 p_value).items x19).items 0).int, (ixZ (ixZ (P_LIsRents_v2 p_value).items x19).items 1).int)) (h18.2.2.2.2.2.2.2.2.2.2.1 x19 h20).2.2.2.2.2.2 _))⟩)) rfl) tr_bl) (fun h21 => (pb_ret rfl ⟨⟨_, rfl⟩, (fin_pure (d := eB false) (fit_B false))⟩)) fun h22 => (pb_skip ⟨(some (eI x17), some ((eP2 eI eI) (P_LIsRents_v3 p_worths p_value x17))), .inl rfl, rfl⟩)))⟩) fun t23 j24 h25 => (pb_ret rfl (fin_pure (d := eB true) (fit_B true)))))))))))))
def P_LTimes (p_a : (Int × Int)) (p_b : (Int × Int)) : (Int × Int) := (P_LFraction (p_a.1 * p_b.1) (p_a.2 * p_b.2))
def Ok_LTimes (p_a : (Int × Int)) (p_b : (Int × Int)) : Prop := (MulOk p_a.1 p_b.1) ∧ (MulOk p_a.2 p_b.2) ∧ (Ok_LFraction (p_a.1 * p_b.1) (p_a.2 * p_b.2))
theorem P_LTimes_eq (p_a : (Int × Int)) (p_b : (Int × Int)) (h : Ok_LTimes p_a p_b) (S : Store) : M_LTimes [(eP2 eI eI) p_a, (eP2 eI eI) p_b] S = some ((eP2 eI eI) (P_LTimes p_a p_b), S) := by
  unfold P_LTimes
  exact fn_P (ρ := (fun z => ((eP2 eI eI) z, S))) rfl ((pb_ret (call_of (cons_of (bin_of (bin_of rfl rfl rfl) (bin_of rfl rfl rfl) (mul_big h.1)) (cons_of (bin_of (bin_of rfl rfl rfl) (bin_of rfl rfl rfl) (mul_big h.2.1)) nil_of)) (P_LFraction_eq (p_a.1 * p_b.1) (p_a.2 * p_b.2) h.2.2 _)) (fin_pure (d := (eP2 eI eI) (P_LFraction (p_a.1 * p_b.1) (p_a.2 * p_b.2))) ((fit_P2 fit_I fit_I) (P_LFraction (p_a.1 * p_b.1) (p_a.2 * p_b.2))))))
def P_LOrders_v1 (p_n : Int) (t5 : (List (List Int))) (x7 : (List Int)) : (List (List Int)) := (t5 ++ (((rngZ 0 p_n).filter fun x9 => (!decide (x9 ∈ x7))).map fun x9 => (x7 ++ [x9])))
def Ok_LOrders_2 (p_n : Int) (t5 : (List (List Int))) (x7 : (List Int)) : Prop := (I62 p_n) ∧ (∀ x9 ∈ (rngZ 0 p_n), ((!decide (x9 ∈ x7)) = true → (x7.length + [x9].length ≤ LIM))) ∧ ((rngZ 0 p_n).length ≤ LIM) ∧ (t5.length + (((rngZ 0 p_n).filter fun x9 => (!decide (x9 ∈ x7))).map fun x9 => (x7 ++ [x9])).length ≤ LIM)
def P_LOrders_l3 (p_n : Int) (t1 : (List (List Int))) : (List (List Int)) := (t1.foldl (fun (t5 : (List (List Int))) (x7 : (List Int)) => (P_LOrders_v1 p_n t5 x7)) [])
def Ok_LOrders_4 (p_n : Int) (t1 : (List (List Int))) : Prop := (okFold (fun (t5 : (List (List Int))) (x7 : (List Int)) => (Ok_LOrders_2 p_n t5 x7)) (fun (t5 : (List (List Int))) (x7 : (List Int)) => (P_LOrders_v1 p_n t5 x7)) [] t1)
def P_LOrders_l5 (p_n : Int) : (List (List Int)) := ((rngZ 0 p_n).foldl (fun (t1 : (List (List Int))) (x3 : Int) => (P_LOrders_l3 p_n t1)) [[]])
def P_LOrders (p_n : Int) : (List (List Int)) := (P_LOrders_l5 p_n)
def Ok_LOrders (p_n : Int) : Prop := (I62 p_n) ∧ (okFold (fun (t1 : (List (List Int))) (x3 : Int) => (Ok_LOrders_4 p_n t1)) (fun (t1 : (List (List Int))) (x3 : Int) => (P_LOrders_l3 p_n t1)) [[]] (rngZ 0 p_n))
theorem P_LOrders_eq (p_n : Int) (h : Ok_LOrders p_n) (S : Store) : M_LOrders [eI p_n] S = some ((eL (eT eI)) (P_LOrders p_n), S) := by
  unfold P_LOrders
  exact fn_P (ρ := (fun z => ((eL (eT eI)) z, S))) rfl ((pb_seq (e1 := [some (eI p_n), some ((eL (eT eI)) [[]]), none, none, none, none]) (asg_of (val_E (lst_E (cons_of (tup_of nil_of (Nat.le_of_ble_eq_true rfl)) nil_of) (Nat.le_of_ble_eq_true rfl)))) (pb_for_F (E := (fun (t : (List (List Int))) (j : ((Option D) × (Option D) × (Option D))) => [some (eI p_n), some ((eL (eT eI)) t), j.1, j.2.1, j.2.2, none])) (σ := (fun (t : (List (List Int))) (j : ((Option D) × (Option D) × (Option D))) => S)) (step := (fun (t1 : (List (List Int))) (x3 : Int) => (P_LOrders_l3 p_n t1))) (ok := (fun (t1 : (List (List Int))) (x3 : Int) => (Ok_LOrders_4 p_n t1))) (t0 := [[]]) (j0 := (none, none, none)) (en := eI) (xs := (rngZ 0 p_n)) (src_rg1 rfl h.1) rfl rfl h.2 (fun t1 j2 x3 h4 => ⟨_, rfl, (pb_seq (e1 := [some (eI p_n), some ((eL (eT eI)) t1), some (eI x3), some ((eL (eT eI)) []), j2.2.2, none]) (asg_of (val_E (lst_E nil_of (Nat.le_of_ble_eq_true rfl)))) (pb_for_F (E := (fun (t : (List (List Int))) (j : (Option D)) => [some (eI p_n), some ((eL (eT eI)) t1), some (eI x3), some ((eL (eT eI)) t), j, none])) (σ := (fun (t : (List (List Int))) (j : (Option D)) => S)) (step := (fun (t5 : (List (List Int))) (x7 : (List Int)) => (P_LOrders_v1 p_n t5 x7))) (ok := (fun (t5 : (List (List Int))) (x7 : (List Int)) => (Ok_LOrders_2 p_n t5 x7))) (t0 := []) (j0 := j2.2.2) (en := (eT eI)) (xs := t1) (src_L rfl) rfl rfl h4 (fun t5 j6 x7 h8 => ⟨_, rfl, (pb_end (e1 := [some (eI p_n), some ((eL (eT eI)) t1), some (eI x3), some ((eL (eT eI)) (P_LOrders_v1 p_n t5 x7)), some ((eT eI) x7), none]) (asg_of (bin_of rfl (val_E (lc_E (en := eI) (en2 := (eT eI)) (xs := (rngZ 0 p_n)) (p := fun x9 => (!decide (x9 ∈ x7))) (f := fun x9 => (x7 ++ [x9])) (src_rg1 rfl h8.1) h8.2.2.1 fun x9 h10 => ⟨_, rfl, (tv_of (bin_of rfl rfl (nin_E eqv_I rfl))), fun h11 => (bin_of rfl (tup_of (cons_of rfl nil_of) (Nat.le_of_ble_eq_true rfl)) (add_T (en := eI) (xs := x7) (ys := [x9]) ((h8.2.1 x9 h10) h11)))⟩)) (add_L (en := (eT eI)) (xs := t5) (ys := (((rngZ 0 p_n).filter fun x9 => (!decide (x9 ∈ x7))).map fun x9 => (x7 ++ [x9]))) h8.2.2.2))) ⟨some ((eT eI) x7), .inl rfl, rfl⟩)⟩) fun j12 => (pb_end (e1 := [some (eI p_n), some ((eL (eT eI)) (P_LOrders_l3 p_n t1)), some (eI x3), some ((eL (eT eI)) (P_LOrders_l3 p_n t1)), j12, none]) (asg_of rfl) ⟨(some (eI x3), some ((eL (eT eI)) (P_LOrders_l3 p_n t1)), j12), .inl rfl, rfl⟩)))⟩) fun j13 => (pb_ret rfl (fin_pure (d := (eL (eT eI)) (P_LOrders_l5 p_n)) ((fit_L (fit_T fit_I)) (P_LOrders_l5 p_n)))))))
def P_LDue_v1 (p_worths : (List (List Int))) (x3 : (List Int)) : Int := ((rngZ 0 (p_worths.length : Int)).map fun x5 => (ixZ (ixZ p_worths x5) (ixZ x3 x5))).sum
def P_LDue_v2 (p_worths : (List (List Int))) (t1 : ((Option (List Int)) × (Option Int))) (x3 : (List Int)) : (Option (List Int)) := (bif (t1.1.isNone || decide ((getO t1.2) < (P_LDue_v1 p_worths x3))) then (some x3) else t1.1)
def P_LDue_v3 (p_worths : (List (List Int))) (t1 : ((Option (List Int)) × (Option Int))) (x3 : (List Int)) : (Option Int) := (bif (t1.1.isNone || decide ((getO t1.2) < (P_LDue_v1 p_worths x3))) then (some (P_LDue_v1 p_worths x3)) else t1.2)
def P_LDue_s4 (p_worths : (List (List Int))) (t1 : ((Option (List Int)) × (Option Int))) (x3 : (List Int)) : ((Option (List Int)) × (Option Int)) := ((P_LDue_v2 p_worths t1 x3), (P_LDue_v3 p_worths t1 x3))
def Ok_LDue_5 (p_worths : (List (List Int))) (t1 : ((Option (List Int)) × (Option Int))) (x3 : (List Int)) : Prop := (I62 (p_worths.length : Int)) ∧ (∀ x5 ∈ (rngZ 0 (p_worths.length : Int)), (InR p_worths x5) ∧ (InR x3 x5) ∧ (InR (ixZ p_worths x5) (ixZ x3 x5))) ∧ ((rngZ 0 (p_worths.length : Int)).length ≤ LIM) ∧ (t1.1.isNone = false → (t1.2.isSome = true))
def P_LDue_l6 (p_worths : (List (List Int))) : ((Option (List Int)) × (Option Int)) := ((P_LOrders (p_worths.length : Int)).foldl (fun (t1 : ((Option (List Int)) × (Option Int))) (x3 : (List Int)) => (P_LDue_s4 p_worths t1 x3)) (none, none))
def P_LDue_v7 (p_worths : (List (List Int))) : (List Int) := ((rngZ 0 (p_worths.length : Int)).map fun x11 => (ixZ (ixZ p_worths x11) (ixZ (getO ((P_LDue_l6 p_worths).1)) x11)))
def P_LDue_v8 (p_worths : (List (List Int))) (x19 : Int) (t21 : (List Int)) (x23 : Int) : (List Int) := (setZ t21 x19 (if (((ixZ t21 x23) + (ixZ (ixZ p_worths x19) (ixZ (getO ((P_LDue_l6 p_worths).1)) x19))) - (ixZ (ixZ p_worths x19) (ixZ (getO ((P_LDue_l6 p_worths).1)) x23))) < (ixZ t21 x19) then (((ixZ t21 x23) + (ixZ (ixZ p_worths x19) (ixZ (getO ((P_LDue_l6 p_worths).1)) x19))) - (ixZ (ixZ p_worths x19) (ixZ (getO ((P_LDue_l6 p_worths).1)) x23))) else (ixZ t21 x19)))
def Ok_LDue_9 (p_worths : (List (List Int))) (x19 : Int) (t21 : (List Int)) (x23 : Int) : Prop := (InR t21 x19) ∧ (InR t21 x23) ∧ (InR p_worths x19) ∧ (((P_LDue_l6 p_worths).1).isSome = true) ∧ (InR (getO ((P_LDue_l6 p_worths).1)) x19) ∧ (InR (ixZ p_worths x19) (ixZ (getO ((P_LDue_l6 p_worths).1)) x19)) ∧ (InR (getO ((P_LDue_l6 p_worths).1)) x23) ∧ (InR (ixZ p_worths x19) (ixZ (getO ((P_LDue_l6 p_worths).1)) x23))
def P_LDue_l10 (p_worths : (List (List Int))) (t17 : (List Int)) (x19 : Int) : (List Int) := ((rngZ 0 (p_worths.length : Int)).foldl (fun (t21 : (List Int)) (x23 : Int) => (P_LDue_v8 p_worths x19 t21 x23)) t17)
def Ok_LDue_11 (p_worths : (List (List Int))) (t17 : (List Int)) (x19 : Int) : Prop := (I62 (p_worths.length : Int)) ∧ (okFold (fun (t21 : (List Int)) (x23 : Int) => (Ok_LDue_9 p_worths x19 t21 x23)) (fun (t21 : (List Int)) (x23 : Int) => (P_LDue_v8 p_worths x19 t21 x23)) t17 (rngZ 0 (p_worths.length : Int)))
def P_LDue_l12 (p_worths : (List (List Int))) (t13 : (List Int)) : (List Int) := ((rngZ 0 (p_worths.length : Int)).foldl (fun (t17 : (List Int)) (x19 : Int) => (P_LDue_l10 p_worths t17 x19)) t13)
def Ok_LDue_13 (p_worths : (List (List Int))) (t13 : (List Int)) : Prop := (I62 (p_worths.length : Int)) ∧ (okFold (fun (t17 : (List Int)) (x19 : Int) => (Ok_LDue_11 p_worths t17 x19)) (fun (t17 : (List Int)) (x19 : Int) => (P_LDue_l10 p_worths t17 x19)) t13 (rngZ 0 (p_worths.length : Int)))
def P_LDue_l14 (p_worths : (List (List Int))) : (List Int) := ((rngZ 0 ((p_worths.length : Int) + 1)).foldl (fun (t13 : (List Int)) (x15 : Int) => (P_LDue_l12 p_worths t13)) (P_LDue_v7 p_worths))
def P_LDue_v15 (p_worths : (List (List Int))) (p_rent : (Int × Int)) : (Int × Int) := (P_LTimes (P_LMinus ((P_LDue_l14 p_worths).sum, 1) p_rent) (1, (p_worths.length : Int)))
def P_LDue_v16 (p_worths : (List (List Int))) : (List (Option (Int × Int))) := (repZ (p_worths.length : Int) ([none] : (List (Option (Int × Int)))))
def P_LDue_v17 (p_worths : (List (List Int))) (p_rent : (Int × Int)) (t28 : (List (Option (Int × Int)))) (x30 : Int) : (List (Option (Int × Int))) := (setZ t28 (ixZ (getO ((P_LDue_l6 p_worths).1)) x30) (some (P_LMinus ((ixZ (P_LDue_l14 p_worths) x30), 1) (P_LDue_v15 p_worths p_rent))))
def Ok_LDue_18 (p_worths : (List (List Int))) (p_rent : (Int × Int)) (t28 : (List (Option (Int × Int)))) (x30 : Int) : Prop := (InR (P_LDue_l14 p_worths) x30) ∧ (Ok_LMinus ((ixZ (P_LDue_l14 p_worths) x30), 1) (P_LDue_v15 p_worths p_rent)) ∧ (((P_LDue_l6 p_worths).1).isSome = true) ∧ (InR (getO ((P_LDue_l6 p_worths).1)) x30) ∧ (InR t28 (ixZ (getO ((P_LDue_l6 p_worths).1)) x30))
def P_LDue_l19 (p_worths : (List (List Int))) (p_rent : (Int × Int)) : (List (Option (Int × Int))) := ((rngZ 0 (p_worths.length : Int)).foldl (fun (t28 : (List (Option (Int × Int)))) (x30 : Int) => (P_LDue_v17 p_worths p_rent t28 x30)) (P_LDue_v16 p_worths))
def P_LDue (p_worths : (List (List Int))) (p_rent : (Int × Int)) : ((List Int) × (List (Int × Int)) × (Int × Int)) := ((getO ((P_LDue_l6 p_worths).1)), ((P_LDue_l19 p_worths p_rent).map getO), (P_LDue_v15 p_worths p_rent))
def Ok_LDue (p_worths : (List (List Int))) (p_rent : (Int × Int)) : Prop := (Ok_LOrders (p_worths.length : Int)) ∧ (okFold (fun (t1 : ((Option (List Int)) × (Option Int))) (x3 : (List Int)) => (Ok_LDue_5 p_worths t1 x3)) (fun (t1 : ((Option (List Int)) × (Option Int))) (x3 : (List Int)) => (P_LDue_s4 p_worths t1 x3)) (none, none) (P_LOrders (p_worths.length : Int))) ∧ (I62 (p_worths.length : Int)) ∧ (∀ x11 ∈ (rngZ 0 (p_worths.length : Int)), (InR p_worths x11) ∧ (((P_LDue_l6 p_worths).1).isSome = true) ∧ (InR (getO ((P_LDue_l6 p_worths).1)) x11) ∧ (InR (ixZ p_worths x11) (ixZ (getO ((P_LDue_l6 p_worths).1)) x11))) ∧ ((rngZ 0 (p_worths.length : Int)).length ≤ LIM) ∧ (I62 ((p_worths.length : Int) + 1)) ∧ (okFold (fun (t13 : (List Int)) (x15 : Int) => (Ok_LDue_13 p_worths t13)) (fun (t13 : (List Int)) (x15 : Int) => (P_LDue_l12 p_worths t13)) (P_LDue_v7 p_worths) (rngZ 0 ((p_worths.length : Int) + 1))) ∧ (Ok_LMinus ((P_LDue_l14 p_worths).sum, 1) p_rent) ∧ (Ok_LTimes (P_LMinus ((P_LDue_l14 p_worths).sum, 1) p_rent) (1, (p_worths.length : Int))) ∧ (-(2 ^ 63) ≤ (p_worths.length : Int) ∧ (p_worths.length : Int) < 2 ^ 63 ∧ ([none] : (List (Option (Int × Int)))).length * (p_worths.length : Int).toNat ≤ LIM) ∧ (okFold (fun (t28 : (List (Option (Int × Int)))) (x30 : Int) => (Ok_LDue_18 p_worths p_rent t28 x30)) (fun (t28 : (List (Option (Int × Int)))) (x30 : Int) => (P_LDue_v17 p_worths p_rent t28 x30)) (P_LDue_v16 p_worths) (rngZ 0 (p_worths.length : Int))) ∧ (((P_LDue_l6 p_worths).1).isSome = true) ∧ (∀ x ∈ (P_LDue_l19 p_worths p_rent), x.isSome = true)
theorem P_LDue_eq (p_worths : (List (List Int))) (p_rent : (Int × Int)) (h : Ok_LDue p_worths p_rent) (S : Store) : M_LDue [(eT (eT eI)) p_worths, (eP2 eI eI) p_rent] S = some ((eQ3 (eT eI) (eT (eP2 eI eI)) (eP2 eI eI)) (P_LDue p_worths p_rent), S) := by
  unfold P_LDue
  exact fn_P (ρ := (fun z => ((eQ3 (eT eI) (eT (eP2 eI eI)) (eP2 eI eI)) z, S))) rfl (pb_app0 (pb_seq (e1 := [some ((eT (eT eI)) p_worths), some ((eP2 eI eI) p_rent), some (eI (p_worths.length : Int)), none, none, none, none, none, none, none, none, none, none]) (asg_of (len_E (en := (eT eI)) (xs := p_worths) rfl (fun _ h => nomatch h) rfl)) (pb_seq (e1 := [some ((eT (eT eI)) p_worths), some ((eP2 eI eI) p_rent), some (eI (p_worths.length : Int)), none, none, none, none, none, none, some ((eO (eT eI)) none), some ((eO eI) none), none, none]) (asg_tp (tup_of (cons_of rfl (cons_of rfl nil_of)) (Nat.le_of_ble_eq_true rfl)) rfl) (pb_for_F (E := (fun (t : ((Option (List Int)) × (Option Int))) (j : ((Option D) × (Option D))) => [some ((eT (eT eI)) p_worths), some ((eP2 eI eI) p_rent), some (eI (p_worths.length : Int)), j.1, none, none, none, none, none, some ((eO (eT eI)) t.1), some ((eO eI) t.2), j.2, none])) (σ := (fun (t : ((Option (List Int)) × (Option Int))) (j : ((Option D) × (Option D))) => (S ++ []))) (step := (fun (t1 : ((Option (List Int)) × (Option Int))) (x3 : (List Int)) => (P_LDue_s4 p_worths t1 x3))) (ok := (fun (t1 : ((Option (List Int)) × (Option Int))) (x3 : (List Int)) => (Ok_LDue_5 p_worths t1 x3))) (t0 := (none, none)) (j0 := (none, none)) (en := (eT eI)) (xs := (P_LOrders (p_worths.length : Int))) (src_L (call_of (cons_of rfl nil_of) (P_LOrders_eq (p_worths.length : Int) h.1 _))) rfl rfl h.2.1 (fun t1 j2 x3 h4 => ⟨_, rfl, (pb_seq (e1 := [some ((eT (eT eI)) p_worths), some ((eP2 eI eI) p_rent), some (eI (p_worths.length : Int)), some ((eT eI) x3), none, none, none, none, none, some ((eO (eT eI)) t1.1), some ((eO eI) t1.2), some (eI (P_LDue_v1 p_worths x3)), none]) (asg_of (sum_E (val_E (lcm_E (en := eI) (en2 := eI) (xs := (rngZ 0 (p_worths.length : Int))) (f := fun x5 => (ixZ (ixZ p_worths x5) (ixZ x3 x5))) (src_rg1 rfl h4.1) h4.2.2.1 fun x5 h6 => ⟨_, rfl, (ix_T (ix_T rfl rfl (h4.2.1 x5 h6).1) (ix_T rfl rfl (h4.2.1 x5 h6).2.1) (h4.2.1 x5 h6).2.2)⟩)) rfl)) (pb_end (e1 := [some ((eT (eT eI)) p_worths), some ((eP2 eI eI) p_rent), some (eI (p_worths.length : Int)), some ((eT eI) x3), none, none, none, none, none, some ((eO (eT eI)) (P_LDue_v2 p_worths t1 x3)), some ((eO eI) (P_LDue_v3 p_worths t1 x3)), some (eI (P_LDue_v1 p_worths x3)), none]) (ifs_join (E := fun b => [some ((eT (eT eI)) p_worths), some ((eP2 eI eI) p_rent), some (eI (p_worths.length : Int)), some ((eT eI) x3), none, none, none, none, none, some ((eO (eT eI)) (bif b then (some x3) else t1.1)), some ((eO eI) (bif b then (some (P_LDue_v1 p_worths x3)) else t1.2)), some (eI (P_LDue_v1 p_worths x3)), none]) (σ := fun b => (S ++ [])) (or_E (tv_of (bin_of rfl rfl (isN_O fun _ => rfl))) fun h7 => (tv_of (bin_of rfl (coO rfl (h4.2.2.2 h7)) rfl))) (fun h8 => (asg_tp (tup_of (cons_of rfl (cons_of rfl nil_of)) (Nat.le_of_ble_eq_true rfl)) rfl)) fun h9 => rfl) ⟨(some ((eT eI) x3), some (eI (P_LDue_v1 p_worths x3))), .inl rfl, rfl⟩))⟩) fun j10 => (pb_seq (e1 := [some ((eT (eT eI)) p_worths), some ((eP2 eI eI) p_rent), some (eI (p_worths.length : Int)), j10.1, some (.ref (S.length + 0)), none, none, none, none, some ((eO (eT eI)) ((P_LDue_l6 p_worths).1)), some ((eO eI) ((P_LDue_l6 p_worths).2)), j10.2, none]) (asg_of (stoG_E (n := (S.length + 0)) (S2 := (S ++ [DV.Ob.lst ((P_LDue_v7 p_worths).map eI)])) (lcm_E (en := eI) (en2 := eI) (xs := (rngZ 0 (p_worths.length : Int))) (f := fun x11 => (ixZ (ixZ p_worths x11) (ixZ (getO ((P_LDue_l6 p_worths).1)) x11))) (src_rg1 rfl h.2.2.1) h.2.2.2.2.1 fun x11 h12 => ⟨_, rfl, (ix_T (ix_T rfl rfl (h.2.2.2.1 x11 h12).1) (ix_T (coO rfl (h.2.2.2.1 x11 h12).2.1) rfl (h.2.2.2.1 x11 h12).2.2.1) (h.2.2.2.1 x11 h12).2.2.2)⟩) (by first | rfl | (simp <;> omega)) (by first | rfl | (simp only [List.append_assoc, List.cons_append, List.nil_append]; done) | (simp only [List.append_assoc, List.cons_append, List.nil_append]; rfl)))) (pb_for_F (E := (fun (t : (List Int)) (j : ((Option D) × (Option D) × (Option D))) => [some ((eT (eT eI)) p_worths), some ((eP2 eI eI) p_rent), some (eI (p_worths.length : Int)), j10.1, some (.ref (S.length + 0)), j.1, none, none, j.2.1, some ((eO (eT eI)) ((P_LDue_l6 p_worths).1)), some ((eO eI) ((P_LDue_l6 p_worths).2)), j10.2, j.2.2])) (σ := (fun (t : (List Int)) (j : ((Option D) × (Option D) × (Option D))) => (S ++ [DV.Ob.lst (t.map eI)]))) (step := (fun (t13 : (List Int)) (x15 : Int) => (P_LDue_l12 p_worths t13))) (ok := (fun (t13 : (List Int)) (x15 : Int) => (Ok_LDue_13 p_worths t13))) (t0 := (P_LDue_v7 p_worths)) (j0 := (none, none, none)) (en := eI) (xs := (rngZ 0 ((p_worths.length : Int) + 1))) (src_rg1 (bin_of rfl rfl r_add) h.2.2.2.2.2.1) rfl rfl h.2.2.2.2.2.2.1 (fun t13 j14 x15 h16 => ⟨_, rfl, (pb_for_F_end (E := (fun (t : (List Int)) (j : ((Option D) × (Option D))) => [some ((eT (eT eI)) p_worths), some ((eP2 eI eI) p_rent), some (eI (p_worths.length : Int)), j10.1, some (.ref (S.length + 0)), some (eI x15), none, none, j.1, some ((eO (eT eI)) ((P_LDue_l6 p_worths).1)), some ((eO eI) ((P_LDue_l6 p_worths).2)), j10.2, j.2])) (σ := (fun (t : (List Int)) (j : ((Option D) × (Option D))) => (S ++ [DV.Ob.lst (t.map eI)]))) (step := (fun (t17 : (List Int)) (x19 : Int) => (P_LDue_l10 p_worths t17 x19))) (ok := (fun (t17 : (List Int)) (x19 : Int) => (Ok_LDue_11 p_worths t17 x19))) (t0 := t13) (j0 := (j14.2.1, j14.2.2)) (en := eI) (xs := (rngZ 0 (p_worths.length : Int))) (src_rg1 rfl h16.1) rfl rfl h16.2 (fun t17 j18 x19 h20 => ⟨_, rfl, (pb_for_F_end (E := (fun (t : (List Int)) (j : (Option D)) => [some ((eT (eT eI)) p_worths), some ((eP2 eI eI) p_rent), some (eI (p_worths.length : Int)), j10.1, some (.ref (S.length + 0)), some (eI x15), none, none, some (eI x19), some ((eO (eT eI)) ((P_LDue_l6 p_worths).1)), some ((eO eI) ((P_LDue_l6 p_worths).2)), j10.2, j])) (σ := (fun (t : (List Int)) (j : (Option D)) => (S ++ [DV.Ob.lst (t.map eI)]))) (step := (fun (t21 : (List Int)) (x23 : Int) => (P_LDue_v8 p_worths x19 t21 x23))) (ok := (fun (t21 : (List Int)) (x23 : Int) => (Ok_LDue_9 p_worths x19 t21 x23))) (t0 := t17) (j0 := j18.2) (en := eI) (xs := (rngZ 0 (p_worths.length : Int))) (src_rg1 rfl h20.1) rfl rfl h20.2 (fun t21 j22 x23 h24 => ⟨_, rfl, (pb_end (e1 := [some ((eT (eT eI)) p_worths), some ((eP2 eI eI) p_rent), some (eI (p_worths.length : Int)), j10.1, some (.ref (S.length + 0)), some (eI x15), none, none, some (eI x19), some ((eO (eT eI)) ((P_LDue_l6 p_worths).1)), some ((eO eI) ((P_LDue_l6 p_worths).2)), j10.2, some (eI x23)]) (setG_E (en := eI) (xs := t21) (y := (if (((ixZ t21 x23) + (ixZ (ixZ p_worths x19) (ixZ (getO ((P_LDue_l6 p_worths).1)) x19))) - (ixZ (ixZ p_worths x19) (ixZ (getO ((P_LDue_l6 p_worths).1)) x23))) < (ixZ t21 x19) then (((ixZ t21 x23) + (ixZ (ixZ p_worths x19) (ixZ (getO ((P_LDue_l6 p_worths).1)) x19))) - (ixZ (ixZ p_worths x19) (ixZ (getO ((P_LDue_l6 p_worths).1)) x23))) else (ixZ t21 x19))) (min_2 (ix_R rfl rfl (getJ (A := S) (n := S.length) rfl rfl) h24.1) (bin_of (bin_of (ix_R rfl rfl (getJ (A := S) (n := S.length) rfl rfl) h24.2.1) (ix_T (ix_T rfl rfl h24.2.2.1) (ix_T (coO rfl h24.2.2.2.1) rfl h24.2.2.2.2.1) h24.2.2.2.2.2.1) r_add) (ix_T (ix_T rfl rfl h24.2.2.1) (ix_T (coO rfl h24.2.2.2.1) rfl h24.2.2.2.2.2.2.1) h24.2.2.2.2.2.2.2) r_subI)) rfl rfl (getJ (A := S) (n := S.length) rfl rfl) h24.1 (setJ (A := S) (n := S.length) rfl rfl)) ⟨some (eI x23), .inl rfl, rfl⟩)⟩) fun j25 => ⟨(some (eI x19), j25), .inl rfl, rfl⟩)⟩) fun j26 => ⟨(some (eI x15), j26.1, j26.2), .inl rfl, rfl⟩)⟩) fun j27 => (pb_seq (e1 := [some ((eT (eT eI)) p_worths), some ((eP2 eI eI) p_rent), some (eI (p_worths.length : Int)), j10.1, some (.ref (S.length + 0)), j27.1, some ((eP2 eI eI) (P_LDue_v15 p_worths p_rent)), none, j27.2.1, some ((eO (eT eI)) ((P_LDue_l6 p_worths).1)), some ((eO eI) ((P_LDue_l6 p_worths).2)), j10.2, j27.2.2]) (asg_of (call_of (cons_of (call_of (cons_of (tup_of (cons_of (sum_E rfl (seqR_of (getJ (A := S) (n := S.length) rfl rfl))) (cons_of rfl nil_of)) (Nat.le_of_ble_eq_true rfl)) (cons_of rfl nil_of)) (P_LMinus_eq ((P_LDue_l14 p_worths).sum, 1) p_rent h.2.2.2.2.2.2.2.1 _)) (cons_of (tup_of (cons_of rfl (cons_of rfl nil_of)) (Nat.le_of_ble_eq_true rfl)) nil_of)) (P_LTimes_eq (P_LMinus ((P_LDue_l14 p_worths).sum, 1) p_rent) (1, (p_worths.length : Int)) h.2.2.2.2.2.2.2.2.1 _))) (pb_seq (e1 := [some ((eT (eT eI)) p_worths), some ((eP2 eI eI) p_rent), some (eI (p_worths.length : Int)), j10.1, some (.ref (S.length + 0)), j27.1, some ((eP2 eI eI) (P_LDue_v15 p_worths p_rent)), some (.ref (S.length + 1)), j27.2.1, some ((eO (eT eI)) ((P_LDue_l6 p_worths).1)), some ((eO eI) ((P_LDue_l6 p_worths).2)), j10.2, j27.2.2]) (asg_of (stoG_E (n := (S.length + 1)) (S2 := (S ++ [DV.Ob.lst ((P_LDue_l14 p_worths).map eI), DV.Ob.lst ((P_LDue_v16 p_worths).map (eO (eP2 eI eI)))])) (repL_of (en := (eO (eP2 eI eI))) (xs := ([none] : (List (Option (Int × Int))))) (val_E (lst_E (cons_of rfl nil_of) (Nat.le_of_ble_eq_true rfl))) rfl ltr_lst h.2.2.2.2.2.2.2.2.2.1) (by first | rfl | (simp <;> omega)) (by first | rfl | (simp only [List.append_assoc, List.cons_append, List.nil_append]; done) | (simp only [List.append_assoc, List.cons_append, List.nil_append]; rfl)))) (pb_for_F (E := (fun (t : (List (Option (Int × Int)))) (j : (Option D)) => [some ((eT (eT eI)) p_worths), some ((eP2 eI eI) p_rent), some (eI (p_worths.length : Int)), j10.1, some (.ref (S.length + 0)), j27.1, some ((eP2 eI eI) (P_LDue_v15 p_worths p_rent)), some (.ref (S.length + 1)), j, some ((eO (eT eI)) ((P_LDue_l6 p_worths).1)), some ((eO eI) ((P_LDue_l6 p_worths).2)), j10.2, j27.2.2])) (σ := (fun (t : (List (Option (Int × Int)))) (j : (Option D)) => (S ++ [DV.Ob.lst ((P_LDue_l14 p_worths).map eI), DV.Ob.lst (t.map (eO (eP2 eI eI)))]))) (step := (fun (t28 : (List (Option (Int × Int)))) (x30 : Int) => (P_LDue_v17 p_worths p_rent t28 x30))) (ok := (fun (t28 : (List (Option (Int × Int)))) (x30 : Int) => (Ok_LDue_18 p_worths p_rent t28 x30))) (t0 := (P_LDue_v16 p_worths)) (j0 := j27.2.1) (en := eI) (xs := (rngZ 0 (p_worths.length : Int))) (src_rg1 rfl h.2.2.1) rfl rfl h.2.2.2.2.2.2.2.2.2.2.1 (fun t28 j29 x30 h31 => ⟨_, rfl, (pb_end (e1 := [some ((eT (eT eI)) p_worths), some ((eP2 eI eI) p_rent), some (eI (p_worths.length : Int)), j10.1, some (.ref (S.length + 0)), j27.1, some ((eP2 eI eI) (P_LDue_v15 p_worths p_rent)), some (.ref (S.length + 1)), some (eI x30), some ((eO (eT eI)) ((P_LDue_l6 p_worths).1)), some ((eO eI) ((P_LDue_l6 p_worths).2)), j10.2, j27.2.2]) (setG_E (en := (eO (eP2 eI eI))) (xs := t28) (y := (some (P_LMinus ((ixZ (P_LDue_l14 p_worths) x30), 1) (P_LDue_v15 p_worths p_rent)))) (call_of (cons_of (tup_of (cons_of (ix_R rfl rfl (getJ (A := S) (n := S.length) rfl rfl) h31.1) (cons_of rfl nil_of)) (Nat.le_of_ble_eq_true rfl)) (cons_of rfl nil_of)) (P_LMinus_eq ((ixZ (P_LDue_l14 p_worths) x30), 1) (P_LDue_v15 p_worths p_rent) h31.2.1 _)) rfl (ix_T (coO rfl h31.2.2.1) rfl h31.2.2.2.1) (getJ (A := S) (n := S.length) rfl rfl) h31.2.2.2.2 (setJ (A := S) (n := S.length) rfl rfl)) ⟨some (eI x30), .inl rfl, rfl⟩)⟩) fun j32 => (pb_ret (val_E (lst_E (cons_of (coO rfl h.2.2.2.2.2.2.2.2.2.2.2.1) (cons_of (coTO (tuple_E (en := (eO (eP2 eI eI))) (xs := (P_LDue_l19 p_worths p_rent)) rfl (seqR_of (getJ (A := S) (n := S.length) rfl rfl))) h.2.2.2.2.2.2.2.2.2.2.2.2) (cons_of rfl nil_of))) (Nat.le_of_ble_eq_true rfl))) (fin_pure_app (d := (eQ3 (eT eI) (eT (eP2 eI eI)) (eP2 eI eI)) ((getO ((P_LDue_l6 p_worths).1)), ((P_LDue_l19 p_worths p_rent).map getO), (P_LDue_v15 p_worths p_rent))) ((fit_Q3 (fit_T fit_I) (fit_T (fit_P2 fit_I fit_I)) (fit_P2 fit_I fit_I)) ((getO ((P_LDue_l6 p_worths).1)), ((P_LDue_l19 p_worths p_rent).map getO), (P_LDue_v15 p_worths p_rent))))))))))))))
noncomputable def P_LAW_v1 (p_c : Cu) (c3 : Cu) : (List Int × Cu) := (mapA (fun (c6 : Cu) (x4 : Int) => ((P_LTake c6 12).1, (P_LTake c6 12).2)) c3 (rngZ 0 (1 + (P_LTake p_c 4).1)))
noncomputable def P_LAW_f2 (p_c : Cu) (c3 : Cu) : ((List Int) × Cu) := ((P_LAW_v1 p_c c3).1, (P_LAW_v1 p_c c3).2)
noncomputable def P_LAW_v3 (p_c : Cu) : (List (List Int) × Cu) := (mapA (fun (c3 : Cu) (x1 : Int) => (P_LAW_f2 p_c c3)) ((P_LTake p_c 4).2) (rngZ 0 (1 + (P_LTake p_c 4).1)))
noncomputable def P_LAW_v4 (p_c : Cu) : (Int × Int) := (P_LFraction ((P_LTake ((P_LAW_v3 p_c).2) 60).1 - 10) (1 + (P_LTake ((P_LTake ((P_LAW_v3 p_c).2) 60).2) 3).1))
noncomputable def P_LAW_c5 (p_c : Cu) : Cu := (P_LTake ((P_LTake ((P_LAW_v3 p_c).2) 60).2) 3).2
noncomputable def P_LAW_v6 (p_c : Cu) : ((List Int) × (List (Int × Int)) × (Int × Int)) := (P_LDue ((P_LAW_v3 p_c).1) (P_LAW_v4 p_c))
noncomputable def P_LAW_v7 (p_c : Cu) : (Sx × (List Int) × (List (Int × Int))) := (P_rentsPaper ((P_LAW_v3 p_c).1) (P_LAW_v4 p_c))
noncomputable def P_LAW_v8 (p_c : Cu) : (List (Int × Int)) := (((P_LAW_v6 p_c).2.1).map fun x12 => (P_LPlus x12 (1, 2)))
noncomputable def P_LAW_v9 (p_c : Cu) (t16 : Cu) (x18 : Int) : (AV × Cu) := (P_LBent t16 (mkA ((eP3 eS (eT eI) (eT (eP2 eI eI))) (P_LAW_v7 p_c))) x18)
noncomputable def P_LAW_v10 (p_c : Cu) (t16 : Cu) (x18 : Int) : Int := (P_LTake ((P_LAW_v9 p_c t16 x18).2) ((1 + (P_LTake p_c 4).1) - 1)).1
noncomputable def P_LAW_c11 (p_c : Cu) (t16 : Cu) (x18 : Int) : Cu := (P_LTake ((P_LAW_v9 p_c t16 x18).2) ((1 + (P_LTake p_c 4).1) - 1)).2
noncomputable def P_LAW_v12 (p_c : Cu) (t16 : Cu) (x18 : Int) : (Int × Int) := (P_LFraction (1 + (P_LTake (P_LAW_c11 p_c t16 x18) 3).1) 2)
noncomputable def P_LAW_v13 (p_c : Cu) (t16 : Cu) (x18 : Int) : (List (Int × Int)) := (setZ (setZ ((P_LAW_v6 p_c).2.1) (P_LAW_v10 p_c t16 x18) (P_LPlus (ixZ ((P_LAW_v6 p_c).2.1) (P_LAW_v10 p_c t16 x18)) (P_LAW_v12 p_c t16 x18))) ((P_LAW_v10 p_c t16 x18) + 1) (P_LMinus (ixZ ((P_LAW_v6 p_c).2.1) ((P_LAW_v10 p_c t16 x18) + 1)) (P_LAW_v12 p_c t16 x18)))
noncomputable def P_LAW_v14 (p_c : Cu) (t16 : Cu) (x18 : Int) : (Sx × (List Int) × (List (Int × Int))) := (sx_rents, (P_LAW_v6 p_c).1, (P_LAW_v13 p_c t16 x18))
noncomputable def P_LAW_v15 (p_c : Cu) (t16 : Cu) (x18 : Int) : Bool := (P_judgeRents ((P_LAW_v3 p_c).1) (P_LAW_v4 p_c) (mkA ((eP3 eS (eT eI) (eT (eP2 eI eI))) (P_LAW_v14 p_c t16 x18))))
noncomputable def P_LAW_v16 (p_c : Cu) (t16 : Cu) (x18 : Int) : Bool := (P_judgeRents ((P_LAW_v3 p_c).1) (P_LAW_v4 p_c) ((P_LAW_v9 p_c t16 x18).1))
noncomputable def P_LAW_s17 (p_c : Cu) (t16 : Cu) (x18 : Int) : (Lo Cu Bool) := (bif (decide (x18 = 6) && decide (1 < (1 + (P_LTake p_c 4).1))) then (bif ((!((mkA (eB (P_LAW_v15 p_c t16 x18))).isBl)) || (!decide ((P_LAW_v15 p_c t16 x18) = (P_LIsRents ((P_LAW_v3 p_c).1) (P_LAW_v4 p_c) (mkA ((eP3 eS (eT eI) (eT (eP2 eI eI))) (P_LAW_v14 p_c t16 x18))))))) then (.rt false) else (.nx ((P_LTake (P_LAW_c11 p_c t16 x18) 3).2))) else (bif ((!((mkA (eB (P_LAW_v16 p_c t16 x18))).isBl)) || (!decide ((P_LAW_v16 p_c t16 x18) = (P_LIsRents ((P_LAW_v3 p_c).1) (P_LAW_v4 p_c) ((P_LAW_v9 p_c t16 x18).1))))) then (.rt false) else (.nx ((P_LAW_v9 p_c t16 x18).2))))
def Ok_LAW_18 (p_c : Cu) (t16 : Cu) (x18 : Int) : Prop := (D.av 9 ((eP3 eS (eT eI) (eT (eP2 eI eI))) (P_LAW_v7 p_c)) = true) ∧ (Ok_LBent t16 (mkA ((eP3 eS (eT eI) (eT (eP2 eI eI))) (P_LAW_v7 p_c))) x18) ∧ ((decide (x18 = 6) && decide (1 < (1 + (P_LTake p_c 4).1))) = true → (Ok_LTake ((P_LAW_v9 p_c t16 x18).2) ((1 + (P_LTake p_c 4).1) - 1)) ∧ (Ok_LTake (P_LAW_c11 p_c t16 x18) 3) ∧ (Ok_LFraction (1 + (P_LTake (P_LAW_c11 p_c t16 x18) 3).1) 2) ∧ (InR ((P_LAW_v6 p_c).2.1) (P_LAW_v10 p_c t16 x18)) ∧ (Ok_LPlus (ixZ ((P_LAW_v6 p_c).2.1) (P_LAW_v10 p_c t16 x18)) (P_LAW_v12 p_c t16 x18)) ∧ (InR ((P_LAW_v6 p_c).2.1) ((P_LAW_v10 p_c t16 x18) + 1)) ∧ (Ok_LMinus (ixZ ((P_LAW_v6 p_c).2.1) ((P_LAW_v10 p_c t16 x18) + 1)) (P_LAW_v12 p_c t16 x18)) ∧ (D.av 9 ((eP3 eS (eT eI) (eT (eP2 eI eI))) (P_LAW_v14 p_c t16 x18)) = true) ∧ (Ok_judgeRents ((P_LAW_v3 p_c).1) (P_LAW_v4 p_c) (mkA ((eP3 eS (eT eI) (eT (eP2 eI eI))) (P_LAW_v14 p_c t16 x18)))) ∧ (D.av 9 (eB (P_LAW_v15 p_c t16 x18)) = true) ∧ ((!((mkA (eB (P_LAW_v15 p_c t16 x18))).isBl)) = false → (D.av 9 ((eP3 eS (eT eI) (eT (eP2 eI eI))) (P_LAW_v14 p_c t16 x18)) = true) ∧ (Ok_LIsRents ((P_LAW_v3 p_c).1) (P_LAW_v4 p_c) (mkA ((eP3 eS (eT eI) (eT (eP2 eI eI))) (P_LAW_v14 p_c t16 x18)))))) ∧ ((decide (x18 = 6) && decide (1 < (1 + (P_LTake p_c 4).1))) = false → (Ok_judgeRents ((P_LAW_v3 p_c).1) (P_LAW_v4 p_c) ((P_LAW_v9 p_c t16 x18).1)) ∧ (D.av 9 (eB (P_LAW_v16 p_c t16 x18)) = true) ∧ ((!((mkA (eB (P_LAW_v16 p_c t16 x18))).isBl)) = false → (Ok_LIsRents ((P_LAW_v3 p_c).1) (P_LAW_v4 p_c) ((P_LAW_v9 p_c t16 x18).1))))
noncomputable def P_LAW_l19 (p_c : Cu) : (Lo Cu Bool) := (forP (fun (t16 : Cu) (x18 : Int) => ((P_LAW_s17 p_c t16 x18) : (Lo Cu Bool))) (P_LAW_c5 p_c) (rngZ 0 7))
noncomputable def P_LAW (p_c : Cu) : Bool := (bif ((!(P_LAlike (mkA ((eP3 eS (eT eI) (eT (eP2 eI eI))) (P_LAW_v7 p_c))) (mkA ((eP3 eS (eT eI) (eT (eP2 eI eI))) (sx_rents, (P_LAW_v6 p_c).1, (P_LAW_v6 p_c).2.1))))) || (!(P_LIsRents ((P_LAW_v3 p_c).1) (P_LAW_v4 p_c) (mkA ((eP3 eS (eT eI) (eT (eP2 eI eI))) (P_LAW_v7 p_c)))))) then false else (bif (!(P_LAlike (mkA ((eP2 (eP2 eI eI) (eT (eP2 eI eI))) (P_leastLeft ((P_LAW_v3 p_c).1) (P_LAW_v4 p_c)))) (mkA ((eP2 (eP2 eI eI) (eT (eP2 eI eI))) ((P_LAW_v6 p_c).2.2, (P_LAW_v6 p_c).2.1))))) then false else (bif (!decide ((P_judgeRents ((P_LAW_v3 p_c).1) (P_LPlus (P_LAW_v4 p_c) (P_LFraction (1 + (P_LTake p_c 4).1) 2)) (mkA ((eP3 eS (eT eI) (eT (eP2 eI eI))) (sx_rents, (P_LAW_v6 p_c).1, (P_LAW_v8 p_c))))) = true)) then false else ((P_LAW_l19 p_c).fin (fun (t29 : Cu) => true)))))
def Ok_LAW (p_c : Cu) : Prop := (Ok_LTake p_c 4) ∧ (I62 (1 + (P_LTake p_c 4).1)) ∧ ((rngZ 0 (1 + (P_LTake p_c 4).1)).length ≤ LIM) ∧ (okA (fun (c3 : Cu) (x1 : Int) => (P_LAW_f2 p_c c3)) (fun (c3 : Cu) (x1 : Int) => (I62 (1 + (P_LTake p_c 4).1)) ∧ ((rngZ 0 (1 + (P_LTake p_c 4).1)).length ≤ LIM) ∧ (okA (fun (c6 : Cu) (x4 : Int) => ((P_LTake c6 12).1, (P_LTake c6 12).2)) (fun (c6 : Cu) (x4 : Int) => (Ok_LTake c6 12)) c3 (rngZ 0 (1 + (P_LTake p_c 4).1)))) ((P_LTake p_c 4).2) (rngZ 0 (1 + (P_LTake p_c 4).1))) ∧ (Ok_LTake ((P_LAW_v3 p_c).2) 60) ∧ (Ok_LTake ((P_LTake ((P_LAW_v3 p_c).2) 60).2) 3) ∧ (Ok_LFraction ((P_LTake ((P_LAW_v3 p_c).2) 60).1 - 10) (1 + (P_LTake ((P_LTake ((P_LAW_v3 p_c).2) 60).2) 3).1)) ∧ (Ok_LDue ((P_LAW_v3 p_c).1) (P_LAW_v4 p_c)) ∧ (Ok_rentsPaper ((P_LAW_v3 p_c).1) (P_LAW_v4 p_c)) ∧ (D.av 9 ((eP3 eS (eT eI) (eT (eP2 eI eI))) (P_LAW_v7 p_c)) = true) ∧ (D.av 9 ((eP3 eS (eT eI) (eT (eP2 eI eI))) (sx_rents, (P_LAW_v6 p_c).1, (P_LAW_v6 p_c).2.1)) = true) ∧ (Ok_LAlike (mkA ((eP3 eS (eT eI) (eT (eP2 eI eI))) (P_LAW_v7 p_c))) (mkA ((eP3 eS (eT eI) (eT (eP2 eI eI))) (sx_rents, (P_LAW_v6 p_c).1, (P_LAW_v6 p_c).2.1)))) ∧ ((!(P_LAlike (mkA ((eP3 eS (eT eI) (eT (eP2 eI eI))) (P_LAW_v7 p_c))) (mkA ((eP3 eS (eT eI) (eT (eP2 eI eI))) (sx_rents, (P_LAW_v6 p_c).1, (P_LAW_v6 p_c).2.1))))) = false → (D.av 9 ((eP3 eS (eT eI) (eT (eP2 eI eI))) (P_LAW_v7 p_c)) = true) ∧ (Ok_LIsRents ((P_LAW_v3 p_c).1) (P_LAW_v4 p_c) (mkA ((eP3 eS (eT eI) (eT (eP2 eI eI))) (P_LAW_v7 p_c))))) ∧ (((!(P_LAlike (mkA ((eP3 eS (eT eI) (eT (eP2 eI eI))) (P_LAW_v7 p_c))) (mkA ((eP3 eS (eT eI) (eT (eP2 eI eI))) (sx_rents, (P_LAW_v6 p_c).1, (P_LAW_v6 p_c).2.1))))) || (!(P_LIsRents ((P_LAW_v3 p_c).1) (P_LAW_v4 p_c) (mkA ((eP3 eS (eT eI) (eT (eP2 eI eI))) (P_LAW_v7 p_c)))))) = false → (Ok_leastLeft ((P_LAW_v3 p_c).1) (P_LAW_v4 p_c)) ∧ (D.av 9 ((eP2 (eP2 eI eI) (eT (eP2 eI eI))) (P_leastLeft ((P_LAW_v3 p_c).1) (P_LAW_v4 p_c))) = true) ∧ (D.av 9 ((eP2 (eP2 eI eI) (eT (eP2 eI eI))) ((P_LAW_v6 p_c).2.2, (P_LAW_v6 p_c).2.1)) = true) ∧ (Ok_LAlike (mkA ((eP2 (eP2 eI eI) (eT (eP2 eI eI))) (P_leastLeft ((P_LAW_v3 p_c).1) (P_LAW_v4 p_c)))) (mkA ((eP2 (eP2 eI eI) (eT (eP2 eI eI))) ((P_LAW_v6 p_c).2.2, (P_LAW_v6 p_c).2.1)))) ∧ ((!(P_LAlike (mkA ((eP2 (eP2 eI eI) (eT (eP2 eI eI))) (P_leastLeft ((P_LAW_v3 p_c).1) (P_LAW_v4 p_c)))) (mkA ((eP2 (eP2 eI eI) (eT (eP2 eI eI))) ((P_LAW_v6 p_c).2.2, (P_LAW_v6 p_c).2.1))))) = false → (∀ x12 ∈ ((P_LAW_v6 p_c).2.1), (Ok_LPlus x12 (1, 2))) ∧ (((P_LAW_v6 p_c).2.1).length ≤ LIM) ∧ (Ok_LFraction (1 + (P_LTake p_c 4).1) 2) ∧ (Ok_LPlus (P_LAW_v4 p_c) (P_LFraction (1 + (P_LTake p_c 4).1) 2)) ∧ (D.av 9 ((eP3 eS (eT eI) (eT (eP2 eI eI))) (sx_rents, (P_LAW_v6 p_c).1, (P_LAW_v8 p_c))) = true) ∧ (Ok_judgeRents ((P_LAW_v3 p_c).1) (P_LPlus (P_LAW_v4 p_c) (P_LFraction (1 + (P_LTake p_c 4).1) 2)) (mkA ((eP3 eS (eT eI) (eT (eP2 eI eI))) (sx_rents, (P_LAW_v6 p_c).1, (P_LAW_v8 p_c))))) ∧ ((!decide ((P_judgeRents ((P_LAW_v3 p_c).1) (P_LPlus (P_LAW_v4 p_c) (P_LFraction (1 + (P_LTake p_c 4).1) 2)) (mkA ((eP3 eS (eT eI) (eT (eP2 eI eI))) (sx_rents, (P_LAW_v6 p_c).1, (P_LAW_v8 p_c))))) = true)) = false → (okFor (fun (t16 : Cu) (x18 : Int) => (Ok_LAW_18 p_c t16 x18)) (fun (t16 : Cu) (x18 : Int) => ((P_LAW_s17 p_c t16 x18) : (Lo Cu Bool))) (P_LAW_c5 p_c) (rngZ 0 7)))))
theorem P_LAW_eq (p_c : Cu) (ns : List Int) (hstart : M_LStart [.fr (ns.map D.int)] [] = some (.ref 0, [p_c.ob])) (h : Ok_LAW p_c) : ∃ S', M_LAW [.fr (ns.map D.int)] [] = some (.bl (P_LAW p_c), S') := by
  unfold P_LAW
  exact fn_E rfl (pb_seq (e1 := [some (.fr (ns.map D.int)), some (.ref 0), none, none, none, none, none, none, none, none, none, none, none, none, none, none, none, none, none]) (asg_of (call_of rfl hstart)) (pb_seq (e1 := [some (.fr (ns.map D.int)), some (.ref 0), some (eI (1 + (P_LTake p_c 4).1)), none, none, none, none, none, none, none, none, none, none, none, none, none, none, none, none]) (asg_of (bin_of rfl (call_of (cons_of rfl (cons_of rfl nil_of)) (P_LTake_eq p_c 4 h.1 _)) r_add)) (pb_seq (e1 := [some (.fr (ns.map D.int)), some (.ref 0), some (eI (1 + (P_LTake p_c 4).1)), some ((eT (eT eI)) ((P_LAW_v3 p_c).1)), none, none, none, none, none, none, none, none, none, none, none, none, none, none, none]) (asg_of (tuple_E (en := (eT eI)) (xs := (P_LAW_v3 p_c).1) (val_E (lcA_E (σ := (fun (z : Cu) => z.ob :: [])) (en := eI) (en2 := (eT eI)) (f := (fun (c3 : Cu) (x1 : Int) => (P_LAW_f2 p_c c3))) (ok := (fun (c3 : Cu) (x1 : Int) => (I62 (1 + (P_LTake p_c 4).1)) ∧ ((rngZ 0 (1 + (P_LTake p_c 4).1)).length ≤ LIM) ∧ (okA (fun (c6 : Cu) (x4 : Int) => ((P_LTake c6 12).1, (P_LTake c6 12).2)) (fun (c6 : Cu) (x4 : Int) => (Ok_LTake c6 12)) c3 (rngZ 0 (1 + (P_LTake p_c 4).1))))) (c := (P_LTake p_c 4).2) (src_rg1 rfl h.2.1) h.2.2.1 h.2.2.2.1 fun c3 x1 h2 => ⟨_, rfl, (tuple_E (en := eI) (xs := (P_LAW_v1 p_c c3).1) (val_E (lcA_E (σ := (fun (z : Cu) => z.ob :: [])) (en := eI) (en2 := eI) (f := (fun (c6 : Cu) (x4 : Int) => ((P_LTake c6 12).1, (P_LTake c6 12).2))) (ok := (fun (c6 : Cu) (x4 : Int) => (Ok_LTake c6 12))) (c := c3) (src_rg1 rfl h2.1) h2.2.1 h2.2.2 fun c6 x4 h5 => ⟨_, rfl, (call_of (cons_of rfl (cons_of rfl nil_of)) (P_LTake_eq c6 12 h5 _))⟩)) rfl)⟩)) rfl)) (pb_seq (e1 := [some (.fr (ns.map D.int)), some (.ref 0), some (eI (1 + (P_LTake p_c 4).1)), some ((eT (eT eI)) ((P_LAW_v3 p_c).1)), some ((eP2 eI eI) (P_LAW_v4 p_c)), none, none, none, none, none, none, none, none, none, none, none, none, none, none]) (asg_of (call_of (cons_of (bin_of (call_of (cons_of rfl (cons_of rfl nil_of)) (P_LTake_eq ((P_LAW_v3 p_c).2) 60 h.2.2.2.2.1 _)) rfl r_subI) (cons_of (bin_of rfl (call_of (cons_of rfl (cons_of rfl nil_of)) (P_LTake_eq ((P_LTake ((P_LAW_v3 p_c).2) 60).2) 3 h.2.2.2.2.2.1 _)) r_add) nil_of)) (P_LFraction_eq ((P_LTake ((P_LAW_v3 p_c).2) 60).1 - 10) (1 + (P_LTake ((P_LTake ((P_LAW_v3 p_c).2) 60).2) 3).1) h.2.2.2.2.2.2.1 _))) (pb_seq (e1 := [some (.fr (ns.map D.int)), some (.ref 0), some (eI (1 + (P_LTake p_c 4).1)), some ((eT (eT eI)) ((P_LAW_v3 p_c).1)), some ((eP2 eI eI) (P_LAW_v4 p_c)), none, none, none, some ((eT eI) ((P_LAW_v6 p_c).1)), some ((eT (eP2 eI eI)) ((P_LAW_v6 p_c).2.1)), some ((eP2 eI eI) ((P_LAW_v6 p_c).2.2)), none, none, none, none, none, none, none, none]) (asg_lp (call_of (cons_of rfl (cons_of rfl nil_of)) (P_LDue_eq ((P_LAW_v3 p_c).1) (P_LAW_v4 p_c) h.2.2.2.2.2.2.2.1 _)) rfl) (pb_seq (e1 := [some (.fr (ns.map D.int)), some (.ref 0), some (eI (1 + (P_LTake p_c 4).1)), some ((eT (eT eI)) ((P_LAW_v3 p_c).1)), some ((eP2 eI eI) (P_LAW_v4 p_c)), some ((eP3 eS (eT eI) (eT (eP2 eI eI))) (P_LAW_v7 p_c)), none, none, some ((eT eI) ((P_LAW_v6 p_c).1)), some ((eT (eP2 eI eI)) ((P_LAW_v6 p_c).2.1)), some ((eP2 eI eI) ((P_LAW_v6 p_c).2.2)), none, none, none, none, none, none, none, none]) (asg_of (call_of (cons_of rfl (cons_of rfl nil_of)) (P_rentsPaper_eq ((P_LAW_v3 p_c).1) (P_LAW_v4 p_c) h.2.2.2.2.2.2.2.2.1 _))) (pb_seq_if (Q := (RE eB)) (p := false) (q := (bif (!(P_LAlike (mkA ((eP2 (eP2 eI eI) (eT (eP2 eI eI))) (P_leastLeft ((P_LAW_v3 p_c).1) (P_LAW_v4 p_c)))) (mkA ((eP2 (eP2 eI eI) (eT (eP2 eI eI))) ((P_LAW_v6 p_c).2.2, (P_LAW_v6 p_c).2.1))))) then false else (bif (!decide ((P_judgeRents ((P_LAW_v3 p_c).1) (P_LPlus (P_LAW_v4 p_c) (P_LFraction (1 + (P_LTake p_c 4).1) 2)) (mkA ((eP3 eS (eT eI) (eT (eP2 eI eI))) (sx_rents, (P_LAW_v6 p_c).1, (P_LAW_v8 p_c))))) = true)) then false else ((P_LAW_l19 p_c).fin (fun (t29 : Cu) => true))))) (or_E (not_of (tru_of' (call_of (cons_of (coA rfl h.2.2.2.2.2.2.2.2.2.1) (cons_of (coA (tup_of (cons_of rfl (cons_of rfl (cons_of rfl nil_of))) (Nat.le_of_ble_eq_true rfl)) h.2.2.2.2.2.2.2.2.2.2.1) nil_of)) (P_LAlike_eq (mkA ((eP3 eS (eT eI) (eT (eP2 eI eI))) (P_LAW_v7 p_c))) (mkA ((eP3 eS (eT eI) (eT (eP2 eI eI))) (sx_rents, (P_LAW_v6 p_c).1, (P_LAW_v6 p_c).2.1))) h.2.2.2.2.2.2.2.2.2.2.2.1 _)) tr_bl)) fun h7 => (not_of (tru_of' (call_of (cons_of rfl (cons_of rfl (cons_of (coA rfl (h.2.2.2.2.2.2.2.2.2.2.2.2.1 h7).1) nil_of))) (P_LIsRents_eq ((P_LAW_v3 p_c).1) (P_LAW_v4 p_c) (mkA ((eP3 eS (eT eI) (eT (eP2 eI eI))) (P_LAW_v7 p_c))) (h.2.2.2.2.2.2.2.2.2.2.2.2.1 h7).2 _)) tr_bl))) (fun h8 => (pb_seq_ret rfl rfl)) fun h9 => (pb_seq_skip (pb_seq_if (Q := (RE eB)) (p := false) (q := (bif (!decide ((P_judgeRents ((P_LAW_v3 p_c).1) (P_LPlus (P_LAW_v4 p_c) (P_LFraction (1 + (P_LTake p_c 4).1) 2)) (mkA ((eP3 eS (eT eI) (eT (eP2 eI eI))) (sx_rents, (P_LAW_v6 p_c).1, (P_LAW_v8 p_c))))) = true)) then false else ((P_LAW_l19 p_c).fin (fun (t29 : Cu) => true)))) (not_of (tru_of' (call_of (cons_of (coA (call_of (cons_of rfl (cons_of rfl nil_of)) (P_leastLeft_eq ((P_LAW_v3 p_c).1) (P_LAW_v4 p_c) (h.2.2.2.2.2.2.2.2.2.2.2.2.2 h9).1 _)) (h.2.2.2.2.2.2.2.2.2.2.2.2.2 h9).2.1) (cons_of (coA (tup_of (cons_of rfl (cons_of rfl nil_of)) (Nat.le_of_ble_eq_true rfl)) (h.2.2.2.2.2.2.2.2.2.2.2.2.2 h9).2.2.1) nil_of)) (P_LAlike_eq (mkA ((eP2 (eP2 eI eI) (eT (eP2 eI eI))) (P_leastLeft ((P_LAW_v3 p_c).1) (P_LAW_v4 p_c)))) (mkA ((eP2 (eP2 eI eI) (eT (eP2 eI eI))) ((P_LAW_v6 p_c).2.2, (P_LAW_v6 p_c).2.1))) (h.2.2.2.2.2.2.2.2.2.2.2.2.2 h9).2.2.2.1 _)) tr_bl)) (fun h10 => (pb_seq_ret rfl rfl)) fun h11 => (pb_seq_skip (pb_seq (e1 := [some (.fr (ns.map D.int)), some (.ref 0), some (eI (1 + (P_LTake p_c 4).1)), some ((eT (eT eI)) ((P_LAW_v3 p_c).1)), some ((eP2 eI eI) (P_LAW_v4 p_c)), some ((eP3 eS (eT eI) (eT (eP2 eI eI))) (P_LAW_v7 p_c)), some ((eT (eP2 eI eI)) (P_LAW_v8 p_c)), none, some ((eT eI) ((P_LAW_v6 p_c).1)), some ((eT (eP2 eI eI)) ((P_LAW_v6 p_c).2.1)), some ((eP2 eI eI) ((P_LAW_v6 p_c).2.2)), none, none, none, none, none, none, none, none]) (asg_of (tuple_E (en := (eP2 eI eI)) (xs := (((P_LAW_v6 p_c).2.1).map fun x12 => (P_LPlus x12 (1, 2)))) (val_E (lcm_E (en := (eP2 eI eI)) (en2 := (eP2 eI eI)) (xs := (P_LAW_v6 p_c).2.1) (f := fun x12 => (P_LPlus x12 (1, 2))) (src_T rfl) ((h.2.2.2.2.2.2.2.2.2.2.2.2.2 h9).2.2.2.2 h11).2.1 fun x12 h13 => ⟨_, rfl, (call_of (cons_of rfl (cons_of (tup_of (cons_of rfl (cons_of rfl nil_of)) (Nat.le_of_ble_eq_true rfl)) nil_of)) (P_LPlus_eq x12 (1, 2) (((h.2.2.2.2.2.2.2.2.2.2.2.2.2 h9).2.2.2.2 h11).1 x12 h13) _))⟩)) rfl)) (pb_seq_if (Q := (RE eB)) (p := false) (q := ((P_LAW_l19 p_c).fin (fun (t29 : Cu) => true))) (tv_of (bin_of (call_of (cons_of rfl (cons_of (call_of (cons_of rfl (cons_of (call_of (cons_of rfl (cons_of rfl nil_of)) (P_LFraction_eq (1 + (P_LTake p_c 4).1) 2 ((h.2.2.2.2.2.2.2.2.2.2.2.2.2 h9).2.2.2.2 h11).2.2.1 _)) nil_of)) (P_LPlus_eq (P_LAW_v4 p_c) (P_LFraction (1 + (P_LTake p_c 4).1) 2) ((h.2.2.2.2.2.2.2.2.2.2.2.2.2 h9).2.2.2.2 h11).2.2.2.1 _)) (cons_of (coA (tup_of (cons_of rfl (cons_of rfl (cons_of rfl nil_of))) (Nat.le_of_ble_eq_true rfl)) ((h.2.2.2.2.2.2.2.2.2.2.2.2.2 h9).2.2.2.2 h11).2.2.2.2.1) nil_of))) (P_judgeRents_eq ((P_LAW_v3 p_c).1) (P_LPlus (P_LAW_v4 p_c) (P_LFraction (1 + (P_LTake p_c 4).1) 2)) (mkA ((eP3 eS (eT eI) (eT (eP2 eI eI))) (sx_rents, (P_LAW_v6 p_c).1, (P_LAW_v8 p_c)))) ((h.2.2.2.2.2.2.2.2.2.2.2.2.2 h9).2.2.2.2 h11).2.2.2.2.2.1 _)) rfl rfl)) (fun h14 => (pb_seq_ret rfl rfl)) fun h15 => (pb_seq_skip (pb_for_P (QR := (RE eB)) (E := (fun (t : Cu) (j : ((Option D) × (Option D) × (Option D) × (Option D) × (Option D) × (Option D) × Store)) => [some (.fr (ns.map D.int)), some (.ref 0), some (eI (1 + (P_LTake p_c 4).1)), some ((eT (eT eI)) ((P_LAW_v3 p_c).1)), some ((eP2 eI eI) (P_LAW_v4 p_c)), some ((eP3 eS (eT eI) (eT (eP2 eI eI))) (P_LAW_v7 p_c)), some ((eT (eP2 eI eI)) (P_LAW_v8 p_c)), j.1, some ((eT eI) ((P_LAW_v6 p_c).1)), some ((eT (eP2 eI eI)) ((P_LAW_v6 p_c).2.1)), some ((eP2 eI eI) ((P_LAW_v6 p_c).2.2)), j.2.1, j.2.2.1, j.2.2.2.1, j.2.2.2.2.1, j.2.2.2.2.2.1, none, none, none])) (σ := (fun (t : Cu) (j : ((Option D) × (Option D) × (Option D) × (Option D) × (Option D) × (Option D) × Store)) => (t.ob :: j.2.2.2.2.2.2))) (step := (fun (t16 : Cu) (x18 : Int) => ((P_LAW_s17 p_c t16 x18) : (Lo Cu Bool)))) (ok := (fun (t16 : Cu) (x18 : Int) => (Ok_LAW_18 p_c t16 x18))) (k := (fun (t29 : Cu) => true)) (t0 := (P_LAW_c5 p_c)) (j0 := (none, none, none, none, none, none, [])) (en := eI) (xs := (rngZ 0 7)) (src_rg1 rfl (by decide)) rfl rfl (((h.2.2.2.2.2.2.2.2.2.2.2.2.2 h9).2.2.2.2 h11).2.2.2.2.2.2 h15) (fun t16 j17 x18 h19 => ⟨_, rfl, (pb_seq (e1 := [some (.fr (ns.map D.int)), some (.ref 0), some (eI (1 + (P_LTake p_c 4).1)), some ((eT (eT eI)) ((P_LAW_v3 p_c).1)), some ((eP2 eI eI) (P_LAW_v4 p_c)), some ((eP3 eS (eT eI) (eT (eP2 eI eI))) (P_LAW_v7 p_c)), some ((eT (eP2 eI eI)) (P_LAW_v8 p_c)), some (eI x18), some ((eT eI) ((P_LAW_v6 p_c).1)), some ((eT (eP2 eI eI)) ((P_LAW_v6 p_c).2.1)), some ((eP2 eI eI) ((P_LAW_v6 p_c).2.2)), some (eA ((P_LAW_v9 p_c t16 x18).1)), j17.2.2.1, j17.2.2.2.1, j17.2.2.2.2.1, j17.2.2.2.2.2.1, none, none, none]) (asg_of (call_of (cons_of rfl (cons_of (coA rfl h19.1) (cons_of rfl nil_of))) (P_LBent_eq t16 (mkA ((eP3 eS (eT eI) (eT (eP2 eI eI))) (P_LAW_v7 p_c))) x18 h19.2.1 _))) (pb_seq_if (Q := (LQ (fun (t : Cu) (j : ((Option D) × (Option D) × (Option D) × (Option D) × (Option D) × (Option D) × Store)) => [some (.fr (ns.map D.int)), some (.ref 0), some (eI (1 + (P_LTake p_c 4).1)), some ((eT (eT eI)) ((P_LAW_v3 p_c).1)), some ((eP2 eI eI) (P_LAW_v4 p_c)), some ((eP3 eS (eT eI) (eT (eP2 eI eI))) (P_LAW_v7 p_c)), some ((eT (eP2 eI eI)) (P_LAW_v8 p_c)), j.1, some ((eT eI) ((P_LAW_v6 p_c).1)), some ((eT (eP2 eI eI)) ((P_LAW_v6 p_c).2.1)), some ((eP2 eI eI) ((P_LAW_v6 p_c).2.2)), j.2.1, j.2.2.1, j.2.2.2.1, j.2.2.2.2.1, j.2.2.2.2.2.1, none, none, none]) (fun (t : Cu) (j : ((Option D) × (Option D) × (Option D) × (Option D) × (Option D) × (Option D) × Store)) => (t.ob :: j.2.2.2.2.2.2)) (RE eB))) (p := (bif ((!((mkA (eB (P_LAW_v15 p_c t16 x18))).isBl)) || (!decide ((P_LAW_v15 p_c t16 x18) = (P_LIsRents ((P_LAW_v3 p_c).1) (P_LAW_v4 p_c) (mkA ((eP3 eS (eT eI) (eT (eP2 eI eI))) (P_LAW_v14 p_c t16 x18))))))) then (.rt false) else (.nx ((P_LTake (P_LAW_c11 p_c t16 x18) 3).2)))) (q := (bif ((!((mkA (eB (P_LAW_v16 p_c t16 x18))).isBl)) || (!decide ((P_LAW_v16 p_c t16 x18) = (P_LIsRents ((P_LAW_v3 p_c).1) (P_LAW_v4 p_c) ((P_LAW_v9 p_c t16 x18).1))))) then (.rt false) else (.nx ((P_LAW_v9 p_c t16 x18).2)))) (and_E (tv_of (bin_of rfl rfl (eq_E (en := eI) (p := x18) (q := 6) eqv_I))) fun h20 => (tv_of (bin_of rfl rfl rfl))) (fun h21 => (pb_assoc (pb_seq (e1 := [some (.fr (ns.map D.int)), some (.ref 0), some (eI (1 + (P_LTake p_c 4).1)), some ((eT (eT eI)) ((P_LAW_v3 p_c).1)), some ((eP2 eI eI) (P_LAW_v4 p_c)), some ((eP3 eS (eT eI) (eT (eP2 eI eI))) (P_LAW_v7 p_c)), some ((eT (eP2 eI eI)) (P_LAW_v8 p_c)), some (eI x18), some ((eT eI) ((P_LAW_v6 p_c).1)), some ((eT (eP2 eI eI)) ((P_LAW_v6 p_c).2.1)), some ((eP2 eI eI) ((P_LAW_v6 p_c).2.2)), some (eA ((P_LAW_v9 p_c t16 x18).1)), j17.2.2.1, some (eI (P_LAW_v10 p_c t16 x18)), j17.2.2.2.2.1, j17.2.2.2.2.2.1, none, none, none]) (asg_of (call_of (cons_of rfl (cons_of (bin_of rfl rfl r_subI) nil_of)) (P_LTake_eq ((P_LAW_v9 p_c t16 x18).2) ((1 + (P_LTake p_c 4).1) - 1) (h19.2.2.1 h21).1 _))) (pb_assoc (pb_seq (e1 := [some (.fr (ns.map D.int)), some (.ref 0), some (eI (1 + (P_LTake p_c 4).1)), some ((eT (eT eI)) ((P_LAW_v3 p_c).1)), some ((eP2 eI eI) (P_LAW_v4 p_c)), some ((eP3 eS (eT eI) (eT (eP2 eI eI))) (P_LAW_v7 p_c)), some ((eT (eP2 eI eI)) (P_LAW_v8 p_c)), some (eI x18), some ((eT eI) ((P_LAW_v6 p_c).1)), some ((eT (eP2 eI eI)) ((P_LAW_v6 p_c).2.1)), some ((eP2 eI eI) ((P_LAW_v6 p_c).2.2)), some (eA ((P_LAW_v9 p_c t16 x18).1)), j17.2.2.1, some (eI (P_LAW_v10 p_c t16 x18)), some ((eP2 eI eI) (P_LAW_v12 p_c t16 x18)), j17.2.2.2.2.2.1, none, none, none]) (asg_of (call_of (cons_of (bin_of rfl (call_of (cons_of rfl (cons_of rfl nil_of)) (P_LTake_eq (P_LAW_c11 p_c t16 x18) 3 (h19.2.2.1 h21).2.1 _)) r_add) (cons_of rfl nil_of)) (P_LFraction_eq (1 + (P_LTake (P_LAW_c11 p_c t16 x18) 3).1) 2 (h19.2.2.1 h21).2.2.1 _))) (pb_assoc (pb_seq (e1 := [some (.fr (ns.map D.int)), some (.ref 0), some (eI (1 + (P_LTake p_c 4).1)), some ((eT (eT eI)) ((P_LAW_v3 p_c).1)), some ((eP2 eI eI) (P_LAW_v4 p_c)), some ((eP3 eS (eT eI) (eT (eP2 eI eI))) (P_LAW_v7 p_c)), some ((eT (eP2 eI eI)) (P_LAW_v8 p_c)), some (eI x18), some ((eT eI) ((P_LAW_v6 p_c).1)), some ((eT (eP2 eI eI)) ((P_LAW_v6 p_c).2.1)), some ((eP2 eI eI) ((P_LAW_v6 p_c).2.2)), some (eA ((P_LAW_v9 p_c t16 x18).1)), j17.2.2.1, some (eI (P_LAW_v10 p_c t16 x18)), some ((eP2 eI eI) (P_LAW_v12 p_c t16 x18)), some (.ref (1 + (j17.2.2.2.2.2.2.length + 0))), none, none, none]) (asg_of (stoG_E (n := (1 + (j17.2.2.2.2.2.2.length + 0))) (S2 := (((P_LTake (P_LAW_c11 p_c t16 x18) 3).2).ob :: (j17.2.2.2.2.2.2 ++ [DV.Ob.lst (((P_LAW_v6 p_c).2.1).map (eP2 eI eI))]))) (listOf_E (en := (eP2 eI eI)) (xs := (P_LAW_v6 p_c).2.1) rfl rfl) (by first | rfl | (simp <;> omega)) (by first | rfl | (simp only [List.append_assoc, List.cons_append, List.nil_append]; done) | (simp only [List.append_assoc, List.cons_append, List.nil_append]; rfl)))) (pb_assoc (pb_seq (e1 := [some (.fr (ns.map D.int)), some (.ref 0), some (eI (1 + (P_LTake p_c 4).1)), some ((eT (eT eI)) ((P_LAW_v3 p_c).1)), some ((eP2 eI eI) (P_LAW_v4 p_c)), some ((eP3 eS (eT eI) (eT (eP2 eI eI))) (P_LAW_v7 p_c)), some ((eT (eP2 eI eI)) (P_LAW_v8 p_c)), some (eI x18), some ((eT eI) ((P_LAW_v6 p_c).1)), some ((eT (eP2 eI eI)) ((P_LAW_v6 p_c).2.1)), some ((eP2 eI eI) ((P_LAW_v6 p_c).2.2)), some (eA ((P_LAW_v9 p_c t16 x18).1)), j17.2.2.1, some (eI (P_LAW_v10 p_c t16 x18)), some ((eP2 eI eI) (P_LAW_v12 p_c t16 x18)), some (.ref (1 + (j17.2.2.2.2.2.2.length + 0))), none, none, none]) (swapG_E (en := (eP2 eI eI)) (xs := (P_LAW_v6 p_c).2.1) (y := (P_LPlus (ixZ ((P_LAW_v6 p_c).2.1) (P_LAW_v10 p_c t16 x18)) (P_LAW_v12 p_c t16 x18))) (z := (P_LMinus (ixZ ((P_LAW_v6 p_c).2.1) ((P_LAW_v10 p_c t16 x18) + 1)) (P_LAW_v12 p_c t16 x18))) (tup_of (cons_of (call_of (cons_of (ix_R rfl rfl (getJ (A := [((P_LTake (P_LAW_c11 p_c t16 x18) 3).2).ob]) (n := 1) rfl (getJ (A := j17.2.2.2.2.2.2) (n := j17.2.2.2.2.2.2.length) rfl rfl)) (h19.2.2.1 h21).2.2.2.1) (cons_of rfl nil_of)) (P_LPlus_eq (ixZ ((P_LAW_v6 p_c).2.1) (P_LAW_v10 p_c t16 x18)) (P_LAW_v12 p_c t16 x18) (h19.2.2.1 h21).2.2.2.2.1 _)) (cons_of (call_of (cons_of (ix_R rfl (bin_of rfl rfl r_add) (getJ (A := [((P_LTake (P_LAW_c11 p_c t16 x18) 3).2).ob]) (n := 1) rfl (getJ (A := j17.2.2.2.2.2.2) (n := j17.2.2.2.2.2.2.length) rfl rfl)) (h19.2.2.1 h21).2.2.2.2.2.1) (cons_of rfl nil_of)) (P_LMinus_eq (ixZ ((P_LAW_v6 p_c).2.1) ((P_LAW_v10 p_c t16 x18) + 1)) (P_LAW_v12 p_c t16 x18) (h19.2.2.1 h21).2.2.2.2.2.2.1 _)) nil_of)) (Nat.le_of_ble_eq_true rfl)) rfl rfl (getJ (A := [((P_LTake (P_LAW_c11 p_c t16 x18) 3).2).ob]) (n := 1) rfl (getJ (A := j17.2.2.2.2.2.2) (n := j17.2.2.2.2.2.2.length) rfl rfl)) (h19.2.2.1 h21).2.2.2.1 (fun _ => rfl) (bin_of rfl rfl r_add) (h19.2.2.1 h21).2.2.2.2.2.1 (setJ (A := [((P_LTake (P_LAW_c11 p_c t16 x18) 3).2).ob]) (n := 1) rfl (setJ (A := j17.2.2.2.2.2.2) (n := j17.2.2.2.2.2.2.length) rfl rfl))) (pb_seq (e1 := [some (.fr (ns.map D.int)), some (.ref 0), some (eI (1 + (P_LTake p_c 4).1)), some ((eT (eT eI)) ((P_LAW_v3 p_c).1)), some ((eP2 eI eI) (P_LAW_v4 p_c)), some ((eP3 eS (eT eI) (eT (eP2 eI eI))) (P_LAW_v7 p_c)), some ((eT (eP2 eI eI)) (P_LAW_v8 p_c)), some (eI x18), some ((eT eI) ((P_LAW_v6 p_c).1)), some ((eT (eP2 eI eI)) ((P_LAW_v6 p_c).2.1)), some ((eP2 eI eI) ((P_LAW_v6 p_c).2.2)), some ((eP3 eS (eT eI) (eT (eP2 eI eI))) (P_LAW_v14 p_c t16 x18)), j17.2.2.1, some (eI (P_LAW_v10 p_c t16 x18)), some ((eP2 eI eI) (P_LAW_v12 p_c t16 x18)), some (.ref (1 + (j17.2.2.2.2.2.2.length + 0))), none, none, none]) (asg_of (tup_of (cons_of rfl (cons_of rfl (cons_of (tuple_E (en := (eP2 eI eI)) (xs := (P_LAW_v13 p_c t16 x18)) rfl (seqR_of (getJ (A := [((P_LTake (P_LAW_c11 p_c t16 x18) 3).2).ob]) (n := 1) rfl (getJ (A := j17.2.2.2.2.2.2) (n := j17.2.2.2.2.2.2.length) rfl rfl)))) nil_of))) (Nat.le_of_ble_eq_true rfl))) (pb_seq (e1 := [some (.fr (ns.map D.int)), some (.ref 0), some (eI (1 + (P_LTake p_c 4).1)), some ((eT (eT eI)) ((P_LAW_v3 p_c).1)), some ((eP2 eI eI) (P_LAW_v4 p_c)), some ((eP3 eS (eT eI) (eT (eP2 eI eI))) (P_LAW_v7 p_c)), some ((eT (eP2 eI eI)) (P_LAW_v8 p_c)), some (eI x18), some ((eT eI) ((P_LAW_v6 p_c).1)), some ((eT (eP2 eI eI)) ((P_LAW_v6 p_c).2.1)), some ((eP2 eI eI) ((P_LAW_v6 p_c).2.2)), some ((eP3 eS (eT eI) (eT (eP2 eI eI))) (P_LAW_v14 p_c t16 x18)), some (eB (P_LAW_v15 p_c t16 x18)), some (eI (P_LAW_v10 p_c t16 x18)), some ((eP2 eI eI) (P_LAW_v12 p_c t16 x18)), some (.ref (1 + (j17.2.2.2.2.2.2.length + 0))), none, none, none]) (asg_of (call_of (cons_of rfl (cons_of rfl (cons_of (coA rfl (h19.2.2.1 h21).2.2.2.2.2.2.2.1) nil_of))) (P_judgeRents_eq ((P_LAW_v3 p_c).1) (P_LAW_v4 p_c) (mkA ((eP3 eS (eT eI) (eT (eP2 eI eI))) (P_LAW_v14 p_c t16 x18))) (h19.2.2.1 h21).2.2.2.2.2.2.2.2.1 _))) (pb_if (Q := (LQ (fun (t : Cu) (j : ((Option D) × (Option D) × (Option D) × (Option D) × (Option D) × (Option D) × Store)) => [some (.fr (ns.map D.int)), some (.ref 0), some (eI (1 + (P_LTake p_c 4).1)), some ((eT (eT eI)) ((P_LAW_v3 p_c).1)), some ((eP2 eI eI) (P_LAW_v4 p_c)), some ((eP3 eS (eT eI) (eT (eP2 eI eI))) (P_LAW_v7 p_c)), some ((eT (eP2 eI eI)) (P_LAW_v8 p_c)), j.1, some ((eT eI) ((P_LAW_v6 p_c).1)), some ((eT (eP2 eI eI)) ((P_LAW_v6 p_c).2.1)), some ((eP2 eI eI) ((P_LAW_v6 p_c).2.2)), j.2.1, j.2.2.1, j.2.2.2.1, j.2.2.2.2.1, j.2.2.2.2.2.1, none, none, none]) (fun (t : Cu) (j : ((Option D) × (Option D) × (Option D) × (Option D) × (Option D) × (Option D) × Store)) => (t.ob :: j.2.2.2.2.2.2)) (RE eB))) (p := (.rt false)) (q := (.nx ((P_LTake (P_LAW_c11 p_c t16 x18) 3).2))) (or_E (not_of (tru_of' (isi_bl (coA rfl (h19.2.2.1 h21).2.2.2.2.2.2.2.2.2.1)) tr_bl)) fun h23 => (tv_of (bin_of rfl (call_of (cons_of rfl (cons_of rfl (cons_of (coA rfl ((h19.2.2.1 h21).2.2.2.2.2.2.2.2.2.2 h23).1) nil_of))) (P_LIsRents_eq ((P_LAW_v3 p_c).1) (P_LAW_v4 p_c) (mkA ((eP3 eS (eT eI) (eT (eP2 eI eI))) (P_LAW_v14 p_c t16 x18))) ((h19.2.2.1 h21).2.2.2.2.2.2.2.2.2.2 h23).2 _)) (ne_E (en := eB) (p := (P_LAW_v15 p_c t16 x18)) (q := (P_LIsRents ((P_LAW_v3 p_c).1) (P_LAW_v4 p_c) (mkA ((eP3 eS (eT eI) (eT (eP2 eI eI))) (P_LAW_v14 p_c t16 x18))))) eqv_B)))) (fun h24 => (pb_ret rfl ⟨⟨_, rfl⟩, rfl⟩)) fun h25 => (pb_skip ⟨(some (eI x18), some ((eP3 eS (eT eI) (eT (eP2 eI eI))) (P_LAW_v14 p_c t16 x18)), some (eB (P_LAW_v15 p_c t16 x18)), some (eI (P_LAW_v10 p_c t16 x18)), some ((eP2 eI eI) (P_LAW_v12 p_c t16 x18)), some (.ref (1 + (j17.2.2.2.2.2.2.length + 0))), (j17.2.2.2.2.2.2 ++ [DV.Ob.lst ((P_LAW_v13 p_c t16 x18).map (eP2 eI eI))])), .inl rfl, rfl⟩))))))))))))) fun h22 => (pb_seq_skip (pb_seq (e1 := [some (.fr (ns.map D.int)), some (.ref 0), some (eI (1 + (P_LTake p_c 4).1)), some ((eT (eT eI)) ((P_LAW_v3 p_c).1)), some ((eP2 eI eI) (P_LAW_v4 p_c)), some ((eP3 eS (eT eI) (eT (eP2 eI eI))) (P_LAW_v7 p_c)), some ((eT (eP2 eI eI)) (P_LAW_v8 p_c)), some (eI x18), some ((eT eI) ((P_LAW_v6 p_c).1)), some ((eT (eP2 eI eI)) ((P_LAW_v6 p_c).2.1)), some ((eP2 eI eI) ((P_LAW_v6 p_c).2.2)), some (eA ((P_LAW_v9 p_c t16 x18).1)), some (eB (P_LAW_v16 p_c t16 x18)), j17.2.2.2.1, j17.2.2.2.2.1, j17.2.2.2.2.2.1, none, none, none]) (asg_of (call_of (cons_of rfl (cons_of rfl (cons_of rfl nil_of))) (P_judgeRents_eq ((P_LAW_v3 p_c).1) (P_LAW_v4 p_c) ((P_LAW_v9 p_c t16 x18).1) (h19.2.2.2 h22).1 _))) (pb_if (Q := (LQ (fun (t : Cu) (j : ((Option D) × (Option D) × (Option D) × (Option D) × (Option D) × (Option D) × Store)) => [some (.fr (ns.map D.int)), some (.ref 0), some (eI (1 + (P_LTake p_c 4).1)), some ((eT (eT eI)) ((P_LAW_v3 p_c).1)), some ((eP2 eI eI) (P_LAW_v4 p_c)), some ((eP3 eS (eT eI) (eT (eP2 eI eI))) (P_LAW_v7 p_c)), some ((eT (eP2 eI eI)) (P_LAW_v8 p_c)), j.1, some ((eT eI) ((P_LAW_v6 p_c).1)), some ((eT (eP2 eI eI)) ((P_LAW_v6 p_c).2.1)), some ((eP2 eI eI) ((P_LAW_v6 p_c).2.2)), j.2.1, j.2.2.1, j.2.2.2.1, j.2.2.2.2.1, j.2.2.2.2.2.1, none, none, none]) (fun (t : Cu) (j : ((Option D) × (Option D) × (Option D) × (Option D) × (Option D) × (Option D) × Store)) => (t.ob :: j.2.2.2.2.2.2)) (RE eB))) (p := (.rt false)) (q := (.nx ((P_LAW_v9 p_c t16 x18).2))) (or_E (not_of (tru_of' (isi_bl (coA rfl (h19.2.2.2 h22).2.1)) tr_bl)) fun h26 => (tv_of (bin_of rfl (call_of (cons_of rfl (cons_of rfl (cons_of rfl nil_of))) (P_LIsRents_eq ((P_LAW_v3 p_c).1) (P_LAW_v4 p_c) ((P_LAW_v9 p_c t16 x18).1) ((h19.2.2.2 h22).2.2 h26) _)) (ne_E (en := eB) (p := (P_LAW_v16 p_c t16 x18)) (q := (P_LIsRents ((P_LAW_v3 p_c).1) (P_LAW_v4 p_c) ((P_LAW_v9 p_c t16 x18).1))) eqv_B)))) (fun h27 => (pb_ret rfl ⟨⟨_, rfl⟩, rfl⟩)) fun h28 => (pb_skip ⟨(some (eI x18), some (eA ((P_LAW_v9 p_c t16 x18).1)), some (eB (P_LAW_v16 p_c t16 x18)), j17.2.2.2.1, j17.2.2.2.2.1, j17.2.2.2.2.2.1, j17.2.2.2.2.2.2), .inl rfl, rfl⟩))))))⟩) fun t29 j30 h31 => (pb_ret rfl rfl)))))))))))))))
end K62

namespace K62
open PySem PySem.Spec PyProof.Rows L2 DV
/-! fractions: what the program's and the law's words for them give -/
theorem cd_Q {a b : Int} (hb : b.natAbs < BIG) (h : a ≠ 0 ∨ b ≠ 0) : Ok_commonDivisor a b ∧ P_commonDivisor a b = (Int.gcd a b : Int) := by
  obtain ⟨h1, h2⟩ := cd_eq (R := Int) hb h
  refine ⟨h2, ?_⟩
  unfold P_commonDivisor P_commonDivisor_l1
  rw [h1]; rfl
theorem ratio_Q {a b : Int} (hb : b.natAbs < BIG) (h0 : b ≠ 0) : Ok_ratio a b ∧ P_ratio a b = ofQ (Rat.divInt a b) := by
  have key : ∀ a b : Int, 0 < b → b.natAbs < BIG → (Ok_commonDivisor a b ∧ 0 < P_commonDivisor a b ∧ (P_commonDivisor a b).natAbs < BIG) ∧ (bif !decide (b = 1) then (a / P_commonDivisor a b, b / P_commonDivisor a b) else (a, b)) = ofQ (Rat.divInt a b) := by
    intro a b hp hb
    obtain ⟨h1, h2⟩ := cd_Q (a := a) hb (.inr (by omega))
    have h3 := gcd_pos' (a := a) (b := b) (by omega)
    have h4 := gcd_le_r (a := a) (b := b) (by omega)
    rw [h2, ofQ_divInt hp]
    refine ⟨⟨h1, by omega, by simpa using Nat.lt_of_le_of_lt h4 hb⟩, ?_⟩
    by_cases hb1 : b = 1
    · subst hb1; simp
    · simp [hb1]
  unfold Ok_ratio P_ratio P_ratio_v3 P_ratio_v4 P_ratio_v5 P_ratio_v3 P_ratio_v1 P_ratio_v2
  by_cases hn : b < 0
  · obtain ⟨⟨k1, k2, k3⟩, k4⟩ := key (-a) (-b) (by omega) (by omega)
    simp only [decide_eq_true hn, cond_true]
    rw [Rat.neg_divInt_neg] at k4
    exact ⟨fun _ => ⟨k1, k2, k3⟩, k4⟩
  · obtain ⟨⟨k1, k2, k3⟩, k4⟩ := key a b (by omega) hb
    simp only [decide_eq_false hn, cond_false]
    exact ⟨fun _ => ⟨k1, k2, k3⟩, k4⟩
theorem ratio_pos {a b : Int} {n : Nat} (h0 : 0 < b) (hb : b.natAbs < 2 ^ n) (hn : n ≤ 8000) : Ok_ratio a b ∧ P_ratio a b = ofQ (Rat.divInt a b) := ratio_Q (big_bits hb hn) (by omega)
theorem times_Q {p q : Rat} {m n : Nat} (h : QB m p) (h2 : QB n q) (hm : m + n ≤ 8000) : Ok_times (ofQ p) (ofQ q) ∧ P_times (ofQ p) (ofQ q) = ofQ (p * q) := by
  have b2 : ((p.den : Int) * q.den).natAbs < 2 ^ (m + n) := by rw [Int.natAbs_mul, Int.natAbs_natCast, Int.natAbs_natCast]; exact mul_bits h.den h2.den
  obtain ⟨h3, h4⟩ := ratio_pos (a := p.num * q.num) (pdens p q) b2 hm
  refine ⟨⟨mulOk_bits h.num h2.num (by omega) (by omega), mulOk_bits (by simpa [ofQ] using h.den) (by simpa [ofQ] using h2.den) (by omega) (by omega), h3⟩, ?_⟩
  show P_ratio (p.num * q.num) (p.den * q.den) = _
  rw [h4, mul_eq]
theorem plus_Q {p q : Rat} {m n : Nat} (h : QB m p) (h2 : QB n q) (hm : m + n + 1 ≤ 8000) : Ok_plus (ofQ p) (ofQ q) ∧ P_plus (ofQ p) (ofQ q) = ofQ (p + q) := by
  obtain ⟨b1, b2⟩ := sum_bits h h2
  obtain ⟨h3, h4⟩ := ratio_pos (a := p.num * q.den + q.num * p.den) (pdens p q) b2 (by omega)
  refine ⟨fun _ => ⟨mulOk_bits h.num (by simpa [ofQ] using h2.den) (by omega) (by omega), mulOk_bits h2.num (by simpa [ofQ] using h.den) (by omega) (by omega), mulOk_bits (by simpa [ofQ] using h.den) (by simpa [ofQ] using h2.den) (by omega) (by omega), h3⟩, ?_⟩
  show (bif (decide ((p.den : Int) = q.den) && decide ((q.den : Int) = 1)) then (p.num + q.num, 1) else P_ratio (p.num * q.den + q.num * p.den) (p.den * q.den)) = _
  rw [h4, add_eq]
  by_cases hd : (p.den : Int) = q.den ∧ (q.den : Int) = 1
  · have hp : p.den = 1 := by omega
    have hq : q.den = 1 := by omega
    have e : ofQ (p + q) = (p.num + q.num, 1) := by
      rw [← add_eq, hp, hq]
      unfold ofQ
      rw [Rat.num_divInt, Rat.den_divInt]
      simp
    rw [e]; simp [hp, hq]
  · have : (decide ((p.den : Int) = q.den) && decide ((q.den : Int) = 1)) = false := by
      rw [Bool.and_eq_false_iff]
      by_cases h5 : (p.den : Int) = q.den
      · right; exact decide_eq_false fun h6 => hd ⟨h5, h6⟩
      · left; exact decide_eq_false h5
    rw [this]; rfl
theorem negative_Q {p : Rat} : P_negative (ofQ p) = ofQ (-p) := by
  unfold P_negative ofQ; simp [Rat.neg_num, Rat.neg_den]
theorem minus_Q {p q : Rat} {m n : Nat} (h : QB m p) (h2 : QB n q) (hm : m + n + 1 ≤ 8000) : Ok_minus (ofQ p) (ofQ q) ∧ P_minus (ofQ p) (ofQ q) = ofQ (p - q) := by
  obtain ⟨h3, h4⟩ := plus_Q h h2.neg hm
  unfold Ok_minus P_minus
  rw [negative_Q]
  exact ⟨h3, by rw [h4, Rat.sub_eq_add_neg]⟩
theorem inverse_Q {p : Rat} {m : Nat} (h : QB m p) (h0 : p ≠ 0) (hm : m ≤ 8000) : Ok_inverse (ofQ p) ∧ P_inverse (ofQ p) = ofQ p⁻¹ := by
  have hn : p.num ≠ 0 := by simpa [Rat.num_eq_zero] using h0
  obtain ⟨h3, h4⟩ := ratio_Q (a := (p.den : Int)) (big_bits h.num hm) hn
  exact ⟨h3, by show P_ratio (p.den : Int) p.num = _; rw [h4, Rat.inv_def]⟩
theorem isLess_Q {p q : Rat} {m n : Nat} (h : QB m p) (h2 : QB n q) (hm : m ≤ 8000) (hn : n ≤ 8000) : Ok_isLess (ofQ p) (ofQ q) ∧ P_isLess (ofQ p) (ofQ q) = decide (p < q) := by
  refine ⟨⟨mulOk_bits h.num (by simpa [ofQ] using h2.den) hm hn, mulOk_bits h2.num (by simpa [ofQ] using h.den) hn hm⟩, ?_⟩
  show decide (p.num * q.den < q.num * p.den) = _
  exact decide_eq_decide.mpr (Rat.lt_iff p q).symm
theorem total_go {n : Nat} : ∀ (qs : List Rat) (a : Rat) (m : Nat), QB m a → (∀ q ∈ qs, QB n q) → m + qs.length * (n + 1) ≤ 8000 → okFold (fun (t1 : Int × Int) (x3 : Int × Int) => Ok_plus t1 x3) (fun t1 x3 => P_plus t1 x3) (ofQ a) (qs.map ofQ) ∧ (qs.map ofQ).foldl (fun t1 x3 => P_plus t1 x3) (ofQ a) = ofQ (totQ a qs)
  | [], a, m, _, _, _ => ⟨trivial, rfl⟩
  | q :: qs, a, m, ha, hq, hm => by
    have e : (q :: qs).length * (n + 1) = qs.length * (n + 1) + (n + 1) := by rw [List.length_cons, Nat.succ_mul]
    obtain ⟨h1, h2⟩ := plus_Q ha (hq q (by simp)) (by omega)
    obtain ⟨h3, h4⟩ := total_go qs (a + q) (m + n + 1) (ha.add (hq q (by simp))) (fun x hx => hq x (by simp [hx])) (by omega)
    refine ⟨⟨h1, ?_⟩, ?_⟩
    · show okFold _ _ (P_plus (ofQ a) (ofQ q)) _; rw [h2]; exact h3
    · rw [List.map_cons, List.foldl_cons, h2]; exact h4
theorem total_Q {n : Nat} {qs : List Rat} (hq : ∀ q ∈ qs, QB n q) (hm : 1 + qs.length * (n + 1) ≤ 8000) : Ok_total (qs.map ofQ) ∧ P_total (qs.map ofQ) = ofQ qs.sum := by
  obtain ⟨h1, h2⟩ := total_go qs 0 1 QB.zero hq hm
  refine ⟨h1, ?_⟩
  have e : totQ 0 qs = qs.sum := by rw [totQ_eq, Rat.zero_add]
  rw [← e, ← h2]; rfl
theorem ld_Q {a b : Int} (hb : b.natAbs < BIG) (h0 : 0 ≤ b) : Ok_LDivisor a b ∧ P_LDivisor a b = (Int.gcd a b : Int) := by
  obtain ⟨h1, h2⟩ := ld_eq (a := a) hb h0
  refine ⟨h2, ?_⟩
  show (Lo.fin _ (forP (fun t1 (_ : Int) => euF t1) (a, b) (rngZ 0 20000))) = _
  rw [h1]; rfl
theorem lfraction_Q {a b : Int} (hb : b.natAbs < BIG) (h0 : 0 < b) : Ok_LFraction a b ∧ P_LFraction a b = ofQ (Rat.divInt a b) := by
  obtain ⟨h1, h2⟩ := ld_Q (a := a) hb (by omega)
  have h3 := gcd_pos' (a := a) (b := b) (by omega)
  have h4 := gcd_le_r (a := a) (b := b) (by omega)
  have e : P_LFraction_v1 a b = (Int.gcd a b : Int) := by unfold P_LFraction_v1; rw [decide_eq_true h0, h2]; rfl
  unfold Ok_LFraction P_LFraction
  rw [e, ofQ_divInt h0]
  exact ⟨⟨h1, by omega, by simpa using Nat.lt_of_le_of_lt h4 hb⟩, rfl⟩
theorem lplus_Q {p q : Rat} {m n : Nat} (h : QB m p) (h2 : QB n q) (hm : m + n + 1 ≤ 8000) : Ok_LPlus (ofQ p) (ofQ q) ∧ P_LPlus (ofQ p) (ofQ q) = ofQ (p + q) := by
  obtain ⟨b1, b2⟩ := sum_bits h h2
  obtain ⟨h3, h4⟩ := lfraction_Q (a := p.num * q.den + q.num * p.den) (big_bits b2 (by omega)) (pdens p q)
  refine ⟨⟨mulOk_bits h.num (by simpa [ofQ] using h2.den) (by omega) (by omega), mulOk_bits h2.num (by simpa [ofQ] using h.den) (by omega) (by omega), mulOk_bits (by simpa [ofQ] using h.den) (by simpa [ofQ] using h2.den) (by omega) (by omega), h3⟩, ?_⟩
  show P_LFraction (p.num * q.den + q.num * p.den) (p.den * q.den) = _
  rw [h4, add_eq]
theorem ltimes_Q {p q : Rat} {m n : Nat} (h : QB m p) (h2 : QB n q) (hm : m + n ≤ 8000) : Ok_LTimes (ofQ p) (ofQ q) ∧ P_LTimes (ofQ p) (ofQ q) = ofQ (p * q) := by
  have b2 : ((p.den : Int) * q.den).natAbs < 2 ^ (m + n) := by rw [Int.natAbs_mul, Int.natAbs_natCast, Int.natAbs_natCast]; exact mul_bits h.den h2.den
  obtain ⟨h3, h4⟩ := lfraction_Q (a := p.num * q.num) (big_bits b2 hm) (pdens p q)
  refine ⟨⟨mulOk_bits h.num h2.num (by omega) (by omega), mulOk_bits (by simpa [ofQ] using h.den) (by simpa [ofQ] using h2.den) (by omega) (by omega), h3⟩, ?_⟩
  show P_LFraction (p.num * q.num) (p.den * q.den) = _
  rw [h4, mul_eq]
theorem lminus_Q {p q : Rat} {m n : Nat} (h : QB m p) (h2 : QB n q) (hm : m + n + 1 ≤ 8000) : Ok_LMinus (ofQ p) (ofQ q) ∧ P_LMinus (ofQ p) (ofQ q) = ofQ (p - q) := by
  obtain ⟨h3, h4⟩ := lplus_Q h h2.neg hm
  have e : (0 - (ofQ q).1, (ofQ q).2) = ofQ (-q) := by unfold ofQ; simp [Rat.neg_num, Rat.neg_den]
  unfold Ok_LMinus P_LMinus
  rw [e]
  exact ⟨h3, by rw [h4, Rat.sub_eq_add_neg]⟩
theorem lless_Q {p q : Rat} {m n : Nat} (h : QB m p) (h2 : QB n q) (hm : m ≤ 8000) (hn : n ≤ 8000) : Ok_LLess (ofQ p) (ofQ q) ∧ P_LLess (ofQ p) (ofQ q) = decide (p < q) := by
  refine ⟨⟨mulOk_bits h.num (by simpa [ofQ] using h2.den) hm hn, mulOk_bits h2.num (by simpa [ofQ] using h.den) hn hm⟩, ?_⟩
  show decide (p.num * q.den < q.num * p.den) = _
  exact decide_eq_decide.mpr (Rat.lt_iff p q).symm
theorem ltotal_go {n : Nat} : ∀ (qs : List Rat) (a : Rat) (m : Nat), QB m a → (∀ q ∈ qs, QB n q) → m + qs.length * (n + 1) ≤ 8000 → okFold (fun (t1 : Int × Int) (x3 : Int × Int) => Ok_LPlus t1 x3) (fun t1 x3 => P_LPlus t1 x3) (ofQ a) (qs.map ofQ) ∧ (qs.map ofQ).foldl (fun t1 x3 => P_LPlus t1 x3) (ofQ a) = ofQ (totQ a qs)
  | [], a, m, _, _, _ => ⟨trivial, rfl⟩
  | q :: qs, a, m, ha, hq, hm => by
    have e : (q :: qs).length * (n + 1) = qs.length * (n + 1) + (n + 1) := by rw [List.length_cons, Nat.succ_mul]
    obtain ⟨h1, h2⟩ := lplus_Q ha (hq q (by simp)) (by omega)
    obtain ⟨h3, h4⟩ := ltotal_go qs (a + q) (m + n + 1) (ha.add (hq q (by simp))) (fun x hx => hq x (by simp [hx])) (by omega)
    refine ⟨⟨h1, ?_⟩, ?_⟩
    · show okFold _ _ (P_LPlus (ofQ a) (ofQ q)) _; rw [h2]; exact h3
    · rw [List.map_cons, List.foldl_cons, h2]; exact h4
theorem ltotal_Q {n : Nat} {qs : List Rat} (hq : ∀ q ∈ qs, QB n q) (hm : 1 + qs.length * (n + 1) ≤ 8000) : Ok_LTotal (qs.map ofQ) ∧ P_LTotal (qs.map ofQ) = ofQ qs.sum := by
  obtain ⟨h1, h2⟩ := ltotal_go qs 0 1 QB.zero hq hm
  refine ⟨h1, ?_⟩
  have e : totQ 0 qs = qs.sum := by rw [totQ_eq, Rat.zero_add]
  rw [← e, ← h2]; rfl
end K62

namespace K62
open PySem PySem.Spec PyProof.Rows L2 DV
def w (W : List (List Int)) (i k : Nat) : Int := (W.getD i []).getD k 0
structure Wt (W : List (List Int)) (n : Nat) : Prop where
  len : W.length = n
  rows : ∀ i, i < n → (W.getD i []).length = n
  pos : 0 < n
  le : n ≤ 4
  sm : ∀ i k, i < n → k < n → 0 ≤ w W i k ∧ w W i k < 12
section
variable {W : List (List Int)} {n : Nat} (h : Wt W n)
include h
theorem Wt.ix1 {i : Nat} (hi : i < n) : InR W (i : Int) ∧ ixZ W (i : Int) = W.getD i [] := ⟨InR_nat (by rw [h.len]; exact hi), ixZ_nat W i⟩
theorem Wt.ix2 {i k : Nat} (hi : i < n) (hk : k < n) : InR (ixZ W (i : Int)) (k : Int) ∧ ixZ (ixZ W (i : Int)) (k : Int) = w W i k := by
  rw [(h.ix1 hi).2]
  exact ⟨InR_nat (by rw [h.rows i hi]; exact hk), ixZ_nat _ k⟩
theorem Wt.big : I62 (n : Int) := i62_nat (by have := h.le; omega)
end
/-- a pairing as a function -/
structure Pr (o : List Int) (n : Nat) (b : Nat → Nat) : Prop where
  len : o.length = n
  eq : ∀ i, i < n → o.getD i 0 = (b i : Int)
  lt : ∀ i, i < n → b i < n
  inj : ∀ i j, i < n → j < n → b i = b j → i = j
  sur : ∀ k, k < n → ∃ i, i < n ∧ b i = k
theorem pr_of {o : List Int} {n : Nat} (p : o.Perm (rngZ 0 (n : Int))) : ∃ b, Pr o n b := by
  have hl : o.length = n := by rw [p.length_eq, rngZ_len]
  have hm : ∀ i, i < n → ∃ k : Nat, k < n ∧ o.getD i 0 = (k : Int) := by
    intro i hi
    have : o.getD i 0 ∈ o := by
      have : o.getD i 0 = o[i] := by simp [List.getD, hl, hi]
      rw [this]; exact List.getElem_mem _
    obtain ⟨k, h1, h2⟩ := mem_rngN.mp (p.mem_iff.mp this)
    exact ⟨k, h1, h2⟩
  have hnd : o.Nodup := by
    refine p.nodup_iff.mpr ?_
    rw [rngZ_nat]
    exact List.Pairwise.map _ (fun a b h => by omega) List.nodup_range
  refine ⟨fun i => (o.getD i 0).toNat, hl, fun i hi => ?_, fun i hi => ?_, fun i j hi hj e => ?_, fun k hk => ?_⟩
  · obtain ⟨k, h1, h2⟩ := hm i hi; rw [h2]; simp
  · obtain ⟨k, h1, h2⟩ := hm i hi; simp only [h2]; simpa using h1
  · obtain ⟨k, h1, h2⟩ := hm i hi
    obtain ⟨l, h3, h4⟩ := hm j hj
    simp only [h2, h4, Int.toNat_natCast] at e
    subst e
    have e1 : o.getD i 0 = o[i]'(by omega) := by simp [List.getD, hl, hi]
    have e2 : o.getD j 0 = o[j]'(by omega) := by simp [List.getD, hl, hj]
    exact (List.getElem_inj hnd).mp (by rw [← e1, ← e2, h2, h4])
  · have : (k : Int) ∈ o := p.mem_iff.mpr (mem_rngN.mpr ⟨k, hk, rfl⟩)
    obtain ⟨i, hi, e⟩ := List.getElem_of_mem this
    refine ⟨i, by omega, ?_⟩
    have e1 : o.getD i 0 = o[i] := by simp [List.getD, hi]
    simp only [e1, e]; simp
theorem ordersOf_eq (n : Nat) : P_ordersOf (n : Int) = Nat.repeat (ordS (n : Int)) n [[]] := by
  have e : ∀ t, P_ordersOf_v1 (n : Int) t = ordS (n : Int) t := by
    intro t; unfold P_ordersOf_v1 ordS
    rw [List.filter_eq_self.2 (fun _ _ => rfl)]
  unfold P_ordersOf P_ordersOf_l3
  simp only [e]
  rw [foldl_const, rngZ_len]
theorem lOrders_eq (n : Nat) : P_LOrders (n : Int) = Nat.repeat (ordS (n : Int)) n [[]] := by
  have e : ∀ t, P_LOrders_l3 (n : Int) t = ordS (n : Int) t := by
    intro t; unfold P_LOrders_l3 P_LOrders_v1 ordS
    rw [foldl_app, List.nil_append]
  unfold P_LOrders P_LOrders_l5
  simp only [e]
  rw [foldl_const, rngZ_len]
theorem pow_lim {n t : Nat} (hn : n ≤ 4) (ht : t ≤ 4) : n ^ t ≤ 256 :=
  Nat.le_trans (Nat.pow_le_pow_left hn t) (Nat.le_trans (Nat.pow_le_pow_right (by decide) ht) (by decide))
theorem ordersOf_ok {n : Nat} (hn : n ≤ 4) : Ok_ordersOf (n : Int) := by
  refine ⟨i62_nat (by omega), ?_⟩
  refine okFold_const (P_ordersOf_v1 (n : Int)) (Ok_ordersOf_2 (n : Int)) (fun k t => t = Nat.repeat (ordS (n : Int)) k [[]]) (fun k t ht => ?_) _ _ 0 rfl fun j t h0 hj ht => ?_
  · unfold P_ordersOf_v1
    rw [List.filter_eq_self.2 (fun _ _ => rfl), ht]; rfl
  · subst ht
    rw [rngZ_len] at hj
    refine ⟨fun x hx => ⟨i62_nat (by omega), fun y hy _ => ?_⟩, ?_⟩
    · have := ((mem_ordS _ _ _).mp hx).1
      simp only [List.length_cons, List.length_nil]
      show _ ≤ 16777216
      omega
    · rw [List.filter_eq_self.2 (fun _ _ => rfl)]
      have := ord_len (n : Int) (j + 1)
      have e : Nat.repeat (ordS (n : Int)) (j + 1) [[]] = ordS (n : Int) (Nat.repeat (ordS (n : Int)) j [[]]) := rfl
      rw [e] at this
      have h2 := pow_lim (n := n) (t := j + 1) hn (by omega)
      simp only [Int.toNat_natCast] at this
      show (ordS (n : Int) (Nat.repeat (ordS (n : Int)) j [[]])).length ≤ 16777216
      omega
theorem lOrders_ok {n : Nat} (hn : n ≤ 4) : Ok_LOrders (n : Int) := by
  have hstep : ∀ t, P_LOrders_l3 (n : Int) t = ordS (n : Int) t := by
    intro t; unfold P_LOrders_l3 P_LOrders_v1 ordS
    rw [foldl_app, List.nil_append]
  refine ⟨i62_nat (by omega), ?_⟩
  refine okFold_const (P_LOrders_l3 (n : Int)) (Ok_LOrders_4 (n : Int)) (fun k t => t = Nat.repeat (ordS (n : Int)) k [[]]) (fun k t ht => by rw [hstep, ht]; rfl) _ _ 0 rfl fun j t h0 hj ht => ?_
  subst ht
  rw [rngZ_len] at hj
  unfold Ok_LOrders_4
  have hlen := ord_len (n : Int) (j + 1)
  have e : Nat.repeat (ordS (n : Int)) (j + 1) [[]] = ordS (n : Int) (Nat.repeat (ordS (n : Int)) j [[]]) := rfl
  rw [e] at hlen
  have h2 := pow_lim (n := n) (t := j + 1) hn (by omega)
  simp only [Int.toNat_natCast] at hlen
  -- what has been found so far is a beginning of all
  have key : ∀ (xs ys : List (List Int)), (∀ x ∈ xs, x.length = j) → (ys ++ xs.flatMap fun x => ((rngZ 0 (n : Int)).filter fun y => !decide (y ∈ x)).map fun y => x ++ [y]).length ≤ 256 → okFold (fun t5 x7 => Ok_LOrders_2 (n : Int) t5 x7) (fun t5 x7 => P_LOrders_v1 (n : Int) t5 x7) ys xs := by
    intro xs
    induction xs with
    | nil => exact fun _ _ _ => trivial
    | cons x xs ih =>
      intro ys hl hz
      rw [List.flatMap_cons, ← List.append_assoc] at hz
      have hz2 := hz
      rw [List.length_append] at hz2
      refine ⟨⟨i62_nat (by omega), fun y hy _ => ?_, ?_, ?_⟩, ih _ (fun z hz => hl z (by simp [hz])) hz⟩
      · rw [hl x (by simp)]
        simp only [List.length_cons, List.length_nil]
        show _ ≤ 16777216
        omega
      · rw [rngZ_len]; show _ ≤ 16777216; omega
      · rw [List.length_append] at hz2; show _ ≤ 16777216; omega
  refine key _ [] (fun x hx => ((mem_ordS _ _ _).mp hx).1) ?_
  rw [List.nil_append]
  show (ordS (n : Int) _).length ≤ _
  omega
section
variable {W : List (List Int)} {n : Nat} (h : Wt W n)
include h
theorem sum_eq {o : List Int} {b : Nat → Nat} (p : Pr o n b) : P_bestPairing_v1 W o = BF.sumN n (fun i => w W i (b i)) ∧ P_LDue_v1 W o = BF.sumN n (fun i => w W i (b i)) := by
  constructor
  · unfold P_bestPairing_v1 BF.sumN
    rw [enumZ_eq, List.map_map, p.len]
    congr 1
    refine List.map_congr_left fun i hi => ?_
    have hi : i < n := by simpa using hi
    show ixZ (ixZ W (i : Int)) (o.getD i 0) = _
    rw [p.eq i hi, (h.ix2 hi (p.lt i hi)).2]
  · unfold P_LDue_v1 BF.sumN
    rw [h.len, rngZ_nat, List.map_map]
    congr 1
    refine List.map_congr_left fun i hi => ?_
    have hi : i < n := by simpa using hi
    show ixZ (ixZ W (i : Int)) (ixZ o (i : Int)) = _
    rw [ixZ_nat o i, show o.getD i default = (b i : Int) from p.eq i hi, (h.ix2 hi (p.lt i hi)).2]
theorem best_spec : ∃ (o : List Int) (b : Nat → Nat), o.Perm (rngZ 0 (n : Int)) ∧ Pr o n b ∧ P_bestPairing W = o ∧ (P_LDue_l6 W).1 = some o ∧ Ok_bestPairing W ∧ (Ok_LOrders (n : Int) ∧ okFold (fun t1 x3 => Ok_LDue_5 W t1 x3) (fun t1 x3 => P_LDue_s4 W t1 x3) (none, none) (P_LOrders (n : Int))) ∧
    BF.NC n (fun i k => w W i (b i) - w W i (b k)) := by
  have hos : ∀ o ∈ Nat.repeat (ordS (n : Int)) n [[]], o.Perm (rngZ 0 (n : Int)) := fun o ho => ord_perm.mp ho
  have hS : ∀ o ∈ Nat.repeat (ordS (n : Int)) n [[]], P_bestPairing_v1 W o = P_LDue_v1 W o := by
    intro o ho
    obtain ⟨b, p⟩ := pr_of (hos o ho)
    obtain ⟨e1, e2⟩ := sum_eq h p
    rw [e1, e2]
  obtain ⟨f1, f2⟩ := fold_best (P_bestPairing_v1 W) (P_LDue_v1 W) (Nat.repeat (ordS (n : Int)) n [[]]) none hS (fun p e => by cases e)
  have eP : P_bestPairing_l5 W = (Nat.repeat (ordS (n : Int)) n [[]]).foldl (fun t1 x => bif (t1.isNone || decide ((getO t1).1 < P_bestPairing_v1 W x)) then some (P_bestPairing_v1 W x, x) else t1) none := by
    unfold P_bestPairing_l5
    rw [h.len, ordersOf_eq]; rfl
  have eL : P_LDue_l6 W = ((P_bestPairing_l5 W).map (·.2), (P_bestPairing_l5 W).map (·.1)) := by
    unfold P_LDue_l6
    rw [h.len, lOrders_eq, eP, ← f1]; rfl
  rw [← eP] at f2
  obtain ⟨g1, g2⟩ := f2 _ rfl
  have hmem : rngZ 0 (n : Int) ∈ Nat.repeat (ordS (n : Int)) n [[]] := ord_perm.mpr (List.Perm.refl _)
  cases hr : P_bestPairing_l5 W with
  | none => rw [(g2 hr).2] at hmem; cases hmem
  | some p =>
    obtain ⟨k1, k2, _, k4⟩ := g1 p hr
    have hp : p.2 ∈ Nat.repeat (ordS (n : Int)) n [[]] := by
      rcases k2 with k2 | k2
      · cases k2
      · exact k2
    obtain ⟨b, pb⟩ := pr_of (hos _ hp)
    refine ⟨p.2, b, hos _ hp, pb, ?_, by rw [eL, hr]; rfl, ?_, ?_, ?_⟩
    · unfold P_bestPairing; rw [hr]; rfl
    · refine ⟨by rw [h.len]; exact ordersOf_ok h.le, ?_, by rw [hr]; rfl⟩
      rw [h.len, ordersOf_eq]
      refine (okFold_inv (fun _ => True) _ _ trivial fun t x hx _ => ⟨⟨fun z hz => ?_, ?_, fun e => ?_⟩, trivial⟩).1
      · obtain ⟨c, pc⟩ := pr_of (hos x hx)
        rw [enumZ_eq, List.mem_map] at hz
        obtain ⟨i, hi, rfl⟩ := hz
        have hi : i < n := by rw [pc.len] at hi; simpa using hi
        show InR W (i : Int) ∧ InR (ixZ W (i : Int)) (x.getD i 0)
        rw [pc.eq i hi]
        exact ⟨(h.ix1 hi).1, (h.ix2 hi (pc.lt i hi)).1⟩
      · rw [enumZ_eq, List.length_map, List.length_range, ((mem_ordS _ _ _).mp hx).1]
        have := h.le; show _ ≤ 16777216; omega
      · cases t <;> simp_all
    · refine ⟨lOrders_ok h.le, ?_⟩
      rw [lOrders_eq]
      refine (okFold_inv (fun t => t.1.isSome = t.2.isSome) _ _ rfl fun t x hx ht => ?_).1
      refine ⟨⟨?_, fun z hz => ?_, ?_, fun e => ?_⟩, ?_⟩
      · rw [h.len]; exact h.big
      · obtain ⟨c, pc⟩ := pr_of (hos x hx)
        rw [h.len] at hz
        obtain ⟨i, hi, rfl⟩ := mem_rngN.mp hz
        rw [ixZ_nat x i, show x.getD i default = (c i : Int) from pc.eq i hi]
        exact ⟨(h.ix1 hi).1, InR_nat (by rw [pc.len]; exact hi), (h.ix2 hi (pc.lt i hi)).1⟩
      · rw [h.len, rngZ_len]; have := h.le; show _ ≤ 16777216; omega
      · rw [← ht]; cases hx : t.1 <;> simp_all
      · show (P_LDue_v2 W t x).isSome = (P_LDue_v3 W t x).isSome
        unfold P_LDue_v2 P_LDue_v3
        cases (t.1.isNone || decide (getO t.2 < P_LDue_v1 W x)) <;> simp [ht]
    · refine BF.nc_of_best (w W) b fun o' po => ?_
      -- the pairing through o'
      have hperm : ((List.range n).map fun i => ((b (o' i) : Nat) : Int)).Perm (rngZ 0 (n : Int)) := by
        have e1 : ((List.range n).map fun i => ((b (o' i) : Nat) : Int)) = ((List.range n).map o').map fun k => ((b k : Nat) : Int) := by rw [List.map_map]; rfl
        rw [e1]
        refine (po.map _).trans ?_
        have e2 : (List.range n).map (fun k => ((b k : Nat) : Int)) = p.2 := by
          apply List.ext_getElem
          · simp [pb.len]
          · intro i h1 h2
            simp at h1
            have := pb.eq i h1
            simp only [List.getElem_map, List.getElem_range]
            rw [← this]; simp [List.getD, h2]
        rw [e2]; exact hos _ hp
      have pq : Pr ((List.range n).map fun i => ((b (o' i) : Nat) : Int)) n (fun i => b (o' i)) := by
        obtain ⟨c, pc⟩ := pr_of hperm
        have e : ∀ i, i < n → c i = b (o' i) := by
          intro i hi
          have := pc.eq i hi
          simp [List.getD, hi] at this
          omega
        exact ⟨pc.len, fun i hi => by rw [pc.eq i hi, e i hi], fun i hi => by rw [← e i hi]; exact pc.lt i hi, fun i j hi hj hij => pc.inj i j hi hj (by rw [e i hi, e j hj]; exact hij), fun k hk => by
          obtain ⟨i, hi, h2⟩ := pc.sur k hk
          exact ⟨i, hi, by rw [← h2, e i hi]⟩⟩
      have h1 := k4 _ (ord_perm.mpr hperm)
      rw [(sum_eq h pq).1] at h1
      have h2 := k1
      rw [(sum_eq h pb).1] at h2
      omega
end
end K62

namespace DV
theorem foldl_min : ∀ (l : List Int) (m : Int), l.foldl min m ≤ m ∧ (∀ x ∈ l, l.foldl min m ≤ x) ∧ (l.foldl min m = m ∨ l.foldl min m ∈ l)
  | [], m => ⟨Int.le_refl _, by simp, .inl rfl⟩
  | y :: l, m => by
    obtain ⟨h1, h2, h3⟩ := foldl_min l (min m y)
    rw [List.foldl_cons]
    refine ⟨by omega, fun x hx => ?_, ?_⟩
    · rcases List.mem_cons.mp hx with rfl | hx
      · omega
      · exact h2 x hx
    · rcases h3 with h3 | h3
      · by_cases h : m ≤ y
        · left; rw [h3]; omega
        · right; rw [h3]; simp; left; omega
      · right; exact List.mem_cons_of_mem _ h3
theorem minZ_spec {l : List Int} (h : l ≠ []) : (∀ x ∈ l, minZ l ≤ x) ∧ minZ l ∈ l := by
  cases l with
  | nil => exact absurd rfl h
  | cons m l =>
    obtain ⟨h1, h2, h3⟩ := foldl_min l m
    refine ⟨fun x hx => ?_, ?_⟩
    · rcases List.mem_cons.mp hx with rfl | hx
      · exact h1
      · exact h2 x hx
    · rcases h3 with h3 | h3
      · show l.foldl min m ∈ _; rw [h3]; simp
      · exact List.mem_cons_of_mem _ h3
theorem okFold_map {α β T : Type} {ok : T → β → Prop} {step : T → β → T} (f : α → β) : ∀ (xs : List α) (t : T), okFold ok step t (xs.map f) ↔ okFold (fun t x => ok t (f x)) (fun t x => step t (f x)) t xs
  | [], _ => Iff.rfl
  | x :: xs, t => by
    show ok t (f x) ∧ _ ↔ ok t (f x) ∧ _
    rw [okFold_map f xs]
theorem range_fold {T : Type} (F : T → Nat → T) (t : T) (m : Nat) : (List.range (m + 1)).foldl F t = F ((List.range m).foldl F t) m := by
  rw [List.range_succ, List.foldl_append]; rfl
theorem set_getD {α : Type} {t : List α} {i j : Nat} {x z : α} (hi : i < t.length) : (t.set i x).getD j z = if i = j then x else t.getD j z := by
  by_cases h : i = j
  · subst h; simp [List.getD, hi]
  · simp [List.getD, h, List.getElem?_set]
theorem getD_eq {α : Type} {t : List α} {i : Nat} {z : α} (hi : i < t.length) : t.getD i z = t[i] := by simp [List.getD, hi]
theorem ext_getD {α : Type} {n : Nat} {xs ys : List α} (z : α) (h1 : xs.length = n) (h2 : ys.length = n) (h : ∀ i, i < n → xs.getD i z = ys.getD i z) : xs = ys := by
  apply List.ext_getElem (by omega)
  intro i a b
  have := h i (by omega)
  rwa [getD_eq a, getD_eq b] at this
end DV
namespace K62
open PySem PySem.Spec PyProof.Rows L2 DV
section
variable {W : List (List Int)} {n : Nat} {o : List Int} {b : Nat → Nat} (h : Wt W n) (p : Pr o n b)
/-- what i would pay more than k at most -/
def dd (W : List (List Int)) (b : Nat → Nat) (i k : Nat) : Int := w W i (b i) - w W i (b k)
def uu (W : List (List Int)) (b : Nat → Nat) (i : Nat) : Int := w W i (b i)
def De (W : List (List Int)) (n : Nat) (b : Nat → Nat) (i : Nat) : Int := BF.D n (dd W b) (uu W b) i
theorem dd_self (i : Nat) : dd W b i i = 0 := by unfold dd; omega
include p
theorem enum_o : enumZ o = (List.range n).map fun (i : Nat) => ((i : Int), ((b i : Nat) : Int)) := by
  rw [enumZ_eq, p.len]
  refine List.map_congr_left fun i hi => ?_
  have hi : i < n := by simpa using hi
  rw [show o.getD i default = (b i : Int) from p.eq i hi]
theorem hp_set {t : List Int} (ht : t.length = n) {i j : Nat} (hi : i < n) (hj : j < n) (x : Int) : (setZ t (b i : Int) x).getD (b j) 0 = if j = i then x else t.getD (b j) 0 := by
  rw [setZ_nat, set_getD (by rw [ht]; exact p.lt i hi)]
  by_cases e : j = i
  · subst e; simp
  · rw [if_neg e, if_neg fun e2 => e (p.inj i j hi hj e2).symm]
include h
/-- the program's first rents -/
theorem hr_start : okFold (fun t1 x3 => Ok_highestRents_2 W t1 x3) (fun t1 x3 => P_highestRents_v1 W t1 x3) (repZ (W.length : Int) [0]) (enumZ o) ∧ (P_highestRents_l3 W o).length = n ∧ ∀ i, i < n → (P_highestRents_l3 W o).getD (b i) 0 = uu W b i := by
  have hl0 : (repZ (W.length : Int) [(0 : Int)]).length = n := by unfold repZ; rw [h.len]; simp
  refine ⟨?_, ?_⟩
  · rw [enum_o p, okFold_map]
    refine (okFold_inv (fun t => t.length = n) _ _ hl0 fun t i hi ht => ?_).1
    have hi : i < n := by simpa using hi
    refine ⟨⟨(h.ix1 hi).1, (h.ix2 hi (p.lt i hi)).1, InR_nat (by rw [ht]; exact p.lt i hi)⟩, ?_⟩
    show (setZ t _ _).length = n
    rw [setZ_nat, List.length_set]; exact ht
  · have key : ∀ m, m ≤ n → ((List.range m).foldl (fun t (i : Nat) => P_highestRents_v1 W t ((i : Int), ((b i : Nat) : Int))) (repZ (W.length : Int) [0])).length = n ∧ ∀ j, j < m → ((List.range m).foldl (fun t (i : Nat) => P_highestRents_v1 W t ((i : Int), ((b i : Nat) : Int))) (repZ (W.length : Int) [0])).getD (b j) 0 = uu W b j := by
      intro m
      induction m with
      | zero => exact fun _ => ⟨hl0, fun j hj => by omega⟩
      | succ m ih =>
        intro hm
        obtain ⟨h1, h2⟩ := ih (by omega)
        rw [range_fold]
        refine ⟨?_, fun j hj => ?_⟩
        · show (setZ _ _ _).length = n
          rw [setZ_nat, List.length_set]; exact h1
        · show (setZ _ ((b m : Nat) : Int) (ixZ (ixZ W (m : Int)) ((b m : Nat) : Int))).getD (b j) 0 = _
          rw [hp_set p h1 (by omega) (by omega), (h.ix2 (by omega : m < n) (p.lt m (by omega))).2]
          by_cases e : j = m
          · subst e; simp [uu]
          · rw [if_neg e]; exact h2 j (by omega)
    obtain ⟨k1, k2⟩ := key n (Nat.le_refl n)
    unfold P_highestRents_l3
    rw [enum_o p, List.foldl_map]
    exact ⟨k1, k2⟩
theorem hr_val {t : List Int} (ht : t.length = n) {i : Nat} (hi : i < n) : let l := (rngZ 0 (W.length : Int)).map fun x14 => (((ixZ t x14) + (ixZ (ixZ W (i : Int)) ((b i : Nat) : Int))) - (ixZ (ixZ W (i : Int)) x14))
    l ≠ [] ∧ (∀ k, k < n → minZ l ≤ t.getD (b k) 0 + dd W b i k) ∧ ∃ k, k < n ∧ minZ l = t.getD (b k) 0 + dd W b i k := by
  intro l
  have hl : l = (List.range n).map fun r => t.getD r 0 + w W i (b i) - w W i r := by
    show List.map _ _ = _
    rw [h.len, rngZ_nat, List.map_map]
    refine List.map_congr_left fun r hr => ?_
    have hr : r < n := by simpa using hr
    show ixZ t (r : Int) + ixZ (ixZ W (i : Int)) _ - ixZ (ixZ W (i : Int)) (r : Int) = _
    rw [(h.ix2 hi (p.lt i hi)).2, (h.ix2 hi hr).2, ixZ_nat t r]; rfl
  have hne : l ≠ [] := by
    rw [hl]
    have := h.pos
    intro e
    have := congrArg List.length e
    simp at this; omega
  obtain ⟨m1, m2⟩ := minZ_spec hne
  refine ⟨hne, fun k hk => ?_, ?_⟩
  · have := m1 (t.getD (b k) 0 + w W i (b i) - w W i (b k)) (by rw [hl]; exact List.mem_map.mpr ⟨b k, List.mem_range.mpr (p.lt k hk), rfl⟩)
    unfold dd; omega
  · rw [hl] at m2
    obtain ⟨r, hr, e⟩ := List.mem_map.mp m2
    obtain ⟨k, hk, ek⟩ := p.sur r (List.mem_range.mp hr)
    refine ⟨k, hk, ?_⟩
    rw [← hl] at e
    rw [← e, ek]; unfold dd; rw [ek]; omega
/-- a round of the program's -/
theorem hr_round {t : List Int} (ht : t.length = n) : okFold (fun t10 x12 => Ok_highestRents_5 W t10 x12) (fun t10 x12 => P_highestRents_v4 W t10 x12) t (enumZ o) ∧ (P_highestRents_s7 W o t).length = n ∧
    ∃ st : Nat → Nat → Int, (st 0 = fun i => t.getD (b i) 0) ∧ (st n = fun i => (P_highestRents_s7 W o t).getD (b i) 0) ∧ ∀ m, m < n → BF.Step n (dd W b) (st m) (st (m + 1)) m := by
  have len : ∀ m, ((List.range m).foldl (fun t (i : Nat) => P_highestRents_v4 W t ((i : Int), ((b i : Nat) : Int))) t).length = n := by
    intro m
    induction m with
    | zero => exact ht
    | succ m ih =>
      rw [range_fold]
      show (setZ _ _ _).length = n
      rw [setZ_nat, List.length_set]; exact ih
  have eS : P_highestRents_s7 W o t = (List.range n).foldl (fun t (i : Nat) => P_highestRents_v4 W t ((i : Int), ((b i : Nat) : Int))) t := by
    unfold P_highestRents_s7 P_highestRents_l6
    rw [enum_o p, List.foldl_map]
  refine ⟨?_, by rw [eS]; exact len n, fun m i => ((List.range m).foldl (fun t (i : Nat) => P_highestRents_v4 W t ((i : Int), ((b i : Nat) : Int))) t).getD (b i) 0, rfl, by rw [eS], fun m hm => ?_⟩
  · rw [enum_o p, okFold_map]
    refine (okFold_inv (fun t => t.length = n) _ _ ht fun t i hi ht => ?_).1
    have hi : i < n := by simpa using hi
    refine ⟨⟨by rw [h.len]; exact h.big, fun z hz => ?_, by rw [h.len, rngZ_len]; have := h.le; show _ ≤ 16777216; omega, (hr_val h p ht hi).1, InR_nat (by rw [ht]; exact p.lt i hi)⟩, ?_⟩
    · rw [h.len] at hz
      obtain ⟨r, hr, rfl⟩ := mem_rngN.mp hz
      exact ⟨InR_nat (by rw [ht]; exact hr), (h.ix1 hi).1, (h.ix2 hi (p.lt i hi)).1, (h.ix2 hi hr).1⟩
    · show (setZ _ _ _).length = n
      rw [setZ_nat, List.length_set]; exact ht
  · obtain ⟨_, v1, v2⟩ := hr_val h p (len m) hm
    have e : ∀ j, j < n → ((List.range (m + 1)).foldl (fun t (i : Nat) => P_highestRents_v4 W t ((i : Int), ((b i : Nat) : Int))) t).getD (b j) 0 = if j = m then minZ ((rngZ 0 (W.length : Int)).map fun x14 => (((ixZ ((List.range m).foldl (fun t (i : Nat) => P_highestRents_v4 W t ((i : Int), ((b i : Nat) : Int))) t) x14) + (ixZ (ixZ W (m : Int)) ((b m : Nat) : Int))) - (ixZ (ixZ W (m : Int)) x14))) else ((List.range m).foldl (fun t (i : Nat) => P_highestRents_v4 W t ((i : Int), ((b i : Nat) : Int))) t).getD (b j) 0 := by
      intro j hj
      rw [range_fold]
      exact hp_set p (len m) hm hj _
    refine ⟨fun j hj hne => ?_, fun k hk => ?_, ?_⟩
    · exact (e j hj).trans (if_neg hne)
    · show List.getD _ (b m) 0 ≤ _
      rw [e m hm, if_pos rfl]; exact v1 k hk
    · obtain ⟨k, hk, e2⟩ := v2
      refine ⟨k, hk, ?_⟩
      show List.getD _ (b m) 0 = _
      rw [e m hm, if_pos rfl]; exact e2
/-- the program's rents: the shortest ways -/
theorem hr_spec (hnc : BF.NC n (dd W b)) : Ok_highestRents W o ∧ (P_highestRents W o).length = n ∧ ∀ i, i < n → (P_highestRents W o).getD (b i) 0 = De W n b i := by
  obtain ⟨s1, s2, s3⟩ := hr_start h p
  have len : ∀ T, (Nat.repeat (P_highestRents_s7 W o) T (P_highestRents_l3 W o)).length = n := by
    intro T
    induction T with
    | zero => exact s2
    | succ T ih => exact (hr_round h p ih).2.1
  have eH : P_highestRents W o = Nat.repeat (P_highestRents_s7 W o) n (P_highestRents_l3 W o) := by
    unfold P_highestRents P_highestRents_l9
    rw [foldl_const, h.len, rngZ_len]
  refine ⟨⟨⟨?_, ?_, ?_⟩, s1, by rw [h.len]; exact h.big, ?_⟩, by rw [eH]; exact len n, fun i hi => ?_⟩
  · rw [h.len]; have e : (2 : Int) ^ 63 = 9223372036854775808 := by decide
    rw [e]; omega
  · rw [h.len]; have e : (2 : Int) ^ 63 = 9223372036854775808 := by decide
    have := h.le
    rw [e]; omega
  · rw [h.len]; have := h.le; simp; show _ ≤ 16777216; omega
  · refine okFold_const (P_highestRents_s7 W o) (Ok_highestRents_8 W o) (fun _ t => t.length = n) (fun k t ht => (hr_round h p ht).2.1) _ _ 0 s2 fun j t _ _ ht => (hr_round h p ht).1
  · rw [eH]
    exact BF.rounds_to (rs := fun T i => (Nat.repeat (P_highestRents_s7 W o) T (P_highestRents_l3 W o)).getD (b i) 0) h.pos dd_self hnc s3 (fun T => (hr_round h p (len T)).2.2) (by omega) hi
end
/-! the law's -/
section
variable {W : List (List Int)} {n : Nat} {o : List Int} {b : Nat → Nat} (h : Wt W n) (p : Pr o n b) (hb : (P_LDue_l6 W).1 = some o)
include h p hb
theorem ld_o {i : Nat} (hi : i < n) : ixZ (getO ((P_LDue_l6 W).1)) (i : Int) = (b i : Int) := by
  rw [hb, getO_some, ixZ_nat]; exact p.eq i hi
theorem ld_start : P_LDue_v7 W = (List.range n).map (uu W b) := by
  unfold P_LDue_v7
  rw [h.len, rngZ_nat, List.map_map]
  refine List.map_congr_left fun i hi => ?_
  have hi : i < n := by simpa using hi
  show ixZ (ixZ W (i : Int)) (ixZ _ (i : Int)) = _
  rw [ld_o h p hb hi, (h.ix2 hi (p.lt i hi)).2]; rfl
theorem ld_one {t : List Int} (ht : t.length = n) {i k : Nat} (hi : i < n) (hk : k < n) : P_LDue_v8 W (i : Int) t (k : Int) = t.set i (if t.getD k 0 + dd W b i k < t.getD i 0 then t.getD k 0 + dd W b i k else t.getD i 0) := by
  unfold P_LDue_v8
  rw [ld_o h p hb hi, ld_o h p hb hk, (h.ix2 hi (p.lt i hi)).2, (h.ix2 hi (p.lt k hk)).2, setZ_nat, ixZ_nat t i, ixZ_nat t k]
  show t.set i (if t.getD k 0 + w W i (b i) - w W i (b k) < t.getD i 0 then t.getD k 0 + w W i (b i) - w W i (b k) else t.getD i 0) = _
  have e : t.getD k 0 + w W i (b i) - w W i (b k) = t.getD k 0 + dd W b i k := by unfold dd; omega
  rw [e]
theorem ld_in {t : List Int} (ht : t.length = n) {i : Nat} (hi : i < n) : ∀ m, m ≤ n → ∃ x : Int, (List.range m).foldl (fun t (k : Nat) => P_LDue_v8 W (i : Int) t (k : Int)) t = t.set i x ∧ x ≤ t.getD i 0 ∧ (∀ k, k < m → x ≤ t.getD k 0 + dd W b i k) ∧ ∃ k, k < n ∧ x = t.getD k 0 + dd W b i k := by
  intro m
  induction m with
  | zero =>
    intro _
    refine ⟨t.getD i 0, ?_, Int.le_refl _, fun k hk => by omega, i, hi, by rw [dd_self]; omega⟩
    show t = _
    rw [getD_eq (by omega)]; simp
  | succ m ih =>
    intro hm
    obtain ⟨x, h1, h2, h3, k0, h4, h5⟩ := ih (by omega)
    have hlen : (t.set i x).length = n := by rw [List.length_set]; exact ht
    rw [range_fold, h1, ld_one h p hb hlen hi (by omega : m < n), List.set_set]
    have g1 : (t.set i x).getD i 0 = x := by rw [set_getD (by omega), if_pos rfl]
    have g2 : (t.set i x).getD m 0 = if i = m then x else t.getD m 0 := set_getD (by omega)
    rw [g1, g2]
    by_cases e : i = m
    · subst e
      rw [if_pos rfl, dd_self]
      have : ¬ (x + 0 < x) := by omega
      rw [if_neg this]
      refine ⟨x, rfl, h2, fun k hk => ?_, k0, h4, h5⟩
      by_cases ek : k = i
      · subst ek; rw [dd_self]; omega
      · exact h3 k (by omega)
    · rw [if_neg e]
      by_cases hlt : t.getD m 0 + dd W b i m < x
      · rw [if_pos hlt]
        refine ⟨_, rfl, by omega, fun k hk => ?_, m, by omega, rfl⟩
        by_cases ek : k = m
        · subst ek; exact Int.le_refl _
        · have := h3 k (by omega); omega
      · rw [if_neg hlt]
        refine ⟨x, rfl, h2, fun k hk => ?_, k0, h4, h5⟩
        by_cases ek : k = m
        · subst ek; omega
        · exact h3 k (by omega)
theorem ld_isSome : ((P_LDue_l6 W).1).isSome = true := by rw [hb]; rfl
theorem ld_round {t : List Int} (ht : t.length = n) : Ok_LDue_13 W t ∧ (P_LDue_l12 W t).length = n ∧
    ∃ st : Nat → Nat → Int, (st 0 = fun i => t.getD i 0) ∧ (st n = fun i => (P_LDue_l12 W t).getD i 0) ∧ ∀ m, m < n → BF.Step n (dd W b) (st m) (st (m + 1)) m := by
  have eI : ∀ (t : List Int) (i : Int), P_LDue_l10 W t i = (List.range n).foldl (fun t (k : Nat) => P_LDue_v8 W i t (k : Int)) t := by
    intro t i; unfold P_LDue_l10; rw [h.len, rngZ_nat, List.foldl_map]
  have one : ∀ {t : List Int}, t.length = n → ∀ i, i < n → ∃ x : Int, P_LDue_l10 W t (i : Int) = t.set i x ∧ (∀ k, k < n → x ≤ t.getD k 0 + dd W b i k) ∧ ∃ k, k < n ∧ x = t.getD k 0 + dd W b i k := by
    intro t ht i hi
    obtain ⟨x, h1, _, h3, h4⟩ := ld_in h p hb ht hi n (Nat.le_refl n)
    exact ⟨x, by rw [eI, h1], h3, h4⟩
  have len : ∀ m, m ≤ n → ((List.range m).foldl (fun t (i : Nat) => P_LDue_l10 W t (i : Int)) t).length = n := by
    intro m
    induction m with
    | zero => exact fun _ => ht
    | succ m ih =>
      intro hm
      obtain ⟨x, h1, _⟩ := one (ih (by omega)) m (by omega)
      rw [range_fold, h1, List.length_set]; exact ih (by omega)
  have eS : P_LDue_l12 W t = (List.range n).foldl (fun t (i : Nat) => P_LDue_l10 W t (i : Int)) t := by
    unfold P_LDue_l12; rw [h.len, rngZ_nat, List.foldl_map]
  have sm := h.le
  refine ⟨⟨by rw [h.len]; exact h.big, ?_⟩, by rw [eS]; exact len n (Nat.le_refl n), fun m i => ((List.range m).foldl (fun t (i : Nat) => P_LDue_l10 W t (i : Int)) t).getD i 0, rfl, by rw [eS], fun m hm => ?_⟩
  · rw [h.len, rngZ_nat, okFold_map]
    refine (okFold_inv (fun t => t.length = n) _ _ ht fun t i hi ht => ?_).1
    have hi : i < n := by simpa using hi
    obtain ⟨x, h1, _⟩ := one ht i hi
    refine ⟨⟨by rw [h.len]; exact h.big, ?_⟩, by rw [h1, List.length_set]; exact ht⟩
    rw [h.len, rngZ_nat, okFold_map]
    refine (okFold_inv (fun t => t.length = n) _ _ ht fun t k hk ht => ?_).1
    have hk : k < n := by simpa using hk
    refine ⟨⟨InR_nat (by omega), InR_nat (by omega), (h.ix1 hi).1, ld_isSome h p hb, by rw [hb]; exact InR_nat (by rw [getO_some, p.len]; exact hi), by rw [ld_o h p hb hi]; exact (h.ix2 hi (p.lt i hi)).1, by rw [hb]; exact InR_nat (by rw [getO_some, p.len]; exact hk), by rw [ld_o h p hb hk]; exact (h.ix2 hi (p.lt k hk)).1⟩, ?_⟩
    show (P_LDue_v8 W (i : Int) t (k : Int)).length = n
    rw [ld_one h p hb ht hi hk, List.length_set]; exact ht
  · obtain ⟨x, h1, h2, k, hk, h3⟩ := one (len m (by omega)) m hm
    have e : ∀ j, ((List.range (m + 1)).foldl (fun t (i : Nat) => P_LDue_l10 W t (i : Int)) t).getD j 0 = if m = j then x else ((List.range m).foldl (fun t (i : Nat) => P_LDue_l10 W t (i : Int)) t).getD j 0 := by
      intro j
      rw [range_fold, h1, set_getD (by rw [len m (by omega)]; exact hm)]
    refine ⟨fun j hj hne => ?_, fun k hk => ?_, k, hk, ?_⟩
    · exact (e j).trans (if_neg fun z => hne z.symm)
    · show List.getD _ m 0 ≤ _
      rw [e m, if_pos rfl]; exact h2 k hk
    · show List.getD _ m 0 = _
      rw [e m, if_pos rfl]; exact h3
theorem ld_spec (hnc : BF.NC n (dd W b)) : okFold (fun t13 x15 => Ok_LDue_13 W t13) (fun t13 (x15 : Int) => P_LDue_l12 W t13) (P_LDue_v7 W) (rngZ 0 ((W.length : Int) + 1)) ∧ P_LDue_l14 W = (List.range n).map (De W n b) := by
  have s2 : (P_LDue_v7 W).length = n := by rw [ld_start h p hb]; simp
  have s3 : ∀ i, i < n → (P_LDue_v7 W).getD i 0 = uu W b i := fun i hi => by rw [ld_start h p hb]; simp [List.getD, hi]
  have len : ∀ T, (Nat.repeat (P_LDue_l12 W) T (P_LDue_v7 W)).length = n := by
    intro T
    induction T with
    | zero => exact s2
    | succ T ih => exact (ld_round h p hb ih).2.1
  have e1 : ((W.length : Int) + 1) = ((n + 1 : Nat) : Int) := by rw [h.len]; omega
  refine ⟨okFold_const (P_LDue_l12 W) (Ok_LDue_13 W) (fun _ t => t.length = n) (fun k t ht => (ld_round h p hb ht).2.1) _ _ 0 s2 fun j t _ _ ht => (ld_round h p hb ht).1, ?_⟩
  have eH : P_LDue_l14 W = Nat.repeat (P_LDue_l12 W) (n + 1) (P_LDue_v7 W) := by
    unfold P_LDue_l14
    rw [foldl_const, e1, rngZ_len]
  refine ext_getD (n := n) 0 (by rw [eH]; exact len _) (by simp) fun i hi => ?_
  rw [eH]
  have := BF.rounds_to (rs := fun T i => (Nat.repeat (P_LDue_l12 W) T (P_LDue_v7 W)).getD i 0) h.pos dd_self hnc s3 (fun T => (ld_round h p hb (len T)).2.2) (T := n + 1) (by omega) hi
  rw [this]; simp [List.getD, hi, De]
end
end K62

namespace K62
open PySem PySem.Spec PyProof.Rows L2 DV
section
variable {W : List (List Int)} {n : Nat} {o : List Int} {b : Nat → Nat} (h : Wt W n) (p : Pr o n b)
include h p
theorem P_low : ∀ (t i : Nat), i < n → -(12 * (t : Int)) ≤ BF.P n (dd W b) (uu W b) t i
  | 0, i, hi => by
    have := (h.sm i (b i) hi (p.lt i hi)).1
    show _ ≤ w W i (b i); omega
  | t + 1, i, hi => by
    obtain ⟨k, hk, e⟩ := BF.mn_ex (fun k => BF.P n (dd W b) (uu W b) t k + dd W b i k) n h.pos
    show _ ≤ BF.mn _ n
    rw [e]
    have := P_low t k hk
    have h1 := (h.sm i (b i) hi (p.lt i hi)).1
    have h2 := (h.sm i (b k) hi (p.lt k hk)).2
    have h3 : dd W b i k = w W i (b i) - w W i (b k) := rfl
    omega
theorem De_small (hnc : BF.NC n (dd W b)) {i : Nat} (hi : i < n) : -36 ≤ De W n b i ∧ De W n b i ≤ 11 := by
  have h1 := P_low h p (n - 1) i hi
  have h2 := BF.D_u (u := uu W b) h.pos dd_self hnc hi
  have h3 := (h.sm i (b i) hi (p.lt i hi)).2
  have h4 := h.le
  have h5 : De W n b i = BF.P n (dd W b) (uu W b) (n - 1) i := rfl
  have h6 : De W n b i = BF.D n (dd W b) (uu W b) i := rfl
  have h7 : uu W b i = w W i (b i) := rfl
  omega
theorem De_bits (hnc : BF.NC n (dd W b)) {i : Nat} (hi : i < n) : (De W n b i).natAbs < 2 ^ 6 := by
  have := De_small h p hnc hi
  have e : (2 : Nat) ^ 6 = 64 := by decide
  rw [e]; omega
end
/-- the sum of the rents that are due -/
def Ss (W : List (List Int)) (n : Nat) (b : Nat → Nat) : Int := BF.sumN n (De W n b)
/-- what is taken off each -/
def Vv (W : List (List Int)) (n : Nat) (b : Nat → Nat) (q : Rat) : Rat := ((Ss W n b : Int) - q) * ((n : Int) : Rat)⁻¹
theorem inv_nat {n : Nat} (hn : 0 < n) : ofQ (((n : Int) : Rat)⁻¹) = (1, (n : Int)) := by
  rw [Rat.inv_def]
  have e1 : ((n : Int) : Rat).num = (n : Int) := by simp
  have e2 : ((n : Int) : Rat).den = 1 := by simp
  rw [e1, e2, ofQ_divInt (by omega)]
  simp [Int.gcd]
theorem inv_bits {n : Nat} (hn : 0 < n) (h4 : n ≤ 4) : QB 3 (((n : Int) : Rat)⁻¹) := by
  have e := inv_nat hn
  have e1 : (((n : Int) : Rat)⁻¹).num = 1 := congrArg Prod.fst e
  have e2 : ((((n : Int) : Rat)⁻¹).den : Int) = n := congrArg Prod.snd e
  exact ⟨by rw [e1]; decide, by have : (2 : Nat) ^ 3 = 8 := by decide
                                omega⟩
theorem sum_bound : ∀ (l : List Int) (m : Nat), (∀ x ∈ l, x.natAbs ≤ m) → l.sum.natAbs ≤ l.length * m
  | [], _, _ => by simp
  | x :: l, m, h => by
    have := sum_bound l m fun y hy => h y (by simp [hy])
    have := h x (by simp)
    rw [List.sum_cons, List.length_cons, Nat.succ_mul]
    omega
section
variable {W : List (List Int)} {n : Nat} {o : List Int} {b : Nat → Nat} (h : Wt W n) (p : Pr o n b) (hnc : BF.NC n (dd W b))
include h p hnc
theorem Ss_bits : (Ss W n b).natAbs < 2 ^ 8 := by
  have := sum_bound ((List.range n).map (De W n b)) 36 fun x hx => by
    obtain ⟨i, hi, rfl⟩ := List.mem_map.mp hx
    have := De_small h p hnc (List.mem_range.mp hi)
    omega
  have h4 := h.le
  have e : (2 : Nat) ^ 8 = 256 := by decide
  unfold Ss BF.sumN
  rw [e]
  simp only [List.length_map, List.length_range] at this
  have : n * 36 ≤ 4 * 36 := Nat.mul_le_mul_right _ h4
  omega
theorem V_bits {q : Rat} (hq : QB 8 q) : QB 20 (Vv W n b q) := by
  have h1 : QB 8 ((Ss W n b : Int) : Rat) := QB.int (Ss_bits h p hnc) (by decide)
  exact (h1.sub hq).mul (inv_bits h.pos h.le)
theorem one_bits {q : Rat} (hq : QB 8 q) {i : Nat} (hi : i < n) : QB 27 ((De W n b i : Int) - Vv W n b q) := (QB.int (De_bits h p hnc hi) (by decide)).sub (V_bits h p hnc hq)
/-- the program's -/
theorem hr_sum : (P_highestRents W o).sum = Ss W n b := by
  obtain ⟨_, h1, h2⟩ := hr_spec h p hnc
  have e1 : P_highestRents W o = (List.range n).map fun r => (P_highestRents W o).getD r 0 := ext_getD (n := n) 0 h1 (by simp) fun i hi => by simp [List.getD, hi]
  have e2 : ((List.range n).map b).Perm (List.range n) := by
    refine (BF.perm_of_sub List.nodup_range (fun k hk => ?_) (by simp)).symm
    obtain ⟨i, hi, e⟩ := p.sur k (List.mem_range.mp hk)
    exact List.mem_map.mpr ⟨i, List.mem_range.mpr hi, e⟩
  have e3 := sum_perm (e2.map fun r => (P_highestRents W o).getD r 0)
  rw [← e1, List.map_map] at e3
  rw [← e3]
  unfold Ss BF.sumN
  congr 1
  refine List.map_congr_left fun i hi => ?_
  exact h2 i (List.mem_range.mp hi)
/-- the rents that are due, by rooms -/
def Rr (W : List (List Int)) (n : Nat) (o : List Int) (b : Nat → Nat) (q : Rat) : List Rat := (P_highestRents W o).map fun (x : Int) => (x : Rat) - Vv W n b q
theorem Rr_len {q : Rat} : (Rr W n o b q).length = n := by unfold Rr; rw [List.length_map]; exact (hr_spec h p hnc).2.1
theorem Rr_at {q : Rat} {i : Nat} (hi : i < n) : (Rr W n o b q).getD (b i) 0 = (De W n b i : Int) - Vv W n b q := by
  obtain ⟨_, h1, h2⟩ := hr_spec h p hnc
  have hb := p.lt i hi
  have := h2 i hi
  unfold Rr
  rw [getD_eq (by rw [List.length_map]; omega), List.getElem_map]
  rw [getD_eq (by omega)] at this
  rw [this]
theorem Rr_bits {q : Rat} (hq : QB 8 q) : ∀ r ∈ Rr W n o b q, QB 27 r := by
  intro r hr
  obtain ⟨k, hk, e⟩ := List.getElem_of_mem hr
  rw [Rr_len h p hnc] at hk
  obtain ⟨i, hi, e2⟩ := p.sur k hk
  have := Rr_at h p hnc (q := q) hi
  rw [e2, getD_eq (by rw [Rr_len h p hnc]; exact hk), e] at this
  rw [this]; exact one_bits h p hnc hq hi
theorem ll_spec (hP : P_bestPairing W = o) (hO : Ok_bestPairing W) {q : Rat} (hq : QB 8 q) : Ok_leastLeft W (ofQ q) ∧ P_leastLeft W (ofQ q) = (ofQ (Vv W n b q), (Rr W n o b q).map ofQ) := by
  obtain ⟨r0, r1, r2⟩ := hr_spec h p hnc
  have e1 : P_leastLeft_v1 W = P_highestRents W o := by unfold P_leastLeft_v1; rw [hP]
  have es : ((P_highestRents W o).sum, (1 : Int)) = ofQ ((Ss W n b : Int) : Rat) := by rw [hr_sum h p hnc, ofQ_int]
  have en : (((P_highestRents W o).length : Int), (1 : Int)) = ofQ ((n : Int) : Rat) := by rw [r1, ofQ_int]
  have b1 : QB 8 ((Ss W n b : Int) : Rat) := QB.int (Ss_bits h p hnc) (by decide)
  have b2 : QB 3 ((n : Int) : Rat) := QB.int (by have := h.le; have e : (2 : Nat) ^ 3 = 8 := by decide
                                                 rw [e]; omega) (by decide)
  obtain ⟨m1, m2⟩ := minus_Q b1 hq (by decide)
  obtain ⟨i1, i2⟩ := inverse_Q b2 (by have := h.pos; intro e; have : ((n : Int) : Rat).num = 0 := by rw [e]; rfl
                                      simp at this; omega) (by decide)
  obtain ⟨t1, t2⟩ := times_Q (b1.sub hq) (inv_bits h.pos h.le) (by decide)
  have ev : P_leastLeft_v2 W (ofQ q) = ofQ (Vv W n b q) := by
    unfold P_leastLeft_v2
    rw [e1, es, en, m2, i2, t2]; rfl
  have em : ∀ x ∈ P_highestRents W o, Ok_minus (x, 1) (ofQ (Vv W n b q)) ∧ P_minus (x, 1) (ofQ (Vv W n b q)) = ofQ ((x : Rat) - Vv W n b q) := by
    intro x hx
    have hxb : x.natAbs < 2 ^ 6 := by
      obtain ⟨k, hk, e⟩ := List.getElem_of_mem hx
      rw [r1] at hk
      obtain ⟨i, hi, e2⟩ := p.sur k hk
      have := r2 i hi
      rw [e2, getD_eq (by omega), e] at this
      rw [this]; exact De_bits h p hnc hi
    rw [← ofQ_int x]
    exact minus_Q (QB.int hxb (by decide)) (V_bits h p hnc hq) (by decide)
  refine ⟨⟨hO, by rw [hP]; exact r0, by rw [e1, es]; exact m1, by rw [e1, en]; exact i1, by rw [e1, es, en, m2, i2]; exact t1, ?_, ?_⟩, ?_⟩
  · rw [e1, ev]; exact fun x hx => (em x hx).1
  · rw [e1, r1]; have := h.le; show _ ≤ 16777216; omega
  · unfold P_leastLeft
    rw [ev, e1]
    congr 1
    unfold Rr
    rw [List.map_map]
    exact List.map_congr_left fun x hx => (em x hx).2
theorem rp_spec (hP : P_bestPairing W = o) (hO : Ok_bestPairing W) {q : Rat} (hq : QB 8 q) : Ok_rentsPaper W (ofQ q) ∧ P_rentsPaper W (ofQ q) = (sx_rents, o, (Rr W n o b q).map ofQ) := by
  obtain ⟨h1, h2⟩ := ll_spec h p hnc hP hO hq
  refine ⟨⟨hO, h1⟩, ?_⟩
  unfold P_rentsPaper
  rw [hP, h2]
theorem due_spec (hb : (P_LDue_l6 W).1 = some o) (hO : Ok_LOrders (n : Int) ∧ okFold (fun t1 x3 => Ok_LDue_5 W t1 x3) (fun t1 x3 => P_LDue_s4 W t1 x3) (none, none) (P_LOrders (n : Int))) {q : Rat} (hq : QB 8 q) :
    Ok_LDue W (ofQ q) ∧ P_LDue W (ofQ q) = (o, (Rr W n o b q).map ofQ, ofQ (Vv W n b q)) := by
  obtain ⟨l1, l2⟩ := ld_spec h p hb hnc
  have hlen : (P_LDue_l14 W).length = n := by rw [l2]; simp
  have hat : ∀ i, i < n → ixZ (P_LDue_l14 W) (i : Int) = De W n b i := by
    intro i hi
    rw [ixZ_nat, l2]; simp [List.getD, hi]
  have es : ((P_LDue_l14 W).sum, (1 : Int)) = ofQ ((Ss W n b : Int) : Rat) := by rw [l2, ofQ_int]; rfl
  have en : ((1 : Int), (W.length : Int)) = ofQ (((n : Int) : Rat)⁻¹) := by rw [inv_nat h.pos, h.len]
  have b1 : QB 8 ((Ss W n b : Int) : Rat) := QB.int (Ss_bits h p hnc) (by decide)
  obtain ⟨m1, m2⟩ := lminus_Q b1 hq (by decide)
  obtain ⟨t1, t2⟩ := ltimes_Q (b1.sub hq) (inv_bits h.pos h.le) (by decide)
  have ev : P_LDue_v15 W (ofQ q) = ofQ (Vv W n b q) := by
    unfold P_LDue_v15
    rw [es, en, m2, t2]; rfl
  have em : ∀ i, i < n → Ok_LMinus (ixZ (P_LDue_l14 W) (i : Int), 1) (ofQ (Vv W n b q)) ∧ P_LMinus (ixZ (P_LDue_l14 W) (i : Int), 1) (ofQ (Vv W n b q)) = ofQ ((De W n b i : Int) - Vv W n b q) := by
    intro i hi
    rw [hat i hi, ← ofQ_int]
    exact lminus_Q (QB.int (De_bits h p hnc hi) (by decide)) (V_bits h p hnc hq) (by decide)
  have l0 : (P_LDue_v16 W).length = n := by unfold P_LDue_v16 repZ; rw [h.len]; simp
  have sm := h.le
  -- the rows as they are filled
  have fill : ∀ m, m ≤ n → ((List.range m).foldl (fun t (i : Nat) => P_LDue_v17 W (ofQ q) t (i : Int)) (P_LDue_v16 W)).length = n ∧ ∀ j, j < m → ((List.range m).foldl (fun t (i : Nat) => P_LDue_v17 W (ofQ q) t (i : Int)) (P_LDue_v16 W)).getD (b j) none = some (ofQ ((De W n b j : Int) - Vv W n b q)) := by
    intro m
    induction m with
    | zero => exact fun _ => ⟨l0, fun j hj => by omega⟩
    | succ m ih =>
      intro hm
      obtain ⟨i1, i2⟩ := ih (by omega)
      rw [range_fold]
      have e1 : ∀ t, P_LDue_v17 W (ofQ q) t (m : Int) = t.set (b m) (some (ofQ ((De W n b m : Int) - Vv W n b q))) := by
        intro t; unfold P_LDue_v17
        rw [ld_o h p hb (by omega), ev, (em m (by omega)).2, setZ_nat]
      rw [e1]
      refine ⟨by rw [List.length_set]; exact i1, fun j hj => ?_⟩
      rw [set_getD (by rw [i1]; exact p.lt m (by omega))]
      by_cases e : b m = b j
      · have := p.inj m j (by omega) (by omega) e
        subst this; rw [if_pos rfl]
      · rw [if_neg e]
        have : j ≠ m := fun z => e (by rw [z])
        exact i2 j (by omega)
  have eF : P_LDue_l19 W (ofQ q) = (List.range n).foldl (fun t (i : Nat) => P_LDue_v17 W (ofQ q) t (i : Int)) (P_LDue_v16 W) := by
    unfold P_LDue_l19
    rw [h.len, rngZ_nat, List.foldl_map]
  obtain ⟨f1, f2⟩ := fill n (Nat.le_refl n)
  rw [← eF] at f1 f2
  have eR : P_LDue_l19 W (ofQ q) = ((Rr W n o b q).map ofQ).map some := by
    refine ext_getD (n := n) none f1 (by rw [List.length_map, List.length_map, Rr_len h p hnc]) fun k hk => ?_
    obtain ⟨i, hi, e⟩ := p.sur k hk
    rw [← e, f2 i hi]
    have h5 := Rr_at h p hnc (q := q) hi
    rw [getD_eq (by rw [Rr_len h p hnc]; exact p.lt i hi)] at h5
    rw [getD_eq (by rw [List.length_map, List.length_map, Rr_len h p hnc]; exact p.lt i hi), List.getElem_map, List.getElem_map, h5]
  refine ⟨⟨by rw [h.len]; exact hO.1, by rw [h.len]; exact hO.2, by rw [h.len]; exact h.big, fun z hz => ?_, by rw [h.len, rngZ_len]; show _ ≤ 16777216; omega, ?_, l1, by rw [es]; exact m1, by rw [es, en, m2]; exact t1, ⟨?_, ?_, ?_⟩, ?_, ld_isSome h p hb, ?_⟩, ?_⟩
  · rw [h.len] at hz
    obtain ⟨i, hi, rfl⟩ := mem_rngN.mp hz
    exact ⟨(h.ix1 hi).1, ld_isSome h p hb, by rw [hb]; exact InR_nat (by rw [getO_some, p.len]; exact hi), by rw [ld_o h p hb hi]; exact (h.ix2 hi (p.lt i hi)).1⟩
  · rw [h.len]; have := i62_nat (n := n + 1) (by omega); simpa using this
  · rw [h.len]; have e : (2 : Int) ^ 63 = 9223372036854775808 := by decide
    rw [e]; omega
  · rw [h.len]; have e : (2 : Int) ^ 63 = 9223372036854775808 := by decide
    rw [e]; omega
  · rw [h.len]; simp; show _ ≤ 16777216; omega
  · rw [h.len, rngZ_nat, okFold_map]
    refine (okFold_inv (fun t => t.length = n) _ _ l0 fun t i hi ht => ?_).1
    have hi : i < n := by simpa using hi
    refine ⟨⟨InR_nat (by omega), by rw [ev]; exact (em i hi).1, ld_isSome h p hb, by rw [hb]; exact InR_nat (by rw [getO_some, p.len]; exact hi), by rw [ld_o h p hb hi]; exact InR_nat (by rw [ht]; exact p.lt i hi)⟩, ?_⟩
    show (setZ t _ _).length = n
    rw [ld_o h p hb hi, setZ_nat, List.length_set]; exact ht
  · rw [eR]
    intro x hx
    obtain ⟨y, _, rfl⟩ := List.mem_map.mp hx
    rfl
  · unfold P_LDue
    rw [hb, eR, ev, getO_some]
    congr 2
    rw [List.map_map]
    have : (getO ∘ some : Int × Int → Int × Int) = id := rfl
    rw [this, List.map_id]
/-- the rents' sum is the rent, and nobody would have another's -/
theorem Rr_sum {q : Rat} : (Rr W n o b q).sum = q := by
  have e0 : ∀ (l : List Int) (v : Rat), (l.map fun (x : Int) => (x : Rat) - v).sum = ((l.sum : Int) : Rat) - ((l.length : Int) : Rat) * v := by
    intro l v
    induction l with
    | nil => simp; grind
    | cons x l ih =>
      rw [List.map_cons, List.sum_cons, ih, List.sum_cons, List.length_cons]
      push_cast
      grind
  unfold Rr
  rw [e0, hr_sum h p hnc, (hr_spec h p hnc).2.1]
  unfold Vv
  have hn : ((n : Int) : Rat) ≠ 0 := by
    have := h.pos; intro e; have : ((n : Int) : Rat).num = 0 := by rw [e]; rfl
    simp at this; omega
  have : ((n : Int) : Rat) * ((((Ss W n b : Int) : Rat) - q) * ((n : Int) : Rat)⁻¹) = ((Ss W n b : Int) : Rat) - q := by
    rw [Rat.mul_comm, Rat.mul_assoc, Rat.inv_mul_cancel _ hn, Rat.mul_one]
  rw [this]; grind
theorem Rr_fit {q : Rat} {i k : Nat} (hi : i < n) (hk : k < n) : ((w W i (b k) : Int) : Rat) - (Rr W n o b q).getD (b k) 0 ≤ ((w W i (b i) : Int) : Rat) - (Rr W n o b q).getD (b i) 0 := by
  rw [Rr_at h p hnc hi, Rr_at h p hnc hk]
  have := BF.D_fit (u := uu W b) h.pos dd_self hnc hi hk
  have h2 : De W n b i ≤ De W n b k + (w W i (b i) - w W i (b k)) := this
  have h3 : ((De W n b i : Int) : Rat) ≤ ((De W n b k + (w W i (b i) - w W i (b k)) : Int) : Rat) := by exact_mod_cast h2
  push_cast at h3
  grind
end
end K62

namespace K62
open PySem PySem.Spec PyProof.Rows L2 DV
/-! any values as fractions -/
theorem isRatio_spec (y : AV) : Ok_isRatio y ∧ (P_isRatio y = true ↔ ∃ q : Rat, QA y q) := by
  by_cases ht : y.isTup = true
  rotate_left
  · have ht : y.isTup = false := by simpa using ht
    refine ⟨⟨fun e => by simp [ht] at e, fun e => by simp [ht] at e⟩, ?_⟩
    unfold P_isRatio
    simp only [ht, Bool.not_false, Bool.true_or, cond_true]
    exact ⟨fun e => by simp at e, fun ⟨q, hq⟩ => by rw [hq.tup.1] at ht; simp at ht⟩
  by_cases hl : y.items.length = 2
  rotate_left
  · have hl' : decide ((y.items.length : Int) = 2) = false := decide_eq_false (by omega)
    refine ⟨⟨fun _ => ⟨ht, fun e => by simp [hl'] at e⟩, fun e => by simp [hl'] at e⟩, ?_⟩
    unfold P_isRatio
    simp only [ht, hl', Bool.not_true, Bool.not_false, Bool.false_or, Bool.true_or, cond_true]
    exact ⟨fun e => by simp at e, fun ⟨q, hq⟩ => absurd hq.tup.2.1 hl⟩
  have hl' : decide ((y.items.length : Int) = 2) = true := decide_eq_true (by omega)
  have r0 : InR y.items 0 := InR_nat (i := 0) (by omega)
  have r1 : InR y.items 1 := InR_nat (i := 1) (by omega)
  have e2 := AV.tup2 ht hl
  have c0 : P_isInteger (ixZ y.items 0) = (ixZ y.items 0).isI := AV.isI_iff _
  have c1 : P_isInteger (ixZ y.items 1) = (ixZ y.items 1).isI := AV.isI_iff _
  have bits : (ixZ y.items 1).int.natAbs < BIG := big_bits (n := 40) (by have := AV.int_lt (ixZ y.items 1); have e : (2 : Nat) ^ 40 = 1099511627776 := by decide
                                                                         rw [e]; exact this) (by decide)
  by_cases h0 : (ixZ y.items 0).isI = true
  rotate_left
  · have h0 : (ixZ y.items 0).isI = false := by simpa using h0
    refine ⟨⟨fun _ => ⟨ht, fun _ => ⟨ht, r0, fun e => by rw [c0, h0] at e; simp at e⟩⟩, fun e => by rw [c0, h0] at e; simp at e⟩, ?_⟩
    unfold P_isRatio
    simp only [ht, hl', c0, h0, Bool.not_true, Bool.not_false, Bool.false_or, Bool.true_or, cond_true]
    exact ⟨fun e => by simp at e, fun ⟨q, hq⟩ => by rw [hq.tup.2.2.1] at h0; simp at h0⟩
  by_cases h1 : (ixZ y.items 1).isI = true
  rotate_left
  · have h1 : (ixZ y.items 1).isI = false := by simpa using h1
    refine ⟨⟨fun _ => ⟨ht, fun _ => ⟨ht, r0, fun _ => ⟨ht, r1⟩⟩⟩, fun e => by rw [c1, h1] at e; simp at e⟩, ?_⟩
    unfold P_isRatio
    simp only [ht, hl', c0, h0, c1, h1, Bool.not_true, Bool.not_false, Bool.false_or, cond_true]
    exact ⟨fun e => by simp at e, fun ⟨q, hq⟩ => by rw [hq.tup.2.2.2.2.1] at h1; simp at h1⟩
  have cd : 0 < (ixZ y.items 1).int → Ok_commonDivisor (ixZ y.items 0).int (ixZ y.items 1).int ∧ P_commonDivisor (ixZ y.items 0).int (ixZ y.items 1).int = (Int.gcd (ixZ y.items 0).int (ixZ y.items 1).int : Int) := fun hp => cd_Q bits (.inr (by omega))
  refine ⟨⟨fun _ => ⟨ht, fun _ => ⟨ht, r0, fun _ => ⟨ht, r1⟩⟩⟩, fun _ => ⟨ht, r1, h1, fun e => ⟨ht, r0, h0, r1, h1, (cd (by simpa using e)).1⟩⟩⟩, ?_⟩
  unfold P_isRatio
  simp only [ht, hl', c0, h0, c1, h1, Bool.not_true, Bool.false_or, cond_false, Bool.and_eq_true, decide_eq_true_eq]
  constructor
  · rintro ⟨g1, g2⟩
    rw [(cd g1).2] at g2
    refine ⟨toQ ((ixZ y.items 0).int, (ixZ y.items 1).int), ?_⟩
    unfold QA
    rw [ofQ_toQ ⟨g1, by exact_mod_cast g2⟩, e2, AV.i_eq h0, AV.i_eq h1]
  · rintro ⟨q, hq⟩
    obtain ⟨_, _, _, k1, _, k2⟩ := hq.tup
    have hp : 0 < (ixZ y.items 1).int := by rw [k2]; exact den_pos q
    refine ⟨hp, ?_⟩
    rw [(cd hp).2, k1, k2]
    exact_mod_cast (ofQ_ok q).one
theorem areRatios_spec (y : AV) (n : Nat) : Ok_areRatios y (n : Int) ∧ (P_areRatios y (n : Int) = true ↔ ∃ qs : List Rat, RA y qs ∧ qs.length = n) := by
  have hz : y.items.length ≤ LIM := Nat.le_trans y.len_items (by decide)
  refine ⟨fun ht => ⟨ht, fun _ => ⟨ht, fun x _ => (isRatio_spec x).1, hz⟩⟩, ?_⟩
  unfold P_areRatios
  simp only [Bool.and_eq_true, decide_eq_true_eq, List.all_map, List.all_eq_true, Function.comp, id]
  constructor
  · rintro ⟨ht, hl, ha⟩
    have : ∀ z ∈ y.items, ∃ q, QA z q := fun z hz => (isRatio_spec z).2.mp (ha z hz)
    obtain ⟨qs, e, _⟩ := exists_map (f := fun q : Rat => eP2 eI eI (ofQ q)) (Q := fun _ => True) (ys := y.items.map eA) fun d hd => by
      obtain ⟨z, hz, rfl⟩ := List.mem_map.mp hd
      obtain ⟨q, hq⟩ := this z hz
      exact ⟨q, hq, trivial⟩
    refine ⟨qs, ?_, ?_⟩
    · unfold RA
      rw [AV.tup_eq ht]
      show D.tup _ = D.tup _
      rw [e, List.map_map]; rfl
    · have := congrArg List.length e
      simp at this; omega
  · rintro ⟨qs, hq, hl⟩
    refine ⟨hq.tup.1, by rw [hq.tup.2, hl], fun z hz => ?_⟩
    obtain ⟨i, hi, e⟩ := List.getElem_of_mem hz
    have := hq.at (i := i) (by rw [← hq.tup.2]; exact hi)
    rw [ixZ_nat' hi, e] at this
    exact (isRatio_spec z).2.mpr ⟨_, this⟩
theorem lfrac_spec (y : AV) : Ok_LIsFraction y ∧ (P_LIsFraction y = true ↔ ∃ q : Rat, QA y q) := by
  have hz : y.items.length ≤ LIM := Nat.le_trans y.len_items (by decide)
  by_cases ht : y.isTup = true
  rotate_left
  · have ht : y.isTup = false := by simpa using ht
    refine ⟨⟨fun e => by simp [ht] at e, fun e => by simp [ht] at e⟩, ?_⟩
    unfold P_LIsFraction
    simp only [ht, Bool.not_false, Bool.true_or, cond_true]
    exact ⟨fun e => by simp at e, fun ⟨q, hq⟩ => by rw [hq.tup.1] at ht; simp at ht⟩
  by_cases hl : y.items.length = 2
  rotate_left
  · have hl' : decide ((y.items.length : Int) = 2) = false := decide_eq_false (by omega)
    refine ⟨⟨fun _ => ⟨ht, fun e => by simp [hl'] at e⟩, fun e => by simp [hl'] at e⟩, ?_⟩
    unfold P_LIsFraction
    simp only [ht, hl', Bool.not_true, Bool.not_false, Bool.false_or, Bool.true_or, cond_true]
    exact ⟨fun e => by simp at e, fun ⟨q, hq⟩ => absurd hq.tup.2.1 hl⟩
  have hl' : decide ((y.items.length : Int) = 2) = true := decide_eq_true (by omega)
  have r0 : InR y.items 0 := InR_nat (i := 0) (by omega)
  have r1 : InR y.items 1 := InR_nat (i := 1) (by omega)
  have e2 := AV.tup2 ht hl
  have m0 : ixZ y.items 0 ∈ y.items := AV.mem_ix (i := 0) (by omega)
  have m1 : ixZ y.items 1 ∈ y.items := AV.mem_ix (i := 1) (by omega)
  have bits : (ixZ y.items 1).int.natAbs < BIG := big_bits (n := 40) (by have := AV.int_lt (ixZ y.items 1); have e : (2 : Nat) ^ 40 = 1099511627776 := by decide
                                                                         rw [e]; exact this) (by decide)
  have ha : ((y.items.map fun x3 => P_LIsInt x3).all id) = true ↔ ∀ z ∈ y.items, z.isI = true := all_isI y
  by_cases h0 : ((y.items.map fun x3 => P_LIsInt x3).all id) = true
  rotate_left
  · have h0' : ((y.items.map fun x3 => P_LIsInt x3).all id) = false := by simpa using h0
    refine ⟨⟨fun _ => ⟨ht, fun _ => ⟨ht, hz⟩⟩, fun e => by rw [h0'] at e; simp at e⟩, ?_⟩
    unfold P_LIsFraction
    rw [h0']
    simp only [ht, hl', Bool.not_true, Bool.not_false, Bool.false_or, cond_true]
    refine ⟨fun e => by simp at e, fun ⟨q, hq⟩ => absurd (ha.mpr fun z hz => ?_) h0⟩
    obtain ⟨i, hi, e⟩ := List.getElem_of_mem hz
    have hi2 : i < 2 := by omega
    match i, hi2 with
    | 0, _ => have := hq.tup.2.2.1; rw [show (0 : Int) = ((0 : Nat) : Int) from rfl, ixZ_nat' hi, e] at this; exact this
    | 1, _ => have := hq.tup.2.2.2.2.1; rw [show (1 : Int) = ((1 : Nat) : Int) from rfl, ixZ_nat' hi, e] at this; exact this
  have hI := ha.mp h0
  have i0 := hI _ m0
  have i1 := hI _ m1
  have cd : 0 < (ixZ y.items 1).int → Ok_LDivisor (ixZ y.items 0).int (ixZ y.items 1).int ∧ P_LDivisor (ixZ y.items 0).int (ixZ y.items 1).int = (Int.gcd (ixZ y.items 0).int (ixZ y.items 1).int : Int) := fun hp => ld_Q bits (by omega)
  refine ⟨⟨fun _ => ⟨ht, fun _ => ⟨ht, hz⟩⟩, fun _ => ⟨ht, r1, i1, fun e => ⟨ht, r0, i0, r1, i1, (cd (by simpa using e)).1⟩⟩⟩, ?_⟩
  unfold P_LIsFraction
  rw [h0]
  simp only [ht, hl', Bool.not_true, Bool.false_or, cond_false, Bool.and_eq_true, decide_eq_true_eq]
  constructor
  · rintro ⟨g1, g2⟩
    rw [(cd g1).2] at g2
    refine ⟨toQ ((ixZ y.items 0).int, (ixZ y.items 1).int), ?_⟩
    unfold QA
    rw [ofQ_toQ ⟨g1, by exact_mod_cast g2⟩, e2, AV.i_eq i0, AV.i_eq i1]
  · rintro ⟨q, hq⟩
    obtain ⟨_, _, _, k1, _, k2⟩ := hq.tup
    have hp : 0 < (ixZ y.items 1).int := by rw [k2]; exact den_pos q
    refine ⟨hp, ?_⟩
    rw [(cd hp).2, k1, k2]
    exact_mod_cast (ofQ_ok q).one
theorem lrow_spec (y : AV) (n : Nat) : Ok_LIsRow y (n : Int) ∧ (P_LIsRow y (n : Int) = true ↔ ∃ qs : List Rat, RA y qs ∧ qs.length = n) := by
  have hz : y.items.length ≤ LIM := Nat.le_trans y.len_items (by decide)
  refine ⟨fun ht => ⟨ht, fun _ => ⟨ht, fun x _ => (lfrac_spec x).1, hz⟩⟩, ?_⟩
  unfold P_LIsRow
  simp only [Bool.and_eq_true, decide_eq_true_eq, List.all_map, List.all_eq_true, Function.comp, id]
  constructor
  · rintro ⟨ht, hl, ha⟩
    have : ∀ z ∈ y.items, ∃ q, QA z q := fun z hz => (lfrac_spec z).2.mp (ha z hz)
    obtain ⟨qs, e, _⟩ := exists_map (f := fun q : Rat => eP2 eI eI (ofQ q)) (Q := fun _ => True) (ys := y.items.map eA) fun d hd => by
      obtain ⟨z, hz, rfl⟩ := List.mem_map.mp hd
      obtain ⟨q, hq⟩ := this z hz
      exact ⟨q, hq, trivial⟩
    refine ⟨qs, ?_, ?_⟩
    · unfold RA
      rw [AV.tup_eq ht]
      show D.tup _ = D.tup _
      rw [e, List.map_map]; rfl
    · have := congrArg List.length e
      simp at this; omega
  · rintro ⟨qs, hq, hl⟩
    refine ⟨hq.tup.1, by rw [hq.tup.2, hl], fun z hz => ?_⟩
    obtain ⟨i, hi, e⟩ := List.getElem_of_mem hz
    have := hq.at (i := i) (by rw [← hq.tup.2]; exact hi)
    rw [ixZ_nat' hi, e] at this
    exact (lfrac_spec z).2.mpr ⟨_, this⟩
end K62

namespace K62
open PySem PySem.Spec PyProof.Rows L2 DV
def room (o : List Int) (i : Nat) : Nat := (o.getD i 0).toNat
/-- value is a right paper: its pairing, its rents -/
structure Right (W : List (List Int)) (n : Nat) (q : Rat) (o : List Int) (rs : List Rat) : Prop where
  perm : o.Perm (rngZ 0 (n : Int))
  len : rs.length = n
  sum : rs.sum = q
  fit : ∀ i k, i < n → k < n → ((w W i k : Int) : Rat) - rs.getD k 0 ≤ ((w W i (room o i) : Int) : Rat) - rs.getD (room o i) 0
def Shape (v : AV) (o : List Int) (rs : List Rat) : Prop := v.1 = .tup [.str sx_rents.1, eT eI o, eT (eP2 eI eI) (rs.map ofQ)]
theorem cut3 {v : AV} (hl : v.items.length = 3) : cutZ v.items (some 1) none = [ixZ v.items 1, ixZ v.items 2] := by
  conv => lhs; rw [len3 hl]
  rfl
section
variable {W : List (List Int)} {n : Nat} (h : Wt W n) {q : Rat} (hq : QB 9 q)
theorem room_eq {o : List Int} {b : Nat → Nat} (p : Pr o n b) {i : Nat} (hi : i < n) : room o i = b i := by unfold room; rw [p.eq i hi]; simp
include h
theorem w_bits {i k : Nat} (hi : i < n) (hk : k < n) : QB 5 ((w W i k : Int) : Rat) := by
  have := h.sm i k hi hk
  exact QB.int (Nat.lt_of_le_of_lt (by omega : (w W i k).natAbs ≤ 12) (by decide)) (by decide)
/-- the loops of the program's judge -/
theorem judge_loop {v x1 x2 : AV} {o : List Int} {rs : List Rat} {b : Nat → Nat} (e1 : P_judgeRents_v1 v = x1) (e2 : P_judgeRents_v2 v = x2) (i1 : IA x1 o) (p : Pr o n b) (r2 : RA x2 rs) (hr : rs.length = n) :
    okFor (fun (t14 : Unit) (x16 : (Int × AV)) => (Ok_judgeRents_7 W v x16)) (fun (t14 : Unit) (x16 : (Int × AV)) => ((P_judgeRents_s6 W v x16) : (Lo Unit Bool))) () (enumZ ((P_judgeRents_v1 v).items)) ∧
    ((P_judgeRents_l8 W v).fin (fun _ => true) = true ↔ ∀ i k, i < n → k < n → ((w W i k : Int) : Rat) - rs.getD k 0 ≤ ((w W i (b i) : Int) : Rat) - rs.getD (b i) 0) := by
  have rb := r2.bits
  have gb : ∀ k, k < n → QB 40 (rs.getD k 0) := fun k hk => rb _ (by rw [getD_eq (by omega)]; exact List.getElem_mem _)
  have en : enumZ (P_judgeRents_v1 v).items = (List.range n).map fun (i : Nat) => ((i : Int), ixZ x1.items (i : Int)) := by
    rw [e1, enumZ_eq, i1.tup.2, p.len]
    refine List.map_congr_left fun i hi => ?_
    rw [ixZ_nat]
  have rm : ∀ i, i < n → (ixZ x1.items (i : Int)).isI = true ∧ (ixZ x1.items (i : Int)).int = (b i : Int) := by
    intro i hi
    have := i1.at (i := i) (by rw [p.len]; exact hi)
    exact ⟨this.1, by rw [this.2, p.eq i hi]⟩
  have dec : ∀ k, k < n → ((ixZ (ixZ x2.items (k : Int)).items 0).int, (ixZ (ixZ x2.items (k : Int)).items 1).int) = ofQ (rs.getD k 0) := fun k hk => (r2.at (by omega)).dec
  have dok : ∀ k, k < n → (eP2 eI eI) ((ixZ (ixZ x2.items (k : Int)).items 0).int, (ixZ (ixZ x2.items (k : Int)).items 1).int) = (ixZ x2.items (k : Int)).1 := fun k hk => by rw [dec k hk]; exact (r2.at (by omega)).symm
  have pl : ∀ i j k, i < n → j < n → k < n → Ok_plus (ixZ (ixZ W (i : Int)) (j : Int), 1) (ofQ (rs.getD k 0)) ∧ P_plus (ixZ (ixZ W (i : Int)) (j : Int), 1) (ofQ (rs.getD k 0)) = ofQ (((w W i j : Int) : Rat) + rs.getD k 0) := by
    intro i j k hi hj hk
    rw [(h.ix2 hi hj).2, ← ofQ_int]
    exact plus_Q (w_bits h hi hj) (gb k hk) (by decide)
  have lsp : ∀ i k, i < n → k < n → Ok_isLess (ofQ (((w W i (b i) : Int) : Rat) + rs.getD k 0)) (ofQ (((w W i k : Int) : Rat) + rs.getD (b i) 0)) ∧ P_isLess (ofQ (((w W i (b i) : Int) : Rat) + rs.getD k 0)) (ofQ (((w W i k : Int) : Rat) + rs.getD (b i) 0)) = decide (((w W i (b i) : Int) : Rat) + rs.getD k 0 < ((w W i k : Int) : Rat) + rs.getD (b i) 0) := by
    intro i k hi hk
    exact isLess_Q ((w_bits h hi (p.lt i hi)).add (gb k hk)) ((w_bits h hi hk).add (gb _ (p.lt i hi))) (by decide) (by decide)
  have s3 : ∀ i k, i < n → k < n → P_judgeRents_s3 W v ((i : Int), ixZ x1.items (i : Int)) (k : Int) = bif decide (((w W i (b i) : Int) : Rat) + rs.getD k 0 < ((w W i k : Int) : Rat) + rs.getD (b i) 0) then .rt (.rt false) else .nx () := by
    intro i k hi hk
    unfold P_judgeRents_s3
    simp only [e2, (rm i hi).2]
    rw [dec k hk, dec (b i) (p.lt i hi), (pl i (b i) k hi (p.lt i hi) hk).2, (pl i k (b i) hi hk (p.lt i hi)).2, (lsp i k hi hk).2]
  constructor
  · rw [en, okFor_map]
    refine okFor_all _ _ fun _ i hi => ?_
    have hi : i < n := by simpa using hi
    refine ⟨by rw [h.len]; exact h.big, ?_⟩
    rw [h.len, rngZ_nat, okFor_map]
    refine okFor_all _ _ fun _ k hk => ?_
    have hk : k < n := by simpa using hk
    unfold Ok_judgeRents_4
    simp only [e2, (rm i hi).2]
    rw [dec k hk, dec (b i) (p.lt i hi)]
    have d1 := dok k hk
    have d2 := dok (b i) (p.lt i hi)
    rw [dec k hk] at d1
    rw [dec (b i) (p.lt i hi)] at d2
    refine ⟨(h.ix1 hi).1, (rm i hi).1, (h.ix2 hi (p.lt i hi)).1, r2.tup.1, InR_nat (by rw [r2.tup.2, hr]; exact hk), d1, (pl i (b i) k hi (p.lt i hi) hk).1, (h.ix2 hi hk).1, InR_nat (by rw [r2.tup.2, hr]; exact p.lt i hi), d2, (pl i k (b i) hi hk (p.lt i hi)).1, ?_⟩
    rw [(pl i (b i) k hi (p.lt i hi) hk).2, (pl i k (b i) hi hk (p.lt i hi)).2]
    exact (lsp i k hi hk).1
  · have inner : ∀ i, i < n → P_judgeRents_s6 W v ((i : Int), ixZ x1.items (i : Int)) = bif (List.range n).any (fun k => decide (((w W i (b i) : Int) : Rat) + rs.getD k 0 < ((w W i k : Int) : Rat) + rs.getD (b i) 0)) then .rt false else .nx () := by
      intro i hi
      unfold P_judgeRents_s6 P_judgeRents_l5
      rw [h.len, rngZ_nat, forP_map, forP_congr (s2 := fun (_ : Unit) (k : Nat) => bif decide (((w W i (b i) : Int) : Rat) + rs.getD k 0 < ((w W i k : Int) : Rat) + rs.getD (b i) 0) then .rt (.rt false) else .nx ()) (List.range n) () fun _ k hk => s3 i k hi (by simpa using hk), forP_bool]
      cases (List.range n).any (fun k => decide (((w W i (b i) : Int) : Rat) + rs.getD k 0 < ((w W i k : Int) : Rat) + rs.getD (b i) 0)) <;> rfl
    unfold P_judgeRents_l8
    rw [en, forP_map, forP_congr (s2 := fun (_ : Unit) (i : Nat) => bif (List.range n).any (fun k => decide (((w W i (b i) : Int) : Rat) + rs.getD k 0 < ((w W i k : Int) : Rat) + rs.getD (b i) 0)) then .rt false else .nx ()) (List.range n) () fun _ i hi => inner i (by simpa using hi), forP_bool]
    have key : (List.range n).any (fun i => (List.range n).any (fun k => decide (((w W i (b i) : Int) : Rat) + rs.getD k 0 < ((w W i k : Int) : Rat) + rs.getD (b i) 0))) = false ↔ ∀ i k, i < n → k < n → ((w W i k : Int) : Rat) - rs.getD k 0 ≤ ((w W i (b i) : Int) : Rat) - rs.getD (b i) 0 := by
      simp only [List.any_eq_false, List.mem_range, Bool.not_eq_true, decide_eq_false_iff_not, Bool.not_eq_false]
      constructor
      · intro g i k hi hk
        have := g i hi k hk
        grind
      · intro g i hi k hk
        have := g i k hi hk
        grind
    rw [← key]
    cases (List.range n).any (fun i => (List.range n).any (fun k => decide (((w W i (b i) : Int) : Rat) + rs.getD k 0 < ((w W i k : Int) : Rat) + rs.getD (b i) 0))) <;> simp [Lo.fin]
/-- the law's loops -/
theorem law_loop {v x1 x2 : AV} {o : List Int} {rs : List Rat} {b : Nat → Nat} (e1 : P_LIsRents_v1 v = x1) (e2 : P_LIsRents_v2 v = x2) (i1 : IA x1 o) (p : Pr o n b) (r2 : RA x2 rs) (hr : rs.length = n) :
    okFor (fun (t15 : Unit) (x17 : Int) => (Ok_LIsRents_5 W v x17)) (fun (t15 : Unit) (x17 : Int) => ((P_LIsRents_s4 W v x17) : (Lo Unit Bool))) () (rngZ 0 (W.length : Int)) ∧
    ((P_LIsRents_l6 W v).fin (fun _ => true) = true ↔ ∀ i k, i < n → k < n → ((w W i k : Int) : Rat) - rs.getD k 0 ≤ ((w W i (b i) : Int) : Rat) - rs.getD (b i) 0) := by
  have rb := r2.bits
  have gb : ∀ k, k < n → QB 40 (rs.getD k 0) := fun k hk => rb _ (by rw [getD_eq (by omega)]; exact List.getElem_mem _)
  have rm : ∀ i, i < n → (ixZ x1.items (i : Int)).isI = true ∧ (ixZ x1.items (i : Int)).int = (b i : Int) := by
    intro i hi
    have := i1.at (i := i) (by rw [p.len]; exact hi)
    exact ⟨this.1, by rw [this.2, p.eq i hi]⟩
  have dec : ∀ k, k < n → ((ixZ (ixZ x2.items (k : Int)).items 0).int, (ixZ (ixZ x2.items (k : Int)).items 1).int) = ofQ (rs.getD k 0) := fun k hk => (r2.at (by omega)).dec
  have dok : ∀ k, k < n → (eP2 eI eI) (ofQ (rs.getD k 0)) = (ixZ x2.items (k : Int)).1 := fun k hk => (r2.at (by omega)).symm
  have mi : ∀ i j k, i < n → j < n → k < n → Ok_LMinus (ixZ (ixZ W (i : Int)) (j : Int), 1) (ofQ (rs.getD k 0)) ∧ P_LMinus (ixZ (ixZ W (i : Int)) (j : Int), 1) (ofQ (rs.getD k 0)) = ofQ (((w W i j : Int) : Rat) - rs.getD k 0) := by
    intro i j k hi hj hk
    rw [(h.ix2 hi hj).2, ← ofQ_int]
    exact lminus_Q (w_bits h hi hj) (gb k hk) (by decide)
  have lsp : ∀ i k, i < n → k < n → Ok_LLess (ofQ (((w W i (b i) : Int) : Rat) - rs.getD (b i) 0)) (ofQ (((w W i k : Int) : Rat) - rs.getD k 0)) ∧ P_LLess (ofQ (((w W i (b i) : Int) : Rat) - rs.getD (b i) 0)) (ofQ (((w W i k : Int) : Rat) - rs.getD k 0)) = decide (((w W i (b i) : Int) : Rat) - rs.getD (b i) 0 < ((w W i k : Int) : Rat) - rs.getD k 0) := by
    intro i k hi hk
    exact lless_Q ((w_bits h hi (p.lt i hi)).sub (gb _ (p.lt i hi))) ((w_bits h hi hk).sub (gb k hk)) (by decide) (by decide)
  have v3 : ∀ i, i < n → P_LIsRents_v3 W v (i : Int) = ofQ (((w W i (b i) : Int) : Rat) - rs.getD (b i) 0) := by
    intro i hi
    unfold P_LIsRents_v3
    rw [e1, e2, (rm i hi).2, dec (b i) (p.lt i hi), (mi i (b i) (b i) hi (p.lt i hi) (p.lt i hi)).2]
  have s4 : ∀ i, i < n → P_LIsRents_s4 W v (i : Int) = bif (List.range n).any (fun k => decide (((w W i (b i) : Int) : Rat) - rs.getD (b i) 0 < ((w W i k : Int) : Rat) - rs.getD k 0)) then .rt false else .nx () := by
    intro i hi
    unfold P_LIsRents_s4
    rw [h.len, rngZ_nat, List.map_map, List.any_map, v3 i hi, e2]
    congr 1
    rw [Bool.eq_iff_iff]
    simp only [List.any_eq_true, List.mem_range, Function.comp, id]
    constructor
    · rintro ⟨k, hk, e⟩
      rw [dec k hk, (mi i k k hi hk hk).2, (lsp i k hi hk).2] at e
      exact ⟨k, hk, e⟩
    · rintro ⟨k, hk, e⟩
      refine ⟨k, hk, ?_⟩
      rw [dec k hk, (mi i k k hi hk hk).2, (lsp i k hi hk).2]
      exact e
  constructor
  · rw [h.len, rngZ_nat, okFor_map]
    refine okFor_all _ _ fun _ i hi => ?_
    have hi : i < n := by simpa using hi
    unfold Ok_LIsRents_5
    rw [e1, e2, (rm i hi).2, dec (b i) (p.lt i hi)]
    refine ⟨(h.ix1 hi).1, i1.tup.1, InR_nat (by rw [i1.tup.2, p.len]; exact hi), (rm i hi).1, (h.ix2 hi (p.lt i hi)).1, r2.tup.1, InR_nat (by rw [r2.tup.2, hr]; exact p.lt i hi), dok (b i) (p.lt i hi), (mi i (b i) (b i) hi (p.lt i hi) (p.lt i hi)).1, by rw [h.len]; exact h.big, fun z hz => ?_, by rw [h.len, rngZ_len]; have := h.le; show _ ≤ 16777216; omega⟩
    rw [h.len] at hz
    obtain ⟨k, hk, rfl⟩ := mem_rngN.mp hz
    rw [dec k hk]
    refine ⟨(h.ix1 hi).1, (h.ix2 hi hk).1, r2.tup.1, InR_nat (by rw [r2.tup.2, hr]; exact hk), dok k hk, (mi i k k hi hk hk).1, ?_⟩
    rw [v3 i hi, (mi i k k hi hk hk).2]
    exact (lsp i k hi hk).1
  · unfold P_LIsRents_l6
    rw [h.len, rngZ_nat, forP_map, forP_congr (s2 := fun (_ : Unit) (i : Nat) => bif (List.range n).any (fun k => decide (((w W i (b i) : Int) : Rat) - rs.getD (b i) 0 < ((w W i k : Int) : Rat) - rs.getD k 0)) then .rt false else .nx ()) (List.range n) () fun _ i hi => s4 i (by simpa using hi), forP_bool]
    have key : (List.range n).any (fun i => (List.range n).any (fun k => decide (((w W i (b i) : Int) : Rat) - rs.getD (b i) 0 < ((w W i k : Int) : Rat) - rs.getD k 0))) = false ↔ ∀ i k, i < n → k < n → ((w W i k : Int) : Rat) - rs.getD k 0 ≤ ((w W i (b i) : Int) : Rat) - rs.getD (b i) 0 := by
      simp only [List.any_eq_false, List.mem_range, Bool.not_eq_true, decide_eq_false_iff_not, Bool.not_eq_false]
      constructor
      · intro g i k hi hk
        have := g i hi k hk
        grind
      · intro g i hi k hk
        have := g i k hi hk
        grind
    rw [← key]
    cases (List.range n).any (fun i => (List.range n).any (fun k => decide (((w W i (b i) : Int) : Rat) - rs.getD (b i) 0 < ((w W i k : Int) : Rat) - rs.getD k 0))) <;> simp [Lo.fin]
theorem sum_ok {x2 : AV} {rs : List Rat} (r2 : RA x2 rs) (hr : rs.length = n) : (Ok_total (rs.map ofQ) ∧ P_total (rs.map ofQ) = ofQ rs.sum) ∧ (Ok_LTotal (rs.map ofQ) ∧ P_LTotal (rs.map ofQ) = ofQ rs.sum) := by
  have := h.le
  have hb : 1 + rs.length * (40 + 1) ≤ 8000 := by rw [hr]; omega
  exact ⟨total_Q r2.bits hb, ltotal_Q r2.bits hb⟩
/-- the program's judge: just right papers -/
theorem judge_spec (v : AV) : Ok_judgeRents W (ofQ q) v ∧ (P_judgeRents W (ofQ q) v = true ↔ ∃ o rs, Shape v o rs ∧ Right W n q o rs) := by
  have no : v.isTup = false ∨ v.items.length ≠ 3 → ¬ ∃ o rs, Shape v o rs ∧ Right W n q o rs := by
    rintro g ⟨o, rs, hs, _⟩
    rcases g with g | g
    · rw [AV.isTup_of hs] at g; cases g
    · exact g (by rw [AV.len_of' hs]; rfl)
  by_cases ht : v.isTup = true
  rotate_left
  · have ht : v.isTup = false := by simpa using ht
    refine ⟨⟨fun e => by simp [ht] at e, fun e => by simp [ht] at e⟩, ?_⟩
    unfold P_judgeRents
    simp only [ht, Bool.not_false, Bool.true_or, cond_true]
    exact ⟨fun e => by simp at e, fun e => absurd e (no (.inl ht))⟩
  by_cases hl : v.items.length = 3
  rotate_left
  · have hl' : decide ((v.items.length : Int) = 3) = false := decide_eq_false (by omega)
    refine ⟨⟨fun _ => ⟨ht, fun e => by simp [hl'] at e⟩, fun e => by simp [hl'] at e⟩, ?_⟩
    unfold P_judgeRents
    simp only [ht, hl', Bool.not_true, Bool.not_false, Bool.false_or, Bool.true_or, cond_true]
    exact ⟨fun e => by simp at e, fun e => absurd e (no (.inr hl))⟩
  have hl' : decide ((v.items.length : Int) = 3) = true := decide_eq_true (by omega)
  have r0 : InR v.items 0 := InR_nat (i := 0) (by omega)
  have r2 : InR v.items 2 := InR_nat (i := 2) (by omega)
  have e3 := AV.tup3 ht hl
  have sh : ∀ {o rs}, Shape v o rs → (ixZ v.items 0).1 = .str sx_rents.1 ∧ IA (ixZ v.items 1) o ∧ RA (ixZ v.items 2) rs := fun hs => ⟨AV.ix_of (i := 0) hs (by simp), AV.ix_of (i := 1) hs (by simp), AV.ix_of (i := 2) hs (by simp)⟩
  have q1 : P_judgeRents_v1 v = ixZ v.items 1 := by unfold P_judgeRents_v1; rw [cut3 hl]; rfl
  have q2 : P_judgeRents_v2 v = ixZ v.items 2 := by unfold P_judgeRents_v2; rw [cut3 hl]; rfl
  have hcl : (cutZ v.items (some 1) none).length = 2 := by rw [cut3 hl]; rfl
  obtain ⟨a1, a2⟩ := areRatios_spec (ixZ v.items 2) n
  rw [← h.len] at a1 a2
  by_cases hs : deq (eA (ixZ v.items 0)) (eS sx_rents) = true
  rotate_left
  · have hs' : deq (eA (ixZ v.items 0)) (eS sx_rents) = false := by simpa using hs
    refine ⟨⟨fun _ => ⟨ht, fun _ => ⟨ht, r0, fun e => by rw [hs'] at e; simp at e⟩⟩, fun e => by rw [hs'] at e; simp at e⟩, ?_⟩
    unfold P_judgeRents
    rw [hs']
    simp only [ht, hl', Bool.not_true, Bool.not_false, Bool.false_or, Bool.true_or, cond_true]
    exact ⟨fun e => by simp at e, fun ⟨o, rs, g, _⟩ => absurd (deq_str_av.mpr (sh g).1) hs⟩
  by_cases ha : P_areRatios (ixZ v.items 2) (W.length : Int) = true
  rotate_left
  · have ha' : P_areRatios (ixZ v.items 2) (W.length : Int) = false := by simpa using ha
    refine ⟨⟨fun _ => ⟨ht, fun _ => ⟨ht, r0, fun _ => ⟨ht, r2, a1⟩⟩⟩, fun e => by rw [ha'] at e; simp at e⟩, ?_⟩
    unfold P_judgeRents
    rw [hs, ha']
    simp only [ht, hl', Bool.not_true, Bool.not_false, Bool.false_or, Bool.true_or, cond_true]
    exact ⟨fun e => by simp at e, fun ⟨o, rs, g, R⟩ => absurd (a2.mpr ⟨rs, (sh g).2.2, by rw [h.len]; exact R.len⟩) ha⟩
  obtain ⟨rs, hrs, hrl⟩ := a2.mp ha
  rw [h.len] at hrl
  have hz : (ixZ v.items 1).items.length ≤ LIM := Nat.le_trans (AV.len_items _) (by decide)
  have ai : ((((ixZ v.items 1).items).map fun x7 => (P_isInteger x7)).all id) = true ↔ ∀ z ∈ (ixZ v.items 1).items, z.isI = true := all_isI _
  have rsu : ∀ {rs'}, RA (ixZ v.items 2) rs' → rs' = rs := by
    intro rs' hr'
    have : rs'.map ofQ = rs.map ofQ := by rw [← hr'.dec, ← hrs.dec]
    have := congrArg (List.map toQ) this
    rw [List.map_map, List.map_map] at this
    have e : (toQ ∘ ofQ) = id := by funext x; exact toQ_ofQ x
    rwa [e, List.map_id, List.map_id] at this
  by_cases hi : (ixZ v.items 1).isTup = true ∧ ∀ z ∈ (ixZ v.items 1).items, z.isI = true
  rotate_left
  · have hb : ((!((P_judgeRents_v1 v).isTup)) || (!((((P_judgeRents_v1 v).items).map fun x7 => (P_isInteger x7)).all id))) = true := by
      rw [q1]
      by_cases g : (ixZ v.items 1).isTup = true
      · have : ¬ ((((ixZ v.items 1).items).map fun x7 => (P_isInteger x7)).all id) = true := fun e => hi ⟨g, ai.mp e⟩
        rw [eq_false_of_ne_true this]; simp
      · rw [eq_false_of_ne_true g]; rfl
    refine ⟨⟨fun _ => ⟨ht, fun _ => ⟨ht, r0, fun _ => ⟨ht, r2, a1⟩⟩⟩, fun _ => ⟨ht, hcl, fun e => ?_, fun e => by rw [hb] at e; simp at e⟩⟩, ?_⟩
    · rw [q1] at e ⊢
      exact ⟨by simpa using e, hz⟩
    · unfold P_judgeRents
      rw [hs, ha, hb]
      simp only [ht, hl', Bool.not_true, Bool.false_or, cond_true, cond_false]
      exact ⟨fun e => by simp at e, fun ⟨o, rs, g, R⟩ => absurd ⟨(sh g).2.1.tup.1, (sh g).2.1.mem⟩ hi⟩
  have i1 := IA_of hi.1 hi.2
  have hb : ((!((P_judgeRents_v1 v).isTup)) || (!((((P_judgeRents_v1 v).items).map fun x7 => (P_isInteger x7)).all id))) = false := by
    rw [q1, hi.1, ai.mpr hi.2]; rfl
  obtain ⟨⟨t1, t2⟩, _⟩ := sum_ok h hrs hrl
  have rngOk : (0 ≤ (W.length : Int) ∧ (W.length : Int) ≤ 16777216) := by rw [h.len]; have := h.le; omega
  have sd := i1.sorted (rngZ 0 (W.length : Int))
  have dd2 : ((P_judgeRents_v2 v).items.map fun z => ((ixZ z.items 0).int, (ixZ z.items 1).int)) = rs.map ofQ := by rw [q2]; exact hrs.dec
  by_cases hc : sortZ eI ((ixZ v.items 1).items.map AV.int) = rngZ 0 (W.length : Int) ∧ rs.sum = q
  rotate_left
  · have hb2 : ((!(deq ((eL eA) (sortZ eA ((P_judgeRents_v1 v).items))) ((eL eI) (rngZ 0 (W.length : Int))))) || (!decide ((P_total ((P_judgeRents_v2 v).items.map fun z => ((ixZ z.items 0).int, (ixZ z.items 1).int))) = ofQ q))) = true := by
      rw [q1, sd, dd2, t2]
      by_cases g : sortZ eI ((ixZ v.items 1).items.map AV.int) = rngZ 0 (W.length : Int)
      · have : ofQ rs.sum ≠ ofQ q := fun e => hc ⟨g, ofQ_inj.mp e⟩
        simp [this]
      · simp [g]
    refine ⟨⟨fun _ => ⟨ht, fun _ => ⟨ht, r0, fun _ => ⟨ht, r2, a1⟩⟩⟩, fun _ => ⟨ht, hcl, fun e => ?_, fun _ => ⟨by rw [q1]; exact hi.1, by rw [q1]; exact i1.sortOk, rngOk, fun _ => ⟨by rw [dd2, q2]; exact hrs.symm, by rw [dd2]; exact t1⟩, fun e => by rw [hb2] at e; simp at e⟩⟩⟩, ?_⟩
    · rw [q1] at e ⊢
      exact ⟨by simpa using e, hz⟩
    · unfold P_judgeRents
      rw [hs, ha, hb, hb2]
      simp only [ht, hl', Bool.not_true, Bool.false_or, cond_true, cond_false]
      refine ⟨fun e => by simp at e, fun ⟨o, rs', g, R⟩ => absurd ⟨?_, ?_⟩ hc⟩
      · rw [(sh g).2.1.dec, h.len]; exact sortI_eq R.perm (rng_sorted n)
      · rw [← rsu (sh g).2.2]; exact R.sum
  have perm : ((ixZ v.items 1).items.map AV.int).Perm (rngZ 0 (n : Int)) := by
    have := sortI_perm ((ixZ v.items 1).items.map AV.int)
    rw [hc.1, h.len] at this
    exact this.symm
  obtain ⟨b, pb⟩ := pr_of perm
  have hb2 : ((!(deq ((eL eA) (sortZ eA ((P_judgeRents_v1 v).items))) ((eL eI) (rngZ 0 (W.length : Int))))) || (!decide ((P_total ((P_judgeRents_v2 v).items.map fun z => ((ixZ z.items 0).int, (ixZ z.items 1).int))) = ofQ q))) = false := by
    rw [q1, sd, dd2, t2, hc.1, hc.2]; simp
  obtain ⟨l1, l2⟩ := judge_loop h q1 q2 i1 pb hrs hrl
  refine ⟨⟨fun _ => ⟨ht, fun _ => ⟨ht, r0, fun _ => ⟨ht, r2, a1⟩⟩⟩, fun _ => ⟨ht, hcl, fun e => ?_, fun _ => ⟨by rw [q1]; exact hi.1, by rw [q1]; exact i1.sortOk, rngOk, fun _ => ⟨by rw [dd2, q2]; exact hrs.symm, by rw [dd2]; exact t1⟩, fun _ => ⟨by rw [q1]; exact hi.1, l1⟩⟩⟩⟩, ?_⟩
  · rw [q1] at e ⊢
    exact ⟨by simpa using e, hz⟩
  · unfold P_judgeRents
    rw [hs, ha, hb, hb2]
    simp only [ht, hl', Bool.not_true, Bool.false_or, cond_false]
    rw [l2]
    constructor
    · intro g
      refine ⟨_, rs, ?_, perm, hrl, hc.2, fun i k hi2 hk => by rw [room_eq pb hi2]; exact g i k hi2 hk⟩
      unfold Shape
      rw [e3, deq_str_av.mp hs]
      rw [show (ixZ v.items 1).1 = _ from i1, show (ixZ v.items 2).1 = _ from hrs]
    · rintro ⟨o, rs', g, R⟩ i k hi2 hk
      have e1 : o = (ixZ v.items 1).items.map AV.int := ((sh g).2.1.dec).symm
      have e2 : rs' = rs := rsu (sh g).2.2
      have := R.fit i k hi2 hk
      rw [e1, room_eq pb hi2, e2] at this
      exact this
/-- the law's: the same papers -/
theorem law_spec (v : AV) : Ok_LIsRents W (ofQ q) v ∧ (P_LIsRents W (ofQ q) v = true ↔ ∃ o rs, Shape v o rs ∧ Right W n q o rs) := by
  have no : v.isTup = false ∨ v.items.length ≠ 3 → ¬ ∃ o rs, Shape v o rs ∧ Right W n q o rs := by
    rintro g ⟨o, rs, hs, _⟩
    rcases g with g | g
    · rw [AV.isTup_of hs] at g; cases g
    · exact g (by rw [AV.len_of' hs]; rfl)
  by_cases ht : v.isTup = true
  rotate_left
  · have ht : v.isTup = false := by simpa using ht
    refine ⟨⟨fun e => by simp [ht] at e, fun e => by simp [ht] at e⟩, ?_⟩
    unfold P_LIsRents
    simp only [ht, Bool.not_false, Bool.true_or, cond_true]
    exact ⟨fun e => by simp at e, fun e => absurd e (no (.inl ht))⟩
  by_cases hl : v.items.length = 3
  rotate_left
  · have hl' : decide ((v.items.length : Int) = 3) = false := decide_eq_false (by omega)
    refine ⟨⟨fun _ => ⟨ht, fun e => by simp [hl'] at e⟩, fun e => by simp [hl'] at e⟩, ?_⟩
    unfold P_LIsRents
    simp only [ht, hl', Bool.not_true, Bool.not_false, Bool.false_or, Bool.true_or, cond_true]
    exact ⟨fun e => by simp at e, fun e => absurd e (no (.inr hl))⟩
  have hl' : decide ((v.items.length : Int) = 3) = true := decide_eq_true (by omega)
  have r0 : InR v.items 0 := InR_nat (i := 0) (by omega)
  have e3 := AV.tup3 ht hl
  have sh : ∀ {o rs}, Shape v o rs → (ixZ v.items 0).1 = .str sx_rents.1 ∧ IA (ixZ v.items 1) o ∧ RA (ixZ v.items 2) rs := fun hs => ⟨AV.ix_of (i := 0) hs (by simp), AV.ix_of (i := 1) hs (by simp), AV.ix_of (i := 2) hs (by simp)⟩
  have q1 : P_LIsRents_v1 v = ixZ v.items 1 := by unfold P_LIsRents_v1; rw [cut3 hl]; rfl
  have q2 : P_LIsRents_v2 v = ixZ v.items 2 := by unfold P_LIsRents_v2; rw [cut3 hl]; rfl
  have hcl : (cutZ v.items (some 1) none).length = 2 := by rw [cut3 hl]; rfl
  by_cases hs : deq (eA (ixZ v.items 0)) (eS sx_rents) = true
  rotate_left
  · have hs' : deq (eA (ixZ v.items 0)) (eS sx_rents) = false := by simpa using hs
    refine ⟨⟨fun _ => ⟨ht, fun _ => ⟨ht, r0, fun _ => ⟨ht, r0⟩⟩⟩, fun e => by rw [hs'] at e; simp at e⟩, ?_⟩
    unfold P_LIsRents
    rw [hs']
    simp only [ht, hl', Bool.not_true, Bool.not_false, Bool.false_or, Bool.or_true, cond_true]
    exact ⟨fun e => by simp at e, fun ⟨o, rs, g, _⟩ => absurd (deq_str_av.mpr (sh g).1) hs⟩
  have hst : (ixZ v.items 0).isStr = true := AV.str_of (deq_str_av.mp hs)
  have hz : (ixZ v.items 1).items.length ≤ LIM := Nat.le_trans (AV.len_items _) (by decide)
  have ai : ((((ixZ v.items 1).items).map fun x7 => (P_LIsInt x7)).all id) = true ↔ ∀ z ∈ (ixZ v.items 1).items, z.isI = true := all_isI _
  have rngOk : (0 ≤ (W.length : Int) ∧ (W.length : Int) ≤ 16777216) := by rw [h.len]; have := h.le; omega
  have okC : (!((P_LIsRents_v1 v).isTup)) = false → ((P_LIsRents_v1 v).isTup = true) ∧ (((P_LIsRents_v1 v).items).length ≤ LIM) ∧ ((!((((P_LIsRents_v1 v).items).map fun x7 => (P_LIsInt x7)).all id)) = false → ((P_LIsRents_v1 v).isTup = true) ∧ (D.fitL 31 (((P_LIsRents_v1 v).items).map eA) = true ∧ alikeB (((P_LIsRents_v1 v).items).map eA) = true ∧ sortableB (((P_LIsRents_v1 v).items).map eA) = true) ∧ (0 ≤ (W.length : Int) ∧ (W.length : Int) ≤ 16777216)) := by
    rw [q1]
    intro e
    have e : (ixZ v.items 1).isTup = true := by simpa using e
    exact ⟨e, hz, fun e2 => ⟨e, (IA_of e (ai.mp (by simpa using e2))).sortOk, rngOk⟩⟩
  by_cases hi : ((ixZ v.items 1).isTup = true ∧ ∀ z ∈ (ixZ v.items 1).items, z.isI = true) ∧ sortZ eI ((ixZ v.items 1).items.map AV.int) = rngZ 0 (W.length : Int)
  rotate_left
  · have hb : ((!((P_LIsRents_v1 v).isTup)) || ((!((((P_LIsRents_v1 v).items).map fun x7 => (P_LIsInt x7)).all id)) || (!(deq ((eL eA) (sortZ eA ((P_LIsRents_v1 v).items))) ((eL eI) (rngZ 0 (W.length : Int))))))) = true := by
      rw [q1]
      by_cases g : (ixZ v.items 1).isTup = true
      · by_cases g2 : ((((ixZ v.items 1).items).map fun x7 => (P_LIsInt x7)).all id) = true
        · have i1 := IA_of g (ai.mp g2)
          have g3 : ¬ sortZ eI ((ixZ v.items 1).items.map AV.int) = rngZ 0 (W.length : Int) := fun e => hi ⟨⟨g, ai.mp g2⟩, e⟩
          rw [i1.sorted, decide_eq_false g3]; simp
        · rw [eq_false_of_ne_true g2]; simp
      · rw [eq_false_of_ne_true g]; rfl
    refine ⟨⟨fun _ => ⟨ht, fun _ => ⟨ht, r0, fun _ => ⟨ht, r0⟩⟩⟩, fun _ => ⟨ht, hcl, okC, fun e => by rw [hb] at e; simp at e⟩⟩, ?_⟩
    unfold P_LIsRents
    rw [hs, hst, hb]
    simp only [ht, hl', Bool.not_true, Bool.false_or, cond_true, cond_false]
    refine ⟨fun e => by simp at e, fun ⟨o, rs, g, R⟩ => absurd ⟨⟨(sh g).2.1.tup.1, (sh g).2.1.mem⟩, ?_⟩ hi⟩
    rw [(sh g).2.1.dec, h.len]; exact sortI_eq R.perm (rng_sorted n)
  have i1 := IA_of hi.1.1 hi.1.2
  have hb : ((!((P_LIsRents_v1 v).isTup)) || ((!((((P_LIsRents_v1 v).items).map fun x7 => (P_LIsInt x7)).all id)) || (!(deq ((eL eA) (sortZ eA ((P_LIsRents_v1 v).items))) ((eL eI) (rngZ 0 (W.length : Int))))))) = false := by
    rw [q1, hi.1.1, ai.mpr hi.1.2, i1.sorted, decide_eq_true hi.2]; rfl
  have perm : ((ixZ v.items 1).items.map AV.int).Perm (rngZ 0 (n : Int)) := by
    have := sortI_perm ((ixZ v.items 1).items.map AV.int)
    rw [hi.2, h.len] at this
    exact this.symm
  obtain ⟨b, pb⟩ := pr_of perm
  obtain ⟨a1, a2⟩ := lrow_spec (ixZ v.items 2) n
  rw [← h.len] at a1 a2
  by_cases hc : ∃ rs, (RA (ixZ v.items 2) rs ∧ rs.length = n) ∧ rs.sum = q
  rotate_left
  · have hok : (!(P_LIsRow (ixZ v.items 2) (W.length : Int))) = false → ((eT (eP2 eI eI)) ((ixZ v.items 2).items.map fun z => ((ixZ z.items 0).int, (ixZ z.items 1).int)) = (ixZ v.items 2).1) ∧ (Ok_LTotal ((ixZ v.items 2).items.map fun z => ((ixZ z.items 0).int, (ixZ z.items 1).int))) := by
      intro e
      obtain ⟨rs, hrs, hrl⟩ := a2.mp (by simpa using e)
      rw [h.len] at hrl
      rw [hrs.dec]
      exact ⟨hrs.symm, (sum_ok h hrs hrl).2.1⟩
    have hb2 : ((!(P_LIsRow (P_LIsRents_v2 v) (W.length : Int))) || (!decide ((P_LTotal ((P_LIsRents_v2 v).items.map fun z => ((ixZ z.items 0).int, (ixZ z.items 1).int))) = ofQ q))) = true := by
      rw [q2]
      by_cases g : P_LIsRow (ixZ v.items 2) (W.length : Int) = true
      · obtain ⟨rs, hrs, hrl⟩ := a2.mp g
        rw [h.len] at hrl
        have : ofQ rs.sum ≠ ofQ q := fun e => hc ⟨rs, ⟨hrs, hrl⟩, ofQ_inj.mp e⟩
        rw [hrs.dec, (sum_ok h hrs hrl).2.2, decide_eq_false this]; simp
      · rw [eq_false_of_ne_true g]; rfl
    refine ⟨⟨fun _ => ⟨ht, fun _ => ⟨ht, r0, fun _ => ⟨ht, r0⟩⟩⟩, fun _ => ⟨ht, hcl, okC, fun _ => ⟨by rw [q2]; exact a1, by rw [q2]; exact hok, fun e => by rw [hb2] at e; simp at e⟩⟩⟩, ?_⟩
    unfold P_LIsRents
    rw [hs, hst, hb, hb2]
    simp only [ht, hl', Bool.not_true, Bool.false_or, cond_true, cond_false]
    exact ⟨fun e => by simp at e, fun ⟨o, rs, g, R⟩ => absurd ⟨rs, ⟨(sh g).2.2, R.len⟩, R.sum⟩ hc⟩
  obtain ⟨rs, ⟨hrs, hrl⟩, hsum⟩ := hc
  have hrow : P_LIsRow (ixZ v.items 2) (W.length : Int) = true := a2.mpr ⟨rs, hrs, by rw [h.len]; exact hrl⟩
  obtain ⟨_, t1, t2⟩ := sum_ok h hrs hrl
  have dd2 : ((P_LIsRents_v2 v).items.map fun z => ((ixZ z.items 0).int, (ixZ z.items 1).int)) = rs.map ofQ := by rw [q2]; exact hrs.dec
  have hb2 : ((!(P_LIsRow (P_LIsRents_v2 v) (W.length : Int))) || (!decide ((P_LTotal ((P_LIsRents_v2 v).items.map fun z => ((ixZ z.items 0).int, (ixZ z.items 1).int))) = ofQ q))) = false := by
    rw [dd2, t2, q2, hrow, hsum]; simp
  obtain ⟨l1, l2⟩ := law_loop h q1 q2 i1 pb hrs hrl
  have rsu : ∀ {rs'}, RA (ixZ v.items 2) rs' → rs' = rs := by
    intro rs' hr'
    have : rs'.map ofQ = rs.map ofQ := by rw [← hr'.dec, ← hrs.dec]
    have := congrArg (List.map toQ) this
    rw [List.map_map, List.map_map] at this
    have e : (toQ ∘ ofQ) = id := by funext x; exact toQ_ofQ x
    rwa [e, List.map_id, List.map_id] at this
  refine ⟨⟨fun _ => ⟨ht, fun _ => ⟨ht, r0, fun _ => ⟨ht, r0⟩⟩⟩, fun _ => ⟨ht, hcl, okC, fun _ => ⟨by rw [q2]; exact a1, fun _ => ⟨by rw [dd2, q2]; exact hrs.symm, by rw [dd2]; exact t1⟩, fun _ => ⟨by rw [h.len]; exact h.big, l1⟩⟩⟩⟩, ?_⟩
  unfold P_LIsRents
  rw [hs, hst, hb, hb2]
  simp only [ht, hl', Bool.not_true, Bool.false_or, cond_false]
  rw [l2]
  constructor
  · intro g
    refine ⟨_, rs, ?_, perm, hrl, hsum, fun i k hi2 hk => by rw [room_eq pb hi2]; exact g i k hi2 hk⟩
    unfold Shape
    rw [e3, deq_str_av.mp hs]
    rw [show (ixZ v.items 1).1 = _ from i1, show (ixZ v.items 2).1 = _ from hrs]
  · rintro ⟨o, rs', g, R⟩ i k hi2 hk
    have e1 : o = (ixZ v.items 1).items.map AV.int := ((sh g).2.1.dec).symm
    have e2 : rs' = rs := rsu (sh g).2.2
    have := R.fit i k hi2 hk
    rw [e1, room_eq pb hi2, e2] at this
    exact this
end
end K62

namespace DV
open PySem PySem.Spec PyProof.Rows L2
theorem getD_mem {α : Type} {l : List α} {i : Nat} {z : α} (h : i < l.length) : l.getD i z ∈ l := by rw [getD_eq h]; exact List.getElem_mem _
theorem mapA_mem {α β γ : Type} {f : γ → α → β × γ} : ∀ (xs : List α) (c : γ), ∀ y ∈ (mapA f c xs).1, ∃ c' x, x ∈ xs ∧ y = (f c' x).1
  | [], _, y, h => by simp [mapA] at h
  | x :: xs, c, y, h => by
    simp only [mapA, List.mem_cons] at h
    rcases h with rfl | h
    · exact ⟨c, x, by simp, rfl⟩
    · obtain ⟨c', z, hz, e⟩ := mapA_mem xs _ y h
      exact ⟨c', z, by simp [hz], e⟩
theorem okA_all {α β γ : Type} {f : γ → α → β × γ} {ok : γ → α → Prop} (h : ∀ c x, ok c x) : ∀ (xs : List α) (c : γ), okA f ok c xs
  | [], _ => trivial
  | x :: xs, c => ⟨h c x, okA_all h xs _⟩
theorem okFor_allS {α T R : Type} {ok : T → α → Prop} {step : T → α → Lo T R} (h : ∀ t x, ok t x) : ∀ (xs : List α) (t : T), okFor ok step t xs := fun xs t => okFor_all xs t fun t x _ => h t x
theorem forP_nxS {α T R : Type} {step : T → α → Lo T R} (h : ∀ t x, ∃ t', step t x = .nx t') : ∀ (xs : List α) (t : T), ∃ t', forP step t xs = .nx t'
  | [], t => ⟨t, rfl⟩
  | x :: xs, t => by
    obtain ⟨t', e⟩ := h t x
    obtain ⟨t'', e2⟩ := forP_nxS h xs t'
    exact ⟨t'', by rw [forP_nx e, e2]⟩
theorem sm_q {q : Rat} (h : QB 39 q) : Sm 1000 1 (eP2 eI eI (ofQ q)) := by
  have e : (2 : Nat) ^ 39 = 549755813888 := by decide
  have h1 := h.num
  have h2 := h.den
  rw [e] at h1 h2
  refine .tup 0 _ (by simp) fun d hd => ?_
  simp only [List.mem_cons, List.not_mem_nil, or_false] at hd
  rcases hd with rfl | rfl
  · exact .int _ _ (by show q.num.natAbs < _; omega)
  · exact .int _ _ (by show ((q.den : Int)).natAbs < _; omega)
theorem sm_qs {qs : List Rat} (h : ∀ q ∈ qs, QB 39 q) (hl : qs.length ≤ 1000) : Sm 1000 2 (eT (eP2 eI eI) (qs.map ofQ)) := by
  refine .tup 1 _ (by simpa using hl) fun d hd => ?_
  simp only [List.map_map, List.mem_map] at hd
  obtain ⟨q, hq, rfl⟩ := hd
  exact sm_q (h q hq)
theorem sm_is {xs : List Int} (h : ∀ x ∈ xs, x.natAbs < 1099511627776) (hl : xs.length ≤ 1000) : Sm 1000 1 (eT eI xs) := by
  refine .tup 0 _ (by simpa using hl) fun d hd => ?_
  obtain ⟨x, hx, rfl⟩ := List.mem_map.mp hd
  exact .int _ _ (h x hx)
end DV
namespace K62
open PySem PySem.Spec PyProof.Rows L2 DV
theorem av_le {n : Nat} {d : D} (s : Sm 1000 n d) (h : n ≤ 9) : D.av 9 d = true := av_mono n 9 h _ (s.av (by decide))
theorem half_Q : ((1 : Int), (2 : Int)) = ofQ (1 / 2 : Rat) := by decide +kernel
theorem paper_sm {o : List Int} {rs : List Rat} {n : Nat} (hp : o.Perm (rngZ 0 (n : Int))) (hn : n ≤ 4) (h : ∀ q ∈ rs, QB 39 q) (hl : rs.length = n) : Sm 1000 8 (eP3 eS (eT eI) (eT (eP2 eI eI)) (sx_rents, o, rs.map ofQ)) := by
  refine Sm.up (n := 3) (.tup 2 _ (by simp) fun d hd => ?_) (by decide)
  simp only [List.mem_cons, List.not_mem_nil, or_false] at hd
  rcases hd with rfl | rfl | rfl
  · exact .str _ _ sx_rents.2
  · refine (sm_is (fun x hx => ?_) (by rw [hp.length_eq, rngZ_len]; omega)).up (by decide)
    obtain ⟨i, hi, rfl⟩ := mem_rngN.mp (hp.mem_iff.mp hx)
    simp; omega
  · exact sm_qs h (by omega)
theorem alk_tup' {k : Nat} {ds : List D} (hl : ds.length < LIM) (h : ∀ d ∈ ds, D.alk k d = true) : D.alk (k + 1) (.tup ds) = true := by
  simp only [D.alk, Bool.and_eq_true, decide_eq_true_eq]
  exact ⟨hl, alkL_mem.2 h⟩
theorem alk_q (q : Rat) {k : Nat} : D.alk (k + 1) (eP2 eI eI (ofQ q)) = true := by
  simp only [D.alk, D.alkL, Bool.and_eq_true, decide_eq_true_eq]
  exact ⟨by show 2 < 16777216; decide, trivial, trivial, trivial⟩
theorem alk_qs {qs : List Rat} (hl : qs.length < LIM) {k : Nat} : D.alk (k + 2) (eT (eP2 eI eI) (qs.map ofQ)) = true := by
  simp only [D.alk, Bool.and_eq_true, decide_eq_true_eq]
  refine ⟨by simpa using hl, alkL_mem.2 fun d hd => ?_⟩
  simp only [List.map_map, List.mem_map] at hd
  obtain ⟨q, hq, rfl⟩ := hd
  exact alk_q q
theorem alk_is {xs : List Int} (hl : xs.length < LIM) {k : Nat} : D.alk (k + 1) (eT eI xs) = true := by
  simp only [D.alk, Bool.and_eq_true, decide_eq_true_eq]
  refine ⟨by simpa using hl, alkL_mem.2 fun d hd => ?_⟩
  obtain ⟨x, hx, rfl⟩ := List.mem_map.mp hd
  simp [D.alk]
theorem frac_bits {a b : Int} (ha : a.natAbs < 2 ^ 8) (hb : 0 < b) (hb2 : b.natAbs < 2 ^ 8) : Ok_LFraction a b ∧ P_LFraction a b = ofQ (Rat.divInt a b) ∧ QB 8 (Rat.divInt a b) := by
  obtain ⟨h1, h2⟩ := lfraction_Q (a := a) (big_bits hb2 (by decide)) hb
  exact ⟨h1, h2, Nat.lt_of_le_of_lt (divInt_num_le hb) ha, Nat.lt_of_le_of_lt (divInt_den_le hb) hb2⟩
theorem setD_map {rs : List Rat} {i : Nat} {x : Rat} : (rs.map ofQ).set i (ofQ x) = (rs.set i x).map ofQ := by rw [List.map_set]
theorem ixD_map {rs : List Rat} {i : Nat} (hi : i < rs.length) : ixZ (rs.map ofQ) (i : Int) = ofQ (rs.getD i 0) := by
  rw [ixZ_nat' (by simpa using hi)]; simp [List.getD, hi]
theorem law_true (c : Cu) : Ok_LAW c ∧ P_LAW c = true := by
  -- how many
  have t0 : Ok_LTake c 4 := ⟨by decide, by decide⟩
  obtain ⟨a0, a1⟩ := P_LTake_lt t0
  obtain ⟨n0, hn0⟩ := Int.eq_ofNat_of_zero_le a0
  have en : 1 + (P_LTake c 4).1 = ((n0 + 1 : Nat) : Int) := by rw [hn0]; push_cast; omega
  have hn4 : n0 + 1 ≤ 4 := by omega
  generalize hn : n0 + 1 = n at en hn4
  have hnp : 0 < n := by omega
  have i62n : I62 (1 + (P_LTake c 4).1) := by rw [en]; exact i62_nat (by omega)
  have limn : (rngZ 0 (1 + (P_LTake c 4).1)).length ≤ LIM := by rw [en, rngZ_len]; show _ ≤ 16777216; omega
  -- the worths
  have t12 : ∀ c', Ok_LTake c' 12 := fun c' => ⟨by decide, by decide⟩
  have hlen : (P_LAW_v3 c).1.length = n := by unfold P_LAW_v3; rw [mapA_length, en, rngZ_len]
  have hrow : ∀ r ∈ (P_LAW_v3 c).1, r.length = n ∧ ∀ x ∈ r, 0 ≤ x ∧ x < 12 := by
    intro r hr
    unfold P_LAW_v3 at hr
    obtain ⟨c', x, _, rfl⟩ := mapA_mem _ _ r hr
    unfold P_LAW_f2 P_LAW_v1
    refine ⟨by rw [mapA_length, en, rngZ_len], fun y hy => ?_⟩
    obtain ⟨c'', z, _, rfl⟩ := mapA_mem _ _ y hy
    exact P_LTake_lt (t12 c'')
  have hW : Wt (P_LAW_v3 c).1 n := by
    have hg : ∀ i, i < n → (P_LAW_v3 c).1.getD i [] ∈ (P_LAW_v3 c).1 := fun i hi => by rw [getD_eq (by omega)]; exact List.getElem_mem _
    refine ⟨hlen, fun i hi => (hrow _ (hg i hi)).1, hnp, hn4, fun i k hi hk => ?_⟩
    obtain ⟨h1, h2⟩ := hrow _ (hg i hi)
    refine h2 _ ?_
    exact DV.getD_mem (by omega)
  -- the rent
  have t60 : Ok_LTake ((P_LAW_v3 c).2) 60 := ⟨by decide, by decide⟩
  have t3 : Ok_LTake ((P_LTake ((P_LAW_v3 c).2) 60).2) 3 := ⟨by decide, by decide⟩
  have g60 := P_LTake_lt t60
  have g3 := P_LTake_lt t3
  have p8 : (2 : Nat) ^ 8 = 256 := by decide
  obtain ⟨f1, f2, f3⟩ := frac_bits (a := (P_LTake ((P_LAW_v3 c).2) 60).1 - 10) (b := 1 + (P_LTake ((P_LTake ((P_LAW_v3 c).2) 60).2) 3).1) (by rw [p8]; omega) (by omega) (by rw [p8]; omega)
  generalize hq : Rat.divInt ((P_LTake ((P_LAW_v3 c).2) 60).1 - 10) (1 + (P_LTake ((P_LTake ((P_LAW_v3 c).2) 60).2) 3).1) = q at f2 f3
  have eR : P_LAW_v4 c = ofQ q := f2
  -- what is due
  obtain ⟨o, b, perm, p, hP, hb, hOB, hOL, hnc⟩ := best_spec hW
  have hnc : BF.NC n (dd (P_LAW_v3 c).1 b) := hnc
  obtain ⟨d1, d2⟩ := due_spec hW p hnc hb hOL f3
  obtain ⟨l1, l2⟩ := ll_spec hW p hnc hP hOB f3
  obtain ⟨r1, r2⟩ := rp_spec hW p hnc hP hOB f3
  have rl := Rr_len hW p hnc (q := q)
  have rb := Rr_bits hW p hnc f3
  have rat := fun {i : Nat} (hi : i < n) => Rr_at hW p hnc (q := q) hi
  have rsum := Rr_sum hW p hnc (q := q)
  have rfit := fun {i k : Nat} (hi : i < n) (hk : k < n) => Rr_fit hW p hnc (q := q) hi hk
  have e6 : P_LAW_v6 c = (o, (Rr (P_LAW_v3 c).1 n o b q).map ofQ, ofQ (Vv (P_LAW_v3 c).1 n b q)) := by unfold P_LAW_v6; rw [eR, d2]
  have e7 : P_LAW_v7 c = (sx_rents, o, (Rr (P_LAW_v3 c).1 n o b q).map ofQ) := by unfold P_LAW_v7; rw [eR, r2]
  have vb := V_bits hW p hnc f3
  generalize hrs : Rr (P_LAW_v3 c).1 n o b q = rs at *
  generalize hV : Vv (P_LAW_v3 c).1 n b q = V at *
  have right : Right (P_LAW_v3 c).1 n q o rs := ⟨perm, rl, rsum, fun i k hi hk => by
    obtain ⟨k', hk', e⟩ := p.sur k hk
    rw [room_eq p hi, ← e]; exact rfit hi hk'⟩
  have psm := paper_sm perm hn4 (fun x hx => (rb x hx).mono (by decide)) rl
  have pav := av_le psm (by decide)
  have pavQ : D.av 9 (eP3 eS (eT eI) (eT (eP2 eI eI)) (P_LAW_v7 c)) = true := by rw [e7]; exact pav
  have shape : ∀ {rs' : List Rat} (hd : D.av 9 (eP3 eS (eT eI) (eT (eP2 eI eI)) (sx_rents, o, rs'.map ofQ)) = true), Shape (mkA (eP3 eS (eT eI) (eT (eP2 eI eI)) (sx_rents, o, rs'.map ofQ))) o rs' := fun hd => mkA_1 hd
  -- both judges are one
  have same : ∀ (q' : Rat) (v : AV), P_judgeRents (P_LAW_v3 c).1 (ofQ q') v = P_LIsRents (P_LAW_v3 c).1 (ofQ q') v := by
    intro q' v
    rw [Bool.eq_iff_iff, (judge_spec hW v).2, (law_spec hW v).2]
  have okJ : ∀ (q' : Rat) (v : AV), Ok_judgeRents (P_LAW_v3 c).1 (ofQ q') v := fun q' v => (judge_spec hW v).1
  have okL : ∀ (q' : Rat) (v : AV), Ok_LIsRents (P_LAW_v3 c).1 (ofQ q') v := fun q' v => (law_spec hW v).1
  have isRight : ∀ (q' : Rat) (v : AV) (rs' : List Rat), Shape v o rs' → Right (P_LAW_v3 c).1 n q' o rs' → P_LIsRents (P_LAW_v3 c).1 (ofQ q') v = true := fun q' v rs' g1 g2 => (law_spec hW v).2.mpr ⟨o, rs', g1, g2⟩
  have lp : P_LIsRents (P_LAW_v3 c).1 (P_LAW_v4 c) (mkA (eP3 eS (eT eI) (eT (eP2 eI eI)) (P_LAW_v7 c))) = true := by rw [eR, e7]; exact isRight q _ rs (shape pav) right
  have lim4 : ∀ {α : Type} {l : List α}, l.length = n → l.length < LIM := fun {α l} e => by rw [e]; show _ < 16777216; omega
  have alk1 : D.alk 9 (eP3 eS (eT eI) (eT (eP2 eI eI)) (sx_rents, o, rs.map ofQ)) = true := by
    have h1 : D.alk 8 (eT eI o) = true := alk_is (k := 7) (lim4 p.len)
    have h2 : D.alk 8 (eT (eP2 eI eI) (rs.map ofQ)) = true := alk_qs (k := 6) (lim4 rl)
    refine alk_tup' (by show 3 < 16777216; decide) fun d hd => ?_
    simp only [List.mem_cons, List.not_mem_nil, or_false] at hd
    rcases hd with rfl | rfl | rfl
    · simp only [D.alk]; exact sx_rents.2.1
    · exact h1
    · exact h2
  have alk2 : D.alk 9 (eP2 (eP2 eI eI) (eT (eP2 eI eI)) (ofQ V, rs.map ofQ)) = true := by
    have h1 : D.alk 8 (eP2 eI eI (ofQ V)) = true := alk_q V (k := 7)
    have h2 : D.alk 8 (eT (eP2 eI eI) (rs.map ofQ)) = true := alk_qs (k := 6) (lim4 rl)
    refine alk_tup' (by show 2 < 16777216; decide) fun d hd => ?_
    simp only [List.mem_cons, List.not_mem_nil, or_false] at hd
    rcases hd with rfl | rfl
    · exact h1
    · exact h2
  have av2 : D.av 9 (eP2 (eP2 eI eI) (eT (eP2 eI eI)) (ofQ V, rs.map ofQ)) = true := by
    refine av_le (n := 3) (.tup 2 _ (by simp) fun d hd => ?_) (by decide)
    simp only [List.mem_cons, List.not_mem_nil, or_false] at hd
    rcases hd with rfl | rfl
    · exact (sm_q (vb.mono (by decide))).up (by decide)
    · exact sm_qs (fun x hx => (rb x hx).mono (by decide)) (by omega)
  -- more rent
  have hb12 : QB 2 (1 / 2 : Rat) := ⟨by decide +kernel, by decide +kernel⟩
  have mo : ∀ x ∈ rs, Ok_LPlus (ofQ x) (1, 2) ∧ P_LPlus (ofQ x) (1, 2) = ofQ (x + 1 / 2) := fun x hx => by rw [half_Q]; exact lplus_Q (rb x hx) hb12 (by decide)
  have e8 : P_LAW_v8 c = (rs.map fun x => x + 1 / 2).map ofQ := by
    unfold P_LAW_v8
    rw [e6]
    show List.map _ (rs.map ofQ) = _
    rw [List.map_map, List.map_map]
    exact List.map_congr_left fun x hx => (mo x hx).2
  obtain ⟨n1, n2, n3⟩ := frac_bits (a := (n : Int)) (b := 2) (by rw [p8]; omega) (by decide) (by decide)
  obtain ⟨m1, m2⟩ := lplus_Q f3 n3 (by decide)
  have rb2 : ∀ x ∈ rs.map (fun x => x + 1 / 2), QB 39 x := by
    intro x hx
    obtain ⟨y, hy, rfl⟩ := List.mem_map.mp hx
    exact ((rb y hy).add hb12).mono (by decide)
  have av8 := av_le (paper_sm perm hn4 rb2 (by rw [List.length_map]; exact rl)) (by decide)
  have right8 : Right (P_LAW_v3 c).1 n (q + Rat.divInt (n : Int) 2) o (rs.map fun x => x + 1 / 2) := by
    refine ⟨perm, by rw [List.length_map]; exact rl, ?_, fun i k hi hk => ?_⟩
    · have : ∀ l : List Rat, (l.map fun x => x + 1 / 2).sum = l.sum + ((l.length : Int) : Rat) / 2 := by
        intro l
        induction l with
        | nil => simp; grind
        | cons x l ih => rw [List.map_cons, List.sum_cons, ih, List.sum_cons, List.length_cons]; push_cast; grind
      rw [this, rsum, rl, Rat.divInt_eq_div]; rfl
    · rw [room_eq p hi]
      obtain ⟨k', hk', e⟩ := p.sur k hk
      have := rfit hi hk'
      rw [e] at this
      have g : ∀ k, k < n → (rs.map fun x => x + 1 / 2).getD k 0 = rs.getD k 0 + 1 / 2 := fun k hk => by
        rw [getD_eq (by rw [List.length_map]; omega), getD_eq (by omega), List.getElem_map]
      rw [g k hk, g (b i) (p.lt i hi)]
      grind
  have eM : P_LPlus (P_LAW_v4 c) (P_LFraction (1 + (P_LTake c 4).1) 2) = ofQ (q + Rat.divInt (n : Int) 2) := by rw [eR, en, n2, m2]
  have j8 : P_judgeRents (P_LAW_v3 c).1 (P_LPlus (P_LAW_v4 c) (P_LFraction (1 + (P_LTake c 4).1) 2)) (mkA (eP3 eS (eT eI) (eT (eP2 eI eI)) (sx_rents, (P_LAW_v6 c).1, P_LAW_v8 c))) = true := by
    rw [eM, same, e6, e8]
    exact isRight _ _ _ (shape av8) right8
  -- the turns
  have bl : ∀ x : Bool, D.av 9 (eB x) = true ∧ (mkA (eB x)).isBl = true := by
    intro x
    have : D.av 9 (eB x) = true := by simp [D.av]
    exact ⟨this, by unfold AV.isBl; rw [mkA_1 this]⟩
  have turn : ∀ (t : Cu) (x : Int), Ok_LAW_18 c t x ∧ ∃ t', P_LAW_s17 c t x = .nx t' := by
    intro t x
    have six : (decide (x = 6) && decide (1 < (1 + (P_LTake c 4).1))) = true → (Ok_LTake ((P_LAW_v9 c t x).2) ((1 + (P_LTake c 4).1) - 1)) ∧ (Ok_LTake (P_LAW_c11 c t x) 3) ∧ (Ok_LFraction (1 + (P_LTake (P_LAW_c11 c t x) 3).1) 2) ∧ (InR ((P_LAW_v6 c).2.1) (P_LAW_v10 c t x)) ∧ (Ok_LPlus (ixZ ((P_LAW_v6 c).2.1) (P_LAW_v10 c t x)) (P_LAW_v12 c t x)) ∧ (InR ((P_LAW_v6 c).2.1) ((P_LAW_v10 c t x) + 1)) ∧ (Ok_LMinus (ixZ ((P_LAW_v6 c).2.1) ((P_LAW_v10 c t x) + 1)) (P_LAW_v12 c t x)) ∧ (D.av 9 ((eP3 eS (eT eI) (eT (eP2 eI eI))) (P_LAW_v14 c t x)) = true) := by
      intro e
      simp only [Bool.and_eq_true, decide_eq_true_eq] at e
      have h1n : 1 < (n : Int) := by rw [← en]; exact e.2
      have tk : Ok_LTake ((P_LAW_v9 c t x).2) ((1 + (P_LTake c 4).1) - 1) := ⟨by rw [en]; omega, by rw [en]; omega⟩
      have tk3 : Ok_LTake (P_LAW_c11 c t x) 3 := ⟨by decide, by decide⟩
      obtain ⟨k0, k1⟩ := P_LTake_lt tk
      have k0' : 0 ≤ P_LAW_v10 c t x := k0
      have k1 : P_LAW_v10 c t x < (1 + (P_LTake c 4).1) - 1 := k1
      rw [en] at k1
      obtain ⟨k, hk⟩ := Int.eq_ofNat_of_zero_le k0'
      rw [hk] at k1
      have hkn : k + 1 < n := by omega
      have g3 := P_LTake_lt tk3
      obtain ⟨w1, w2, w3⟩ := frac_bits (a := 1 + (P_LTake (P_LAW_c11 c t x) 3).1) (b := 2) (by rw [p8]; omega) (by decide) (by decide)
      have e12 : P_LAW_v12 c t x = ofQ (Rat.divInt (1 + (P_LTake (P_LAW_c11 c t x) 3).1) 2) := w2
      generalize Rat.divInt (1 + (P_LTake (P_LAW_c11 c t x) 3).1) 2 = y at w2 w3 e12
      have gx : ∀ j, j < n → rs.getD j 0 ∈ rs := fun j hj => by rw [getD_eq (by omega)]; exact List.getElem_mem _
      have ek1 : ((k : Int) + 1) = ((k + 1 : Nat) : Int) := by push_cast; rfl
      obtain ⟨x1, x2⟩ := lplus_Q (rb _ (gx k (by omega))) w3 (by decide)
      obtain ⟨y1, y2⟩ := lminus_Q (rb _ (gx (k + 1) hkn)) w3 (by decide)
      have ix1 : ixZ (rs.map ofQ) (k : Int) = ofQ (rs.getD k 0) := ixD_map (by omega)
      have ix2 : ixZ (rs.map ofQ) ((k : Int) + 1) = ofQ (rs.getD (k + 1) 0) := by rw [ek1]; exact ixD_map (by omega)
      have e13 : P_LAW_v13 c t x = ((rs.set k (rs.getD k 0 + y)).set (k + 1) (rs.getD (k + 1) 0 - y)).map ofQ := by
        unfold P_LAW_v13
        rw [e6, hk, e12]
        show setZ (setZ (rs.map ofQ) (k : Int) (P_LPlus (ixZ (rs.map ofQ) (k : Int)) (ofQ y))) ((k : Int) + 1) (P_LMinus (ixZ (rs.map ofQ) ((k : Int) + 1)) (ofQ y)) = _
        rw [ix1, ix2, x2, y2, setZ_nat, ek1, setZ_nat, setD_map, setD_map]
      refine ⟨tk, tk3, w1, ?_, ?_, ?_, ?_, ?_⟩
      · rw [e6, hk]; exact InR_nat (by show k < (rs.map ofQ).length; rw [List.length_map]; omega)
      · rw [e6, hk, e12]; show Ok_LPlus (ixZ (rs.map ofQ) (k : Int)) _; rw [ix1]; exact x1
      · rw [e6, hk, ek1]; exact InR_nat (by show k + 1 < (rs.map ofQ).length; rw [List.length_map]; omega)
      · rw [e6, hk, e12]; show Ok_LMinus (ixZ (rs.map ofQ) ((k : Int) + 1)) _; rw [ix2]; exact y1
      · unfold P_LAW_v14
        rw [e13, e6]
        refine av_le (paper_sm perm hn4 (fun z hz => ?_) (by rw [List.length_set, List.length_set]; exact rl)) (by decide)
        rcases List.mem_or_eq_of_mem_set hz with hz | rfl
        · rcases List.mem_or_eq_of_mem_set hz with hz | rfl
          · exact (rb z hz).mono (by decide)
          · exact ((rb _ (gx k (by omega))).add w3).mono (by decide)
        · exact ((rb _ (gx (k + 1) hkn)).sub w3).mono (by decide)
    refine ⟨⟨pavQ, by show Sm 1000 8 (mkA _).1; rw [mkA_1 pavQ, e7]; exact psm, fun e => ?_, fun _ => ⟨by rw [eR]; exact okJ q _, (bl _).1, fun _ => by rw [eR]; exact okL q _⟩⟩, ?_⟩
    · obtain ⟨s1, s2, s3, s4, s5, s6, s7, s8⟩ := six e
      exact ⟨s1, s2, s3, s4, s5, s6, s7, s8, by rw [eR]; exact okJ q _, (bl _).1, fun _ => ⟨s8, by rw [eR]; exact okL q _⟩⟩
    · unfold P_LAW_s17 P_LAW_v15 P_LAW_v16
      rw [(bl _).2, (bl _).2, eR, same, same]
      cases (decide (x = 6) && decide (1 < (1 + (P_LTake c 4).1))) <;> simp
  obtain ⟨tEnd, hEnd⟩ := forP_nxS (fun t x => (turn t x).2) (rngZ 0 7) (P_LAW_c5 c)
  have l19 : P_LAW_l19 c = .nx tEnd := hEnd
  refine ⟨⟨t0, i62n, limn, okA_all (fun c3 _ => ⟨i62n, limn, okA_all (fun c6 _ => t12 c6) _ _⟩) _ _, t60, t3, f1, by rw [eR]; exact d1, by rw [eR]; exact r1, pavQ, by rw [e6]; exact pav, ⟨by rw [e7, e6], by rw [mkA_1 pavQ, e7]; exact alk1⟩, fun _ => ⟨pavQ, by rw [eR]; exact okL q _⟩, fun _ => ⟨by rw [eR]; exact l1, by rw [eR, l2]; exact av2, by rw [e6]; exact av2, ⟨by rw [eR, l2, e6], by rw [eR, l2, mkA_1 av2]; exact alk2⟩, fun _ => ⟨?_, ?_, ?_, ?_, ?_, ?_, fun _ => okFor_allS (fun t x => (turn t x).1) _ _⟩⟩⟩, ?_⟩
  · rw [e6]
    intro x hx
    obtain ⟨y, hy, rfl⟩ := List.mem_map.mp hx
    exact (mo y hy).1
  · rw [e6]; show (rs.map ofQ).length ≤ _; rw [List.length_map]; exact Nat.le_of_lt (lim4 rl)
  · rw [en]; exact n1
  · rw [eR, en, n2]; exact m1
  · rw [e6, e8]; exact av8
  · rw [eM]; exact okJ _ _
  · unfold P_LAW
    rw [lp, j8, l19]
    rfl
theorem good : Good := by
  intro ns hn
  obtain ⟨c, hc⟩ := start_ok ns hn
  obtain ⟨h1, h2⟩ := law_true c
  obtain ⟨S', h3⟩ := P_LAW_eq c ns hc h1
  rw [h2] at h3
  exact ⟨S', h3⟩
end K62

open PySem PySem.W PyProof.Rows
set_option maxHeartbeats 0 in
theorem PySem.Challenge.cw_shareworth_k62_rooms_and_rent_holds : PySem.Challenge.rw_shareworth_k62_rooms_and_rent.Holds := by
  w_on; o_law; k_head; (case hw => w_witness2)
  k_fill
  refine L2.walk_of (l := PySem.Challenge.rw_shareworth_k62_rooms_and_rent) (n := 63) (k := 21) (x := "script") (CX := fun _ => L2.CX0) (sp := fun w => K62.spLaw _) rfl (by decide) rfl ⟨rfl, by decide, by decide⟩ (fun w h Y => PySem.W.kIn_of Y) ?F (fun _ _ a ns hl _ hS => ⟨a, ns, rfl, hS, hl, fun _ => rfl⟩) (fun _ _ _ _ _ h => h)
  case F =>
    intro w mg fa h KX G hmg
    refine' K62.all_mk K62.good KX G hmg ?a0 ?l0 ?c0 ?k0 ?a1 ?l1 ?c1 ?k1 ?a2 ?l2 ?c2 ?k2 ?a3 ?l3 ?c3 ?k3 ?a4 ?l4 ?c4 ?k4 ?a5 ?l5 ?c5 ?k5 ?a6 ?l6 ?c6 ?k6 ?a7 ?l7 ?c7 ?k7 ?a8 ?l8 ?c8 ?k8 ?a9 ?l9 ?c9 ?k9 ?a10 ?l10 ?c10 ?k10 ?a11 ?l11 ?c11 ?k11 ?a12 ?l12 ?c12 ?k12 ?a13 ?l13 ?c13 ?k13 ?a14 ?l14 ?c14 ?k14 ?a15 ?l15 ?c15 ?k15 ?a16 ?l16 ?c16 ?k16 ?a17 ?l17 ?c17 ?k17 ?a18 ?l18 ?c18 ?k18 ?a19 ?l19 ?c19 ?k19 ?a20 ?l20 ?c20 ?k20 ?a21 ?l21 ?c21 ?k21 ?a22 ?l22 ?c22 ?k22 ?a23 ?l23 ?c23 ?k23 ?a24 ?l24 ?c24 ?k24 ?a25 ?l25 ?c25 ?k25 ?a26 ?l26 ?c26 ?k26 ?a27 ?l27 ?c27 ?k27 ?a28 ?l28 ?c28 ?k28 ?a29 ?l29 ?c29 ?k29 ?a30 ?l30 ?c30 ?k30 ?a31 ?l31 ?c31 ?k31 ?a32 ?l32 ?c32 ?k32 ?a33 ?l33 ?c33 ?k33 ?a34 ?l34 ?c34 ?k34 ?a35 ?l35 ?c35 ?k35 ?a36 ?l36 ?c36 ?k36 ?a37 ?l37 ?c37 ?k37 ?z_abs ?z_all ?z_any ?z_bool ?z_enumerate ?z_int ?z_isinstance ?z_len ?z_list ?z_min ?z_range ?z_sorted ?z_str ?z_sum ?z_tuple ?qZERO ?hAZERO ?cAZERO ?dAZERO
    (case a0 => k_is); (case l0 => k_is); (case c0 => k_is); (case k0 => k_is)
    (case a1 => k_is); (case l1 => k_is); (case c1 => k_is); (case k1 => k_is)
    (case a2 => k_is); (case l2 => k_is); (case c2 => k_is); (case k2 => k_is)
    (case a3 => k_is); (case l3 => k_is); (case c3 => k_is); (case k3 => k_is)
    (case a4 => k_is); (case l4 => k_is); (case c4 => k_is); (case k4 => k_is)
    (case a5 => k_is); (case l5 => k_is); (case c5 => k_is); (case k5 => k_is)
    (case a6 => k_is); (case l6 => k_is); (case c6 => k_is); (case k6 => k_is)
    (case a7 => k_is); (case l7 => k_is); (case c7 => k_is); (case k7 => k_is)
    (case a8 => k_is); (case l8 => k_is); (case c8 => k_is); (case k8 => k_is)
    (case a9 => k_is); (case l9 => k_is); (case c9 => k_is); (case k9 => k_is)
    (case a10 => k_is); (case l10 => k_is); (case c10 => k_is); (case k10 => k_is)
    (case a11 => k_is); (case l11 => k_is); (case c11 => k_is); (case k11 => k_is)
    (case a12 => k_is); (case l12 => k_is); (case c12 => k_is); (case k12 => k_is)
    (case a13 => k_is); (case l13 => k_is); (case c13 => k_is); (case k13 => k_is)
    (case a14 => k_is); (case l14 => k_is); (case c14 => k_is); (case k14 => k_is)
    (case a15 => k_is); (case l15 => k_is); (case c15 => k_is); (case k15 => k_is)
    (case a16 => k_is); (case l16 => k_is); (case c16 => k_is); (case k16 => k_is)
    (case a17 => k_is); (case l17 => k_is); (case c17 => k_is); (case k17 => k_is)
    (case a18 => k_is); (case l18 => k_is); (case c18 => k_is); (case k18 => k_is)
    (case a19 => k_is); (case l19 => k_is); (case c19 => k_is); (case k19 => k_is)
    (case a20 => k_is); (case l20 => k_is); (case c20 => k_is); (case k20 => k_is)
    (case a21 => k_is); (case l21 => k_is); (case c21 => k_is); (case k21 => k_is)
    (case a22 => k_is); (case l22 => k_is); (case c22 => k_is); (case k22 => k_is)
    (case a23 => k_is); (case l23 => k_is); (case c23 => k_is); (case k23 => k_is)
    (case a24 => k_is); (case l24 => k_is); (case c24 => k_is); (case k24 => k_is)
    (case a25 => k_is); (case l25 => k_is); (case c25 => k_is); (case k25 => k_is)
    (case a26 => k_is); (case l26 => k_is); (case c26 => k_is); (case k26 => k_is)
    (case a27 => k_is); (case l27 => k_is); (case c27 => k_is); (case k27 => k_is)
    (case a28 => k_is); (case l28 => k_is); (case c28 => k_is); (case k28 => k_is)
    (case a29 => k_is); (case l29 => k_is); (case c29 => k_is); (case k29 => k_is)
    (case a30 => k_is); (case l30 => k_is); (case c30 => k_is); (case k30 => k_is)
    (case a31 => k_is); (case l31 => k_is); (case c31 => k_is); (case k31 => k_is)
    (case a32 => k_is); (case l32 => k_is); (case c32 => k_is); (case k32 => k_is)
    (case a33 => k_is); (case l33 => k_is); (case c33 => k_is); (case k33 => k_is)
    (case a34 => k_is); (case l34 => k_is); (case c34 => k_is); (case k34 => k_is)
    (case a35 => k_is); (case l35 => k_is); (case c35 => k_is); (case k35 => k_is)
    (case a36 => k_is); (case l36 => k_is); (case c36 => k_is); (case k36 => k_is)
    (case a37 => k_is); (case l37 => k_is); (case c37 => k_is); (case k37 => k_is)
    (case z_abs => k_is)
    (case z_all => k_is)
    (case z_any => k_is)
    (case z_bool => k_is)
    (case z_enumerate => k_is)
    (case z_int => k_is)
    (case z_isinstance => k_is)
    (case z_len => k_is)
    (case z_list => k_is)
    (case z_min => k_is)
    (case z_range => k_is)
    (case z_sorted => k_is)
    (case z_str => k_is)
    (case z_sum => k_is)
    (case z_tuple => k_is)
    (case qZERO => k_is)
    (case hAZERO => k_is)
    (case cAZERO => exact rfl)
    (case dAZERO => exact rfl)
