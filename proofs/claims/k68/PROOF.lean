import PyProof.Rows.All
import Wide.All
import OpenK.AllK
import Wide.FinOn
import HandS.ForMost
import HandS.IsInst
import HandS.SetKeys
import HandS.DictComp
import HandS.TupAny
import HandS.TupMul
import HandS.Style
import HandS.Conv
import HandS.Star
import HandS.Rev
import HandS.Zip
import HandS.SortInts
import HandS.Wide
import HandS.RaiseMore
import KE.KDictKeyed
import HandS.NoneIn
import KE.GoesEnum
import PyProof.ReprRoads
import HandS.TupLen
import HandS.Defaults
import HandS.Words
import HandS.Ends
import HandS.Codes
import PySem.Challenge.RW_guardedways_k68_whole_side_by_side_count
set_option Elab.async false
set_option linter.all false
set_option maxRecDepth 100000
/-! Gw: an executable meaning of the program's text over HandS. Core: data, relations. -/
namespace Gw
open PySem L2

/-- data: immutable trees, and references to the objects that the run has made -/
inductive D where
  | non | bl (b : Bool) | int (i : Int) | str (x : Str) | tup (ds : List D) | obj (i : Nat)

/-- an object that may change -/
inductive AO where
  | lst (ds : List D)
  | dic (kvs : List (Key × D))
  | frz (kvs : List (Key × D))
  | ins (c : Nat) (fs : List (Str × D))
  | kd (kvs : List (NestedKey × D))

mutual
/-- a tree as a key -/
def nkOf : D → Option NestedKey
  | .non => some .none
  | .bl b => some (.num (if b = true then 1 else 0))
  | .int i => some (.num i)
  | .str x => some (.text x)
  | .tup ds => (nksOf ds).map .tup
  | .obj _ => none
def nksOf : List D → Option (List NestedKey)
  | [] => some []
  | d :: ds => (nkOf d).bind fun a => (nksOf ds).map (a :: ·)
end
/-- the module's classes, the program, the world -/
structure Cl where
  f : Nat → Option Addr
  P : Program
  w : World
instance : CoeFun Cl (fun _ => Nat → Option Addr) := ⟨Cl.f⟩
/-- the objects, by number -/
inductive Tr where
  | lf | nd (v : Option AO) (l r : Tr)
namespace Tr
def get : Tr → Nat → Option AO
  | lf, _ => none
  | nd v l r, k => bif Nat.beq k 0 then v else bif Nat.beq (k % 2) 1 then l.get (k / 2) else r.get (k / 2 - 1)
def put : Nat → Tr → Nat → AO → Tr
  | 0, t, _, _ => t
  | f + 1, lf, k, o => bif Nat.beq k 0 then nd (some o) lf lf else bif Nat.beq (k % 2) 1 then nd none (put f lf (k / 2) o) lf else nd none lf (put f lf (k / 2 - 1) o)
  | f + 1, nd v l r, k, o => bif Nat.beq k 0 then nd (some o) l r else bif Nat.beq (k % 2) 1 then nd v (put f l (k / 2) o) r else nd v l (put f r (k / 2 - 1) o)
theorem beq_f {a b : Nat} (h : ¬ a = b) : Nat.beq a b = false := by
  cases e : Nat.beq a b with
  | false => rfl
  | true => exact absurd (Nat.eq_of_beq_eq_true e) h
theorem beq_t {a b : Nat} (h : a = b) : Nat.beq a b = true := by subst h; exact Nat.beq_refl a
theorem get_put (o : AO) : ∀ (f : Nat) (t : Tr) (k j : Nat), k < f → (put f t k o).get j = if j = k then some o else t.get j
  | 0, _, _, _, h => absurd h (Nat.not_lt_zero _)
  | f + 1, t, k, j, h => by
    have key : ∀ (v : Option AO) (l r : Tr), (∀ i, t.get i = (nd v l r).get i) → put (f + 1) t k o = (bif Nat.beq k 0 then nd (some o) l r else bif Nat.beq (k % 2) 1 then nd v (put f l (k / 2) o) r else nd v l (put f r (k / 2 - 1) o)) →
        (put (f + 1) t k o).get j = if j = k then some o else t.get j := fun v l r ht hp => by
      rw [hp, ht]
      by_cases hk : k = 0
      · subst hk
        by_cases hj : j = 0
        · subst hj; simp [get]
        · rw [if_neg hj]; simp [get, beq_f hj]
      · have e0 : Nat.beq k 0 = false := beq_f hk
        rw [e0, cond_false]
        by_cases hk2 : k % 2 = 1
        · have e1 : Nat.beq (k % 2) 1 = true := beq_t hk2
          rw [e1, cond_true]
          by_cases hj : j = 0
          · subst hj; rw [if_neg (Ne.symm hk)]; simp [get]
          · have f0 : Nat.beq j 0 = false := beq_f hj
            by_cases hj2 : j % 2 = 1
            · have f1 : Nat.beq (j % 2) 1 = true := beq_t hj2
              simp only [get, f0, f1, cond_false, cond_true]
              rw [get_put o f l (k / 2) (j / 2) (by omega)]
              by_cases hjk : j = k
              · subst hjk; simp
              · rw [if_neg hjk, if_neg (by omega)]
            · have f1 : Nat.beq (j % 2) 1 = false := beq_f hj2
              simp only [get, f0, f1, cond_false]
              rw [if_neg (by omega)]
        · have e1 : Nat.beq (k % 2) 1 = false := beq_f hk2
          rw [e1, cond_false]
          by_cases hj : j = 0
          · subst hj; rw [if_neg (Ne.symm hk)]; simp [get]
          · have f0 : Nat.beq j 0 = false := beq_f hj
            by_cases hj2 : j % 2 = 1
            · have f1 : Nat.beq (j % 2) 1 = true := beq_t hj2
              simp only [get, f0, f1, cond_false, cond_true]
              rw [if_neg (by omega)]
            · have f1 : Nat.beq (j % 2) 1 = false := beq_f hj2
              simp only [get, f0, f1, cond_false]
              rw [get_put o f r (k / 2 - 1) (j / 2 - 1) (by omega)]
              by_cases hjk : j = k
              · subst hjk; simp
              · rw [if_neg hjk, if_neg (by omega)]
    cases t with
    | lf => exact key none lf lf (fun i => by simp only [get]; cases Nat.beq i 0 <;> cases Nat.beq (i % 2) 1 <;> rfl) rfl
    | nd v l r => exact key v l r (fun i => rfl) rfl
end Tr
structure Ah where
  n : Nat
  t : Tr
namespace Ah
def nil : Ah := ⟨0, .lf⟩
def get (h : Ah) (i : Nat) : Option AO := bif Nat.blt i h.n then h.t.get i else none
def set (h : Ah) (i : Nat) (o : AO) : Ah := ⟨h.n, h.t.put (i + 1) i o⟩
def push (h : Ah) (o : AO) : Ah := ⟨h.n + 1, h.t.put (h.n + 1) h.n o⟩
theorem get_some {h : Ah} {i : Nat} {o : AO} (e : h.get i = some o) : i < h.n := by
  unfold get at e
  by_cases hi : i < h.n
  · exact hi
  · have : Nat.blt i h.n = false := by rw [Nat.blt]; exact Bool.eq_false_iff.mpr fun q => hi (Nat.le_of_ble_eq_true q)
    rw [this] at e; cases e
theorem blt_t {i n : Nat} (h : i < n) : Nat.blt i n = true := Nat.ble_eq_true_of_le h
theorem blt_f {i n : Nat} (h : ¬ i < n) : Nat.blt i n = false := Bool.eq_false_iff.mpr fun q => h (Nat.le_of_ble_eq_true q)
theorem get_push (h : Ah) (o : AO) (i : Nat) : (h.push o).get i = if i = h.n then some o else h.get i := by
  unfold push get
  show (bif Nat.blt i (h.n + 1) then (Tr.put (h.n + 1) h.t h.n o).get i else none) = _
  rw [Tr.get_put o _ _ _ _ (Nat.lt_succ_self _)]
  by_cases hi : i = h.n
  · subst hi; simp [blt_t (Nat.lt_succ_self h.n)]
  · rw [if_neg hi, if_neg hi]
    by_cases h2 : i < h.n
    · rw [blt_t h2, blt_t (Nat.lt_succ_of_lt h2)]
    · rw [blt_f h2, blt_f (by omega)]
theorem get_set {h : Ah} {i : Nat} (hi : i < h.n) (o : AO) (j : Nat) : (h.set i o).get j = if j = i then some o else h.get j := by
  unfold set get
  show (bif Nat.blt j h.n then (Tr.put (i + 1) h.t i o).get j else none) = _
  rw [Tr.get_put o _ _ _ _ (Nat.lt_succ_self _)]
  by_cases hj : j = i
  · subst hj; simp [blt_t hi]
  · rw [if_neg hj, if_neg hj]
end Ah
abbrev AEnv := List (Option D)

mutual
inductive RelD (K : PySem.W.Frag) (ρ : List Addr) (H : Hp) : D → V → Prop
  | non : RelD K ρ H .non .non
  | bl (b : Bool) : RelD K ρ H (.bl b) (.bl b)
  | int (i : Int) : RelD K ρ H (.int i) (.int i)
  | str (x : Str) : RelD K ρ H (.str x) (.str x)
  | tup {ds : List D} {vs : List V} {a : Addr} : SqT K H a vs → RelDs K ρ H ds vs → RelD K ρ H (.tup ds) (.ref a)
  | obj {i : Nat} {a : Addr} : ρ[i]? = some a → RelD K ρ H (.obj i) (.ref a)
inductive RelDs (K : PySem.W.Frag) (ρ : List Addr) (H : Hp) : List D → List V → Prop
  | nil : RelDs K ρ H [] []
  | cons {d : D} {v : V} {ds : List D} {vs : List V} : RelD K ρ H d v → RelDs K ρ H ds vs → RelDs K ρ H (d :: ds) (v :: vs)
end

/-- pairs of a dict, of an instance -/
inductive RelKV (K : PySem.W.Frag) (ρ : List Addr) (H : Hp) {κ : Type} : List (κ × D) → List (κ × V) → Prop
  | nil : RelKV K ρ H [] []
  | cons {k : κ} {d : D} {v : V} {ds : List (κ × D)} {vs : List (κ × V)} : RelD K ρ H d v → RelKV K ρ H ds vs → RelKV K ρ H ((k, d) :: ds) ((k, v) :: vs)

/-- a dict with nested keys -/
inductive RelK (K : PySem.W.Frag) (ρ : List Addr) (H : Hp) : List (NestedKey × D) → List (NestedKey × Addr × V) → Prop
  | nil : RelK K ρ H [] []
  | cons {k : NestedKey} {kd d : D} {q : Addr} {v : V} {ds : List (NestedKey × D)} {vs : List (NestedKey × Addr × V)} : nkOf kd = some k → k.depth ≤ 8 → RelD K ρ H kd (.ref q) → RelD K ρ H d v → RelK K ρ H ds vs → RelK K ρ H ((k, d) :: ds) ((k, q, v) :: vs)
def KDO (P : Program) (w : World) (a : Addr) (xs : List (NestedKey × Addr × V)) : HO := .ext fun h => (a == sysModules) = false ∧ ∃ us : List (NestedKey × Addr × Value), Paired (fun (p : NestedKey × Addr × V) (q : NestedKey × Addr × Value) => p.1 = q.1 ∧ p.2.1 = q.2.1 ∧ RelV p.2.2 q.2.2) xs us ∧
  ∃ o es ep, h.get? a = some o ∧ o.ExactDict ∧ o.data = .dict es ep ∧ es.toList = us.map (entryOfKey (nestedKind P w)) ∧ (us.map (·.1)).Nodup
def Ext (ρ ρ' : List Addr) : Prop := ∀ (i : Nat) (a : Addr), ρ[i]? = some a → ρ'[i]? = some a
/-- what stands for good: tuples, what is locked -/
structure Keep (H H' : Hp) : Prop where
  tup : ∀ (a : Addr) (xs : List V), Rd H a (.tup xs) → Rd H' a (.tup xs)
  frz : ∀ (a : Addr) (o : Obj) (u : HO), H a = some (.frz o u) → H' a = some (.frz o u)
theorem Ext.refl (ρ : List Addr) : Ext ρ ρ := fun _ _ h => h
theorem Ext.trans {a b c : List Addr} (h : Ext a b) (k : Ext b c) : Ext a c := fun i x e => k i x (h i x e)
theorem Keep.refl (H : Hp) : Keep H H := ⟨fun _ _ h => h, fun _ _ _ h => h⟩
theorem Keep.trans {a b c : Hp} (h : Keep a b) (k : Keep b c) : Keep a c := ⟨fun i x e => k.tup i x (h.tup i x e), fun i o u e => k.frz i o u (h.frz i o u e)⟩
theorem Ext.app (ρ σ : List Addr) : Ext ρ (ρ ++ σ) := fun i a h => by
  obtain ⟨hi, _⟩ := List.getElem?_eq_some_iff.mp h
  rw [List.getElem?_append_left hi]; exact h
theorem Keep.sqt {K : PySem.W.Frag} {H H' : Hp} (k : Keep H H') {a : Addr} {xs : List V} (h : SqT K H a xs) : SqT K H' a xs := by
  rcases h with h | h
  · exact .inl (k.tup a xs h)
  · exact .inr h
theorem grow_keep {H H' : Hp} (hs : ∀ a o, H a = some o → H' a = some o) : Keep H H' := ⟨fun b xs q => by
  rcases q with q | ⟨ob, q⟩
  · exact .inl (hs _ _ q)
  · exact .inr ⟨ob, hs _ _ q⟩, fun a o u q => hs _ _ q⟩
theorem upd_grow {H : Hp} {p : Addr} {o : HO} (hp : H p = none) : ∀ a u, H a = some u → upd H p o a = some u := fun a u e => by rw [upd_ne (ne_of_none e hp)]; exact e
theorem Keep.new {H : Hp} {p : Addr} {o : HO} (h : H p = none) : Keep H (upd H p o) := grow_keep (upd_grow h)
/-- an object that is no tuple and not locked is written -/
def NoTup : HO → Prop
  | .tup _ => False
  | .frz _ _ => False
  | _ => True
theorem Keep.write {H : Hp} {p : Addr} {o u : HO} (h : H p = some u) (hu : NoTup u) : Keep H (upd H p o) := by
  have ne : ∀ a w, H a = some w → ¬ NoTup w → a ≠ p := fun a w e n z => by subst z; rw [h] at e; cases e; exact n hu
  refine ⟨fun a xs e => ?_, fun a ob w e => ?_⟩
  · rcases e with e | ⟨ob, e⟩
    · exact .inl (by rw [upd_ne (ne a _ e (fun z => z))]; exact e)
    · exact .inr ⟨ob, by rw [upd_ne (ne a _ e (fun z => z))]; exact e⟩
  · rw [upd_ne (ne a _ e (fun z => z))]; exact e

section
variable {K : PySem.W.Frag} {ρ ρ' : List Addr} {H H' : Hp}
mutual
theorem RelD.mono (e : Ext ρ ρ') (k : Keep H H') : ∀ {d : D} {v : V}, RelD K ρ H d v → RelD K ρ' H' d v
  | _, _, .non => .non
  | _, _, .bl b => .bl b
  | _, _, .int i => .int i
  | _, _, .str x => .str x
  | _, _, .tup h hs => .tup (k.sqt h) (RelDs.mono e k hs)
  | _, _, .obj h => .obj (e _ _ h)
theorem RelDs.mono (e : Ext ρ ρ') (k : Keep H H') : ∀ {ds : List D} {vs : List V}, RelDs K ρ H ds vs → RelDs K ρ' H' ds vs
  | _, _, .nil => .nil
  | _, _, .cons h t => .cons (RelD.mono e k h) (RelDs.mono e k t)
end
theorem RelKV.mono {κ : Type} (e : Ext ρ ρ') (k : Keep H H') : ∀ {ds : List (κ × D)} {vs : List (κ × V)}, RelKV K ρ H ds vs → RelKV K ρ' H' ds vs
  | _, _, .nil => .nil
  | _, _, .cons h t => .cons (h.mono e k) (t.mono e k)

theorem RelK.mono (e : Ext ρ ρ') (k : Keep H H') : ∀ {ds : List (NestedKey × D)} {vs : List (NestedKey × Addr × V)}, RelK K ρ H ds vs → RelK K ρ' H' ds vs
  | _, _, .nil => .nil
  | _, _, .cons h1 h2 h3 h4 t => .cons h1 h2 (h3.mono e k) (h4.mono e k) (t.mono e k)
theorem RelDs.length : ∀ {ds : List D} {vs : List V}, RelDs K ρ H ds vs → ds.length = vs.length
  | _, _, .nil => rfl
  | _, _, .cons _ t => by simp [t.length]
theorem RelDs.get : ∀ {ds : List D} {vs : List V} {i : Nat} {d : D}, RelDs K ρ H ds vs → ds[i]? = some d → ∃ v, vs[i]? = some v ∧ RelD K ρ H d v
  | _, _, _, _, .nil, e => by simp at e
  | _, _, 0, _, .cons r _, e => by simp at e; subst e; exact ⟨_, rfl, r⟩
  | _, _, i + 1, _, .cons _ t, e => by
    obtain ⟨v, h1, h2⟩ := t.get (i := i) (by simpa using e)
    exact ⟨v, by simpa using h1, h2⟩
theorem RelDs.get' : ∀ {ds : List D} {vs : List V} {i : Nat} {v : V}, RelDs K ρ H ds vs → vs[i]? = some v → ∃ d, ds[i]? = some d ∧ RelD K ρ H d v
  | _, _, _, _, .nil, e => by simp at e
  | _, _, 0, _, .cons r _, e => by simp at e; subst e; exact ⟨_, rfl, r⟩
  | _, _, i + 1, _, .cons _ t, e => by
    obtain ⟨v, h1, h2⟩ := t.get' (i := i) (by simpa using e)
    exact ⟨v, by simpa using h1, h2⟩
theorem RelDs.append : ∀ {ds es : List D} {vs us : List V}, RelDs K ρ H ds vs → RelDs K ρ H es us → RelDs K ρ H (ds ++ es) (vs ++ us)
  | _, _, _, _, .nil, s => s
  | _, _, _, _, .cons r t, s => .cons r (t.append s)
theorem RelDs.take : ∀ {ds : List D} {vs : List V} (n : Nat), RelDs K ρ H ds vs → RelDs K ρ H (ds.take n) (vs.take n)
  | _, _, 0, _ => .nil
  | _, _, _ + 1, .nil => .nil
  | _, _, n + 1, .cons r t => .cons r (t.take n)
theorem RelDs.drop : ∀ {ds : List D} {vs : List V} (n : Nat), RelDs K ρ H ds vs → RelDs K ρ H (ds.drop n) (vs.drop n)
  | _, _, 0, r => r
  | _, _, _ + 1, .nil => .nil
  | _, _, n + 1, .cons _ t => t.drop n
theorem RelDs.set : ∀ {ds : List D} {vs : List V} (i : Nat) {d : D} {v : V}, RelD K ρ H d v → RelDs K ρ H ds vs → RelDs K ρ H (ds.set i d) (vs.set i v)
  | _, _, _, _, _, _, .nil => .nil
  | _, _, 0, _, _, r, .cons _ t => .cons r t
  | _, _, i + 1, _, _, r, .cons q t => .cons q (RelDs.set i r t)
theorem RelDs.dropLast : ∀ {ds : List D} {vs : List V}, RelDs K ρ H ds vs → RelDs K ρ H ds.dropLast vs.dropLast
  | _, _, .nil => .nil
  | _, _, .cons _ .nil => .nil
  | _, _, .cons r (.cons r2 t) => .cons r (RelDs.dropLast (.cons r2 t))
theorem RelDs.eraseIdx : ∀ {ds : List D} {vs : List V} (i : Nat), RelDs K ρ H ds vs → RelDs K ρ H (ds.eraseIdx i) (vs.eraseIdx i)
  | _, _, _, .nil => .nil
  | _, _, 0, .cons _ t => t
  | _, _, i + 1, .cons r t => .cons r (t.eraseIdx i)
theorem RelDs.rev : ∀ {ds : List D} {vs : List V}, RelDs K ρ H ds vs → RelDs K ρ H ds.reverse vs.reverse
  | _, _, .nil => .nil
  | _, _, .cons r t => by rw [List.reverse_cons, List.reverse_cons]; exact t.rev.append (.cons r .nil)
theorem RelDs.rep {d : D} {v : V} (h : RelD K ρ H d v) : ∀ n : Nat, RelDs K ρ H (List.replicate n d) (List.replicate n v)
  | 0 => .nil
  | n + 1 => .cons h (RelDs.rep h n)
theorem RelDs.flat {ds : List D} {vs : List V} (h : RelDs K ρ H ds vs) : ∀ n : Nat, RelDs K ρ H (List.replicate n ds).flatten (List.replicate n vs).flatten
  | 0 => .nil
  | n + 1 => by
    rw [List.replicate_succ, List.replicate_succ, List.flatten_cons, List.flatten_cons]
    exact h.append (RelDs.flat h n)
end

/-- a changing object stands at a -/
def RelO (K : PySem.W.Frag) (cls : Cl) (ρ : List Addr) (H : Hp) : AO → Addr → Prop
  | .lst ds, a => ∃ vs, H a = some (.lst vs) ∧ RelDs K ρ H ds vs
  | .dic kvs, a => ∃ vs, H a = some (.dK vs) ∧ RelKV K ρ H kvs vs
  | .frz kvs, a => ∃ ob vs, H a = some (.frz ob (.dK vs)) ∧ RelKV K ρ H kvs vs
  | .ins c fs, a => ∃ C dx vs, cls c = some C ∧ H a = some (.ins C dx vs) ∧ RelKV K ρ H fs vs
  | .kd kvs, a => ∃ xs, H a = some (KDO cls.P cls.w a xs) ∧ RelK K ρ H kvs xs

structure RelH (K : PySem.W.Frag) (cls : Cl) (ρ : List Addr) (h : Ah) (H : Hp) : Prop where
  len : ρ.length = h.n
  nd : ∀ (i j : Nat) (a : Addr), ρ[i]? = some a → ρ[j]? = some a → i = j
  full : ∀ (i : Nat) (a : Addr), ρ[i]? = some a → ∃ u, H a = some u
  at_ : ∀ (i : Nat) (o : AO) (a : Addr), h.get i = some o → ρ[i]? = some a → RelO K cls ρ H o a

section
variable {K : PySem.W.Frag} {cls : Cl} {ρ ρ' : List Addr} {h h' : Ah} {H H' : Hp}
theorem RelO.mono (e : Ext ρ ρ') (k : Keep H H') {o : AO} {a : Addr} (ha : H' a = H a) (r : RelO K cls ρ H o a) : RelO K cls ρ' H' o a := by
  cases o with
  | lst ds => obtain ⟨vs, q, r⟩ := r; exact ⟨vs, by rw [ha]; exact q, r.mono e k⟩
  | dic kvs => obtain ⟨vs, q, r⟩ := r; exact ⟨vs, by rw [ha]; exact q, r.mono e k⟩
  | frz kvs => obtain ⟨ob, vs, q, r⟩ := r; exact ⟨ob, vs, by rw [ha]; exact q, r.mono e k⟩
  | ins c fs => obtain ⟨C, dx, vs, c1, q, r⟩ := r; exact ⟨C, dx, vs, c1, by rw [ha]; exact q, r.mono e k⟩
  | kd kvs => obtain ⟨xs, q, r⟩ := r; exact ⟨xs, by rw [ha]; exact q, r.mono e k⟩
theorem RelO.some {o : AO} {a : Addr} (r : RelO K cls ρ H o a) : ∃ u, H a = some u := by
  cases o with
  | lst ds => obtain ⟨vs, q, r⟩ := r; exact ⟨_, q⟩
  | dic kvs => obtain ⟨vs, q, r⟩ := r; exact ⟨_, q⟩
  | frz kvs => obtain ⟨ob, vs, q, r⟩ := r; exact ⟨_, q⟩
  | ins c fs => obtain ⟨C, dx, vs, c1, q, r⟩ := r; exact ⟨_, q⟩
  | kd kvs => obtain ⟨xs, q, r⟩ := r; exact ⟨_, q⟩
theorem RelH.adr (R : RelH K cls ρ h H) {i : Nat} {o : AO} (e : h.get i = some o) : ∃ a, ρ[i]? = some a ∧ RelO K cls ρ H o a := by
  have hi : i < ρ.length := by rw [R.len]; exact Ah.get_some e
  exact ⟨ρ[i], by simp [hi], R.at_ i _ _ e (by simp [hi])⟩
/-- the heap grows beside -/
theorem RelH.grow (R : RelH K cls ρ h H) (hs : ∀ a o, H a = some o → H' a = some o) : RelH K cls ρ h H' := by
  refine ⟨R.len, R.nd, fun i a e => let ⟨u, q⟩ := R.full i a e; ⟨u, hs _ _ q⟩, fun i o a e1 e2 => ?_⟩
  have r := R.at_ i o a e1 e2
  obtain ⟨u, hu⟩ := r.some
  exact r.mono (Ext.refl _) (grow_keep hs) ((hs a u hu).trans hu.symm)
theorem app_get {p a : Addr} {i : Nat} (e : (ρ ++ [p])[i]? = some a) : (i < ρ.length ∧ ρ[i]? = some a) ∨ (i = ρ.length ∧ a = p) := by
  by_cases hi : i < ρ.length
  · rw [List.getElem?_append_left hi] at e; exact .inl ⟨hi, e⟩
  · have hi' : i = ρ.length := by have := (List.getElem?_eq_some_iff.mp e).1; simp at this; omega
    subst hi'
    rw [List.getElem?_append_right (Nat.le_refl _)] at e
    simp at e; exact .inr ⟨rfl, e.symm⟩
/-- a new changing object -/
theorem RelH.new (R : RelH K cls ρ h H) {p : Addr} {O : HO} {o : AO} (hp : H p = none) (r : RelO K cls (ρ ++ [p]) (upd H p O) o p) : RelH K cls (ρ ++ [p]) (h.push o) (upd H p O) := by
  have hfresh : ∀ (i : Nat) (a : Addr), ρ[i]? = some a → a ≠ p := fun i a e => by
    obtain ⟨u, hu⟩ := R.full i a e
    exact ne_of_none hu hp
  refine ⟨by show (ρ ++ [p]).length = h.n + 1; simp [R.len], fun i j a e1 e2 => ?_, fun i a e => ?_, fun i o' a e1 e2 => ?_⟩
  · rcases app_get e1 with ⟨_, e1⟩ | ⟨h1, e1⟩
    · rcases app_get e2 with ⟨_, e2⟩ | ⟨h2, e2⟩
      · exact R.nd i j a e1 e2
      · exact absurd e2 (hfresh i a e1)
    · rcases app_get e2 with ⟨_, e2⟩ | ⟨h2, e2⟩
      · exact absurd e1 (hfresh j a e2)
      · rw [h1, h2]
  · rcases app_get e with ⟨_, e⟩ | ⟨_, e⟩
    · rw [upd_ne (hfresh i a e)]; exact R.full i a e
    · rw [e]; exact ⟨_, upd_same⟩
  · rw [Ah.get_push] at e1
    rcases app_get e2 with ⟨hi, e2⟩ | ⟨h2, e2⟩
    · rw [if_neg (by rw [← R.len]; omega)] at e1
      exact (R.at_ i o' a e1 e2).mono (Ext.app _ _) (Keep.new hp) (upd_ne (hfresh i a e2))
    · rw [if_pos (by rw [← R.len]; exact h2)] at e1
      cases e1; rw [e2]; exact r
/-- a changing object is written -/
theorem RelH.write (R : RelH K cls ρ h H) {i : Nat} {p : Addr} {O u : HO} {o : AO} (hi : ρ[i]? = some p) (hu : H p = some u) (nt : NoTup u) (r : RelO K cls ρ (upd H p O) o p) : RelH K cls ρ (h.set i o) (upd H p O) := by
  refine ⟨R.len, R.nd, fun j a e => ?_, fun j o' a e1 e2 => ?_⟩
  · by_cases ha : a = p
    · rw [ha]; exact ⟨_, upd_same⟩
    · rw [upd_ne ha]; exact R.full j a e
  · rw [Ah.get_set (by rw [← R.len]; exact (List.getElem?_eq_some_iff.mp hi).1)] at e1
    by_cases hj : j = i
    · subst hj
      rw [hi] at e2; cases e2
      rw [if_pos rfl] at e1; cases e1
      exact r
    · rw [if_neg hj] at e1
      have ne : a ≠ p := fun z => hj (R.nd j i a e2 (z ▸ hi))
      exact (R.at_ j o' a e1 e2).mono (Ext.refl _) (Keep.write hu nt) (upd_ne ne)
end

/-- the names' values -/
def RelS (K : PySem.W.Frag) (ρ : List Addr) (H : Hp) (sa : AEnv) (σ : L2.St) : Prop :=
  sa.length = σ.length ∧ ∀ (i : Nat) (d : D), sa[i]? = some (some d) → ∃ v, σ[i]? = some (some v) ∧ RelD K ρ H d v
theorem RelS.mono {K : PySem.W.Frag} {ρ ρ' : List Addr} {H H' : Hp} {sa : AEnv} {σ : L2.St} (e : Ext ρ ρ') (k : Keep H H') (r : RelS K ρ H sa σ) : RelS K ρ' H' sa σ :=
  ⟨r.1, fun i d q => let ⟨v, h1, h2⟩ := r.2 i d q; ⟨v, h1, h2.mono e k⟩⟩
theorem RelS.set {K : PySem.W.Frag} {ρ : List Addr} {H : Hp} {sa : AEnv} {σ : L2.St} {d : D} {v : V} (i : Nat) (rd : RelD K ρ H d v) (r : RelS K ρ H sa σ) : RelS K ρ H (sa.set i (some d)) (σ.set i (some v)) := by
  refine ⟨by simp [r.1], fun j d' q => ?_⟩
  by_cases hj : j = i
  · subst hj
    by_cases hl : j < sa.length
    · rw [List.getElem?_set_self hl] at q; cases q
      exact ⟨v, by rw [List.getElem?_set_self (by rw [← r.1]; exact hl)], rd⟩
    · rw [List.getElem?_eq_none (by simpa using hl)] at q; cases q
  · rw [List.getElem?_set_ne (Ne.symm hj)] at q ⊢
    exact r.2 j d' q

/-! ### meanings -/
abbrev E := AEnv → Ah → Option (D × Ah)
abbrev T := AEnv → Ah → Option (Bool × Ah)
abbrev As := AEnv → Ah → Option (List D × Ah)
inductive Out where
  | nx | rt (d : D) | bk | ct
abbrev S := AEnv → Ah → Option (Out × AEnv × Ah)
abbrev F := List D → Ah → Option (D × Ah)

section
variable (K : PySem.W.Frag) (cls : Cl)
/-- what is wanted behind, in terms of meanings -/
def semE (f : E) : TE := fun σ H Q => ∃ ρ sa h d h', RelH K cls ρ h H ∧ RelS K ρ H sa σ ∧ f sa h = some (d, h') ∧
  ∀ ρ' v H', Ext ρ ρ' → Keep H H' → RelH K cls ρ' h' H' → RelD K ρ' H' d v → Q v H'
def semT (f : T) : TT := fun σ H Q => ∃ ρ sa h b h', RelH K cls ρ h H ∧ RelS K ρ H sa σ ∧ f sa h = some (b, h') ∧
  ∀ ρ' H', Ext ρ ρ' → Keep H H' → RelH K cls ρ' h' H' → Q b H'
def semA (f : As) : TA := fun σ H Q => ∃ ρ sa h ds h', RelH K cls ρ h H ∧ RelS K ρ H sa σ ∧ f sa h = some (ds, h') ∧
  ∀ ρ' vs H', Ext ρ ρ' → Keep H H' → RelH K cls ρ' h' H' → RelDs K ρ' H' ds vs → Q vs H'
def semS (f : S) : TS := fun Dn σ H => ∃ ρ sa h o sa' h', RelH K cls ρ h H ∧ RelS K ρ H sa σ ∧ f sa h = some (o, sa', h') ∧
  ∀ ρ' H', Ext ρ ρ' → Keep H H' → RelH K cls ρ' h' H' → match o with
    | .nx => ∀ σ', RelS K ρ' H' sa' σ' → Dn.nx σ' H'
    | .bk => ∀ σ', RelS K ρ' H' sa' σ' → Dn.bk σ' H'
    | .ct => ∀ σ', RelS K ρ' H' sa' σ' → Dn.ct σ' H'
    | .rt d => ∀ v, RelD K ρ' H' d v → Dn.rt v H'
/-- a def's promise -/
def semF (ar : Nat) (f : F) : Sp := fun vs H Q _ => vs.length = ar ∧ ∃ ρ ds h d h', RelH K cls ρ h H ∧ RelDs K ρ H ds vs ∧ f ds h = some (d, h') ∧
  ∀ ρ' v H', Ext ρ ρ' → Keep H H' → RelH K cls ρ' h' H' → RelD K ρ' H' d v → Q v H'
end

/-- another reading -/
theorem pe_of {X : Cx} {e : Expr} {t t' : TE} (h : PE X e t) (i : ∀ σ H Q, t' σ H Q → t σ H Q) : PE X e t' := ⟨fun pins s σ H Q I q => h.run pins s σ H Q I (i σ H Q q)⟩
theorem pt_of {X : Cx} {e : Expr} {t t' : TT} (h : PT X e t) (i : ∀ σ H Q, t' σ H Q → t σ H Q) : PT X e t' := ⟨fun pins s σ H Q I q => h.run pins s σ H Q I (i σ H Q q)⟩
theorem pw_of {X : Cx} {e : Expr} {t t' : TT} (h : PW X e t) (i : ∀ σ H Q, t' σ H Q → t σ H Q) : PW X e t' := ⟨fun w pins s σ H Q I q => h.run w pins s σ H Q I (i σ H Q q)⟩
theorem pa_of {X : Cx} {e : List Expr} {t t' : TA} (h : PA X e t) (i : ∀ σ H Q, t' σ H Q → t σ H Q) : PA X e t' := ⟨fun pos pins s σ H Q I q => h.run pos pins s σ H Q I (i σ H Q q)⟩
theorem ps_of {X : Cx} {e : Stmt} {t t' : TS} (h : PS X e t) (i : ∀ Dn σ H, t' Dn σ H → t Dn σ H) : PS X e t' := ⟨fun pins s σ H Dn I q => h.run pins s σ H Dn I (i Dn σ H q)⟩
theorem pss_of {X : Cx} {e : List Stmt} {t t' : TS} (h : PSs X e t) (i : ∀ Dn σ H, t' Dn σ H → t Dn σ H) : PSs X e t' := ⟨fun pins s σ H Dn I q => h.run pins s σ H Dn I (i Dn σ H q)⟩

end Gw
set_option Elab.async false
set_option linter.all false
set_option maxRecDepth 100000
set_option maxHeartbeats 4000000
/-! Gw: expressions. -/
namespace Gw
open PySem L2

theorem sz {n : Nat} (h : n ≤ 1000000) : n ≤ sizeLine := Nat.le_trans h (by decide)
theorem szl {n : Nat} (h : n < 1000000) : n < sizeLine := Nat.lt_of_lt_of_le h (by decide)
abbrev bs {α β : Type} {o : Option α} {f : α → Option β} {b : β} (h : o.bind f = some b) : ∃ a, o = some a ∧ f a = some b := Option.bind_eq_some_iff.mp h

/-! ### operations on values -/
abbrev G1 := D → Ah → Option (D × Ah)
abbrev G2 := D → D → Ah → Option (D × Ah)
section
variable (K : PySem.W.Frag) (cls : Cl)
/-- an end of meanings: the value d and the heap h' behind H -/
def Fin (ρ : List Addr) (H : Hp) (d : D) (h' : Ah) (Q : VK) : Prop := ∀ ρ' v H', Ext ρ ρ' → Keep H H' → RelH K cls ρ' h' H' → RelD K ρ' H' d v → Q v H'
def rM (g : G2) : R2 := fun v u H Q => ∃ ρ h x y d h', RelH K cls ρ h H ∧ RelD K ρ H x v ∧ RelD K ρ H y u ∧ g x y h = some (d, h') ∧ Fin K cls ρ H d h' Q
def rM1 (g : G1) : V → Hp → VK → Prop := fun v H Q => ∃ ρ h x d h', RelH K cls ρ h H ∧ RelD K ρ H x v ∧ g x h = some (d, h') ∧ Fin K cls ρ H d h' Q
/-- a call on a list of values -/
def rMs (g : List D → Ah → Option (D × Ah)) : List V → Hp → VK → Prop := fun vs H Q => ∃ ρ h ds d h', RelH K cls ρ h H ∧ RelDs K ρ H ds vs ∧ g ds h = some (d, h') ∧ Fin K cls ρ H d h' Q
/-- a method on a value and a list of values -/
def rMm (g : D → List D → Ah → Option (D × Ah)) : V → List V → Hp → VK → Prop := fun v vs H Q => ∃ ρ h x ds d h', RelH K cls ρ h H ∧ RelD K ρ H x v ∧ RelDs K ρ H ds vs ∧ g x ds h = some (d, h') ∧ Fin K cls ρ H d h' Q
end
section
variable {K : PySem.W.Frag} {cls : Cl} {ρ : List Addr} {H : Hp} {d : D} {h h' : Ah} {Q : VK}
/-- the value is there, nothing changed -/
theorem Fin.at (f : Fin K cls ρ H d h Q) (R : RelH K cls ρ h H) {v : V} (r : RelD K ρ H d v) : Q v H := f ρ v H (Ext.refl _) (Keep.refl _) R r
/-- a new tuple -/
theorem Fin.tup {ds : List D} (f : Fin K cls ρ H (.tup ds) h Q) (R : RelH K cls ρ h H) {vs : List V} (r : RelDs K ρ H ds vs) {p : Addr} (hp : H p = none) : Q (.ref p) (upd H p (.tup vs)) :=
  f ρ _ _ (Ext.refl _) (Keep.new hp) (R.grow (upd_grow hp)) (.tup (SqT.of upd_same) (r.mono (Ext.refl _) (Keep.new hp)))
/-- a new list -/
theorem Fin.lst {ds : List D} (f : Fin K cls ρ H (.obj h.n) (h.push (.lst ds)) Q) (R : RelH K cls ρ h H) {vs : List V} (r : RelDs K ρ H ds vs) {p : Addr} (hp : H p = none) : Q (.ref p) (upd H p (.lst vs)) := by
  refine f (ρ ++ [p]) _ _ (Ext.app _ _) (Keep.new hp) (R.new hp ⟨vs, upd_same, r.mono (Ext.app _ _) (Keep.new hp)⟩) (.obj ?_)
  rw [List.getElem?_append_right (by rw [R.len]; exact Nat.le_refl _), R.len]
  simp
/-- a new dict -/
theorem Fin.dic {kvs : List (Key × D)} (f : Fin K cls ρ H (.obj h.n) (h.push (.dic kvs)) Q) (R : RelH K cls ρ h H) {vs : List (Key × V)} (r : RelKV K ρ H kvs vs) {p : Addr} (hp : H p = none) : Q (.ref p) (upd H p (.dK vs)) := by
  refine f (ρ ++ [p]) _ _ (Ext.app _ _) (Keep.new hp) (R.new hp ⟨vs, upd_same, r.mono (Ext.app _ _) (Keep.new hp)⟩) (.obj ?_)
  rw [List.getElem?_append_right (by rw [R.len]; exact Nat.le_refl _), R.len]
  simp
/-- a list, a dict is written -/
theorem Fin.wl {ds : List D} {i : Nat} {p : Addr} {u : HO} (f : Fin K cls ρ H d (h.set i (.lst ds)) Q) (R : RelH K cls ρ h H) (hi : ρ[i]? = some p) (hu : H p = some u) (nt : NoTup u) {vs : List V} (r : RelDs K ρ H ds vs) {v : V} (rd : RelD K ρ H d v) : Q v (upd H p (.lst vs)) :=
  f ρ v _ (Ext.refl _) (Keep.write hu nt) (R.write hi hu nt ⟨vs, upd_same, r.mono (Ext.refl _) (Keep.write hu nt)⟩) (rd.mono (Ext.refl _) (Keep.write hu nt))
theorem Fin.wd {kvs : List (Key × D)} {i : Nat} {p : Addr} {u : HO} (f : Fin K cls ρ H d (h.set i (.dic kvs)) Q) (R : RelH K cls ρ h H) (hi : ρ[i]? = some p) (hu : H p = some u) (nt : NoTup u) {vs : List (Key × V)} (r : RelKV K ρ H kvs vs) {v : V} (rd : RelD K ρ H d v) : Q v (upd H p (.dK vs)) :=
  f ρ v _ (Ext.refl _) (Keep.write hu nt) (R.write hi hu nt ⟨vs, upd_same, r.mono (Ext.refl _) (Keep.write hu nt)⟩) (rd.mono (Ext.refl _) (Keep.write hu nt))
end
theorem SqL.hit {K : PySem.W.Frag} {H : Hp} {a : Addr} {vs : List V} (h : H a = some (.lst vs)) : SqL K H a vs := SqL.of h

def gAdd : G2
  | .int i, .int j, h => some (.int (i + j), h)
  | .tup xs, .tup ys, h => if xs.length + ys.length ≤ 1000000 then some (.tup (xs ++ ys), h) else none
  | .obj i, .obj j, h => match h.get i, h.get j with
    | some (.lst xs), some (.lst ys) => if xs.length + ys.length ≤ 1000000 then some (.obj h.n, h.push (.lst (xs ++ ys))) else none
    | _, _ => none
  | .str a, .str b, h => if a.length + b.length ≤ 1000000 then some (.str (a ++ b), h) else none
  | _, _, _ => none
def gSub : G2
  | .int i, .int j, h => some (.int (i - j), h)
  | _, _, _ => none
def gMul : G2
  | .int i, .int j, h => if decide (-(2 ^ 64) < j) && decide (j < 2 ^ 64) then some (.int (i * j), h) else none
  | .obj i, .int k, h => match h.get i with
    | some (.lst xs) => if decide (-(2 ^ 63) ≤ k) && decide (k < 2 ^ 63) && decide (xs.length * k.toNat ≤ 1000000) then some (.obj h.n, h.push (.lst (List.replicate k.toNat xs).flatten)) else none
    | _ => none
  | _, _, _ => none
def gMod : G2
  | .int i, .int j, h => if j = 0 then none else some (.int (i.fmod j), h)
  | _, _, _ => none
def gFdiv : G2
  | .int i, .int j, h => if decide (j ≠ 0) && decide (j.natAbs < 1073741824) then some (.int (i.fdiv j), h) else none
  | _, _, _ => none
def gPow : G2
  | .int i, .int j, h => if decide (0 ≤ j) && decide (j ≤ 1000) && decide (i.natAbs < 2 ^ 64) then some (.int (i ^ j.toNat), h) else none
  | _, _, _ => none
def gShl : G2
  | .int i, .int j, h => if decide (0 ≤ j) && decide (j ≤ 1000) && decide (i.natAbs < 2 ^ 64) then some (.int (i * 2 ^ j.toNat), h) else none
  | _, _, _ => none
def gShr : G2
  | .int i, .int j, h => if 0 ≤ j then some (.int (i / 2 ^ j.toNat), h) else none
  | _, _, _ => none
def gAndB : G2
  | .int i, .int j, h => some (.int (Builtin.bitAnd i j), h)
  | _, _, _ => none

section
variable {X : Cx} {cls : Cl}
theorem op_gAdd : OpR X (binaryOp .Add) (rM X.K cls gAdd) := by
  intro pins s σ H x y v u Q I rx ry ⟨ρ, h, dx, dy, d, h', R, r1, r2, ev, k⟩
  cases r1 with
  | int i =>
    cases r2 with
    | int j => cases ev; exact op_add pins s σ H _ _ v u Q I rx ry ⟨_, _, rfl, rfl, k.at R (.int _)⟩
    | _ => cases ev
  | str a =>
    cases r2 with
    | str b =>
      simp only [gAdd] at ev
      split at ev
      · cases ev; exact op_add_str pins s σ H _ _ v u Q I rx ry ⟨_, _, rfl, rfl, sz (by assumption), k.at R (.str _)⟩
      · cases ev
    | _ => cases ev
  | @tup xs vs a hs rs =>
    cases r2 with
    | @tup ys us b hs2 rs2 =>
      simp only [gAdd] at ev
      split at ev
      · rename_i hl
        cases ev
        refine op_catA pins s σ H _ _ v u Q I rx ry ⟨a, b, vs, us, rfl, rfl, hs, hs2, sz (by rw [← rs.length, ← rs2.length]; exact hl), fun e => ?_, fun e1 e2 => ?_, fun e1 e2 p hp => k.tup R (rs.append rs2) hp⟩
        · refine k.at R (.tup hs2 ?_)
          subst e; cases rs; exact rs2
        · refine k.at R (.tup hs ?_)
          subst e2; cases rs2; rw [List.append_nil]; exact rs
      · cases ev
    | _ => cases ev
  | @obj i a hi =>
    cases r2 with
    | @obj j b hj =>
      simp only [gAdd] at ev
      split at ev
      · rename_i xs ys e1 e2
        split at ev
        · rename_i hl
          cases ev
          obtain ⟨vs, hv, rv⟩ := R.at_ _ _ _ e1 hi
          obtain ⟨us, hu, ru⟩ := R.at_ _ _ _ e2 hj
          exact op_cat pins s σ H _ _ v u Q I rx ry ⟨a, b, vs, us, rfl, rfl, hv, hu, sz (by rw [← rv.length, ← ru.length]; exact hl), fun p hp => k.lst R (rv.append ru) hp⟩
        · cases ev
      · cases ev
    | _ => cases ev
  | _ => cases ev
theorem op_gSub : OpR X (binaryOp .Sub) (rM X.K cls gSub) := by
  intro pins s σ H x y v u Q I rx ry ⟨ρ, h, dx, dy, d, h', R, r1, r2, ev, k⟩
  cases r1 with
  | int i =>
    cases r2 with
    | int j => cases ev; exact op_sub pins s σ H _ _ v u Q I rx ry ⟨_, _, rfl, rfl, k.at R (.int _)⟩
    | _ => cases ev
  | _ => cases ev
theorem op_gMul : OpR X (binaryOp .Mult) (rM X.K cls gMul) := by
  intro pins s σ H x y v u Q I rx ry ⟨ρ, h, dx, dy, d, h', R, r1, r2, ev, k⟩
  cases r1 with
  | int i =>
    cases r2 with
    | int j =>
      simp only [gMul] at ev
      split at ev
      · rename_i hl
        simp only [Bool.and_eq_true, decide_eq_true_eq] at hl
        cases ev; exact op_mul pins s σ H _ _ v u Q I rx ry ⟨_, _, rfl, rfl, .inr hl, k.at R (.int _)⟩
      · cases ev
    | _ => cases ev
  | @obj i a hi =>
    cases r2 with
    | int kk =>
      simp only [gMul] at ev
      split at ev
      · rename_i xs e1
        split at ev
        · rename_i hl
          simp only [Bool.and_eq_true, decide_eq_true_eq] at hl
          cases ev
          obtain ⟨vs, hv, rv⟩ := R.at_ _ _ _ e1 hi
          exact op_rep pins s σ H _ _ v u Q I rx ry ⟨a, kk, vs, rfl, rfl, hv, hl.1.1, hl.1.2, sz (by rw [← rv.length]; exact hl.2), fun p hp => k.lst R (rv.flat _) hp⟩
        · cases ev
      · cases ev
    | _ => cases ev
  | _ => cases ev
theorem op_gMod : OpR X (binaryOp .Mod) (rM X.K cls gMod) := by
  intro pins s σ H x y v u Q I rx ry ⟨ρ, h, dx, dy, d, h', R, r1, r2, ev, k⟩
  cases r1 with
  | int i =>
    cases r2 with
    | int j =>
      simp only [gMod] at ev
      split at ev
      · cases ev
      · cases ev; exact op_modN pins s σ H _ _ v u Q I rx ry ⟨_, _, rfl, rfl, by assumption, k.at R (.int _)⟩
    | _ => cases ev
  | _ => cases ev
theorem op_gFdiv : OpR X (binaryOp .FloorDiv) (rM X.K cls gFdiv) := by
  intro pins s σ H x y v u Q I rx ry ⟨ρ, h, dx, dy, d, h', R, r1, r2, ev, k⟩
  cases r1 with
  | int i =>
    cases r2 with
    | int j =>
      simp only [gFdiv] at ev
      split at ev
      · rename_i hl
        simp only [Bool.and_eq_true, decide_eq_true_eq] at hl
        cases ev; exact op_fdivN pins s σ H _ _ v u Q I rx ry ⟨_, _, rfl, rfl, hl, k.at R (.int _)⟩
      · cases ev
    | _ => cases ev
  | _ => cases ev
theorem op_gPow : OpR X (binaryOp .Pow) (rM X.K cls gPow) := by
  intro pins s σ H x y v u Q I rx ry ⟨ρ, h, dx, dy, d, h', R, r1, r2, ev, k⟩
  cases r1 with
  | int i =>
    cases r2 with
    | int j =>
      simp only [gPow] at ev
      split at ev
      · rename_i hl
        simp only [Bool.and_eq_true, decide_eq_true_eq] at hl
        cases ev; exact op_pow pins s σ H _ _ v u Q I rx ry ⟨_, _, rfl, rfl, ⟨hl.1.1, by omega, hl.2⟩, k.at R (.int _)⟩
      · cases ev
    | _ => cases ev
  | _ => cases ev
theorem op_gShl : OpR X (binaryOp .LShift) (rM X.K cls gShl) := by
  intro pins s σ H x y v u Q I rx ry ⟨ρ, h, dx, dy, d, h', R, r1, r2, ev, k⟩
  cases r1 with
  | int i =>
    cases r2 with
    | int j =>
      simp only [gShl] at ev
      split at ev
      · rename_i hl
        simp only [Bool.and_eq_true, decide_eq_true_eq] at hl
        cases ev; exact op_shl pins s σ H _ _ v u Q I rx ry ⟨_, _, rfl, rfl, ⟨hl.1.1, by omega, hl.2⟩, k.at R (.int _)⟩
      · cases ev
    | _ => cases ev
  | _ => cases ev
theorem op_gShr : OpR X (binaryOp .RShift) (rM X.K cls gShr) := by
  intro pins s σ H x y v u Q I rx ry ⟨ρ, h, dx, dy, d, h', R, r1, r2, ev, k⟩
  cases r1 with
  | int i =>
    cases r2 with
    | int j =>
      simp only [gShr] at ev
      split at ev
      · cases ev; exact op_shr pins s σ H _ _ v u Q I rx ry ⟨_, _, rfl, rfl, by assumption, k.at R (.int _)⟩
      · cases ev
    | _ => cases ev
  | _ => cases ev
theorem op_gAndB : OpR X (binaryOp .BitAnd) (rM X.K cls gAndB) := by
  intro pins s σ H x y v u Q I rx ry ⟨ρ, h, dx, dy, d, h', R, r1, r2, ev, k⟩
  cases r1 with
  | int i =>
    cases r2 with
    | int j => cases ev; exact op_and pins s σ H _ _ v u Q I rx ry ⟨_, _, rfl, rfl, k.at R (.int _)⟩
    | _ => cases ev
  | _ => cases ev
end

/-! ### comparisons -/
mutual
def toPy : D → Option PyData
  | .non => some .none
  | .bl b => some (.bool b)
  | .int i => some (.int i)
  | .str x => some (.str x)
  | .tup ds => (toPys ds).map .tuple
  | .obj _ => none
def toPys : List D → Option (List PyData)
  | [] => some []
  | d :: ds => (toPy d).bind fun a => (toPys ds).map (a :: ·)
end
def toPyH (h : Ah) : D → Option PyData
  | .obj i => match h.get i with
    | some (.lst ds) => (toPys ds).map .list
    | _ => none
  | d => toPy d
section
variable {K : PySem.W.Frag} {ρ : List Addr} {H : Hp}
mutual
theorem dp_of : ∀ {d : D} {v : V} {p : PyData}, RelD K ρ H d v → toPy d = some p → Dp K H v p
  | _, _, _, .non, e => by cases e; exact .non
  | _, _, _, .bl b, e => by cases e; exact .bl b
  | _, _, _, .int i, e => by cases e; exact .int i
  | _, _, _, .str x, e => by cases e; exact .str x
  | _, _, _, .tup hs rs, e => by
    simp only [toPy, Option.map_eq_some_iff] at e
    obtain ⟨ps, e, rfl⟩ := e
    exact .tup hs (dps_of rs e)
  | _, _, _, .obj _, e => by cases e
theorem dps_of : ∀ {ds : List D} {vs : List V} {ps : List PyData}, RelDs K ρ H ds vs → toPys ds = some ps → DpAll K H vs ps
  | _, _, _, .nil, e => by cases e; exact .nil
  | _, _, _, .cons r rs, e => by
    simp only [toPys] at e
    obtain ⟨a, ea, e1⟩ := bs e
    simp only [Option.map_eq_some_iff] at e1
    obtain ⟨ps, e2, rfl⟩ := e1
    exact .cons (dp_of r ea) (dps_of rs e2)
end
theorem dph_of {cls : Cl} {h : Ah} (R : RelH K cls ρ h H) {d : D} {v : V} {p : PyData} (r : RelD K ρ H d v) (e : toPyH h d = some p) : Dp K H v p := by
  cases d with
  | obj i =>
    cases r with
    | obj hi =>
      simp only [toPyH] at e
      split at e
      · rename_i ds hd
        simp only [Option.map_eq_some_iff] at e
        obtain ⟨ps, e, rfl⟩ := e
        obtain ⟨vs, hv, rv⟩ := R.at_ _ _ _ hd hi
        exact .lst (SqL.of hv) (dps_of rv e)
      · cases e
  | _ => exact dp_of r e
end
def gEq : G2 := fun x y h => (toPyH h x).bind fun p => (toPyH h y).bind fun q => if SeqAt.shaped p && SeqAt.shaped q then some (.bl (PyData.eqv p q), h) else none
def gNe : G2 := fun x y h => (toPyH h x).bind fun p => (toPyH h y).bind fun q => if SeqAt.shaped p && SeqAt.shaped q then some (.bl (!PyData.eqv p q), h) else none
def gLt : G2
  | .int i, .int j, h => some (.bl (decide (i < j)), h)
  | _, _, _ => none
def gLe : G2
  | .int i, .int j, h => some (.bl (decide (i ≤ j)), h)
  | _, _, _ => none
def gGt : G2
  | .int i, .int j, h => some (.bl (decide (j < i)), h)
  | _, _, _ => none
def gGe : G2
  | .int i, .int j, h => some (.bl (decide (j ≤ i)), h)
  | _, _, _ => none
def isNon : D → Bool
  | .non => true
  | _ => false
def gIsN : G2
  | x, .non, h => some (.bl (isNon x), h)
  | _, _, _ => none
def gNotN : G2
  | x, .non, h => some (.bl (!isNon x), h)
  | _, _, _ => none
/-- texts are compared quickly -/
def beqL : List Nat → List Nat → Bool
  | [], [] => true
  | a :: as, b :: bs => bif Nat.beq a b then beqL as bs else false
  | _, _ => false
theorem beqL_eq : ∀ {a b : List Nat}, beqL a b = decide (a = b)
  | [], [] => by simp [beqL]
  | [], _ :: _ => by simp [beqL]
  | _ :: _, [] => by simp [beqL]
  | a :: as, b :: bs => by
    simp only [beqL, beqL_eq (a := as) (b := bs)]
    by_cases h : a = b
    · subst h; rw [Tr.beq_t rfl]; simp
    · rw [Tr.beq_f h]; simp [h]
def beqS (a b : Str) : Bool := beqL a.cps.toList b.cps.toList
theorem beqS_eq {a b : Str} : beqS a b = decide (a = b) := by
  unfold beqS
  rw [beqL_eq]
  by_cases h : a = b
  · subst h; simp
  · rw [decide_eq_false h, decide_eq_false]
    intro e
    apply h
    obtain ⟨⟨l⟩⟩ := a
    obtain ⟨⟨m⟩⟩ := b
    simp at e; subst e; rfl
def beqI (a b : Int) : Bool := decide (a = b)
def beqK : Key → Key → Bool
  | .inl a, .inl b => decide (a = b)
  | .inr a, .inr b => beqS a b
  | _, _ => false
theorem beqK_eq : ∀ {a b : Key}, beqK a b = decide (a = b)
  | .inl a, .inl b => by simp [beqK]
  | .inr a, .inr b => by rw [beqK, beqS_eq]; simp
  | .inl a, .inr b => by simp [beqK]
  | .inr a, .inl b => by simp [beqK]
/-- == of flat data -/
def eqF : D → D → Option Bool
  | .non, .non => some true
  | .bl a, .bl b => some (a == b)
  | .int a, .int b => some (a == b)
  | .str a, .str b => some (beqS a b)
  | .non, .bl _ => some false | .non, .int _ => some false | .non, .str _ => some false
  | .bl _, .non => some false | .bl _, .str _ => some false
  | .int _, .non => some false | .int _, .str _ => some false
  | .str _, .non => some false | .str _, .bl _ => some false | .str _, .int _ => some false
  | _, _ => none
def inF (x : D) : List D → Option Bool
  | [] => some false
  | d :: ds => (eqF d x).bind fun b => (inF x ds).map (b || ·)
def toKey : D → Option Key
  | .int i => some (.inl i)
  | .str x => some (.inr x)
  | _ => none
def lookK {α : Type} (k : Key) : List (Key × α) → Option α
  | [] => none
  | (j, d) :: r => bif beqK j k then some d else lookK k r
def hasK {α : Type} (k : Key) (l : List (Key × α)) : Bool := (lookK k l).isSome
def putKD (k : Key) (d : D) : List (Key × D) → List (Key × D)
  | [] => [(k, d)]
  | (j, e) :: r => bif beqK j k then (j, d) :: r else (j, e) :: putKD k d r
def inDic (neg : Bool) (x : D) (kvs : List (Key × D)) : Option Bool := match x with
  | .non => some neg
  | x => (toKey x).map fun k => if neg then !(hasK k kvs) else hasK k kvs
def gIn (neg : Bool) : G2 := fun x y h => match y with
  | .tup ds => match x with
    | .non => (inF x ds).map fun b => (.bl (if neg then !b else b), h)
    | .bl _ => (inF x ds).map fun b => (.bl (if neg then !b else b), h)
    | .int _ => (inF x ds).map fun b => (.bl (if neg then !b else b), h)
    | .str _ => (inF x ds).map fun b => (.bl (if neg then !b else b), h)
    | _ => none
  | .obj i => match h.get i with
    | some (.dic kvs) => (inDic neg x kvs).map fun b => (.bl b, h)
    | some (.frz kvs) => (inDic neg x kvs).map fun b => (.bl b, h)
    | _ => none
  | .str z => match x with
    | .str ⟨⟨[c]⟩⟩ => some (.bl (if neg then !(z.cps.toList.any fun a => Nat.beq a c) else z.cps.toList.any fun a => Nat.beq a c), h)
    | _ => none
  | _ => none

theorem inDic_case {neg : Bool} {x : D} {kvs : List (Key × D)} {b : Bool} (e : inDic neg x kvs = some b) : (x = .non ∧ b = neg) ∨ ∃ k, toKey x = some k ∧ b = (if neg then !(hasK k kvs) else hasK k kvs) := by
  unfold inDic at e
  split at e
  · cases e; exact .inl ⟨rfl, rfl⟩
  · obtain ⟨k, h1, h2⟩ := Option.map_eq_some_iff.mp e
    exact .inr ⟨k, h1, h2.symm⟩
section
variable {K : PySem.W.Frag} {ρ : List Addr} {H : Hp}
theorem eqF_eqV {d e : D} {v u : V} {b : Bool} (r : RelD K ρ H d v) (q : RelD K ρ H e u) (h : eqF d e = some b) : flatV v = true ∧ flatV u = true ∧ eqV v u = b := by
  cases r <;> cases q <;> (try cases h) <;> (try exact ⟨rfl, rfl, rfl⟩)
  rename_i a b
  refine ⟨rfl, rfl, ?_⟩
  show (a == b) = beqS a b
  rw [beqS_eq]
  by_cases e : a = b
  · subst e; simp
  · simp [e]
theorem inF_inV {x : D} {v : V} (r : RelD K ρ H x v) : ∀ {ds : List D} {vs : List V} {b : Bool}, RelDs K ρ H ds vs → inF x ds = some b → vs.all flatV = true ∧ inV v vs = b
  | _, _, _, .nil, h => by cases h; exact ⟨rfl, rfl⟩
  | _, _, _, .cons r1 rs, h => by
    simp only [inF] at h
    obtain ⟨c, ec, h1⟩ := bs h
    simp only [Option.map_eq_some_iff] at h1
    obtain ⟨b', h2, rfl⟩ := h1
    obtain ⟨i1, i2⟩ := inF_inV r rs h2
    obtain ⟨f1, f2, f3⟩ := eqF_eqV r1 r ec
    refine ⟨by rw [List.all_cons, f1, i1]; rfl, ?_⟩
    unfold inV at i2 ⊢
    rw [List.any_cons, f3, i2]
theorem lookK_val {kvs : List (Key × D)} {vs : List (Key × V)} (r : RelKV K ρ H kvs vs) (k : Key) : (lookK k kvs = none ∧ valV vs k = none) ∨ ∃ d v, lookK k kvs = some d ∧ valV vs k = some v ∧ RelD K ρ H d v := by
  induction r with
  | nil => exact .inl ⟨rfl, rfl⟩
  | @cons j d v ds us rd t ih =>
    simp only [lookK, beqK_eq]
    by_cases e : j = k
    · rw [decide_eq_true e]; exact .inr ⟨d, v, rfl, valV_pos e, rd⟩
    · rw [decide_eq_false e, valV_neg (p := (j, v)) e]; exact ih
theorem hasK_val {kvs : List (Key × D)} {vs : List (Key × V)} (r : RelKV K ρ H kvs vs) (k : Key) : hasK k kvs = (valV vs k).isSome := by
  unfold hasK
  rcases lookK_val r k with ⟨h1, h2⟩ | ⟨d, v, h1, h2, _⟩ <;> rw [h1, h2] <;> rfl
theorem toKey_kV {d : D} {v : V} {k : Key} (r : RelD K ρ H d v) (e : toKey d = some k) : v = kV k := by
  cases r <;> cases e <;> rfl
end
section
variable {X : Cx} {cls : Cl}
theorem op_gEq (hu : X.A.units + 64 < cLine) : OpR X (compareOp .Eq) (rM X.K cls gEq) := by
  intro pins s σ H x y v u Q I rx ry ⟨ρ, h, dx, dy, d, h', R, r1, r2, ev, k⟩
  simp only [gEq] at ev
  obtain ⟨p, e1, ev⟩ := bs ev
  obtain ⟨q, e2, ev⟩ := bs ev
  split at ev
  · rename_i hl
    simp only [Bool.and_eq_true] at hl
    cases ev
    exact op_eqD hu pins s σ H x y v u Q I rx ry ⟨p, q, dph_of R r1 e1, dph_of R r2 e2, hl.1, hl.2, k.at R (.bl _)⟩
  · cases ev
theorem op_gNe (hu : X.A.units + 64 < cLine) : OpR X (compareOp .NotEq) (rM X.K cls gNe) := by
  intro pins s σ H x y v u Q I rx ry ⟨ρ, h, dx, dy, d, h', R, r1, r2, ev, k⟩
  simp only [gNe] at ev
  obtain ⟨p, e1, ev⟩ := bs ev
  obtain ⟨q, e2, ev⟩ := bs ev
  split at ev
  · rename_i hl
    simp only [Bool.and_eq_true] at hl
    cases ev
    exact op_neD hu pins s σ H x y v u Q I rx ry ⟨p, q, dph_of R r1 e1, dph_of R r2 e2, hl.1, hl.2, k.at R (.bl _)⟩
  · cases ev
theorem op_int2 {op : CmpOp} {g : G2} {p : Int → Int → Bool} (ho : OpR X (compareOp op) (rI0 fun i j => .bl (p i j))) (hg : ∀ x y h r, g x y h = some r → ∃ i j, x = .int i ∧ y = .int j ∧ r = (.bl (p i j), h)) : OpR X (compareOp op) (rM X.K cls g) := by
  intro pins s σ H x y v u Q I rx ry ⟨ρ, h, dx, dy, d, h', R, r1, r2, ev, k⟩
  obtain ⟨i, j, rfl, rfl, e⟩ := hg _ _ _ _ ev
  cases e
  cases r1
  cases r2
  exact ho pins s σ H _ _ v u Q I rx ry ⟨_, _, rfl, rfl, k.at R (.bl _)⟩
theorem op_gLt : OpR X (compareOp .Lt) (rM X.K cls gLt) := op_int2 op_lt fun x y h r e => by
  unfold gLt at e; split at e <;> first | exact ⟨_, _, rfl, rfl, (Option.some.inj e).symm⟩ | cases e
theorem op_gLe : OpR X (compareOp .LtE) (rM X.K cls gLe) := op_int2 op_le fun x y h r e => by
  unfold gLe at e; split at e <;> first | exact ⟨_, _, rfl, rfl, (Option.some.inj e).symm⟩ | cases e
theorem op_gGt : OpR X (compareOp .Gt) (rM X.K cls gGt) := op_int2 op_gt fun x y h r e => by
  unfold gGt at e; split at e <;> first | exact ⟨_, _, rfl, rfl, (Option.some.inj e).symm⟩ | cases e
theorem op_gGe : OpR X (compareOp .GtE) (rM X.K cls gGe) := op_int2 op_ge fun x y h r e => by
  unfold gGe at e; split at e <;> first | exact ⟨_, _, rfl, rfl, (Option.some.inj e).symm⟩ | cases e
theorem isNon_v {K : PySem.W.Frag} {ρ : List Addr} {H : Hp} {d : D} {v : V} (r : RelD K ρ H d v) : decide (v = .non) = isNon d := by
  cases r <;> simp [isNon]
theorem op_gIsN : OpR X (compareOp .Is) (rM X.K cls gIsN) := by
  intro pins s σ H x y v u Q I rx ry ⟨ρ, h, dx, dy, d, h', R, r1, r2, ev, k⟩
  cases r2 with
  | non => cases ev; exact op_isN pins s σ H _ _ v u Q I rx ry ⟨rfl, by rw [isNon_v r1]; exact k.at R (.bl _)⟩
  | _ => cases ev
theorem op_gNotN : OpR X (compareOp .IsNot) (rM X.K cls gNotN) := by
  intro pins s σ H x y v u Q I rx ry ⟨ρ, h, dx, dy, d, h', R, r1, r2, ev, k⟩
  cases r2 with
  | non => cases ev; exact op_notN pins s σ H _ _ v u Q I rx ry ⟨rfl, by rw [isNon_v r1]; exact k.at R (.bl _)⟩
  | _ => cases ev
theorem any_mem (z : List Nat) (c : Nat) : (z.any fun a => Nat.beq a c) = decide (c ∈ z) := by
  induction z with
  | nil => rfl
  | cons a as ih =>
    rw [List.any_cons, ih]
    by_cases h : a = c
    · subst h; rw [Tr.beq_t rfl]; simp
    · rw [Tr.beq_f h]; simp [Ne.symm h]
theorem op_gIn (hu : X.A.units + 64 < cLine) : OpR X (compareOp .In) (rM X.K cls (gIn false)) := by
  intro pins s σ H x y v u Q I rx ry ⟨ρ, h, dx, dy, d, h', R, r1, r2, ev, k⟩
  cases r2 with
  | @tup ds vs a hs rs =>
    have go : ∀ {b : Bool}, inF dx ds = some b → flatV x = true → Q (.bl b) H → wpAny (model X.prog X.w) X.A (compareOp .In v u) (EP X pins σ Q) X.xe s := fun {b} e f q =>
      op_in_seq pins s σ H _ _ v u Q I rx ry ⟨a, vs, rfl, .inr hs, f, (inF_inV r1 rs e).1, by rw [(inF_inV r1 rs e).2]; exact q⟩
    cases r1 <;> simp only [gIn, Option.map_eq_some_iff] at ev <;> first
      | (obtain ⟨b, e, ev⟩ := ev; cases ev; exact go e rfl (k.at R (.bl _)))
      | cases ev
  | @obj i a hi =>
    simp only [gIn] at ev
    split at ev
    · rename_i kvs e1
      simp only [Option.map_eq_some_iff] at ev
      obtain ⟨bb, ek, ev⟩ := ev
      cases ev
      obtain ⟨vs, hv, rv⟩ := R.at_ _ _ _ e1 hi
      cases (show u = Value.ref a from ry)
      rcases inDic_case ek with ⟨hx, hb⟩ | ⟨key, ek2, hb⟩
      · subst hx hb
        cases r1
        cases (show v = Value.none from rx)
        exact d_inNone I (.inl hv) fun s' I' => ⟨.bl _, H, I', rfl, k.at R (.bl _)⟩
      · subst hb
        have e := toKey_kV r1 ek2
        subst e
        refine d_in (by omega) I (.inl ⟨vs, key, .inl hv, rfl, rfl⟩) rx fun s' I' => ⟨.bl _, H, I', rfl, ?_⟩
        rw [← hasK_val rv]; exact k.at R (.bl _)
    · rename_i kvs e1
      simp only [Option.map_eq_some_iff] at ev
      obtain ⟨bb, ek, ev⟩ := ev
      cases ev
      obtain ⟨ob, vs, hv, rv⟩ := R.at_ _ _ _ e1 hi
      cases (show u = Value.ref a from ry)
      rcases inDic_case ek with ⟨hx, hb⟩ | ⟨key, ek2, hb⟩
      · subst hx hb
        cases r1
        cases (show v = Value.none from rx)
        exact d_inNone I (.inr ⟨ob, hv⟩) fun s' I' => ⟨.bl _, H, I', rfl, k.at R (.bl _)⟩
      · subst hb
        have e := toKey_kV r1 ek2
        subst e
        refine d_in (by omega) I (.inl ⟨vs, key, .inr ⟨ob, hv⟩, rfl, rfl⟩) rx fun s' I' => ⟨.bl _, H, I', rfl, ?_⟩
        rw [← hasK_val rv]; exact k.at R (.bl _)
    · cases ev
  | str z =>
    cases r1 with
    | str w =>
      simp only [gIn] at ev
      split at ev
      · rename_i c e
        cases ev; cases e
        refine op_in_sign pins s σ H _ _ v u Q I rx ry ⟨c, z, rfl, rfl, ?_⟩
        rw [← any_mem]; exact k.at R (.bl _)
      · cases ev
    | _ => cases ev
  | _ => cases ev
theorem op_gNotIn (hu : X.A.units + 64 < cLine) : OpR X (compareOp .NotIn) (rM X.K cls (gIn true)) := by
  intro pins s σ H x y v u Q I rx ry ⟨ρ, h, dx, dy, d, h', R, r1, r2, ev, k⟩
  cases r2 with
  | @tup ds vs a hs rs =>
    have go : ∀ {b : Bool}, inF dx ds = some b → flatV x = true → Q (.bl (!b)) H → wpAny (model X.prog X.w) X.A (compareOp .NotIn v u) (EP X pins σ Q) X.xe s := fun {b} e f q =>
      op_notIn_seq pins s σ H _ _ v u Q I rx ry ⟨a, vs, rfl, .inr hs, f, (inF_inV r1 rs e).1, by rw [(inF_inV r1 rs e).2]; exact q⟩
    cases r1 <;> simp only [gIn, Option.map_eq_some_iff] at ev <;> first
      | (obtain ⟨b, e, ev⟩ := ev; cases ev; exact go e rfl (k.at R (.bl _)))
      | cases ev
  | @obj i a hi =>
    simp only [gIn] at ev
    split at ev
    · rename_i kvs e1
      simp only [Option.map_eq_some_iff] at ev
      obtain ⟨bb, ek, ev⟩ := ev
      cases ev
      obtain ⟨vs, hv, rv⟩ := R.at_ _ _ _ e1 hi
      cases (show u = Value.ref a from ry)
      rcases inDic_case ek with ⟨hx, hb⟩ | ⟨key, ek2, hb⟩
      · subst hx hb
        cases r1
        cases (show v = Value.none from rx)
        exact d_notInNone I (.inl hv) fun s' I' => ⟨.bl _, H, I', rfl, k.at R (.bl _)⟩
      · subst hb
        have e := toKey_kV r1 ek2
        subst e
        refine d_notIn (by omega) I (.inl ⟨vs, key, .inl hv, rfl, rfl⟩) rx fun s' I' => ⟨.bl _, H, I', rfl, ?_⟩
        rw [← hasK_val rv]; exact k.at R (.bl _)
    · rename_i kvs e1
      simp only [Option.map_eq_some_iff] at ev
      obtain ⟨bb, ek, ev⟩ := ev
      cases ev
      obtain ⟨ob, vs, hv, rv⟩ := R.at_ _ _ _ e1 hi
      cases (show u = Value.ref a from ry)
      rcases inDic_case ek with ⟨hx, hb⟩ | ⟨key, ek2, hb⟩
      · subst hx hb
        cases r1
        cases (show v = Value.none from rx)
        exact d_notInNone I (.inr ⟨ob, hv⟩) fun s' I' => ⟨.bl _, H, I', rfl, k.at R (.bl _)⟩
      · subst hb
        have e := toKey_kV r1 ek2
        subst e
        refine d_notIn (by omega) I (.inl ⟨vs, key, .inr ⟨ob, hv⟩, rfl, rfl⟩) rx fun s' I' => ⟨.bl _, H, I', rfl, ?_⟩
        rw [← hasK_val rv]; exact k.at R (.bl _)
    · cases ev
  | str z =>
    cases r1 with
    | str w =>
      simp only [gIn] at ev
      split at ev
      · rename_i c e
        cases ev; cases e
        refine op_notIn_sign pins s σ H _ _ v u Q I rx ry ⟨c, z, rfl, rfl, ?_⟩
        rw [← any_mem]; exact k.at R (.bl _)
      · cases ev
    | _ => cases ev
  | _ => cases ev
end
end Gw
set_option Elab.async false
set_option linter.all false
set_option maxRecDepth 100000
set_option maxHeartbeats 4000000
/-! Gw: the rules of expressions and tests. -/
namespace Gw
open PySem L2

/-! ### meanings -/
def eNone : E := fun _ _ => none
def eVar (i : Nat) : E := fun sa h => match sa[i]? with
  | some (some d) => some (d, h)
  | _ => none
def eC (d : D) : E := fun _ h => some (d, h)
def eOp (g : G2) (a b : E) : E := fun sa h => (a sa h).bind fun p => (b sa p.2).bind fun q => g p.1 q.1 q.2
def eOp1 (g : G1) (a : E) : E := fun sa h => (a sa h).bind fun p => g p.1 p.2
def isB : D → Option Bool
  | .bl b => some b
  | _ => none
def eChain (g g' : G2) (a b c : E) : E := fun sa h => (a sa h).bind fun p => (b sa p.2).bind fun q => (g p.1 q.1 q.2).bind fun r => (isB r.1).bind fun k =>
  bif k then (c sa r.2).bind fun s => g' q.1 s.1 s.2 else some (.bl false, r.2)
def eAnd (a b : E) : E := fun sa h => (a sa h).bind fun p => (isB p.1).bind fun k => bif k then b sa p.2 else some (.bl false, p.2)
def eOr (a b : E) : E := fun sa h => (a sa h).bind fun p => (isB p.1).bind fun k => bif k then some (.bl true, p.2) else b sa p.2
def eNot (a : E) : E := fun sa h => (a sa h).bind fun p => (isB p.1).bind fun k => some (.bl (!k), p.2)
def tB (a : E) : T := fun sa h => (a sa h).bind fun p => (isB p.1).bind fun k => some (k, p.2)
def gTru : D → Ah → Option Bool
  | .non, _ => some false
  | .bl b, _ => some b
  | .int i, _ => some (i != 0)
  | .tup ds, _ => some (!ds.isEmpty)
  | .obj i, h => match h.get i with
    | some (.lst ds) => some (!ds.isEmpty)
    | _ => none
  | _, _ => none
def tTru (a : E) : T := fun sa h => (a sa h).bind fun p => (gTru p.1 p.2).bind fun k => some (k, p.2)
def tAndT (a b : T) : T := fun sa h => (a sa h).bind fun p => bif p.1 then b sa p.2 else some (false, p.2)
def tOrT (a b : T) : T := fun sa h => (a sa h).bind fun p => bif p.1 then some (true, p.2) else b sa p.2
def tNotT (a : T) : T := fun sa h => (a sa h).bind fun p => some (!p.1, p.2)
def eIf (c : T) (a b : E) : E := fun sa h => (c sa h).bind fun p => bif p.1 then a sa p.2 else b sa p.2
def aNil : As := fun _ h => some ([], h)
def aCons (a : E) (as : As) : As := fun sa h => (a sa h).bind fun p => (as sa p.2).bind fun q => some (p.1 :: q.1, q.2)
def eTup (as : As) : E := fun sa h => (as sa h).bind fun p => if p.1.length ≤ 1000000 then some (.tup p.1, p.2) else none
def eLst (as : As) : E := fun sa h => (as sa h).bind fun p => if p.1.length ≤ 1000000 then some (.obj p.2.n, p.2.push (.lst p.1)) else none
def eApp (g : F) (as : As) : E := fun sa h => (as sa h).bind fun p => g p.1 p.2
def eMeth (g : D → List D → Ah → Option (D × Ah)) (a : E) (as : As) : E := fun sa h => (a sa h).bind fun p => (as sa p.2).bind fun q => g p.1 q.1 q.2
def gIx : G2
  | .tup ds, .int i, h => (atI ds i).map fun d => (d, h)
  | .obj j, k, h => match h.get j with
    | some (.lst ds) => match k with
      | .int i => (atI ds i).map fun d => (d, h)
      | _ => none
    | some (.dic kvs) => (toKey k).bind fun key => (lookK key kvs).map fun d => (d, h)
    | some (.frz kvs) => (toKey k).bind fun key => (lookK key kvs).map fun d => (d, h)
    | _ => none
  | _, _, _ => none
def cutD (xs : List D) (lo hi : Option Int) : List D := (xs.drop (HT.sIx xs.length 0 lo)).take (HT.sIx xs.length xs.length hi - HT.sIx xs.length 0 lo)
def gSl (lo hi : Option Int) : G1
  | .tup ds, h => some (.tup (cutD ds lo hi), h)
  | .obj j, h => match h.get j with
    | some (.lst ds) => some (.obj h.n, h.push (.lst (cutD ds lo hi)))
    | _ => none
  | _, _ => none
/-- a part of a slice -/
def pNone : AEnv → Ah → Option (Option Int × Ah) := fun _ h => some (none, h)
def isI : D → Option Int
  | .int i => some i
  | _ => none
def pSome (a : E) : AEnv → Ah → Option (Option Int × Ah) := fun sa h => (a sa h).bind fun p => (isI p.1).map fun i => (some i, p.2)
def eSl (a : E) (lo hi : AEnv → Ah → Option (Option Int × Ah)) : E := fun sa h => (a sa h).bind fun p => (lo sa p.2).bind fun q => (hi sa q.2).bind fun r => gSl q.1 r.1 p.1 r.2
def gRev : G1
  | .obj j, h => match h.get j with
    | some (.lst ds) => some (.obj h.n, h.push (.lst ds.reverse))
    | _ => none
  | _, _ => none
def fldD (f : Str) : List (Str × D) → Option D
  | [] => none
  | (g, d) :: r => bif beqS g f then some d else fldD f r
def gFld (f : Str) : G1
  | .obj j, h => match h.get j with
    | some (.ins _ fs) => (fldD f fs).map fun d => (d, h)
    | _ => none
  | _, _ => none
/-- {}, {k: v} -/
def eDic0 : E := fun _ h => some (.obj h.n, h.push (.dic []))
def eDic1 (a b : E) : E := fun sa h => (a sa (h.push (.dic []))).bind fun p => (b sa p.2).bind fun q => (toKey p.1).bind fun k => match q.2.get h.n with
  | some (.dic []) => some (.obj h.n, q.2.set h.n (.dic [(k, q.1)]))
  | _ => none

section
variable {X : Cx} {cls : Cl} {a b c : Expr} {fa fb fc : E} {ta tb : T} {pos : Pos}

theorem xNone {e : Expr} : PE X e (semE X.K cls eNone) := ⟨fun _ _ _ _ _ _ h => by obtain ⟨_, _, _, _, _, _, _, e, _⟩ := h; cases e⟩
theorem xVar (i : Nat) {x : Str} {pos : Pos} (hN : X.N[i]? = some x := by rfl) (hv : Vis X.env.scope x := by first | exact Or.inl rfl | exact Or.inr (Or.inl rfl) | exact Or.inr (Or.inr rfl)) (hd : (x == ("__debug__" : Str)) = false := by decide)
    (hcd : (x == ("__classdict__" : Str)) = false := by decide) : PE X (.Name x pos) (semE X.K cls (eVar i)) := by
  refine pe_of (pe_var hN hv hd hcd) fun σ H Q ⟨ρ, sa, h, d, h', R, S, ev, k⟩ => ?_
  simp only [eVar] at ev
  split at ev
  · rename_i d' e
    cases ev
    obtain ⟨v, h1, h2⟩ := S.2 i d e
    exact ⟨v, h1, k ρ v H (Ext.refl _) (Keep.refl _) R h2⟩
  · cases ev
theorem semC {t : TE} {d : D} {v : V} (ht : ∀ σ H Q, Q v H → t σ H Q) (r : ∀ ρ H, RelD X.K ρ H d v) : ∀ σ H Q, semE X.K cls (eC d) σ H Q → t σ H Q := fun σ H Q ⟨ρ, sa, h, d', h', R, S, ev, k⟩ => by
  cases ev
  exact ht σ H Q (k ρ v H (Ext.refl _) (Keep.refl _) R (r ρ H))
theorem xInt {i j pos} : PE X (.Constant (.int i) j pos) (semE X.K cls (eC (.int i))) := pe_of pe_int (semC (fun _ _ _ q => q) fun _ _ => .int i)
theorem xBl {b j pos} : PE X (.Constant (.bool b) j pos) (semE X.K cls (eC (.bl b))) := pe_of pe_bl (semC (fun _ _ _ q => q) fun _ _ => .bl b)
theorem xNon {j pos} : PE X (.Constant .none j pos) (semE X.K cls (eC .non)) := pe_of pe_non (semC (fun _ _ _ q => q) fun _ _ => .non)
theorem xStr {x j pos} : PE X (.Constant (.str x) j pos) (semE X.K cls (eC (.str x))) := pe_of pe_str (semC (fun _ _ _ q => q) fun _ _ => .str x)
/-- a constant of the module -/
def GC (K : PySem.W.Frag) (mg : Str → Option Value) (x : Str) (d : D) : Prop := ∃ u v, mg x = some u ∧ RelV v u ∧ ∀ ρ H, RelD K ρ H d v
theorem xGlob {x : Str} {d : D} {pos : Pos} (g : GC X.K X.mg x d) (hg : Gl X x := by rfl) (hd : (x == ("__debug__" : Str)) = false := by decide) : PE X (.Name x pos) (semE X.K cls (eC d)) := by
  obtain ⟨u, v, h1, h2, h3⟩ := g
  exact pe_of (pe_glob hg h1 h2 hd) (semC (fun _ _ _ q => q) h3)

/-- two expressions in a row -/
theorem sem2 {g : G2} : ∀ σ H Q, semE X.K cls (eOp g fa fb) σ H Q → tOp (rM X.K cls g) (semE X.K cls fa) (semE X.K cls fb) σ H Q := fun σ H Q ⟨ρ, sa, h, d, h', R, S, ev, k⟩ => by
  obtain ⟨⟨x, h1⟩, e1, ev⟩ := bs ev
  obtain ⟨⟨y, h2⟩, e2, ev⟩ := bs ev
  exact ⟨ρ, sa, h, x, h1, R, S, e1, fun ρ1 v H1 x1 k1 R1 r1 => ⟨ρ1, sa, h1, y, h2, R1, S.mono x1 k1, e2, fun ρ2 u H2 x2 k2 R2 r2 =>
    ⟨ρ2, h2, x, y, d, h', R2, r1.mono x2 k2, r2, ev, fun ρ3 w H3 x3 k3 R3 r3 => k ρ3 w H3 (x1.trans (x2.trans x3)) (k1.trans (k2.trans k3)) R3 r3⟩⟩⟩
theorem sem1 {g : G1} : ∀ σ H Q, semE X.K cls (eOp1 g fa) σ H Q → semE X.K cls fa σ H fun v H1 => rM1 X.K cls g v H1 Q := fun σ H Q ⟨ρ, sa, h, d, h', R, S, ev, k⟩ => by
  obtain ⟨⟨x, h1⟩, e1, ev⟩ := bs ev
  exact ⟨ρ, sa, h, x, h1, R, S, e1, fun ρ1 v H1 x1 k1 R1 r1 => ⟨ρ1, h1, x, d, h', R1, r1, ev, fun ρ3 w H3 x3 k3 R3 r3 => k ρ3 w H3 (x1.trans x3) (k1.trans k3) R3 r3⟩⟩
theorem xBin {op : Operator} {g : G2} (ho : OpR X (binaryOp op) (rM X.K cls g)) (ha : PE X a (semE X.K cls fa)) (hb : PE X b (semE X.K cls fb)) : PE X (.BinOp a op b pos) (semE X.K cls (eOp g fa fb)) := pe_of (pe_op ho ha hb) sem2
theorem xCmp {op : CmpOp} {g : G2} (ho : OpR X (compareOp op) (rM X.K cls g)) (ha : PE X a (semE X.K cls fa)) (hb : PE X b (semE X.K cls fb)) (hm : behindInMarks op b = false := by first | exact nomark _ | rfl) :
    PE X (.Compare a [op] [b] pos) (semE X.K cls (eOp g fa fb)) := pe_of (pe_cmpR ho ha hb hm) sem2
theorem semChain {g g' : G2} : ∀ σ H Q, semE X.K cls (eChain g g' fa fb fc) σ H Q → tChain (rM X.K cls g) (rM X.K cls g') (semE X.K cls fa) (semE X.K cls fb) (semE X.K cls fc) σ H Q := fun σ H Q ⟨ρ, sa, h, d, h', R, S, ev, k⟩ => by
  obtain ⟨⟨x, h1⟩, e1, ev⟩ := bs ev
  obtain ⟨⟨y, h2⟩, e2, ev⟩ := bs ev
  obtain ⟨⟨z, h3⟩, e3, ev⟩ := bs ev
  obtain ⟨kk, e4, ev⟩ := bs ev
  refine ⟨ρ, sa, h, x, h1, R, S, e1, fun ρ1 v H1 x1 k1 R1 r1 => ⟨ρ1, sa, h1, y, h2, R1, S.mono x1 k1, e2, fun ρ2 u H2 x2 k2 R2 r2 =>
    ⟨ρ2, h2, x, y, z, h3, R2, r1.mono x2 k2, r2, e3, fun ρ3 w H3 x3 k3 R3 r3 => ?_⟩⟩⟩
  cases z <;> simp only [isB] at e4 <;> cases e4
  cases r3
  refine ⟨kk, rfl, ?_⟩
  cases kk with
  | false =>
    cases ev
    rw [if_neg Bool.false_ne_true]
    exact k ρ3 _ H3 (x1.trans (x2.trans x3)) (k1.trans (k2.trans k3)) R3 (.bl false)
  | true =>
    obtain ⟨⟨y', h4⟩, e5, ev⟩ := bs ev
    rw [if_pos rfl]
    exact ⟨ρ3, sa, h3, y', h4, R3, S.mono (x1.trans (x2.trans x3)) (k1.trans (k2.trans k3)), e5, fun ρ4 w4 H4 x4 k4 R4 r4 =>
      ⟨ρ4, h4, y, y', d, h', R4, r2.mono (x3.trans x4) (k3.trans k4), r4, ev, fun ρ5 w5 H5 x5 k5 R5 r5 => k ρ5 w5 H5 (x1.trans (x2.trans (x3.trans (x4.trans x5)))) (k1.trans (k2.trans (k3.trans (k4.trans k5)))) R5 r5⟩⟩
theorem xChain {op op' : CmpOp} {g g' : G2} (ho : OpR X (compareOp op) (rM X.K cls g)) (ho' : OpR X (compareOp op') (rM X.K cls g')) (ha : PE X a (semE X.K cls fa)) (hb : PE X b (semE X.K cls fb)) (hc : PE X c (semE X.K cls fc))
    (hm : lastMarks [op, op'] [b, c] = false := by with_unfolding_all rfl) : PE X (.Compare a [op, op'] [b, c] pos) (semE X.K cls (eChain g g' fa fb fc)) := pe_of (pe_chain ho ho' ha hb hc hm) semChain

/-! tests -/
/-- from an expression's reading to a test's -/
theorem semB {e : E} {t : TE} (i : ∀ Q σ H, semE X.K cls e σ H Q → t σ H Q) : ∀ σ H Q, semT X.K cls (tB e) σ H Q → t σ H fun x H1 => ∃ k, x = .bl k ∧ Q k H1 := fun σ H Q ⟨ρ, sa, h, k, h', R, S, ev, kk⟩ => by
  obtain ⟨⟨x, h1⟩, e1, ev⟩ := bs ev
  obtain ⟨b, e2, ev⟩ := bs ev
  cases ev
  refine i _ σ H ⟨ρ, sa, h, x, _, R, S, e1, fun ρ1 v H1 x1 k1 R1 r1 => ?_⟩
  cases x <;> simp only [isB] at e2 <;> cases e2
  cases r1
  exact ⟨_, rfl, kk ρ1 H1 x1 k1 R1⟩
theorem xCmpT {op : CmpOp} {g : G2} (ho : OpR X (compareOp op) (rM X.K cls g)) (ha : PE X a (semE X.K cls fa)) (hb : PE X b (semE X.K cls fb)) (hm : behindInMarks op b = false := by first | exact nomark _ | rfl) :
    PT X (.Compare a [op] [b] pos) (semT X.K cls (tB (eOp g fa fb))) := pt_of (pt_cmpR ho ha hb hm) (semB fun Q σ H => sem2 σ H Q)
theorem xChainT {op op' : CmpOp} {g g' : G2} (ho : OpR X (compareOp op) (rM X.K cls g)) (ho' : OpR X (compareOp op') (rM X.K cls g')) (ha : PE X a (semE X.K cls fa)) (hb : PE X b (semE X.K cls fb)) (hc : PE X c (semE X.K cls fc))
    (hm : lastMarks [op, op'] [b, c] = false := by with_unfolding_all rfl) : PT X (.Compare a [op, op'] [b, c] pos) (semT X.K cls (tB (eChain g g' fa fb fc))) := pt_of (pt_chain ho ho' ha hb hc hm) (semB fun Q σ H => semChain σ H Q)
theorem gTru_ok {K : PySem.W.Frag} {ρ : List Addr} {H : Hp} {h : Ah} {d : D} {v : V} {k : Bool} (R : RelH K cls ρ h H) (r : RelD K ρ H d v) (e : gTru d h = some k) : TruV K v H k := by
  cases r with
  | non => cases e; exact rfl
  | bl b => cases e; exact rfl
  | int i => cases e; exact rfl
  | str x => cases e
  | @tup ds vs a hs rs =>
    cases e
    exact .inr (.inl ⟨vs, hs, by cases rs <;> rfl⟩)
  | @obj i a hi =>
    simp only [gTru] at e
    split at e
    · rename_i ds hd
      cases e
      obtain ⟨vs, hv, rv⟩ := R.at_ _ _ _ hd hi
      exact .inl ⟨vs, SqL.of hv, by cases rv <;> rfl⟩
    · cases e
/-- any other expression as a test -/
theorem xTru (ha : PE X a (semE X.K cls fa)) (he : ∀ whole, isTrue a X.env whole = (do let v ← whole; standAt a.pos; holding [v] (truthy v)) := by intro _; rfl) : PT X a (semT X.K cls (tTru fa)) := by
  refine pt_of (pt_truth ha he) fun σ H Q ⟨ρ, sa, h, k, h', R, S, ev, kk⟩ => ?_
  obtain ⟨⟨x, h1⟩, e1, ev⟩ := bs ev
  obtain ⟨b, e2, ev⟩ := bs ev
  cases ev
  exact ⟨ρ, sa, h, x, _, R, S, e1, fun ρ1 v H1 x1 k1 R1 r1 => ⟨_, gTru_ok R1 r1 e2, kk ρ1 H1 x1 k1 R1⟩⟩
theorem xNotT (ha : PT X a (semT X.K cls ta)) : PT X (.UnaryOp .Not a pos) (semT X.K cls (tNotT ta)) := by
  refine pt_of (pt_not ha) fun σ H Q ⟨ρ, sa, h, k, h', R, S, ev, kk⟩ => ?_
  obtain ⟨⟨x, h1⟩, e1, ev⟩ := bs ev
  cases ev
  exact ⟨ρ, sa, h, x, _, R, S, e1, kk⟩
variable {rest : List Expr}
theorem xAnd1 (ha : PT X a (semT X.K cls ta)) : PW X (.BoolOp .And [a] pos) (semT X.K cls ta) := pw_and1 ha
theorem xOr1 (ha : PT X a (semT X.K cls ta)) : PW X (.BoolOp .Or [a] pos) (semT X.K cls ta) := pw_or1 ha
theorem xAndW (ha : PT X a (semT X.K cls ta)) (hb : PW X (.BoolOp .And (b :: rest) pos) (semT X.K cls tb)) : PW X (.BoolOp .And (a :: b :: rest) pos) (semT X.K cls (tAndT ta tb)) := by
  refine pw_of (pw_and ha hb) fun σ H Q ⟨ρ, sa, h, k, h', R, S, ev, kk⟩ => ?_
  obtain ⟨⟨x, h1⟩, e1, ev⟩ := bs ev
  refine ⟨ρ, sa, h, x, _, R, S, e1, fun ρ1 H1 x1 k1 R1 => ?_⟩
  cases x with
  | true => rw [if_pos rfl]; exact ⟨ρ1, sa, h1, k, h', R1, S.mono x1 k1, ev, fun ρ2 H2 x2 k2 R2 => kk ρ2 H2 (x1.trans x2) (k1.trans k2) R2⟩
  | false => rw [if_neg Bool.false_ne_true]; cases ev; exact kk ρ1 H1 x1 k1 R1
theorem xOrW (ha : PT X a (semT X.K cls ta)) (hb : PW X (.BoolOp .Or (b :: rest) pos) (semT X.K cls tb)) : PW X (.BoolOp .Or (a :: b :: rest) pos) (semT X.K cls (tOrT ta tb)) := by
  refine pw_of (pw_or ha hb) fun σ H Q ⟨ρ, sa, h, k, h', R, S, ev, kk⟩ => ?_
  obtain ⟨⟨x, h1⟩, e1, ev⟩ := bs ev
  refine ⟨ρ, sa, h, x, _, R, S, e1, fun ρ1 H1 x1 k1 R1 => ?_⟩
  cases x with
  | true => rw [if_pos rfl]; cases ev; exact kk ρ1 H1 x1 k1 R1
  | false => rw [if_neg Bool.false_ne_true]; exact ⟨ρ1, sa, h1, k, h', R1, S.mono x1 k1, ev, fun ρ2 H2 x2 k2 R2 => kk ρ2 H2 (x1.trans x2) (k1.trans k2) R2⟩
theorem isB_v {K : PySem.W.Frag} {ρ : List Addr} {H : Hp} {d : D} {v : V} {k : Bool} (r : RelD K ρ H d v) (e : isB d = some k) : v = .bl k := by
  cases r <;> simp only [isB] at e <;> cases e
  rfl
/-- as values -/
theorem xOne {op} (ha : PE X a (semE X.K cls fa)) : PE X (.BoolOp op [a] pos) (semE X.K cls fa) := pe_one ha
theorem xAnd (ha : PE X a (semE X.K cls fa)) (hb : PE X (.BoolOp .And (b :: rest) pos) (semE X.K cls fb)) : PE X (.BoolOp .And (a :: b :: rest) pos) (semE X.K cls (eAnd fa fb)) := by
  refine pe_of (pe_and ha hb) fun σ H Q ⟨ρ, sa, h, d, h', R, S, ev, kk⟩ => ?_
  obtain ⟨⟨x, h1⟩, e1, ev⟩ := bs ev
  obtain ⟨k, e2, ev⟩ := bs ev
  refine ⟨ρ, sa, h, x, _, R, S, e1, fun ρ1 v H1 x1 k1 R1 r1 => ⟨k, isB_v r1 e2, ?_⟩⟩
  cases k with
  | true => rw [if_pos rfl]; exact ⟨ρ1, sa, h1, d, h', R1, S.mono x1 k1, ev, fun ρ2 v2 H2 x2 k2 R2 r2 => kk ρ2 v2 H2 (x1.trans x2) (k1.trans k2) R2 r2⟩
  | false => rw [if_neg Bool.false_ne_true]; cases ev; exact kk ρ1 _ H1 x1 k1 R1 (.bl false)
theorem xOr (ha : PE X a (semE X.K cls fa)) (hb : PE X (.BoolOp .Or (b :: rest) pos) (semE X.K cls fb)) : PE X (.BoolOp .Or (a :: b :: rest) pos) (semE X.K cls (eOr fa fb)) := by
  refine pe_of (pe_or ha hb) fun σ H Q ⟨ρ, sa, h, d, h', R, S, ev, kk⟩ => ?_
  obtain ⟨⟨x, h1⟩, e1, ev⟩ := bs ev
  obtain ⟨k, e2, ev⟩ := bs ev
  refine ⟨ρ, sa, h, x, _, R, S, e1, fun ρ1 v H1 x1 k1 R1 r1 => ⟨k, isB_v r1 e2, ?_⟩⟩
  cases k with
  | true => rw [if_pos rfl]; cases ev; exact kk ρ1 _ H1 x1 k1 R1 (.bl true)
  | false => rw [if_neg Bool.false_ne_true]; exact ⟨ρ1, sa, h1, d, h', R1, S.mono x1 k1, ev, fun ρ2 v2 H2 x2 k2 R2 r2 => kk ρ2 v2 H2 (x1.trans x2) (k1.trans k2) R2 r2⟩
theorem xNot (ha : PE X a (semE X.K cls fa)) : PE X (.UnaryOp .Not a pos) (semE X.K cls (eNot fa)) := by
  refine pe_of (pe_not ha) fun σ H Q ⟨ρ, sa, h, d, h', R, S, ev, kk⟩ => ?_
  obtain ⟨⟨x, h1⟩, e1, ev⟩ := bs ev
  obtain ⟨k, e2, ev⟩ := bs ev
  cases ev
  exact ⟨ρ, sa, h, x, _, R, S, e1, fun ρ1 v H1 x1 k1 R1 r1 => ⟨k, isB_v r1 e2, kk ρ1 _ H1 x1 k1 R1 (.bl _)⟩⟩
theorem xIfE (hc : PT X c (semT X.K cls ta)) (ha : PE X a (semE X.K cls fa)) (hb : PE X b (semE X.K cls fb)) : PE X (.IfExp c a b pos) (semE X.K cls (eIf ta fa fb)) := by
  refine pe_of (pe_ifExp hc ha hb) fun σ H Q ⟨ρ, sa, h, d, h', R, S, ev, kk⟩ => ?_
  obtain ⟨⟨x, h1⟩, e1, ev⟩ := bs ev
  refine ⟨ρ, sa, h, x, _, R, S, e1, fun ρ1 H1 x1 k1 R1 => ?_⟩
  cases x with
  | true => rw [if_pos rfl]; exact ⟨ρ1, sa, h1, d, h', R1, S.mono x1 k1, ev, fun ρ2 v2 H2 x2 k2 R2 r2 => kk ρ2 v2 H2 (x1.trans x2) (k1.trans k2) R2 r2⟩
  | false => rw [if_neg Bool.false_ne_true]; exact ⟨ρ1, sa, h1, d, h', R1, S.mono x1 k1, ev, fun ρ2 v2 H2 x2 k2 R2 r2 => kk ρ2 v2 H2 (x1.trans x2) (k1.trans k2) R2 r2⟩

/-! ### argument lists, displays -/
variable {e : Expr} {es : List Expr} {fe : E} {fs : As}
theorem xaNil : PA X [] (semA X.K cls aNil) := pa_of pa_nil fun σ H Q ⟨ρ, sa, h, d, h', R, S, ev, k⟩ => by
  cases ev
  exact k ρ [] H (Ext.refl _) (Keep.refl _) R .nil
theorem xaCons (ha : PE X e (semE X.K cls fe)) (hr : PA X es (semA X.K cls fs)) (hs : starEach (e :: es) X.env = (false, eval e X.env) :: starEach es X.env := by rfl) : PA X (e :: es) (semA X.K cls (aCons fe fs)) := by
  refine pa_of (pa_cons ha hr hs) fun σ H Q ⟨ρ, sa, h, ds, h', R, S, ev, k⟩ => ?_
  obtain ⟨⟨x, h1⟩, e1, ev⟩ := bs ev
  obtain ⟨⟨xs, h2⟩, e2, ev⟩ := bs ev
  cases ev
  exact ⟨ρ, sa, h, x, h1, R, S, e1, fun ρ1 v H1 x1 k1 R1 r1 => ⟨ρ1, sa, h1, xs, h2, R1, S.mono x1 k1, e2, fun ρ2 vs H2 x2 k2 R2 r2 => k ρ2 _ H2 (x1.trans x2) (k1.trans k2) R2 (.cons (r1.mono x2 k2) r2)⟩⟩
theorem xTup {x1} (h : PA X es (semA X.K cls fs)) : PE X (.Tuple es x1 pos) (semE X.K cls (eTup fs)) := by
  refine pe_of (pe_tup h) fun σ H Q ⟨ρ, sa, h, d, h', R, S, ev, k⟩ => ?_
  obtain ⟨⟨ds, h1⟩, e1, ev⟩ := bs ev
  simp only at ev
  split at ev
  · rename_i hl
    cases ev
    refine ⟨ρ, sa, h, ds, _, R, S, e1, fun ρ1 vs H1 x1 k1 R1 r1 => ⟨sz (by rw [← r1.length]; exact hl), fun p hp => ?_⟩⟩
    exact Fin.tup (fun ρ' v H' e k' R' r => k ρ' v H' (x1.trans e) (k1.trans k') R' r) R1 r1 hp
  · cases ev
theorem xLst (h : PA X es (semA X.K cls fs)) : PE X (.List es pos) (semE X.K cls (eLst fs)) := by
  refine pe_of (pe_lst h) fun σ H Q ⟨ρ, sa, h, d, h', R, S, ev, k⟩ => ?_
  obtain ⟨⟨ds, h1⟩, e1, ev⟩ := bs ev
  simp only at ev
  split at ev
  · rename_i hl
    cases ev
    refine ⟨ρ, sa, h, ds, _, R, S, e1, fun ρ1 vs H1 x1 k1 R1 r1 => ⟨sz (by rw [← r1.length]; exact hl), fun p hp => ?_⟩⟩
    exact Fin.lst (fun ρ' v H' e k' R' r => k ρ' v H' (x1.trans e) (k1.trans k') R' r) R1 r1 hp
  · cases ev

/-! ### calls -/
theorem semApp {g : F} : ∀ σ H Q, semE X.K cls (eApp g fs) σ H Q → semA X.K cls fs σ H fun vs H1 => rMs X.K cls g vs H1 Q := fun σ H Q ⟨ρ, sa, h, d, h', R, S, ev, k⟩ => by
  obtain ⟨⟨ds, h1⟩, e1, ev⟩ := bs ev
  exact ⟨ρ, sa, h, ds, h1, R, S, e1, fun ρ1 vs H1 x1 k1 R1 r1 => ⟨ρ1, h1, ds, d, h', R1, r1, ev, fun ρ3 w H3 x3 k3 R3 r3 => k ρ3 w H3 (x1.trans x3) (k1.trans k3) R3 r3⟩⟩
/-- a def's promise by its meaning -/
def semR (K : PySem.W.Frag) (cls : Cl) (g : F) : Sp := fun vs H Q _ => rMs K cls g vs H Q
/-- room, and no guard is under way -/
structure RoomG (k : Nat) (A : Around) : Prop where
  rm : Room k A
  gd : A.guards = some []
theorem RoomG.mono {j k : Nat} {A : Around} (r : RoomG k A) (h : j ≤ k) : RoomG j A := ⟨r.rm.mono h, r.gd⟩
theorem RoomG.deeper {k : Nat} {A : Around} (r : RoomG (k + 1) A) (env : Env) : RoomG k (A.deeper env) := ⟨r.rm.deeper env, by first | exact r.gd | (simpa [Around.deeper] using r.gd)⟩
theorem make_guards {A : Around} {C : Addr} {us : List Value} {kw : List (Str × Value)} : (A.under (.builtin "type.__call__" ⟨.ref C :: us, kw⟩)).guards = A.guards := by
  first | rfl | simp [Around.under, Code.guards, Code.isGuard, guardIds, pushGuards]
theorem RoomG.make {k : Nat} {A : Around} (r : RoomG (k + 1) A) (C : Addr) (us : List Value) (kw : List (Str × Value)) : RoomG k (A.under (.builtin "type.__call__" ⟨.ref C :: us, kw⟩)) := ⟨r.rm.make C us kw, make_guards.trans r.gd⟩
/-- a def's promise where no guard is under way -/
def FnG (P : Program) (w : World) (K : PySem.W.Frag) (mg : Str → Option Value) (base : Heap) (k : Nat) (f : Addr) (sp : Sp) : Prop :=
  ∀ (A : Around) (outer : List Env) (s : Shared) (H : Hp) (us : List Value) (vs : List V) (Q : VK) (E : XK), RoomG k A → Env0 P w K mg base A outer s H → Vals vs us → sp vs H Q E →
    codeAny (model P w) A (.call (.ref f) ⟨us, []⟩) (CR CX0 outer P w H s Q E) s
theorem FnG.mono {P : Program} {w : World} {K : PySem.W.Frag} {mg : Str → Option Value} {base : Heap} {j k : Nat} {f : Addr} {sp : Sp} (F : FnG P w K mg base j f sp) (h : j ≤ k) : FnG P w K mg base k f sp := fun A outer s H us vs Q E hr => F A outer s H us vs Q E (hr.mono h)
theorem run_fnG {k : Nat} {f : Addr} {sp : Sp} {pins : List (Addr × Obj)} {σ : L2.St} {H : Hp} {s : Shared} {Q : VK} {us : List Value} {vs : List V} (F : FnG X.prog X.w X.K X.mg X.base k f sp) (hr : RoomG k X.A) (I : Inv X pins σ H s) (r : Vals vs us) (h : sp vs H Q (fun _ _ _ => False)) :
    codeAny (model X.prog X.w) X.A (.call (.ref f) ⟨us, []⟩) (fun r s' => match r with | .ok (.ret v) => EP X pins σ Q v s' | .ok _ => False | .error e => X.xe e s') s := by
  refine codeAny_mono (F X.A X.stack s H us vs Q _ hr I.env0 r h) fun r s' hq => ?_
  cases r with
  | error e => exact False.elim hq
  | ok fl =>
    cases fl with
    | ret u => exact I.after hq
    | next => exact False.elim hq
    | brk => exact False.elim hq
    | cont => exact False.elim hq
/-- a def of the module with a meaning -/
def Fn (P : Program) (w : World) (K : PySem.W.Frag) (mg : Str → Option Value) (base : Heap) (cls : Cl) (k : Nat) (x : Str) (g : F) : Prop := ∃ f, mg x = some (.ref f) ∧ PySem.W.keepIn K (.ref f) = true ∧ FnG P w K mg base k f (semR K cls g)
theorem Fn.mono {P : Program} {w : World} {K : PySem.W.Frag} {mg : Str → Option Value} {base : Heap} {cls : Cl} {j k : Nat} {x : Str} {g : F} (h : Fn P w K mg base cls j x g) (l : j ≤ k) : Fn P w K mg base cls k x g := by
  obtain ⟨f, h1, h2, h3⟩ := h
  exact ⟨f, h1, h2, h3.mono l⟩
theorem xCall {x : Str} {g : F} {k : Nat} {p : Pos} (F : Fn X.prog X.w X.K X.mg X.base cls k x g) (hr : RoomG k X.A) (ha : PA X (e :: es) (semA X.K cls fs)) (hg : Gl X x := by rfl) (hdb : (x == ("__debug__" : Str)) = false := by decide)
    (he : starEach (e :: es) X.env = (false, eval e X.env) :: starEach es X.env := by rfl) (hpl : (backTo pos (starEach es X.env)).any (·.1) = false := by rfl) : PE X (.Call (.Name x p) (e :: es) [] pos) (semE X.K cls (eApp g fs)) := by
  obtain ⟨f, h1, h2, h3⟩ := F
  refine ⟨fun pins s σ H Q I h => ?_⟩
  refine wpAny_Call_Name_kw (ld_glob I hg h1 ?_ hdb)
  refine PySem.W.callWith_K (h₀ := X.base) I.ok.mod.kin h2 (thn (ha.run pos pins s σ H _ I (semApp σ H Q h)) fun us s1 ⟨vs, H1, I1, r, q⟩ => ⟨I1.kIn, ?_⟩) he hpl
  exact wpAny_call (run_fnG h3 hr I1 r q)
/-- f(*y) -/
def eStar1 (g : F) (a : E) : E := fun sa h => (a sa h).bind fun p => match p.1 with
  | .tup ds => g ds p.2
  | .obj i => match p.2.get i with
    | some (.lst ds) => g ds p.2
    | _ => none
  | _ => none
/-- f(x, *y) -/
def aStar (a : E) (as : As) : As := fun sa h => (a sa h).bind fun p => match p.1 with
  | .tup ds => (as sa p.2).bind fun q => some (ds ++ q.1, q.2)
  | .obj i => match p.2.get i with
    | some (.lst ds) => (as sa p.2).bind fun q => some (ds ++ q.1, q.2)
    | _ => none
  | _ => none
theorem xaStar {p : Pos} (ha : PE X e (semE X.K cls fe)) (hr : PA X es (semA X.K cls fs)) (hs : starEach (.Starred e p :: es) X.env = (true, eval e X.env) :: starEach es X.env := by rfl) : PA X (.Starred e p :: es) (semA X.K cls (aStar fe fs)) := by
  refine pa_of (StX.pa_star ha hr hs) fun σ H Q ⟨ρ, sa, h, ds, h', R, S, ev, k⟩ => ?_
  obtain ⟨⟨x, h1⟩, e1, ev⟩ := bs ev
  refine ⟨ρ, sa, h, x, h1, R, S, e1, fun ρ1 v H1 x1 k1 R1 r1 => ?_⟩
  simp only at ev
  split at ev
  · rename_i es'
    obtain ⟨⟨xs, h2⟩, e2, ev⟩ := bs ev
    cases ev
    cases r1 with
    | @tup _ vs a hs rs =>
      exact ⟨a, vs, rfl, .inl hs, ρ1, sa, h1, xs, h2, R1, S.mono x1 k1, e2, fun ρ2 us H2 x2 k2 R2 r2 => k ρ2 _ H2 (x1.trans x2) (k1.trans k2) R2 ((rs.mono x2 k2).append r2)⟩
  · rename_i i
    split at ev
    · rename_i es' hd
      obtain ⟨⟨xs, h2⟩, e2, ev⟩ := bs ev
      cases ev
      cases r1 with
      | @obj _ a hi =>
        obtain ⟨vs, hv, rv⟩ := R1.at_ _ _ _ hd hi
        exact ⟨a, vs, rfl, .inr (SqL.of hv), ρ1, sa, h1, xs, h2, R1, S.mono x1 k1, e2, fun ρ2 us H2 x2 k2 R2 r2 => k ρ2 _ H2 (x1.trans x2) (k1.trans k2) R2 ((rv.mono x2 k2).append r2)⟩
    · cases ev
  · cases ev
theorem xCallS2 {x : Str} {g : F} {k : Nat} {p : Pos} (F : Fn X.prog X.w X.K X.mg X.base cls k x g) (hr : RoomG k X.A) (ha : PA X (e :: es) (semA X.K cls fs)) (hg : Gl X x := by rfl) (hdb : (x == ("__debug__" : Str)) = false := by decide)
    (he : starEach (e :: es) X.env = (false, eval e X.env) :: starEach es X.env := by rfl) (hst : (backTo pos (starEach es X.env)).any (·.1) = true := by rfl) : PE X (.Call (.Name x p) (e :: es) [] pos) (semE X.K cls (eApp g fs)) := by
  obtain ⟨f, h1, h2, h3⟩ := F
  refine ⟨fun pins s σ H Q I h => ?_⟩
  refine wpAny_Call_Name_kw (ld_glob I hg h1 ?_ hdb)
  refine PySem.W.callWith_S2 (h₀ := X.base) I.ok.mod.kin h2 (thn (ha.run pos pins s σ H _ I (semApp σ H Q h)) fun us s1 ⟨vs, H1, I1, r, q⟩ => ⟨I1.kIn, ?_⟩) he hst
  exact wpAny_call (run_fnG h3 hr I1 r q)
/-- a built-in function, a built-in class -/
theorem xCallB {x : Str} {id : String} {g : F} {p : Pos} (hc : CallR X (.builtin id) (rMs X.K cls g)) (hm : X.mg x = none) (hv : bootBuiltins x = some (.builtin id)) (ha : PA X (e :: es) (semA X.K cls fs)) (hg : Gl X x := by rfl) (hn : x ≠ "__name__" := by decide)
    (hdb : (x == ("__debug__" : Str)) = false := by decide) (he : starEach (e :: es) X.env = (false, eval e X.env) :: starEach es X.env := by rfl) (hpl : (backTo pos (starEach es X.env)).any (·.1) = false := by rfl) : PE X (.Call (.Name x p) (e :: es) [] pos) (semE X.K cls (eApp g fs)) :=
  pe_of (pe_callB hc hg hm hv ha hn hdb he hpl) fun σ H Q h => semApp σ H Q h
theorem xCallTy {x : Str} {id : String} {g : F} {p : Pos} (hc : CallR X (.type id) (rMs X.K cls g)) (hm : X.mg x = none) (hv : bootBuiltins x = some (.type id)) (ha : PA X (e :: es) (semA X.K cls fs)) (hg : Gl X x := by rfl) (hn : x ≠ "__name__" := by decide)
    (hdb : (x == ("__debug__" : Str)) = false := by decide) (he : starEach (e :: es) X.env = (false, eval e X.env) :: starEach es X.env := by rfl) (hpl : (backTo pos (starEach es X.env)).any (·.1) = false := by rfl) : PE X (.Call (.Name x p) (e :: es) [] pos) (semE X.K cls (eApp g fs)) :=
  pe_of (pe_callTy hc hg hm hv ha hn hdb he hpl) fun σ H Q h => semApp σ H Q h
/-- an instance is made -/
def eMake (c : Nat) (g : F) (as : As) : E := fun sa h => (as sa h).bind fun p => (g (.obj p.2.n :: p.1) (p.2.push (.ins c []))).bind fun q => match q.1 with
  | .non => some (.obj p.2.n, q.2)
  | _ => none
/-- a class of the module, its __init__ with a meaning -/
def Kl (P : Program) (w : World) (K : PySem.W.Frag) (mg : Str → Option Value) (base : Heap) (cls : Cl) (k : Nat) (x : Str) (c : Nat) (g : F) : Prop := ∃ C f, mg x = some (.ref C) ∧ cls c = some C ∧ Mk K C f ∧ FnG P w K mg base k f (semR K cls g)
theorem Kl.mono {P : Program} {w : World} {K : PySem.W.Frag} {mg : Str → Option Value} {base : Heap} {cls : Cl} {j k : Nat} {x : Str} {c : Nat} {g : F} (h : Kl P w K mg base cls j x c g) (l : j ≤ k) : Kl P w K mg base cls k x c g := by
  obtain ⟨C, f, h1, h2, h3, h4⟩ := h
  exact ⟨C, f, h1, h2, h3, h4.mono l⟩
theorem run_makeG {C f : Addr} {k : Nat} {sp : Sp} {pins : List (Addr × Obj)} {σ : L2.St} {H : Hp} {s : Shared} {Q : VK} {us : List Value} {vs : List V} (M : Mk X.K C f) (F : FnG X.prog X.w X.K X.mg X.base k f sp) (hr : RoomG (k + 1) X.A) (I : Inv X pins σ H s) (r : Vals vs us)
    (h : ∀ x dx, H x = Option.none → H dx = Option.none → dx ≠ x → sp (V.ref x :: vs) (upd (upd H dx (.own x)) x (.ins C dx [])) (fun v H2 => v = .non ∧ Q (.ref x) H2) (fun _ _ _ => False)) :
    wpAny (model X.prog X.w) X.A (call (.ref C) us) (EP X pins σ Q) X.xe s := by
  have hq := h (s.heap.objs.size + 1) s.heap.objs.size (I.hok.fresh (Nat.le_succ _)) (I.hok.fresh (Nat.le_refl _)) (Nat.ne_of_lt (Nat.lt_succ_self _))
  have I2 := Inv.made (C := C) I
  have r2 : Vals (V.ref (s.heap.objs.size + 1) :: vs) (Value.ref (s.heap.objs.size + 1) :: us) := .cons rfl r
  refine wpAny_call (make_map (f := f) I.kIn M.makes M.init (beq_iff_eq.mp M.fn) (codeAny_mono (F _ X.stack _ _ (Value.ref (s.heap.objs.size + 1) :: us) _ _ _ (hr.make C us []) (I2.env0.make C us []) r2 hq) fun r s' hq' => ?_))
  cases r with
  | error e => exact False.elim hq'
  | ok fl =>
    cases fl with
    | ret u =>
      obtain ⟨v, H', I3, rv, ev, q3⟩ := I2.after hq'
      subst ev
      exact ⟨rv, ⟨V.ref (s.heap.objs.size + 1), H', I3, rfl, q3⟩⟩
    | next => exact False.elim hq'
    | brk => exact False.elim hq'
    | cont => exact False.elim hq'
theorem xMake {x : Str} {c : Nat} {g : F} {k : Nat} {p : Pos} (F : Kl X.prog X.w X.K X.mg X.base cls k x c g) (hr : RoomG (k + 1) X.A) (ha : PA X (e :: es) (semA X.K cls fs)) (hg : Gl X x := by rfl) (hdb : (x == ("__debug__" : Str)) = false := by decide)
    (he : starEach (e :: es) X.env = (false, eval e X.env) :: starEach es X.env := by rfl) (hpl : (backTo pos (starEach es X.env)).any (·.1) = false := by rfl) : PE X (.Call (.Name x p) (e :: es) [] pos) (semE X.K cls (eMake c g fs)) := by
  obtain ⟨C, f, h1, h2, h3, h4⟩ := F
  refine ⟨fun pins s σ H Q I hh => ?_⟩
  refine wpAny_Call_Name_kw (ld_glob I hg h1 ?_ hdb)
  refine PySem.W.callWith_K (h₀ := X.base) I.ok.mod.kin h3.kp (thn (ha.run pos pins s σ H (fun vs H1 => ∀ x dx, H1 x = Option.none → H1 dx = Option.none → dx ≠ x → semR X.K cls g (V.ref x :: vs) (upd (upd H1 dx (.own x)) x (.ins C dx [])) (fun v H2 => v = .non ∧ Q (.ref x) H2) (fun _ _ _ => False)) I ?_)
    fun us s1 ⟨vs, H1, I1, r, q⟩ => ⟨I1.kIn, run_makeG h3 h4 hr I1 r q⟩) he hpl
  obtain ⟨ρ, sa, h, d, h', R, S, ev, k⟩ := hh
  obtain ⟨⟨ds, h5⟩, e1, ev⟩ := bs ev
  obtain ⟨⟨d', h6⟩, e2, ev⟩ := bs ev
  simp only at ev
  split at ev
  · cases ev
    refine ⟨ρ, sa, h, ds, h5, R, S, e1, fun ρ1 vs H1 x1 k1 R1 r1 xx dx hx hdx hne => ?_⟩
    have hx2 : upd H1 dx (.own xx) xx = none := by rw [upd_ne (Ne.symm hne)]; exact hx
    have k2 : Keep H1 (upd (upd H1 dx (.own xx)) xx (.ins C dx [])) := (Keep.new hdx).trans (Keep.new hx2)
    have R2 := (R1.grow (upd_grow (o := .own xx) hdx)).new (o := .ins c []) (O := .ins C dx []) hx2 ⟨C, dx, [], h2, upd_same, .nil⟩
    have hi : (ρ1 ++ [xx])[h5.n]? = some xx := by
      rw [List.getElem?_append_right (by rw [R1.len]; exact Nat.le_refl _), R1.len]
      simp
    refine ⟨ρ1 ++ [xx], _, .obj h5.n :: ds, .non, _, R2, .cons (.obj hi) (r1.mono (Ext.app _ _) k2), e2, fun ρ3 w H3 x3 k3 R3 r3 => ?_⟩
    cases r3
    exact ⟨rfl, k ρ3 _ H3 (x1.trans ((Ext.app _ _).trans x3)) (k1.trans (k2.trans k3)) R3 (.obj (x3 _ _ hi))⟩
  · cases ev
end
end Gw
set_option Elab.async false
set_option linter.all false
set_option maxRecDepth 100000
set_option maxHeartbeats 4000000
/-! Gw: subscripts, attributes, statements, loops, comprehensions. -/
namespace Gw
open PySem PyProof.Rows L2

/-! ### subscripts, slices, attributes -/
theorem tailD {prog : Program} {w : World} {A : Around} {E : Value → Shared → Prop} {s : Shared} {value slice : Expr} {o i : Value} {T id : String} {Q : Value → Shared → Prop} (hT : s.TypeIs o T)
    (hl : typeLookup (.type T) "__getitem__" = pure (some (.builtin id))) (hs : subscripted slice false o i = operate [o, i] (getItem o i)) (h : wpAny (model prog w) A (getItem o i) Q E s) : wpAny (model prog w) A (subscriptTail value slice o i) Q E s := by
  unfold subscriptTail
  refine wpAny_bind ?_
  rw [getitemInPython_of_ne hT.not_modules]
  refine wpAny_bind (wpAny_specialOf hT hl ?_)
  have fin : wpAny (model prog w) A (subscripted slice false o i) (fun r s₃ => wpAny (model prog w) A (letTemporaryGo value o r >>= fun _ => pure r) Q E s₃) E s := by
    rw [hs]
    exact wpAny_operating (wpAny_mono h (fun r s₃ h₃ => wpAny_bind (wpAny_letTemporaryGo (wpAny_pure h₃))) fun _ _ x => x)
  first
    | exact wpAny_pure (wpAny_bind fin)
    | exact wpAny_bind (wpAny_pure (wpAny_bind fin))
    | exact wpAny_bind fin
theorem atI_rel {K : PySem.W.Frag} {ρ : List Addr} {H : Hp} {ds : List D} {vs : List V} {i : Int} {d : D} (r : RelDs K ρ H ds vs) (e : atI ds i = some d) : ∃ v, atI vs i = some v ∧ RelD K ρ H d v := by
  unfold atI at e ⊢
  rw [← r.length]
  obtain ⟨j, e1, e2⟩ := bs e
  obtain ⟨v, h1, h2⟩ := r.get e2
  exact ⟨v, by rw [e1]; exact h1, h2⟩
section
variable {X : Cx} {cls : Cl}
theorem ix_g (hu : X.A.units + 64 < cLine) : IxR X (rM X.K cls gIx) := by
  intro value slice pins s σ H x y v u Q I rx ry ⟨ρ, h, dx, dy, d, h', R, r1, r2, ev, k⟩ hs
  cases r1 with
  | @tup ds vs a hS rs =>
    cases r2 with
    | int i =>
      simp only [gIx, Option.map_eq_some_iff] at ev
      obtain ⟨d', e1, e2⟩ := ev
      cases e2
      obtain ⟨v', h1, h2⟩ := atI_rel rs e1
      exact ix_tup value slice pins s σ H _ _ v u Q I rx ry ⟨a, vs, i, v', rfl, rfl, hS, h1, k.at R h2⟩ hs
    | _ => cases ev
  | @obj j a hi =>
    simp only [gIx] at ev
    have dk : ∀ {kvs : List (Key × D)} {vs : List (Key × V)}, RelKV X.K ρ H kvs vs → Rd H a (.dK vs) → ((toKey dy).bind fun key => (lookK key kvs).map fun d => (d, h)) = some (d, h') → wpAny (model X.prog X.w) X.A (subscriptTail value slice v u) (EP X pins σ Q) X.xe s := fun {kvs vs} rv hv ev => by
      obtain ⟨key, ek, ev⟩ := bs ev
      simp only [Option.map_eq_some_iff] at ev
      obtain ⟨d', e1, e2⟩ := ev
      cases e2
      have e := toKey_kV r2 ek
      subst e
      cases (show v = Value.ref a from rx)
      rcases lookK_val rv key with ⟨n1, _⟩ | ⟨d2, v2, l1, l2, l3⟩
      · rw [n1] at e1; cases e1
      · rw [l1] at e1; cases e1
        have g : DGet H a (kV key) (some v2) := .inl ⟨vs, key, hv, rfl, l2.symm⟩
        exact tailD (dict_typeIs I g) PySem.F.slot_dict_getitem.lookup hs (d_getItem (by omega) I g ry fun w' s' I' rw' => ⟨v2, H, I', rw', k.at R l3⟩)
    split at ev
    · rename_i ds hd
      obtain ⟨vs, hv, rv⟩ := R.at_ _ _ _ hd hi
      cases r2 with
      | int i =>
        simp only [Option.map_eq_some_iff] at ev
        obtain ⟨d', e1, e2⟩ := ev
        cases e2
        obtain ⟨v', h1, h2⟩ := atI_rel rv e1
        exact ix_list value slice pins s σ H _ _ v u Q I rx ry ⟨a, vs, i, v', rfl, rfl, SqL.of hv, h1, k.at R h2⟩ hs
      | _ => cases ev
    · rename_i kvs hd
      obtain ⟨vs, hv, rv⟩ := R.at_ _ _ _ hd hi
      exact dk rv (.inl hv) ev
    · rename_i kvs hd
      obtain ⟨ob, vs, hv, rv⟩ := R.at_ _ _ _ hd hi
      exact dk rv (.inr ⟨ob, hv⟩) ev
    · cases ev
  | _ => cases ev
variable {a b e o : Expr} {fa fb fe : E} {pos p2 : Pos}
theorem xIx (hu : X.A.units + 64 < cLine) (ha : PE X a (semE X.K cls fa)) (hb : PE X b (semE X.K cls fb)) (hs : PlainIx b := by exact fun _ _ => rfl) : PE X (.Subscript a b pos) (semE X.K cls (eOp gIx fa fb)) := pe_of (pe_ix (ix_g hu) ha hb hs) sem2
def semO (K : PySem.W.Frag) (cls : Cl) (f : AEnv → Ah → Option (Option Int × Ah)) : TO := fun σ H Q => ∃ ρ sa h o h', RelH K cls ρ h H ∧ RelS K ρ H sa σ ∧ f sa h = some (o, h') ∧ ∀ ρ' H', Ext ρ ρ' → Keep H H' → RelH K cls ρ' h' H' → Q o H'
theorem po_of {e : Option Expr} {t t' : TO} (h : PO X e t) (i : ∀ σ H Q, t' σ H Q → t σ H Q) : PO X e t' := ⟨fun pins s σ H Q I q => h.run pins s σ H Q I (i σ H Q q)⟩
theorem xpNone : PO X none (semO X.K cls pNone) := po_of po_none fun σ H Q ⟨ρ, sa, h, o, h', R, S, ev, k⟩ => by cases ev; exact k ρ H (Ext.refl _) (Keep.refl _) R
theorem xpSome (he : PE X e (semE X.K cls fe)) : PO X (some e) (semO X.K cls (pSome fe)) := po_of (po_some he) fun σ H Q ⟨ρ, sa, h, o, h', R, S, ev, k⟩ => by
  obtain ⟨⟨x, h1⟩, e1, ev⟩ := bs ev
  simp only [Option.map_eq_some_iff] at ev
  obtain ⟨i, e2, e3⟩ := ev
  cases e3
  refine ⟨ρ, sa, h, x, _, R, S, e1, fun ρ1 v H1 x1 k1 R1 r1 => ?_⟩
  cases x <;> simp only [isI] at e2 <;> cases e2
  cases r1
  exact ⟨_, rfl, k ρ1 H1 x1 k1 R1⟩
theorem cut_rel {K : PySem.W.Frag} {ρ : List Addr} {H : Hp} {ds : List D} {vs : List V} (r : RelDs K ρ H ds vs) (lo hi : Option Int) : RelDs K ρ H (cutD ds lo hi) (cutV vs lo hi) := by
  unfold cutD cutV
  rw [r.length]
  exact (r.drop _).take _
theorem sl_g : SlR X (fun v lo hi H Q => rM1 X.K cls (gSl lo hi) v H Q) := by
  intro pins s σ H x v vl vu lo hi sl Q I rx hs pl pu ⟨ρ, h, dx, d, h', R, r1, ev, k⟩
  cases r1 with
  | @tup ds vs a hS rs =>
    cases ev
    refine sl_tupA pins s σ H _ v vl vu lo hi sl Q I rx hs pl pu ⟨a, vs, rfl, hS, fun hw => ?_, fun hw p hp => k.tup R (cut_rel rs lo hi) hp⟩
    refine k.at R (.tup hS ?_)
    have := cut_rel rs lo hi
    have e : cutV vs lo hi = vs := by
      unfold cutV
      rw [hw.1, hw.2, List.drop_zero, Nat.sub_zero, List.take_length]
    rw [e] at this
    exact this
  | @obj j a hi' =>
    simp only [gSl] at ev
    split at ev
    · rename_i ds hd
      cases ev
      obtain ⟨vs, hv, rv⟩ := R.at_ _ _ _ hd hi'
      exact sl_list pins s σ H _ v vl vu lo hi sl Q I rx hs pl pu ⟨a, vs, rfl, SqL.of hv, fun p hp => k.lst R (cut_rel rv lo hi) hp⟩
    · cases ev
  | _ => cases ev
theorem xSl {lo hi : Option Expr} {pl ph : AEnv → Ah → Option (Option Int × Ah)} (he : PE X e (semE X.K cls fe)) (hl : PO X lo (semO X.K cls pl)) (hh : PO X hi (semO X.K cls ph)) : PE X (.Subscript e (.Slice lo hi none p2) pos) (semE X.K cls (eSl fe pl ph)) := by
  refine pe_of (pe_slice (sl_g (cls := cls)) he hl hh) fun σ H Q ⟨ρ, sa, h, d, h', R, S, ev, k⟩ => ?_
  obtain ⟨⟨x, h1⟩, e1, ev⟩ := bs ev
  obtain ⟨⟨l, h2⟩, e2, ev⟩ := bs ev
  obtain ⟨⟨u, h3⟩, e3, ev⟩ := bs ev
  exact ⟨ρ, sa, h, x, h1, R, S, e1, fun ρ1 v H1 x1 k1 R1 r1 => ⟨ρ1, sa, h1, l, h2, R1, S.mono x1 k1, e2, fun ρ2 H2 x2 k2 R2 => ⟨ρ2, sa, h2, u, h3, R2, S.mono (x1.trans x2) (k1.trans k2), e3, fun ρ3 H3 x3 k3 R3 =>
    ⟨ρ3, h3, x, d, h', R3, r1.mono (x2.trans x3) (k2.trans k3), ev, fun ρ4 w H4 x4 k4 R4 r4 => k ρ4 w H4 (x1.trans (x2.trans (x3.trans x4))) (k1.trans (k2.trans (k3.trans k4))) R4 r4⟩⟩⟩⟩
/-- xs[::-1] -/
theorem xRevL {k : Nat} {p1 p2 p3 pos : Pos} (he : PE X e (semE X.K cls fe)) (hx : ∀ {te : TE}, PE X e te → PE X (.Subscript e (.Slice none none (some (.UnaryOp .USub (.Constant (.int 1) k p1) p2)) p3) pos) (tRevL X.K te) := by exact fun h => pe_revL h) :
    PE X (.Subscript e (.Slice none none (some (.UnaryOp .USub (.Constant (.int 1) k p1) p2)) p3) pos) (semE X.K cls (eOp1 gRev fe)) := by
  refine pe_of (hx he) fun σ H Q ⟨ρ, sa, h, d, h', R, S, ev, kk⟩ => ?_
  obtain ⟨⟨x, h1⟩, e1, ev⟩ := bs ev
  refine ⟨ρ, sa, h, x, h1, R, S, e1, fun ρ1 v H1 x1 k1 R1 r1 => ?_⟩
  cases x <;> simp only [gRev] at ev <;> try (cases ev)
  split at ev
  · rename_i ds hd
    cases ev
    cases r1 with
    | @obj _ a hi =>
      obtain ⟨vs, hv, rv⟩ := R1.at_ _ _ _ hd hi
      exact ⟨a, vs, rfl, SqL.of hv, fun p hp => Fin.lst (fun ρ' v H' e k' R' r => kk ρ' v H' (x1.trans e) (k1.trans k') R' r) R1 rv.rev hp⟩
  · cases ev
theorem fldD_look {K : PySem.W.Frag} {ρ : List Addr} {H : Hp} {fs : List (Str × D)} {vs : List (Str × V)} (r : RelKV K ρ H fs vs) (f : Str) {d : D} (e : fldD f fs = some d) : ∃ v, vs.lookup f = some v ∧ RelD K ρ H d v := by
  induction r with
  | nil => cases e
  | @cons g d' v ds us rd t ih =>
    simp only [fldD, beqS_eq] at e
    by_cases h : g = f
    · subst h
      rw [decide_eq_true rfl] at e
      cases e
      exact ⟨v, by simp, rd⟩
    · rw [decide_eq_false h] at e
      obtain ⟨w, h1, h2⟩ := ih e
      have hn : (f == g) = false := by simpa using Ne.symm h
      exact ⟨w, by rw [List.lookup_cons, hn]; exact h1, h2⟩
/-- what an attribute's name wants of the classes -/
def Att (K : PySem.W.Frag) (cls : Cl) (f : Str) : Prop := ∀ c C, cls c = some C → Cls K C ∧ NoAttr K C f
theorem xFld {f : Str} (na : Att X.K cls f) (he : PE X e (semE X.K cls fe)) (hb : attributeBase e f X.env (eval e X.env) = eval e X.env := by rfl) : PE X (.Attribute e f pos) (semE X.K cls (eOp1 (gFld f) fe)) := by
  refine pe_of (pe_fld he hb) fun σ H Q ⟨ρ, sa, h, d, h', R, S, ev, kk⟩ => ?_
  obtain ⟨⟨x, h1⟩, e1, ev⟩ := bs ev
  refine ⟨ρ, sa, h, x, h1, R, S, e1, fun ρ1 v H1 x1 k1 R1 r1 => ?_⟩
  cases x <;> simp only [gFld] at ev <;> try (cases ev)
  split at ev
  · rename_i c fs hd
    simp only [Option.map_eq_some_iff] at ev
    obtain ⟨d', e2, e3⟩ := ev
    cases e3
    cases r1 with
    | @obj _ a hi =>
      obtain ⟨C, dx, vs, hc, hv, rv⟩ := R1.at_ _ _ _ hd hi
      obtain ⟨w, h2, h3⟩ := fldD_look rv f e2
      exact ⟨a, C, dx, vs, w, rfl, hv, (na c C hc).1, (na c C hc).2, h2, kk ρ1 w H1 x1 k1 R1 h3⟩
  · cases ev
/-- displays of dicts -/
theorem xDic0 : PE X (.Dict [] [] pos) (semE X.K cls eDic0) := pe_of pe_dnewK fun σ H Q ⟨ρ, sa, h, d, h', R, S, ev, k⟩ p hp => by
  cases ev
  exact Fin.dic (fun ρ' v H' e k' R' r => k ρ' v H' e k' R' r) R .nil hp
theorem xDic1 (ha : PE X a (semE X.K cls fa)) (hb : PE X b (semE X.K cls fb)) : PE X (.Dict [some a] [b] pos) (semE X.K cls (eDic1 fa fb)) := by
  refine pe_of (pe_disp (pps_cons ha hb pps_nil) rfl rfl (fun z => by cases z) (by show 1 ≤ 15; decide)) fun σ H Q ⟨ρ, sa, h, d, h', R, S, ev, k⟩ p hp => ?_
  obtain ⟨⟨x, h1⟩, e1, ev⟩ := bs ev
  obtain ⟨⟨y, h2⟩, e2, ev⟩ := bs ev
  obtain ⟨key, e3, ev⟩ := bs ev
  have kn : Keep H (upd H p (.dK [])) := Keep.new hp
  have R0 : RelH X.K cls (ρ ++ [p]) (h.push (.dic [])) (upd H p (.dK [])) := R.new hp ⟨[], upd_same, .nil⟩
  have hi : (ρ ++ [p])[h.n]? = some p := by
    rw [List.getElem?_append_right (by rw [R.len]; exact Nat.le_refl _), R.len]
    simp
  refine ⟨ρ ++ [p], sa, _, x, h1, R0, S.mono (Ext.app _ _) kn, e1, fun ρ1 v H1 x1 k1 R1 r1 => ⟨ρ1, sa, h1, y, h2, R1, S.mono ((Ext.app _ _).trans x1) (kn.trans k1), e2, fun ρ2 u H2 x2 k2 R2 r2 => ?_⟩⟩
  split at ev
  · rename_i hd
    cases ev
    have hi2 := x2 _ _ (x1 _ _ hi)
    obtain ⟨vs, hv, rv⟩ := R2.at_ _ _ _ hd hi2
    cases rv
    have ek := toKey_kV r1 e3
    refine ⟨hv, [(key, u)], by rw [ek]; rfl, by show 1 ≤ 15; decide, ?_⟩
    have e4 : mergeK [] [(key, u)] = [(key, u)] := by simp [mergeK, putK]
    rw [e4]
    refine Fin.wd (kvs := [(key, y)]) (fun ρ' w H' x3 k3 R3 r3 => k ρ' w H' ((Ext.app _ _).trans (x1.trans (x2.trans x3))) (kn.trans (k1.trans (k2.trans k3))) R3 r3) R2 hi2 hv trivial (.cons r2 .nil) (.obj hi2)
  · cases ev
end

/-! ### statements -/
def sNone : S := fun _ _ => none
def sNx : S := fun sa h => some (.nx, sa, h)
def sSeq (a b : S) : S := fun sa h => (a sa h).bind fun r => match r.1 with
  | .nx => b r.2.1 r.2.2
  | _ => some r
def sRet (e : E) : S := fun sa h => (e sa h).bind fun p => some (.rt p.1, sa, p.2)
def sExpr (e : E) : S := fun sa h => (e sa h).bind fun p => some (.nx, sa, p.2)
def sIf (c : T) (a b : S) : S := fun sa h => (c sa h).bind fun p => bif p.1 then a sa p.2 else b sa p.2
abbrev Tg := D → AEnv → Option AEnv
def tgN (i : Nat) : Tg := fun d sa => some (sa.set i (some d))
abbrev Tgs := List D → AEnv → Option AEnv
def tgsNil : Tgs := fun ds sa => match ds with
  | [] => some sa
  | _ => none
def tgsCons (t : Tg) (u : Tgs) : Tgs := fun ds sa => match ds with
  | [] => none
  | d :: r => (t d sa).bind fun sb => u r sb
def tgT (n : Nat) (t : Tgs) : Tg := fun d sa => match d with
  | .tup ds => if ds.length = n then t ds sa else none
  | _ => none
def sAsg (e : E) (t : Tg) : S := fun sa h => (e sa h).bind fun p => (t p.1 sa).bind fun sb => some (.nx, sb, p.2)
def sWhile : Nat → T → S → S
  | 0, _, _ => fun _ _ => none
  | n + 1, c, b => fun sa h => (c sa h).bind fun p => bif p.1 then ((b sa p.2).bind fun r => match r.1 with
      | .nx => sWhile n c b r.2.1 r.2.2
      | .ct => sWhile n c b r.2.1 r.2.2
      | .bk => some (.nx, r.2)
      | .rt d => some (.rt d, r.2)) else some (.nx, sa, p.2)
def sBk : S := fun sa h => some (.bk, sa, h)
def sCt : S := fun sa h => some (.ct, sa, h)
/-- an iteration: what comes at turn i -/
abbrev Nx := Nat → Ah → Option (Option D)
abbrev Itr := AEnv → Ah → Option (Nx × Ah)
def forL : Nat → Nx → Tg → S → Nat → S
  | 0, _, _, _, _ => fun _ _ => none
  | n + 1, nx, t, b, i => fun sa h => (nx i h).bind fun o => match o with
    | none => some (.nx, sa, h)
    | some d => (t d sa).bind fun sb => (b sb h).bind fun r => match r.1 with
      | .nx => forL n nx t b (i + 1) r.2.1 r.2.2
      | .ct => forL n nx t b (i + 1) r.2.1 r.2.2
      | .bk => some (.nx, r.2)
      | .rt d => some (.rt d, r.2)
def sFor (n : Nat) (it : Itr) (t : Tg) (b : S) : S := fun sa h => (it sa h).bind fun p => forL n p.1 t b 0 sa p.2

section
variable {K : PySem.W.Frag} {cls : Cl}
/-- what is wanted behind a statement -/
def EndS (K : PySem.W.Frag) (cls : Cl) (Dn : Ends) (ρ : List Addr) (H : Hp) (o : Out) (sa' : AEnv) (h' : Ah) : Prop :=
  ∀ ρ' H', Ext ρ ρ' → Keep H H' → RelH K cls ρ' h' H' → match o with
    | .nx => ∀ σ', RelS K ρ' H' sa' σ' → Dn.nx σ' H'
    | .bk => ∀ σ', RelS K ρ' H' sa' σ' → Dn.bk σ' H'
    | .ct => ∀ σ', RelS K ρ' H' sa' σ' → Dn.ct σ' H'
    | .rt d => ∀ v, RelD K ρ' H' d v → Dn.rt v H'
theorem EndS.mono {Dn : Ends} {ρ ρ1 : List Addr} {H H1 : Hp} {o : Out} {sa' : AEnv} {h' : Ah} (e : EndS K cls Dn ρ H o sa' h') (x : Ext ρ ρ1) (k : Keep H H1) : EndS K cls Dn ρ1 H1 o sa' h' :=
  fun ρ' H' x' k' R' => e ρ' H' (x.trans x') (k.trans k') R'
structure Wk (K : PySem.W.Frag) (cls : Cl) (J : It) (ρ0 : List Addr) (H0 : Hp) (nx : Nx) : Prop where
  go : ∀ (i : Nat) (H : Hp) (ρ : List Addr) (h : Ah) (d : D), Ext ρ0 ρ → Keep H0 H → RelH K cls ρ h H → nx i h = some (some d) → J.go i H ∧ ∀ x H', J.yld i H x H' → (∀ a o, H a = some o → H' a = some o) ∧ RelD K ρ H' d x
  stop : ∀ (i : Nat) (H : Hp) (ρ : List Addr) (h : Ah), Ext ρ0 ρ → Keep H0 H → RelH K cls ρ h H → nx i h = some none → J.stop i H
variable (K cls)
def semI (f : Itr) : TI := fun σ H R => ∃ ρ sa h nx h', RelH K cls ρ h H ∧ RelS K ρ H sa σ ∧ f sa h = some (nx, h') ∧ ∀ ρ' J H', Ext ρ ρ' → Keep H H' → RelH K cls ρ' h' H' → Wk K cls J ρ' H' nx → R J H'
def semG (f : Tg) : TG := fun v σ H Q => ∃ ρ sa h d sb, RelH K cls ρ h H ∧ RelS K ρ H sa σ ∧ RelD K ρ H d v ∧ f d sa = some sb ∧ ∀ σ', RelS K ρ H sb σ' → Q σ' H
def semGs (f : Tgs) : TGs := fun vs σ H Q => ∃ ρ sa h ds sb, RelH K cls ρ h H ∧ RelS K ρ H sa σ ∧ RelDs K ρ H ds vs ∧ f ds sa = some sb ∧ ∀ σ', RelS K ρ H sb σ' → Q σ' H
end
section
variable {X : Cx} {cls : Cl} {st : Stmt} {rest body : List Stmt} {fs gs : S} {e c : Expr} {fe : E} {fc : T} {pos : Pos}
theorem pg_of {e : Expr} {t t' : TG} (h : PG X e t) (i : ∀ v σ H Q, t' v σ H Q → t v σ H Q) : PG X e t' := ⟨fun pins s σ H v u Q I r q => h.run pins s σ H v u Q I r (i v σ H Q q)⟩
theorem pgs_of {e : List Expr} {t t' : TGs} (h : PGs X e t) (i : ∀ v σ H Q, t' v σ H Q → t v σ H Q) : PGs X e t' := ⟨fun pins s σ H v u Q I r q => h.run pins s σ H v u Q I r (i v σ H Q q)⟩
theorem xsNone : PS X st (semS X.K cls sNone) := ps_of ps_never fun Dn σ H ⟨_, _, _, _, _, _, _, _, ev, _⟩ => by cases ev
theorem xssNone {sts : List Stmt} : PSs X sts (semS X.K cls sNone) := pss_of pss_never fun Dn σ H ⟨_, _, _, _, _, _, _, _, ev, _⟩ => by cases ev
theorem xsPass : PS X (.Pass pos) (semS X.K cls sNx) := ps_of ps_pass fun Dn σ H ⟨ρ, sa, h, o, sa', h', R, S, ev, k⟩ => by cases ev; exact k ρ H (Ext.refl _) (Keep.refl _) R σ S
theorem xsBk : PS X (.Break pos) (semS X.K cls sBk) := ps_of ps_break fun Dn σ H ⟨ρ, sa, h, o, sa', h', R, S, ev, k⟩ => by cases ev; exact k ρ H (Ext.refl _) (Keep.refl _) R σ S
theorem xsCt : PS X (.Continue pos) (semS X.K cls sCt) := ps_of ps_continue fun Dn σ H ⟨ρ, sa, h, o, sa', h', R, S, ev, k⟩ => by cases ev; exact k ρ H (Ext.refl _) (Keep.refl _) R σ S
theorem xssNil : PSs X [] (semS X.K cls sNx) := pss_of pss_nil fun Dn σ H ⟨ρ, sa, h, o, sa', h', R, S, ev, k⟩ => by cases ev; exact k ρ H (Ext.refl _) (Keep.refl _) R σ S
theorem xssOne (h : PS X st (semS X.K cls fs)) : PSs X [st] (semS X.K cls fs) := pss_one h
theorem xssCons (h1 : PS X st (semS X.K cls fs)) (h2 : PSs X rest (semS X.K cls gs)) : PSs X (st :: rest) (semS X.K cls (sSeq fs gs)) := by
  refine pss_of (pss_cons h1 h2) fun Dn σ H ⟨ρ, sa, h, o, sa', h', R, S, ev, k⟩ => ?_
  obtain ⟨⟨o1, sb, h1⟩, e1, ev⟩ := bs ev
  refine ⟨ρ, sa, h, o1, sb, h1, R, S, e1, fun ρ1 H1 x1 k1 R1 => ?_⟩
  cases o1 with
  | nx => exact fun σ1 S1 => ⟨ρ1, sb, h1, o, sa', h', R1, S1, ev, EndS.mono k x1 k1⟩
  | rt d => cases ev; exact k ρ1 H1 x1 k1 R1
  | bk => cases ev; exact k ρ1 H1 x1 k1 R1
  | ct => cases ev; exact k ρ1 H1 x1 k1 R1
theorem xsRet (he : PE X e (semE X.K cls fe)) : PS X (.Return (some e) pos) (semS X.K cls (sRet fe)) := by
  refine ps_of (ps_ret he) fun Dn σ H ⟨ρ, sa, h, o, sa', h', R, S, ev, k⟩ => ?_
  obtain ⟨⟨x, h1⟩, e1, ev⟩ := bs ev
  cases ev
  exact ⟨ρ, sa, h, x, _, R, S, e1, fun ρ1 v H1 x1 k1 R1 r1 => k ρ1 H1 x1 k1 R1 v r1⟩
theorem xsRetN : PS X (.Return none pos) (semS X.K cls (sRet (eC .non))) := by
  refine ps_of ps_retN fun Dn σ H ⟨ρ, sa, h, o, sa', h', R, S, ev, k⟩ => ?_
  cases ev
  exact k ρ H (Ext.refl _) (Keep.refl _) R .non .non
theorem xsExpr (he : PE X e (semE X.K cls fe)) (hs : swapsWith e none pos.line X.env = pure false := by rfl) : PS X (.Expr e pos) (semS X.K cls (sExpr fe)) := by
  refine ps_of (ps_expr he hs) fun Dn σ H ⟨ρ, sa, h, o, sa', h', R, S, ev, k⟩ => ?_
  obtain ⟨⟨x, h1⟩, e1, ev⟩ := bs ev
  cases ev
  exact ⟨ρ, sa, h, x, _, R, S, e1, fun ρ1 v H1 x1 k1 R1 r1 => k ρ1 H1 x1 k1 R1 σ (S.mono x1 k1)⟩
theorem xsIf {a b : List Stmt} (hc : PT X c (semT X.K cls fc)) (ha : PSs X a (semS X.K cls fs)) (hb : PSs X b (semS X.K cls gs)) : PS X (.If c a b pos) (semS X.K cls (sIf fc fs gs)) := by
  refine ps_of (ps_if hc ha hb) fun Dn σ H ⟨ρ, sa, h, o, sa', h', R, S, ev, k⟩ => ?_
  obtain ⟨⟨x, h1⟩, e1, ev⟩ := bs ev
  refine ⟨ρ, sa, h, x, _, R, S, e1, fun ρ1 H1 x1 k1 R1 => ?_⟩
  cases x with
  | true => rw [if_pos rfl]; exact ⟨ρ1, sa, h1, o, sa', h', R1, S.mono x1 k1, ev, EndS.mono k x1 k1⟩
  | false => rw [if_neg Bool.false_ne_true]; exact ⟨ρ1, sa, h1, o, sa', h', R1, S.mono x1 k1, ev, EndS.mono k x1 k1⟩
/-- targets -/
theorem xgN (i : Nat) {x : Str} (hN : X.N.Nodup) (hi : X.N[i]? = some x := by rfl) (hx : Loc X.env.scope x := by first | exact Or.inl rfl | exact Or.inr rfl) (hf : X.fn x = true ∨ X.env.scope.names.lookup x = some .local := by first | exact .inl rfl | exact .inr rfl) : PG X (.Name x pos) (semG X.K cls (tgN i)) :=
  pg_of (pg_name hN hi hx hf) fun v σ H Q ⟨ρ, sa, h, d, sb, R, S, r, ev, k⟩ => by cases ev; exact k _ (S.set i r)
theorem xgsNil : PGs X [] (semGs X.K cls tgsNil) := pgs_of pgs_nil fun vs σ H Q ⟨ρ, sa, h, ds, sb, R, S, r, ev, k⟩ => by
  cases ds with
  | nil => cases ev; cases r; exact ⟨rfl, k σ S⟩
  | cons _ _ => cases ev
theorem xgsCons {t : Tg} {u : Tgs} {es : List Expr} (h1 : PG X e (semG X.K cls t)) (h2 : PGs X es (semGs X.K cls u)) (hs : (assignEach (e :: es) X.env).map (·.2) = assign e X.env :: (assignEach es X.env).map (·.2) := by rfl) : PGs X (e :: es) (semGs X.K cls (tgsCons t u)) :=
  pgs_of (pgs_cons h1 h2 hs) fun vs σ H Q ⟨ρ, sa, h, ds, sb, R, S, r, ev, k⟩ => by
    cases ds with
    | nil => cases ev
    | cons d ds =>
      cases r with
      | cons r1 rs =>
        obtain ⟨sc, e1, ev⟩ := bs ev
        exact ⟨_, _, rfl, ρ, sa, h, d, sc, R, S, r1, e1, fun σ1 S1 => ⟨ρ, sc, h, ds, sb, R, S1, rs, ev, k⟩⟩
theorem xgT {es : List Expr} {k n : Nat} {t : Tgs} (hc : X.calm = true) (h : PGs X es (semGs X.K cls t)) (hn : (assignEach es X.env).length = n := by rfl) (hst : (assignEach es X.env).findIdx? (·.1) = none := by rfl) : PG X (.Tuple es k pos) (semG X.K cls (tgT n t)) :=
  pg_of (pg_tup hc h hn hst) fun v σ H Q ⟨ρ, sa, h, d, sb, R, S, r, ev, k⟩ => by
    cases d <;> simp only [tgT] at ev <;> try (cases ev)
    split at ev
    · rename_i hl
      cases r with
      | tup hs rs => exact ⟨_, _, rfl, hs, by rw [← rs.length]; exact hl, ρ, sa, h, _, sb, R, S, rs, ev, k⟩
    · cases ev
theorem xsAsg {tg : Expr} {t : Tg} (he : PE X e (semE X.K cls fe)) (hg : PG X tg (semG X.K cls t)) (hs : swapsWithSole [tg] e pos.line X.env = pure false := by rfl) (hw : swappedStores [tg] e X.env = pure none := by rfl)
    (h1 : (assignEach [tg] X.env).map (·.2) = [assign tg X.env] := by rfl) : PS X (.Assign [tg] e pos) (semS X.K cls (sAsg fe t)) := by
  refine ps_of (ps_asg he hg hs hw h1) fun Dn σ H ⟨ρ, sa, h, o, sa', h', R, S, ev, k⟩ => ?_
  obtain ⟨⟨x, h1⟩, e1, ev⟩ := bs ev
  obtain ⟨sb, e2, ev⟩ := bs ev
  cases ev
  exact ⟨ρ, sa, h, x, _, R, S, e1, fun ρ1 v H1 x1 k1 R1 r1 => ⟨ρ1, sa, _, x, _, R1, S.mono x1 k1, r1, e2, fun σ1 S1 => k ρ1 H1 x1 k1 R1 σ1 S1⟩⟩
theorem xsWhile (n : Nat) (hp : PassesOwn (model X.prog X.w) X.A X.env X.xe) (hc : PT X c (semT X.K cls fc)) (hb : PSs X body (semS X.K cls fs)) : PS X (.While c body [] pos) (semS X.K cls (sWhile n fc fs)) := by
  refine ps_of (ps_while hp hc hb) fun Dn σ H ⟨ρ, sa, h, o, sa', h', R, S, ev, k⟩ => ?_
  refine ⟨fun m σ H => ∃ ρ sa h, RelH X.K cls ρ h H ∧ RelS X.K ρ H sa σ ∧ sWhile m fc fs sa h = some (o, sa', h') ∧ EndS X.K cls Dn ρ H o sa' h', ⟨n, ρ, sa, h, R, S, ev, k⟩, ?_⟩
  rintro m σ H ⟨ρ, sa, h, R, S, ev, k⟩
  cases m with
  | zero => cases ev
  | succ m =>
    obtain ⟨⟨x, h1⟩, e1, ev⟩ := bs ev
    refine ⟨ρ, sa, h, x, _, R, S, e1, fun ρ1 H1 x1 k1 R1 => ?_⟩
    cases x with
    | false => rw [if_neg Bool.false_ne_true]; cases ev; exact k ρ1 H1 x1 k1 R1 σ (S.mono x1 k1)
    | true =>
      rw [if_pos rfl]
      obtain ⟨⟨o1, sb, h2⟩, e2, ev⟩ := bs ev
      refine ⟨fun σ H => ∃ ρ sa h, RelH X.K cls ρ h H ∧ RelS X.K ρ H sa σ ∧ sWhile m fc fs sa h = some (o, sa', h') ∧ EndS X.K cls Dn ρ H o sa' h', fun σ' H' q => ⟨m, Nat.lt_succ_self m, q⟩, ρ1, sa, h1, o1, sb, h2, R1, S.mono x1 k1, e2, fun ρ2 H2 x2 k2 R2 => ?_⟩
      cases o1 with
      | nx => exact fun σ2 S2 => ⟨ρ2, sb, h2, R2, S2, ev, EndS.mono k (x1.trans x2) (k1.trans k2)⟩
      | ct => exact fun σ2 S2 => ⟨ρ2, sb, h2, R2, S2, ev, EndS.mono k (x1.trans x2) (k1.trans k2)⟩
      | bk => cases ev; exact fun σ2 S2 => k ρ2 H2 (x1.trans x2) (k1.trans k2) R2 σ2 S2
      | rt d => cases ev; exact fun v r => k ρ2 H2 (x1.trans x2) (k1.trans k2) R2 v r
theorem xsFor {tg iter : Expr} {it : Itr} {t : Tg} (n : Nat) (hp : PassesOwn (model X.prog X.w) X.A X.env X.xe) (hc : X.calm = true) (hi : PI X tg iter (semI X.K cls it)) (hg : PG X tg (semG X.K cls t)) (hb : PSs X body (semS X.K cls fs))
    (hs : ∀ x, foldedSetIterable iter X.env x = pure x := by intro _; rfl) : PS X (.For tg iter body [] pos) (semS X.K cls (sFor n it t fs)) := by
  refine ps_of (ps_for hp hc hi hg hb hs) fun Dn σ H ⟨ρ, sa, h, o, sa', h', R, S, ev, k⟩ => ?_
  obtain ⟨⟨nx, h1⟩, e1, ev⟩ := bs ev
  refine ⟨ρ, sa, h, nx, h1, R, S, e1, fun ρ0 J H0 x0 k0 R0 wk => ?_⟩
  refine ⟨fun i m σ H => ∃ ρ sa h, Ext ρ0 ρ ∧ Keep H0 H ∧ RelH X.K cls ρ h H ∧ RelS X.K ρ H sa σ ∧ forL m nx t fs i sa h = some (o, sa', h') ∧ EndS X.K cls Dn ρ H o sa' h', ⟨n, ρ0, sa, h1, Ext.refl _, Keep.refl _, R0, S.mono x0 k0, ev, EndS.mono k x0 k0⟩, ?_⟩
  rintro i m σ H ⟨ρ, sa, h, x, kk, R, S, ev, k⟩
  cases m with
  | zero => cases ev
  | succ m =>
    obtain ⟨od, e2, ev⟩ := bs ev
    cases od with
    | none => cases ev; exact .inl ⟨wk.stop i H ρ _ x kk R e2, k ρ H (Ext.refl _) (Keep.refl _) R σ S⟩
    | some d =>
      obtain ⟨go, yl⟩ := wk.go i H ρ h d x kk R e2
      obtain ⟨sb, e3, ev⟩ := bs ev
      obtain ⟨⟨o1, sc, h2⟩, e4, ev⟩ := bs ev
      refine .inr ⟨go, fun σ H => ∃ ρ sa h, Ext ρ0 ρ ∧ Keep H0 H ∧ RelH X.K cls ρ h H ∧ RelS X.K ρ H sa σ ∧ forL m nx t fs (i + 1) sa h = some (o, sa', h') ∧ EndS X.K cls Dn ρ H o sa' h', fun σ' H' q => ⟨m, Nat.lt_succ_self m, q⟩, fun y H' hy => ?_⟩
      obtain ⟨gr, rd⟩ := yl y H' hy
      refine ⟨ρ, sa, h, d, sb, R.grow gr, S.mono (Ext.refl _) (grow_keep gr), rd, e3, fun σ1 S1 => ⟨ρ, sb, h, o1, sc, h2, R.grow gr, S1, e4, fun ρ2 H2 x2 k2 R2 => ?_⟩⟩
      have kg := (grow_keep gr).trans k2
      cases o1 with
      | nx => exact fun σ2 S2 => ⟨ρ2, sc, h2, x.trans x2, kk.trans kg, R2, S2, ev, EndS.mono k x2 kg⟩
      | ct => exact fun σ2 S2 => ⟨ρ2, sc, h2, x.trans x2, kk.trans kg, R2, S2, ev, EndS.mono k x2 kg⟩
      | bk => cases ev; exact fun σ2 S2 => k ρ2 H2 x2 kg R2 σ2 S2
      | rt d => cases ev; exact fun v r => k ρ2 H2 x2 kg R2 v r
end
end Gw
set_option Elab.async false
set_option linter.all false
set_option maxRecDepth 100000
set_option maxHeartbeats 4000000
/-! Gw: what loops walk over; locks. -/
namespace Gw
open PySem PyProof.Rows L2

/-! ### meanings -/
def kD : Key → D
  | .inl i => .int i
  | .inr x => .str x
/-- a list as it stands, a tuple, a locked dict's keys, a text -/
def nxL (j : Nat) : Nx := fun i h => match h.get j with
  | some (.lst ds) => some ds[i]?
  | _ => none
def nxT (ds : List D) : Nx := fun i _ => some ds[i]?
def nxS (x : Str) : Nx := fun i _ => some (x.cps[i]?.map fun c => .str ⟨#[c]⟩)
def nxK (j : Nat) : Nx := fun i h => match h.get j with
  | some (.frz kvs) => some (kvs[i]?.map fun kv => kD kv.1)
  | _ => none
def iSeq (e : E) : Itr := fun sa h => (e sa h).bind fun p => match p.1 with
  | .tup ds => some (nxT ds, p.2)
  | .str x => some (nxS x, p.2)
  | .obj j => match p.2.get j with
    | some (.lst _) => some (nxL j, p.2)
    | some (.frz _) => some (nxK j, p.2)
    | _ => none
  | _ => none
def nxRng (lo : Int) (n : Nat) : Nx := fun i _ => some (if i < n then some (.int (lo + i)) else none)
def small62 (j : Int) : Bool := decide (-(2 ^ 62) ≤ j) && decide (j < 2 ^ 62)
def iRng1 (as : As) : Itr := fun sa h => (as sa h).bind fun p => match p.1 with
  | [.int j] => bif small62 j then some (nxRng 0 j.toNat, p.2) else none
  | _ => none
def iRng2 (as : As) : Itr := fun sa h => (as sa h).bind fun p => match p.1 with
  | [.int i, .int j] => bif small62 i && small62 j then some (nxRng i (j - i).toNat, p.2) else none
  | _ => none
def nxRevT (ds : List D) : Nx := fun i _ => if ds.length ≤ i then some none else (ds[ds.length - 1 - i]?).map some
def nxRevL (j n : Nat) : Nx := fun i h => if n ≤ i then some none else match h.get j with
  | some (.lst ds) => (ds[n - 1 - i]?).map some
  | _ => none
def iRevD (e : E) : Itr := fun sa h => (e sa h).bind fun p => match p.1 with
  | .tup ds => some (nxRevT ds, p.2)
  | .obj j => match p.2.get j with
    | some (.lst ds) => some (nxRevL j ds.length, p.2)
    | _ => none
  | _ => none
def nxZip (xs ys : List D) : Nx := fun i _ => some ((xs[i]?).bind fun x => (ys[i]?).map fun y => .tup [x, y])
def iZipT (as : As) : Itr := fun sa h => (as sa h).bind fun p => match p.1 with
  | [.tup xs, .tup ys] => some (nxZip xs ys, p.2)
  | _ => none
def nxVals (j : Nat) : Nx := fun i h => match h.get j with
  | some (.frz kvs) => some (kvs[i]?.map Prod.snd)
  | _ => none
def iValsD (e : E) : Itr := fun sa h => (e sa h).bind fun p => match p.1 with
  | .obj j => match p.2.get j with
    | some (.frz _) => some (nxVals j, p.2)
    | _ => none
  | _ => none
/-- a dict is locked while f runs, then opened -/
def lockH (j : Nat) (h : Ah) : Option Ah := match h.get j with
  | some (.dic kvs) => some (h.set j (.frz kvs))
  | _ => none
def openH (j : Nat) (h : Ah) : Option Ah := match h.get j with
  | some (.frz kvs) => some (h.set j (.dic kvs))
  | _ => none
def slotJ (i : Nat) (sa : AEnv) : Option Nat := match sa[i]? with
  | some (some (.obj j)) => some j
  | _ => none
def eLock (i : Nat) (e : E) : E := fun sa h => (slotJ i sa).bind fun j => (lockH j h).bind fun h1 => (e sa h1).bind fun p => (openH j p.2).bind fun h2 => some (p.1, h2)
def sLock (i : Nat) (s : S) : S := fun sa h => (slotJ i sa).bind fun j => (lockH j h).bind fun h1 => (s sa h1).bind fun r => (openH j r.2.2).bind fun h2 => some (r.1, r.2.1, h2)

section
variable {K : PySem.W.Frag} {cls : Cl} {ρ : List Addr} {H : Hp}
theorem RelKV.get {κ : Type} : ∀ {ds : List (κ × D)} {vs : List (κ × V)} {i : Nat} {k : κ} {d : D}, RelKV K ρ H ds vs → ds[i]? = some (k, d) → ∃ v, vs[i]? = some (k, v) ∧ RelD K ρ H d v
  | _, _, _, _, _, .nil, e => by simp at e
  | _, _, 0, _, _, .cons r _, e => by simp at e; obtain ⟨rfl, rfl⟩ := e; exact ⟨_, rfl, r⟩
  | _, _, i + 1, _, _, .cons _ t, e => by
    obtain ⟨v, h1, h2⟩ := t.get (i := i) (by simpa using e)
    exact ⟨v, by simpa using h1, h2⟩
theorem RelKV.length {κ : Type} : ∀ {ds : List (κ × D)} {vs : List (κ × V)}, RelKV K ρ H ds vs → ds.length = vs.length
  | _, _, .nil => rfl
  | _, _, .cons _ t => by simp [t.length]
theorem kD_rel (k : Key) : RelD K ρ H (kD k) (kV k) := by cases k <;> constructor
end
theorem get_none {α : Type} {xs : List α} {i : Nat} (h : xs[i]? = none) : xs.length ≤ i := List.getElem?_eq_none_iff.mp h
section
variable {K : PySem.W.Frag} {cls : Cl} {ρ0 : List Addr} {H0 : Hp} {h0 : Ah}
theorem gr_refl {H : Hp} : ∀ a o, H a = some o → H a = some o := fun _ _ q => q
theorem wk_list {j : Nat} {a : Addr} (hj : ρ0[j]? = some a) : Wk K cls (Itl K a) ρ0 H0 (nxL j) := by
  refine ⟨fun i H ρ h d x k R e => ?_, fun i H ρ h x k R e => ?_⟩
  · simp only [nxL] at e
    split at e
    · rename_i ds hd
      obtain ⟨vs, hv, rv⟩ := R.at_ _ _ _ hd (x _ _ hj)
      obtain ⟨v, h1, h2⟩ := rv.get (Option.some.inj e)
      refine ⟨⟨vs, v, SqL.of hv, h1⟩, fun y H' hy => ?_⟩
      obtain ⟨rfl, q⟩ := hy
      rw [Option.some.inj (h1.symm.trans (q vs (SqL.of hv)))] at h2
      exact ⟨gr_refl, h2⟩
    · cases e
  · simp only [nxL] at e
    split at e
    · rename_i ds hd
      obtain ⟨vs, hv, rv⟩ := R.at_ _ _ _ hd (x _ _ hj)
      exact ⟨vs, SqL.of hv, by rw [← rv.length]; exact get_none (Option.some.inj e)⟩
    · cases e
theorem wk_tup {ds : List D} {vs : List V} {a : Addr} (hs : SqT K H0 a vs) (rs : RelDs K ρ0 H0 ds vs) : Wk K cls (Itt K a) ρ0 H0 (nxT ds) := by
  refine ⟨fun i H ρ h d x k R e => ?_, fun i H ρ h x k R e => ?_⟩
  · obtain ⟨v, h1, h2⟩ := (rs.mono x k).get (Option.some.inj e)
    refine ⟨⟨vs, v, k.sqt hs, h1⟩, fun y H' hy => ?_⟩
    obtain ⟨rfl, q⟩ := hy
    rw [Option.some.inj (h1.symm.trans (q vs (k.sqt hs)))] at h2
    exact ⟨gr_refl, h2⟩
  · exact ⟨vs, k.sqt hs, by rw [← rs.length]; exact get_none (Option.some.inj e)⟩
theorem wk_str {z : Str} : Wk K cls (Its z) ρ0 H0 (nxS z) := by
  refine ⟨fun i H ρ h d x k R e => ?_, fun i H ρ h x k R e => ?_⟩
  · have e' := Option.some.inj e
    obtain ⟨c, h1, h2⟩ := Option.map_eq_some_iff.mp e'
    refine ⟨(Array.getElem?_eq_some_iff.mp h1).1, fun y H' hy => ?_⟩
    obtain ⟨rfl, c', q1, q2⟩ := hy
    rw [h1] at q1
    cases q1
    subst h2 q2
    exact ⟨gr_refl, .str _⟩
  · have e' := Option.some.inj e
    simp at e'
    exact e'
theorem wk_keys {j : Nat} {d : Addr} {o : Obj} {vs : List (Key × V)} (hj : ρ0[j]? = some d) (hv0 : H0 d = some (.frz o (.dK vs))) : Wk K cls (Itk d o vs) ρ0 H0 (nxK j) := by
  refine ⟨fun i H ρ h dd x k R e => ?_, fun i H ρ h x k R e => ?_⟩
  · simp only [nxK] at e
    split at e
    · rename_i kvs hd
      obtain ⟨ob, ws, hv, rv⟩ := R.at_ _ _ _ hd (x _ _ hj)
      have hv1 := k.frz _ _ _ hv0
      rw [hv] at hv1
      cases hv1
      obtain ⟨⟨key, dv⟩, h1, h2⟩ := Option.map_eq_some_iff.mp (Option.some.inj e)
      obtain ⟨v, h3, h4⟩ := rv.get h1
      refine ⟨⟨hv, (List.getElem?_eq_some_iff.mp h3).1⟩, fun y H' hy => ?_⟩
      obtain ⟨rfl, k', v', q1, q2⟩ := hy
      rw [h3] at q1
      cases q1
      subst h2 q2
      exact ⟨gr_refl, kD_rel _⟩
    · cases e
  · simp only [nxK] at e
    split at e
    · rename_i kvs hd
      obtain ⟨ob, ws, hv, rv⟩ := R.at_ _ _ _ hd (x _ _ hj)
      have hv1 := k.frz _ _ _ hv0
      rw [hv] at hv1
      cases hv1
      have e' := Option.some.inj e
      refine ⟨hv, by rw [← rv.length]; exact get_none (by simpa using e')⟩
    · cases e
theorem wk_vals {j : Nat} {d : Addr} {o : Obj} {vs : List (Key × V)} (hj : ρ0[j]? = some d) (hv0 : H0 d = some (.frz o (.dK vs))) : Wk K cls (Itd d o vs) ρ0 H0 (nxVals j) := by
  refine ⟨fun i H ρ h dd x k R e => ?_, fun i H ρ h x k R e => ?_⟩
  · simp only [nxVals] at e
    split at e
    · rename_i kvs hd
      obtain ⟨ob, ws, hv, rv⟩ := R.at_ _ _ _ hd (x _ _ hj)
      have hv1 := k.frz _ _ _ hv0
      rw [hv] at hv1
      cases hv1
      obtain ⟨⟨key, dv⟩, h1, h2⟩ := Option.map_eq_some_iff.mp (Option.some.inj e)
      obtain ⟨v, h3, h4⟩ := rv.get h1
      refine ⟨⟨hv, (List.getElem?_eq_some_iff.mp h3).1⟩, fun y H' hy => ?_⟩
      obtain ⟨rfl, k', q1⟩ := hy
      rw [h3] at q1
      cases q1
      subst h2
      exact ⟨gr_refl, h4⟩
    · cases e
  · simp only [nxVals] at e
    split at e
    · rename_i kvs hd
      obtain ⟨ob, ws, hv, rv⟩ := R.at_ _ _ _ hd (x _ _ hj)
      have hv1 := k.frz _ _ _ hv0
      rw [hv] at hv1
      cases hv1
      have e' := Option.some.inj e
      refine ⟨hv, by rw [← rv.length]; exact get_none (by simpa using e')⟩
    · cases e
theorem wk_rng {lo : Int} {n : Nat} : Wk K cls (L2.Itr lo n) ρ0 H0 (nxRng lo n) := by
  refine ⟨fun i H ρ h d x k R e => ?_, fun i H ρ h x k R e => ?_⟩
  · have e' := Option.some.inj e
    split at e'
    · rename_i hi
      cases e'
      refine ⟨hi, fun y H' hy => ?_⟩
      obtain ⟨rfl, rfl⟩ := hy
      exact ⟨gr_refl, .int _⟩
    · cases e'
  · have e' := Option.some.inj e
    split at e'
    · cases e'
    · rename_i hi
      exact Nat.le_of_not_lt hi
theorem wk_revL {j n : Nat} {a : Addr} (hj : ρ0[j]? = some a) : Wk K cls (Itv K a n) ρ0 H0 (nxRevL j n) := by
  refine ⟨fun i H ρ h d x k R e => ?_, fun i H ρ h x k R e => ?_⟩
  · simp only [nxRevL] at e
    split at e
    · cases e
    · rename_i hi
      split at e
      · rename_i ds hd
        obtain ⟨vs, hv, rv⟩ := R.at_ _ _ _ hd (x _ _ hj)
        obtain ⟨d', h1, h2⟩ := Option.map_eq_some_iff.mp e
        cases h2
        obtain ⟨v, h3, h4⟩ := rv.get h1
        refine ⟨⟨Nat.lt_of_not_le hi, vs, v, SqL.of hv, h3⟩, fun y H' hy => ?_⟩
        obtain ⟨rfl, q⟩ := hy
        rw [Option.some.inj (h3.symm.trans (q vs (SqL.of hv)))] at h4
        exact ⟨gr_refl, h4⟩
      · cases e
  · simp only [nxRevL] at e
    split at e
    · assumption
    · split at e
      · obtain ⟨d', h1, h2⟩ := Option.map_eq_some_iff.mp e
        cases h2
      · cases e
theorem wk_revT {ds : List D} {vs : List V} {a : Addr} (hs : SqT K H0 a vs) (rs : RelDs K ρ0 H0 ds vs) : Wk K cls (RT.ItvT K a vs.length) ρ0 H0 (nxRevT ds) := by
  refine ⟨fun i H ρ h d x k R e => ?_, fun i H ρ h x k R e => ?_⟩
  · simp only [nxRevT] at e
    split at e
    · cases e
    · rename_i hi
      obtain ⟨d', h1, h2⟩ := Option.map_eq_some_iff.mp e
      cases h2
      obtain ⟨v, h3, h4⟩ := (rs.mono x k).get h1
      rw [rs.length] at h3 hi
      refine ⟨⟨Nat.lt_of_not_le hi, vs, v, k.sqt hs, h3⟩, fun y H' hy => ?_⟩
      obtain ⟨rfl, q⟩ := hy
      rw [Option.some.inj (h3.symm.trans (q vs (k.sqt hs)))] at h4
      exact ⟨gr_refl, h4⟩
  · simp only [nxRevT] at e
    split at e
    · rename_i hi
      rw [rs.length] at hi
      exact hi
    · obtain ⟨d', h1, h2⟩ := Option.map_eq_some_iff.mp e
      cases h2
theorem wk_zipT {ds es : List D} {vs us : List V} {a b : Addr} (hs : SqT K H0 a vs) (rs : RelDs K ρ0 H0 ds vs) (hs2 : SqT K H0 b us) (rs2 : RelDs K ρ0 H0 es us) : Wk K cls (RZ.ItzT K a b) ρ0 H0 (nxZip ds es) := by
  refine ⟨fun i H ρ h d x k R e => ?_, fun i H ρ h x k R e => ?_⟩
  · have e' := Option.some.inj e
    obtain ⟨d1, h1, e'⟩ := bs e'
    obtain ⟨d2, h2, e'⟩ := Option.map_eq_some_iff.mp e'
    subst e'
    obtain ⟨v, h3, h4⟩ := (rs.mono x k).get h1
    obtain ⟨u, h5, h6⟩ := (rs2.mono x k).get h2
    refine ⟨⟨vs, us, v, u, k.sqt hs, k.sqt hs2, h3, h5⟩, fun y H' hy => ?_⟩
    obtain ⟨T, x', y', rfl, hT, rfl, q1, q2⟩ := hy
    have e1 := Option.some.inj (h3.symm.trans (q1 vs (k.sqt hs)))
    have e2 := Option.some.inj (h5.symm.trans (q2 us (k.sqt hs2)))
    subst e1 e2
    exact ⟨upd_grow hT, .tup (SqT.of upd_same) (.cons (h4.mono (Ext.refl _) (Keep.new hT)) (.cons (h6.mono (Ext.refl _) (Keep.new hT)) .nil))⟩
  · have e' := Option.some.inj e
    refine ⟨vs, us, k.sqt hs, k.sqt hs2, ?_⟩
    rw [← rs.length, ← rs2.length]
    cases h1 : ds[i]? with
    | none => exact .inl (get_none h1)
    | some d1 =>
      rw [h1] at e'
      exact .inr (get_none (by cases h2 : es[i]? with
        | none => rfl
        | some d2 => rw [h2] at e'; cases e'))
end

/-! ### locks -/
section
variable {K : PySem.W.Frag} {cls : Cl} {ρ ρ' : List Addr} {H H' : Hp}
def KeepT (H H' : Hp) : Prop := ∀ (a : Addr) (xs : List V), Rd H a (.tup xs) → Rd H' a (.tup xs)
mutual
theorem RelD.monoT (k : KeepT H H') : ∀ {d : D} {v : V}, RelD K ρ H d v → RelD K ρ H' d v
  | _, _, .non => .non
  | _, _, .bl b => .bl b
  | _, _, .int i => .int i
  | _, _, .str x => .str x
  | _, _, .tup h hs => .tup (by rcases h with h | h; exact .inl (k _ _ h); exact .inr h) (RelDs.monoT k hs)
  | _, _, .obj h => .obj h
theorem RelDs.monoT (k : KeepT H H') : ∀ {ds : List D} {vs : List V}, RelDs K ρ H ds vs → RelDs K ρ H' ds vs
  | _, _, .nil => .nil
  | _, _, .cons h t => .cons (RelD.monoT k h) (RelDs.monoT k t)
end
theorem RelKV.monoT {κ : Type} (k : KeepT H H') : ∀ {ds : List (κ × D)} {vs : List (κ × V)}, RelKV K ρ H ds vs → RelKV K ρ H' ds vs
  | _, _, .nil => .nil
  | _, _, .cons h t => .cons (h.monoT k) (t.monoT k)
theorem RelK.monoT (k : KeepT H H') : ∀ {ds : List (NestedKey × D)} {vs : List (NestedKey × Addr × V)}, RelK K ρ H ds vs → RelK K ρ H' ds vs
  | _, _, .nil => .nil
  | _, _, .cons h1 h2 h3 h4 t => .cons h1 h2 (h3.monoT k) (h4.monoT k) (t.monoT k)
theorem RelO.monoT (k : KeepT H H') {o : AO} {a : Addr} (ha : H' a = H a) (r : RelO K cls ρ H o a) : RelO K cls ρ H' o a := by
  cases o with
  | lst ds => obtain ⟨vs, q, r⟩ := r; exact ⟨vs, by rw [ha]; exact q, r.monoT k⟩
  | dic kvs => obtain ⟨vs, q, r⟩ := r; exact ⟨vs, by rw [ha]; exact q, r.monoT k⟩
  | frz kvs => obtain ⟨ob, vs, q, r⟩ := r; exact ⟨ob, vs, by rw [ha]; exact q, r.monoT k⟩
  | ins c fs => obtain ⟨C, dx, vs, c1, q, r⟩ := r; exact ⟨C, dx, vs, c1, by rw [ha]; exact q, r.monoT k⟩
  | kd kvs => obtain ⟨xs, q, r⟩ := r; exact ⟨xs, by rw [ha]; exact q, r.monoT k⟩
/-- a thing that is no tuple is written -/
theorem RelH.writeT {h : Ah} (R : RelH K cls ρ h H) {i : Nat} {p : Addr} {O : HO} {o : AO} (hi : ρ[i]? = some p) (nt : ∀ xs, ¬ Rd H p (.tup xs)) (r : RelO K cls ρ (upd H p O) o p) : RelH K cls ρ (h.set i o) (upd H p O) := by
  have kt : KeepT H (upd H p O) := fun a xs q => by
    have ne : a ≠ p := fun z => nt xs (z ▸ q)
    rcases q with q | ⟨ob, q⟩
    · exact .inl (by rw [upd_ne ne]; exact q)
    · exact .inr ⟨ob, by rw [upd_ne ne]; exact q⟩
  refine ⟨R.len, R.nd, fun j a e => ?_, fun j o' a e1 e2 => ?_⟩
  · by_cases ha : a = p
    · rw [ha]; exact ⟨_, upd_same⟩
    · rw [upd_ne ha]; exact R.full j a e
  · rw [Ah.get_set (by rw [← R.len]; exact (List.getElem?_eq_some_iff.mp hi).1)] at e1
    by_cases hj : j = i
    · subst hj
      rw [hi] at e2; cases e2
      rw [if_pos rfl] at e1; cases e1
      exact r
    · rw [if_neg hj] at e1
      have ne : a ≠ p := fun z => hj (R.nd j i a e2 (z ▸ hi))
      exact (R.at_ j o' a e1 e2).monoT kt (upd_ne ne)
/-- locked, run, opened -/
theorem keep_lock {a : Addr} {vs : List (Key × V)} {od : Obj} {H1 : Hp} (hv : H a = some (.dK vs)) (k : Keep (upd H a (.frz od (.dK vs))) H1) : Keep H (upd H1 a (.dK vs)) := by
  refine ⟨fun b xs q => ?_, fun b o u q => ?_⟩
  · have ne : b ≠ a := fun z => by
      subst z
      rcases q with q | ⟨ob, q⟩ <;> rw [hv] at q <;> cases q
    have q1 : Rd (upd H a (.frz od (.dK vs))) b (.tup xs) := by
      rcases q with q | ⟨ob, q⟩
      · exact .inl (by rw [upd_ne ne]; exact q)
      · exact .inr ⟨ob, by rw [upd_ne ne]; exact q⟩
    rcases k.tup b xs q1 with q | ⟨ob, q⟩
    · exact .inl (by rw [upd_ne ne]; exact q)
    · exact .inr ⟨ob, by rw [upd_ne ne]; exact q⟩
  · have ne : b ≠ a := fun z => by
      subst z
      rw [hv] at q; cases q
    have q1 := k.frz b o u (by rw [upd_ne ne]; exact q)
    rw [upd_ne ne]; exact q1
theorem lock_in {h h1 : Ah} {j : Nat} (R : RelH K cls ρ h H) (e : lockH j h = some h1) : ∃ a vs, ρ[j]? = some a ∧ H a = some (.dK vs) ∧ ∀ od, RelH K cls ρ h1 (upd H a (.frz od (.dK vs))) := by
  unfold lockH at e
  split at e
  · rename_i kvs hd
    cases e
    obtain ⟨a, ha, vs, hv, rv⟩ := R.adr hd
    exact ⟨a, vs, ha, hv, fun od => R.write ha hv trivial ⟨od, vs, upd_same, rv.mono (Ext.refl _) (Keep.write hv trivial)⟩⟩
  · cases e
theorem lock_out {h h1 : Ah} {j : Nat} {a : Addr} {od : Obj} {vs : List (Key × V)} (R : RelH K cls ρ h H) (ha : ρ[j]? = some a) (hv : H a = some (.frz od (.dK vs))) (e : openH j h = some h1) : RelH K cls ρ h1 (upd H a (.dK vs)) := by
  unfold openH at e
  split at e
  · rename_i kvs hd
    cases e
    obtain ⟨ob, ws, hw, rv⟩ := R.at_ _ _ _ hd ha
    rw [hv] at hw
    cases hw
    have nt : ∀ xs, ¬ Rd H a (.tup xs) := fun xs q => by
      rcases q with q | ⟨ob, q⟩ <;> rw [hv] at q <;> cases q
    refine R.writeT ha nt ⟨vs, upd_same, rv.monoT fun b xs q => ?_⟩
    have ne : b ≠ a := fun z => nt xs (z ▸ q)
    rcases q with q | ⟨ob, q⟩
    · exact .inl (by rw [upd_ne ne]; exact q)
    · exact .inr ⟨ob, by rw [upd_ne ne]; exact q⟩
  · cases e
/-- what stands behind the opening -/
theorem open_rel {a : Addr} {od : Obj} {vs : List (Key × V)} (hv : H a = some (.frz od (.dK vs))) : KeepT H (upd H a (.dK vs)) := fun b xs q => by
  have ne : b ≠ a := fun z => by
    subst z
    rcases q with q | ⟨ob, q⟩ <;> rw [hv] at q <;> cases q
  rcases q with q | ⟨ob, q⟩
  · exact .inl (by rw [upd_ne ne]; exact q)
  · exact .inr ⟨ob, by rw [upd_ne ne]; exact q⟩
theorem RelS.monoT {sa : AEnv} {σ : L2.St} (k : KeepT H H') (r : RelS K ρ H sa σ) : RelS K ρ H' sa σ := ⟨r.1, fun i d q => let ⟨v, h1, h2⟩ := r.2 i d q; ⟨v, h1, h2.monoT k⟩⟩
end
section
variable {X : Cx} {cls : Cl} {e : Expr} {fe : E} {st : Stmt} {fs : S}
theorem xLock (i : Nat) (he : PE X e (semE X.K cls fe)) : PE X e (semE X.K cls (eLock i fe)) := by
  refine pe_of (pe_lock he) fun σ H Q ⟨ρ, sa, h, d, h', R, S, ev, k⟩ => ?_
  obtain ⟨j, e0, ev⟩ := bs ev
  obtain ⟨h1, e1, ev⟩ := bs ev
  obtain ⟨⟨x, h2⟩, e2, ev⟩ := bs ev
  obtain ⟨h3, e3, ev⟩ := bs ev
  cases ev
  obtain ⟨a, vs, ha, hv, Rl⟩ := lock_in R e1
  refine ⟨a, .dK vs, hv, trivial, fun od => ⟨ρ, sa, h1, x, h2, Rl od, S.mono (Ext.refl _) (Keep.write hv trivial), e2, fun ρ1 v H1 x1 k1 R1 r1 => ?_⟩⟩
  have hv1 := k1.frz _ _ _ (show upd H a (.frz od (.dK vs)) a = some (.frz od (.dK vs)) from upd_same)
  exact ⟨hv1, k ρ1 v _ x1 (keep_lock hv k1) (lock_out R1 (x1 _ _ ha) hv1 e3) (r1.monoT (open_rel hv1))⟩
theorem xsLock (i : Nat) (he : PS X st (semS X.K cls fs)) : PS X st (semS X.K cls (sLock i fs)) := by
  refine ps_of (ps_lock he) fun Dn σ H ⟨ρ, sa, h, o, sa', h', R, S, ev, k⟩ => ?_
  obtain ⟨j, e0, ev⟩ := bs ev
  obtain ⟨h1, e1, ev⟩ := bs ev
  obtain ⟨⟨o1, sb, h2⟩, e2, ev⟩ := bs ev
  obtain ⟨h3, e3, ev⟩ := bs ev
  cases ev
  obtain ⟨a, vs, ha, hv, Rl⟩ := lock_in R e1
  refine ⟨a, .dK vs, hv, trivial, fun od => ⟨ρ, sa, h1, _, _, h2, Rl od, S.mono (Ext.refl _) (Keep.write hv trivial), e2, fun ρ1 H1 x1 k1 R1 => ?_⟩⟩
  have hv1 := k1.frz _ _ _ (show upd H a (.frz od (.dK vs)) a = some (.frz od (.dK vs)) from upd_same)
  have q := k ρ1 _ x1 (keep_lock hv k1) (lock_out R1 (x1 _ _ ha) hv1 e3)
  cases o1 with
  | nx => exact fun σ1 S1 => ⟨hv1, q σ1 (S1.monoT (open_rel hv1))⟩
  | bk => exact fun σ1 S1 => ⟨hv1, q σ1 (S1.monoT (open_rel hv1))⟩
  | ct => exact fun σ1 S1 => ⟨hv1, q σ1 (S1.monoT (open_rel hv1))⟩
  | rt d => exact fun v r => ⟨hv1, q v (r.monoT (open_rel hv1))⟩
end

/-! ### rules -/
section
variable {X : Cx} {cls : Cl} {tg e e2 : Expr} {fe : E} {fa : As} {pos p : Pos}
theorem pi_of {tg e : Expr} {t t' : TI} (h : PI X tg e t) (i : ∀ σ H R, t' σ H R → t σ H R) : PI X tg e t' := ⟨fun pins s σ H R I q => h.run pins s σ H R I (i σ H R q)⟩
theorem xiNone : PI X tg e (semI X.K cls fun _ _ => none) := ⟨fun _ _ _ _ _ _ h => by obtain ⟨_, _, _, _, _, _, _, ev, _⟩ := h; cases ev⟩
theorem xiSeq (he : PE X e (semE X.K cls fe)) : PI X tg e (semI X.K cls (iSeq fe)) := by
  refine ⟨fun pins s σ H R I q => ?_⟩
  obtain ⟨ρ, sa, h, nx, h', RH, S, ev, kk⟩ := q
  obtain ⟨⟨x, h1⟩, e1, ev⟩ := bs ev
  simp only at ev
  split at ev
  · cases ev
    refine (pi_tup he).run pins s σ H R I ⟨ρ, sa, h, _, _, RH, S, e1, fun ρ1 v H1 x1 k1 R1 r1 => ?_⟩
    cases r1 with
    | @tup ds vs a hs rs => exact ⟨a, rfl, ⟨vs, hs⟩, kk ρ1 _ H1 x1 k1 R1 (wk_tup hs rs)⟩
  · cases ev
    refine (pi_str he).run pins s σ H R I ⟨ρ, sa, h, _, _, RH, S, e1, fun ρ1 v H1 x1 k1 R1 r1 => ?_⟩
    cases r1
    exact ⟨_, rfl, kk ρ1 _ H1 x1 k1 R1 wk_str⟩
  · split at ev
    · rename_i j ds hd
      cases ev
      refine (pi_list he).run pins s σ H R I ⟨ρ, sa, h, _, _, RH, S, e1, fun ρ1 v H1 x1 k1 R1 r1 => ?_⟩
      cases r1 with
      | @obj _ a hj =>
        obtain ⟨vs, hv, rv⟩ := R1.at_ _ _ _ hd hj
        exact ⟨a, rfl, ⟨vs, SqL.of hv⟩, kk ρ1 _ H1 x1 k1 R1 (wk_list hj)⟩
    · rename_i j kvs hd
      cases ev
      refine (pi_keys he).run pins s σ H R I ⟨ρ, sa, h, _, _, RH, S, e1, fun ρ1 v H1 x1 k1 R1 r1 => ?_⟩
      cases r1 with
      | @obj _ a hj =>
        obtain ⟨ob, vs, hv, rv⟩ := R1.at_ _ _ _ hd hj
        exact ⟨a, ob, rfl, .inl ⟨vs, hv, kk ρ1 _ H1 x1 k1 R1 (wk_keys hj hv)⟩⟩
    · cases ev
  · cases ev
theorem small62_ok {j : Int} (h : small62 j = true) : -(2 ^ 62) ≤ j ∧ j < 2 ^ 62 := by
  simp only [small62, Bool.and_eq_true, decide_eq_true_eq] at h
  exact h
theorem xiRng1 (hm : X.mg "range" = none) (ha : PA X [e] (semA X.K cls fa)) (hg : Gl X "range" := by rfl) (hs : starEach [e] X.env = [(false, eval e X.env)] := by rfl) : PI X tg (.Call (.Name "range" p) [e] [] pos) (semI X.K cls (iRng1 fa)) := by
  refine pi_of (pi_range1 hg hm ha hs) fun σ H R ⟨ρ, sa, h, nx, h', RH, S, ev, kk⟩ => ?_
  obtain ⟨⟨ds, h1⟩, e1, ev⟩ := bs ev
  refine ⟨ρ, sa, h, ds, h1, RH, S, e1, fun ρ1 vs H1 x1 k1 R1 r1 => ?_⟩
  simp only at ev
  split at ev
  · rename_i j
    cases hj : small62 j with
    | false => rw [hj] at ev; cases ev
    | true =>
      rw [hj] at ev
      cases ev
      cases r1 with
      | cons r rr =>
        cases rr
        cases r
        exact ⟨j, rfl, (small62_ok hj).1, (small62_ok hj).2, kk ρ1 _ H1 x1 k1 R1 wk_rng⟩
  · cases ev
theorem xiRng2 (hm : X.mg "range" = none) (ha : PA X [e, e2] (semA X.K cls fa)) (hg : Gl X "range" := by rfl) (hs : starEach [e, e2] X.env = [(false, eval e X.env), (false, eval e2 X.env)] := by rfl) (hs2 : starEach [e2] X.env = [(false, eval e2 X.env)] := by rfl) :
    PI X tg (.Call (.Name "range" p) [e, e2] [] pos) (semI X.K cls (iRng2 fa)) := by
  refine pi_of (pi_range2 hg hm ha hs hs2) fun σ H R ⟨ρ, sa, h, nx, h', RH, S, ev, kk⟩ => ?_
  obtain ⟨⟨ds, h1⟩, e1, ev⟩ := bs ev
  refine ⟨ρ, sa, h, ds, h1, RH, S, e1, fun ρ1 vs H1 x1 k1 R1 r1 => ?_⟩
  simp only at ev
  split at ev
  · rename_i i j
    cases hj : (small62 i && small62 j) with
    | false => rw [hj] at ev; cases ev
    | true =>
      rw [hj] at ev
      rw [Bool.and_eq_true] at hj
      cases ev
      cases r1 with
      | cons r rr =>
        cases rr with
        | cons r2 rr =>
          cases rr
          cases r
          cases r2
          exact ⟨i, j, rfl, ⟨(small62_ok hj.1).1, (small62_ok hj.1).2, (small62_ok hj.2).1, (small62_ok hj.2).2⟩, kk ρ1 _ H1 x1 k1 R1 wk_rng⟩
  · cases ev
theorem xiRev (hm : X.mg "reversed" = none) (he : PE X e (semE X.K cls fe)) (hg : Gl X "reversed" := by rfl) (hs : starEach [e] X.env = (false, eval e X.env) :: starEach [] X.env := by rfl) : PI X tg (.Call (.Name "reversed" p) [e] [] pos) (semI X.K cls (iRevD fe)) := by
  refine pi_of (RT.pi_revA hg hm he hs) fun σ H R ⟨ρ, sa, h, nx, h', RH, S, ev, kk⟩ => ?_
  obtain ⟨⟨x, h1⟩, e1, ev⟩ := bs ev
  refine ⟨ρ, sa, h, x, h1, RH, S, e1, fun ρ1 v H1 x1 k1 R1 r1 => ?_⟩
  simp only at ev
  split at ev
  · cases ev
    cases r1 with
    | @tup ds vs a hs rs => exact ⟨a, vs, rfl, .inr ⟨hs, kk ρ1 _ H1 x1 k1 R1 (wk_revT hs rs)⟩⟩
  · split at ev
    · rename_i j ds hd
      cases ev
      cases r1 with
      | @obj _ a hj =>
        obtain ⟨vs, hv, rv⟩ := R1.at_ _ _ _ hd hj
        refine ⟨a, vs, rfl, .inl ⟨SqL.of hv, kk ρ1 _ H1 x1 k1 R1 ?_⟩⟩
        rw [← rv.length]
        exact wk_revL hj
    · cases ev
  · cases ev
theorem xiZip {elts : List Expr} {n : Nat} {tpos : Pos} (hm : X.mg "zip" = none) (ha : PA X [e, e2] (semA X.K cls fa)) (hg : Gl X "zip" := by rfl) (hs : starEach [e, e2] X.env = (false, eval e X.env) :: starEach [e2] X.env := by rfl)
    (hpl : (backTo pos (starEach [e2] X.env)).any (·.1) = false := by rfl) : PI X (.Tuple elts n tpos) (.Call (.Name "zip" p) [e, e2] [] pos) (semI X.K cls (iZipT fa)) := by
  refine pi_of (RZ.pi_zipA hg hm ha hs hpl) fun σ H R ⟨ρ, sa, h, nx, h', RH, S, ev, kk⟩ => ?_
  obtain ⟨⟨ds, h1⟩, e1, ev⟩ := bs ev
  refine ⟨ρ, sa, h, ds, h1, RH, S, e1, fun ρ1 vs H1 x1 k1 R1 r1 => ?_⟩
  simp only at ev
  split at ev
  · cases ev
    cases r1 with
    | cons r rr =>
      cases rr with
      | cons r2 rr =>
        cases rr
        cases r with
        | @tup _ vs a hs rs =>
          cases r2 with
          | @tup _ us b hs2 rs2 => exact ⟨a, b, vs, us, rfl, .inr ⟨hs, hs2, kk ρ1 _ H1 x1 k1 R1 (wk_zipT hs rs hs2 rs2)⟩⟩
  · cases ev
theorem xiVals {cpos apos : Pos} (he : PE X e (semE X.K cls fe)) (hbase : attributeBase e "values" X.env (eval e X.env) = eval e X.env := by rfl) (hline : (apos.endLine == cpos.line) = true := by rfl) : PI X tg (.Call (.Attribute e "values" apos) [] [] cpos) (semI X.K cls (iValsD fe)) := by
  refine pi_of (pi_values he hbase hline) fun σ H R ⟨ρ, sa, h, nx, h', RH, S, ev, kk⟩ => ?_
  obtain ⟨⟨x, h1⟩, e1, ev⟩ := bs ev
  refine ⟨ρ, sa, h, x, h1, RH, S, e1, fun ρ1 v H1 x1 k1 R1 r1 => ?_⟩
  simp only at ev
  split at ev
  · rename_i j
    split at ev
    · rename_i kvs hd
      cases ev
      cases r1 with
      | @obj _ a hj =>
        obtain ⟨ob, vs, hv, rv⟩ := R1.at_ _ _ _ hd hj
        exact ⟨a, ob, vs, rfl, hv, kk ρ1 _ H1 x1 k1 R1 (wk_vals hj hv)⟩
    · cases ev
  · cases ev
end
end Gw
set_option Elab.async false
set_option linter.all false
set_option maxRecDepth 100000
set_option maxHeartbeats 4000000
/-! Gw: comprehensions. -/
namespace Gw
open PySem PyProof.Rows L2

def wipeA (σ : AEnv) : List Nat → AEnv
  | [] => σ
  | v :: vs => (wipeA σ vs).set v none
def lcL : Nat → Nx → List Nat → Tg → T → E → Nat → Nat → AEnv → Ah → Option Ah
  | 0, _, _, _, _, _, _, _, _, _ => none
  | n + 1, nx, vs, t, c, e, j, i, sa, h => (nx i h).bind fun o => match o with
    | none => some h
    | some d => (t d (wipeA sa vs)).bind fun sb => (c sb h).bind fun p => bif p.1 then ((e sb p.2).bind fun q => match q.2.get j with
        | some (.lst acc) => if acc.length < 1000000 then lcL n nx vs t c e j (i + 1) sa (q.2.set j (.lst (acc ++ [q.1]))) else none
        | _ => none) else lcL n nx vs t c e j (i + 1) sa p.2
def eLc (n : Nat) (it : Itr) (vs : List Nat) (t : Tg) (c : T) (e : E) : E := fun sa h => (it sa h).bind fun p => (lcL n p.1 vs t c e p.2.n 0 sa (p.2.push (.lst []))).bind fun h2 => some (.obj p.2.n, h2)
def lc2L : Nat → Nx → List Nat → Tg → T → Itr → List Nat → Tg → T → E → Nat → Nat → AEnv → Ah → Option Ah
  | 0, _, _, _, _, _, _, _, _, _, _, _, _, _ => none
  | n + 1, nx, vs, t, c, it1, vs1, t1, c1, e, j, i, sa, h => (nx i h).bind fun o => match o with
    | none => some h
    | some d => (t d (wipeA sa vs)).bind fun sb => (c sb h).bind fun p => bif p.1 then ((it1 sb p.2).bind fun q => (lcL n q.1 vs1 t1 c1 e j 0 sb q.2).bind fun h3 =>
        lc2L n nx vs t c it1 vs1 t1 c1 e j (i + 1) sa h3) else lc2L n nx vs t c it1 vs1 t1 c1 e j (i + 1) sa p.2
def eLc2 (n : Nat) (it : Itr) (vs : List Nat) (t : Tg) (c : T) (it1 : Itr) (vs1 : List Nat) (t1 : Tg) (c1 : T) (e : E) : E := fun sa h => (it sa h).bind fun p => (lc2L n p.1 vs t c it1 vs1 t1 c1 e p.2.n 0 sa (p.2.push (.lst []))).bind fun h2 => some (.obj p.2.n, h2)
/-- d[k] = v -/
def putD (k : Key) (d : D) (l : List (Key × D)) : List (Key × D) := bif l.any (fun kv => beqK kv.1 k) then l.map (fun kv => bif beqK kv.1 k then (kv.1, d) else kv) else l ++ [(k, d)]
def dcL : Nat → Nx → List Nat → Tg → T → E → E → Nat → Nat → AEnv → Ah → Option Ah
  | 0, _, _, _, _, _, _, _, _, _, _ => none
  | n + 1, nx, vs, t, c, ek, e, j, i, sa, h => (nx i h).bind fun o => match o with
    | none => some h
    | some d => (t d (wipeA sa vs)).bind fun sb => (c sb h).bind fun p => bif p.1 then ((ek sb p.2).bind fun u => (e sb u.2).bind fun q => (toKey u.1).bind fun key => match q.2.get j with
        | some (.dic acc) => if acc.length < 1000000 then dcL n nx vs t c ek e j (i + 1) sa (q.2.set j (.dic (putD key q.1 acc))) else none
        | _ => none) else dcL n nx vs t c ek e j (i + 1) sa p.2
def eDc (n : Nat) (it : Itr) (vs : List Nat) (t : Tg) (c : T) (ek e : E) : E := fun sa h => (it sa h).bind fun p => (dcL n p.1 vs t c ek e p.2.n 0 sa (p.2.push (.dic []))).bind fun h2 => some (.obj p.2.n, h2)
def tYesT : T := fun _ h => some (true, h)

theorem wipe_get (σ : L2.St) : ∀ (vs : List Nat) (i : Nat), (wipe σ vs)[i]? = if i ∈ vs then (if i < σ.length then some none else none) else σ[i]?
  | [], i => by simp [wipe]
  | v :: vs, i => by
    unfold wipe
    by_cases h : v = i
    · subst h
      rw [if_pos (by simp)]
      by_cases hl : v < σ.length
      · rw [if_pos hl, List.getElem?_set_self (by rw [wipe_length]; exact hl)]
      · rw [if_neg hl, List.getElem?_eq_none (by rw [List.length_set, wipe_length]; omega)]
    · rw [List.getElem?_set_ne h, wipe_get σ vs i]
      by_cases hm : i ∈ vs
      · simp only [List.mem_cons, hm, or_true, if_true]
      · simp only [List.mem_cons, hm, or_false, Ne.symm h, if_false]
theorem wipe_wipe (σ : L2.St) (vs : List Nat) : wipe (wipe σ vs) vs = wipe σ vs := by
  apply List.ext_getElem?
  intro i
  rw [wipe_get, wipe_length, wipe_get]
  by_cases h : i ∈ vs
  · rw [if_pos h, if_pos h]
  · rw [if_neg h, if_neg h]
theorem wipe_set (σ : L2.St) (vs : List Nat) {i : Nat} (hi : i ∈ vs) (x : Option V) : wipe (σ.set i x) vs = wipe σ vs := by
  apply List.ext_getElem?
  intro j
  rw [wipe_get, wipe_get, List.length_set]
  by_cases h : j ∈ vs
  · rw [if_pos h, if_pos h]
  · rw [if_neg h, if_neg h, List.getElem?_set_ne (fun z => h (by subst z; exact hi))]
theorem wipeA_length (σ : AEnv) : ∀ vs : List Nat, (wipeA σ vs).length = σ.length
  | [] => rfl
  | v :: vs => by unfold wipeA; rw [List.length_set, wipeA_length σ vs]
theorem RelS.wipe {K : PySem.W.Frag} {ρ : List Addr} {H : Hp} {sa : AEnv} {σ : L2.St} (S : RelS K ρ H sa σ) : ∀ vs, RelS K ρ H (wipeA sa vs) (L2.wipe σ vs)
  | [] => S
  | v :: vs => by
    have q := RelS.wipe S vs
    unfold wipeA L2.wipe
    refine ⟨by simp [q.1], fun i d e => ?_⟩
    by_cases h : v = i
    · subst h
      by_cases hl : v < (wipeA sa vs).length
      · rw [List.getElem?_set_self hl] at e; cases e
      · rw [List.getElem?_eq_none (by simpa using hl)] at e; cases e
    · rw [List.getElem?_set_ne h] at e ⊢
      exact q.2 i d e

/-- a comprehension's target -/
structure CT (K : PySem.W.Frag) (tg : TG) (f : Tg) (vs : List Nat) : Prop where
  run : ∀ (v : V) (σ : L2.St) (H : Hp) (Q : L2.St → Hp → Prop) (ρ : List Addr) (sa sb : AEnv) (d : D), RelS K ρ H sa σ → RelD K ρ H d v → f d sa = some sb → (∀ σ', RelS K ρ H sb σ' → wipe σ' vs = wipe σ vs → Q σ' H) → tg v σ H Q
structure CTs (K : PySem.W.Frag) (tg : TGs) (f : Tgs) (vs : List Nat) : Prop where
  run : ∀ (us : List V) (σ : L2.St) (H : Hp) (Q : L2.St → Hp → Prop) (ρ : List Addr) (sa sb : AEnv) (ds : List D), RelS K ρ H sa σ → RelDs K ρ H ds us → f ds sa = some sb → (∀ σ', RelS K ρ H sb σ' → wipe σ' vs = wipe σ vs → Q σ' H) → tg us σ H Q
section
variable {K : PySem.W.Frag} {vs : List Nat}
theorem ctN {i : Nat} (hi : i ∈ vs := by decide) : CT K (gName i) (tgN i) vs := ⟨fun v σ H Q ρ sa sb d S r e k => by
  cases e
  exact k _ (S.set i r) (wipe_set σ vs hi _)⟩
theorem ctsNil : CTs K gNil tgsNil vs := ⟨fun us σ H Q ρ sa sb ds S r e k => by
  cases ds with
  | nil => cases e; cases r; exact ⟨rfl, k σ S rfl⟩
  | cons _ _ => cases e⟩
theorem ctsCons {g : TG} {gs : TGs} {t : Tg} {u : Tgs} (h1 : CT K g t vs) (h2 : CTs K gs u vs) : CTs K (gCons g gs) (tgsCons t u) vs := ⟨fun us σ H Q ρ sa sb ds S r e k => by
  cases ds with
  | nil => cases e
  | cons d ds =>
    cases r with
    | cons r1 rs =>
      obtain ⟨sc, e1, e2⟩ := bs e
      exact ⟨_, _, rfl, h1.run _ σ H _ ρ sa sc d S r1 e1 fun σ1 S1 w1 => h2.run _ σ1 H _ ρ sc sb ds S1 rs e2 fun σ2 S2 w2 => k σ2 S2 (w2.trans w1)⟩⟩
theorem ctT {n : Nat} {gs : TGs} {u : Tgs} (h : CTs K gs u vs) : CT K (gTup K n gs) (tgT n u) vs := ⟨fun v σ H Q ρ sa sb d S r e k => by
  cases d <;> simp only [tgT] at e <;> try (cases e)
  split at e
  · rename_i hl
    cases r with
    | tup hs rs => exact ⟨_, _, rfl, hs, by rw [← rs.length]; exact hl, h.run _ σ H _ ρ sa sb _ S rs e k⟩
  · cases e⟩
end
section
variable {X : Cx} {cls : Cl} {c : Expr} {tc : T}
theorem pts_of {ifs : List Expr} {t t' : TT} (h : PTs X ifs t) (i : ∀ σ H Q, t' σ H Q → t σ H Q) : PTs X ifs t' := ⟨fun pins s σ H Q I q => h.run pins s σ H Q I (i σ H Q q)⟩
theorem xtsNil : PTs X [] (semT X.K cls tYesT) := pts_of pts_nil fun σ H Q ⟨ρ, sa, h, b, h', R, S, ev, k⟩ => by cases ev; exact k ρ H (Ext.refl _) (Keep.refl _) R
theorem xtsOne (h : PT X c (semT X.K cls tc)) : PTs X [c] (semT X.K cls tc) := pts_one h

theorem new_at {ρ : List Addr} {p : Addr} {h : Ah} {K : PySem.W.Frag} {H : Hp} (R : RelH K cls ρ h H) : (ρ ++ [p])[h.n]? = some p := by
  rw [List.getElem?_append_right (by rw [R.len]; exact Nat.le_refl _), R.len]
  simp

variable {K : PySem.W.Frag}
/-- the turns of one clause: from the state behind the new list to h' -/
theorem lc_turns {g : TG} {t : Tg} {c : T} {e : E} {vs : List Nat} (ct : CT K g t vs) {nx : Nx} {J : It} {ρ1 : List Addr} {H1 : Hp} (wk : Wk K cls J ρ1 H1 nx) {ρ2 : List Addr} {H2 : Hp} (x12 : Ext ρ1 ρ2) (k12 : Keep H1 H2) {j : Nat} {D : Addr} (hD : ρ2[j]? = some D)
    {sa : AEnv} {σ : L2.St} (S : RelS K ρ2 H2 sa σ) {h' : Ah} {Qd : Hp → Prop} (hQ : ∀ ρ H, Ext ρ2 ρ → Keep H2 H → RelH K cls ρ h' H → Qd H) {n : Nat} {h2 : Ah} (R2 : RelH K cls ρ2 h2 H2) (ev : lcL n nx vs t c e j 0 sa h2 = some h') :
    ∃ W : Nat → Nat → Hp → Prop, (∃ m, W 0 m H2) ∧ ∀ i m H, W i m H →
      (J.stop i H ∧ Qd H) ∨ (J.go i H ∧ ∃ Nx : Hp → Prop, (∀ H', Nx H' → ∃ m', m' < m ∧ W (i + 1) m' H') ∧ ∀ x H', J.yld i H x H' → g x (wipe σ vs) H' fun σ2 H2 => wipe σ2 vs = wipe σ vs ∧ semT K cls c σ2 H2 fun b H3 =>
        if b = true then semE K cls e σ2 H3 fun y H4 => ∃ acc, H4 D = some (.lst acc) ∧ acc.length < sizeLine ∧ Nx (upd H4 D (.lst (acc ++ [y]))) else Nx H3) := by
  refine ⟨fun i m H => ∃ ρ h, Ext ρ2 ρ ∧ Keep H2 H ∧ RelH K cls ρ h H ∧ lcL m nx vs t c e j i sa h = some h', ⟨n, ρ2, h2, Ext.refl _, Keep.refl _, R2, ev⟩, ?_⟩
  rintro i m H ⟨ρ, h, x, kk, R, ev⟩
  cases m with
  | zero => cases ev
  | succ m =>
    unfold lcL at ev
    obtain ⟨od, e2, ev⟩ := bs ev
    cases od with
    | none => cases ev; exact .inl ⟨wk.stop i H ρ _ (x12.trans x) (k12.trans kk) R e2, hQ ρ H x kk R⟩
    | some d =>
      obtain ⟨go, yl⟩ := wk.go i H ρ h d (x12.trans x) (k12.trans kk) R e2
      obtain ⟨sb, e3, ev⟩ := bs ev
      obtain ⟨⟨b, h3⟩, e4, ev⟩ := bs ev
      refine .inr ⟨go, fun H => ∃ ρ h, Ext ρ2 ρ ∧ Keep H2 H ∧ RelH K cls ρ h H ∧ lcL m nx vs t c e j (i + 1) sa h = some h', fun H' q => ⟨m, Nat.lt_succ_self m, q⟩, fun y H' hy => ?_⟩
      obtain ⟨gr, rd⟩ := yl y H' hy
      have kg := grow_keep gr
      refine ct.run y _ H' _ ρ (wipeA sa vs) sb d (((S.mono x kk).mono (Ext.refl _) kg).wipe vs) rd e3 fun σ2 S2 w2 => ⟨w2.trans (wipe_wipe σ vs), ⟨ρ, sb, h, b, h3, R.grow gr, S2, e4, fun ρ3 H3 x3 k3 R3 => ?_⟩⟩
      cases b with
      | false =>
        rw [if_neg Bool.false_ne_true]
        exact ⟨ρ3, h3, x.trans x3, kk.trans (kg.trans k3), R3, ev⟩
      | true =>
        rw [if_pos rfl]
        obtain ⟨⟨d2, h4⟩, e5, ev⟩ := bs ev
        refine ⟨ρ3, sb, h3, d2, h4, R3, S2.mono x3 k3, e5, fun ρ4 v H4 x4 k4 R4 r4 => ?_⟩
        simp only at ev
        split at ev
        · rename_i acc hd
          split at ev
          · rename_i hl
            have hD4 := x4 _ _ (x3 _ _ (x _ _ hD))
            obtain ⟨vs', hv, rv⟩ := R4.at_ _ _ _ hd hD4
            have kw : Keep H4 (upd H4 D (.lst (vs' ++ [v]))) := Keep.write hv trivial
            refine ⟨vs', hv, szl (by rw [← rv.length]; exact hl), ρ4, _, x.trans (x3.trans x4), kk.trans (kg.trans (k3.trans (k4.trans kw))), R4.write (o := .lst (acc ++ [d2])) hD4 hv trivial ⟨_, upd_same, (rv.append (.cons r4 .nil)).mono (Ext.refl _) kw⟩, ev⟩
          · cases ev
        · cases ev
theorem semLc {wi : Itr} {g : TG} {t : Tg} {c : T} {e : E} {n : Nat} {vs : List Nat} (ct : CT K g t vs) : ∀ σ H Q, semE K cls (eLc n wi vs t c e) σ H Q → tLc (semI K cls wi) g (semT K cls c) (semE K cls e) vs σ H Q := by
  intro σ H Q ⟨ρ, sa, h, d, h', R, S, ev, k⟩
  obtain ⟨⟨nx, h1⟩, e1, ev⟩ := bs ev
  obtain ⟨h2, e2, ev⟩ := bs ev
  cases ev
  refine ⟨ρ, sa, h, nx, h1, R, S, e1, fun ρ1 J H1 x1 k1 R1 wk D hD => ?_⟩
  have kn : Keep H1 (upd H1 D (.lst [])) := Keep.new hD
  have R2 : RelH K cls (ρ1 ++ [D]) (h1.push (.lst [])) (upd H1 D (.lst [])) := R1.new hD ⟨[], upd_same, .nil⟩
  exact lc_turns ct wk (Ext.app _ _) kn (new_at R1) (S.mono (x1.trans (Ext.app _ _)) (k1.trans kn)) (fun ρ' H' x' k' R' => k ρ' _ H' (x1.trans ((Ext.app _ _).trans x')) (k1.trans (kn.trans k')) R' (.obj (x' _ _ (new_at R1)))) R2 e2
theorem semLc2 {wi wi1 : Itr} {g g1 : TG} {t t1 : Tg} {c c1 : T} {e : E} {n : Nat} {vs vs1 : List Nat} (ct : CT K g t vs) (ct1 : CT K g1 t1 vs1) :
    ∀ σ H Q, semE K cls (eLc2 n wi vs t c wi1 vs1 t1 c1 e) σ H Q → tLc2 (semI K cls wi) g (semT K cls c) (semI K cls wi1) g1 (semT K cls c1) (semE K cls e) vs vs1 σ H Q := by
  intro σ H Q ⟨ρ, sa, h, d, h', R, S, ev, k⟩
  obtain ⟨⟨nx, h1⟩, e1, ev⟩ := bs ev
  obtain ⟨h2, e2, ev⟩ := bs ev
  cases ev
  refine ⟨ρ, sa, h, nx, h1, R, S, e1, fun ρ1 J H1 x1 k1 R1 wk D hD => ?_⟩
  have kn : Keep H1 (upd H1 D (.lst [])) := Keep.new hD
  have R2 : RelH K cls (ρ1 ++ [D]) (h1.push (.lst [])) (upd H1 D (.lst [])) := R1.new hD ⟨[], upd_same, .nil⟩
  have hD2 := new_at (p := D) R1
  have S2 := S.mono (x1.trans (Ext.app ρ1 [D])) (k1.trans kn)
  refine ⟨fun i m H => ∃ ρ h, Ext (ρ1 ++ [D]) ρ ∧ Keep (upd H1 D (.lst [])) H ∧ RelH K cls ρ h H ∧ lc2L m nx vs t c wi1 vs1 t1 c1 e h1.n i sa h = some h', ⟨n, _, _, Ext.refl _, Keep.refl _, R2, e2⟩, ?_⟩
  rintro i m H ⟨ρ, h, x, kk, R, ev⟩
  cases m with
  | zero => cases ev
  | succ m =>
    unfold lc2L at ev
    obtain ⟨od, e2, ev⟩ := bs ev
    cases od with
    | none => cases ev; exact .inl ⟨wk.stop i H ρ _ ((Ext.app _ _).trans x) (kn.trans kk) R e2, k ρ _ H (x1.trans ((Ext.app _ _).trans x)) (k1.trans (kn.trans kk)) R (.obj (x _ _ hD2))⟩
    | some d =>
      obtain ⟨go, yl⟩ := wk.go i H ρ h d ((Ext.app _ _).trans x) (kn.trans kk) R e2
      obtain ⟨sb, e3, ev⟩ := bs ev
      obtain ⟨⟨b, h3⟩, e4, ev⟩ := bs ev
      refine .inr ⟨go, fun H => ∃ ρ h, Ext (ρ1 ++ [D]) ρ ∧ Keep (upd H1 D (.lst [])) H ∧ RelH K cls ρ h H ∧ lc2L m nx vs t c wi1 vs1 t1 c1 e h1.n (i + 1) sa h = some h', fun H' q => ⟨m, Nat.lt_succ_self m, q⟩, fun y H' hy => ?_⟩
      obtain ⟨gr, rd⟩ := yl y H' hy
      have kg := grow_keep gr
      refine ct.run y _ H' _ ρ (wipeA sa vs) sb d (((S2.mono x kk).mono (Ext.refl _) kg).wipe vs) rd e3 fun σ2 S2 w2 => ⟨w2.trans (wipe_wipe σ vs), ⟨ρ, sb, h, b, h3, R.grow gr, S2, e4, fun ρ3 H3 x3 k3 R3 => ?_⟩⟩
      cases b with
      | false =>
        rw [if_neg Bool.false_ne_true]
        exact ⟨ρ3, h3, x.trans x3, kk.trans (kg.trans k3), R3, ev⟩
      | true =>
        rw [if_pos rfl]
        obtain ⟨⟨nx1, h4⟩, e5, ev⟩ := bs ev
        obtain ⟨h5, e6, ev⟩ := bs ev
        refine ⟨ρ3, sb, h3, nx1, h4, R3, S2.mono x3 k3, e5, fun ρ4 J1 H4 x4 k4 R4 wk1 => ?_⟩
        exact lc_turns ct1 wk1 (Ext.refl _) (Keep.refl _) (x4 _ _ (x3 _ _ (x _ _ hD2))) (S2.mono (x3.trans x4) (k3.trans k4)) (fun ρ' H' x' k' R' => ⟨ρ', h5, x.trans (x3.trans (x4.trans x')), kk.trans (kg.trans (k3.trans (k4.trans k'))), R', ev⟩) R4 e6
theorem RelKV.append {κ : Type} {ρ : List Addr} {H : Hp} : ∀ {ds es : List (κ × D)} {vs us : List (κ × V)}, RelKV K ρ H ds vs → RelKV K ρ H es us → RelKV K ρ H (ds ++ es) (vs ++ us)
  | _, _, _, _, .nil, s => s
  | _, _, _, _, .cons r t, s => .cons r (t.append s)
theorem any_rel {ρ : List Addr} {H : Hp} (key : Key) {kvs : List (Key × D)} {vs : List (Key × V)} (r : RelKV K ρ H kvs vs) : (kvs.any fun kv => beqK kv.1 key) = vs.any fun kv => decide (kv.1 = key) := by
  induction r with
  | nil => rfl
  | cons r1 t ih => rw [List.any_cons, List.any_cons, ih, beqK_eq]
theorem map_rel {ρ : List Addr} {H : Hp} (key : Key) {d : D} {v : V} (rd : RelD K ρ H d v) {kvs : List (Key × D)} {vs : List (Key × V)} (r : RelKV K ρ H kvs vs) :
    RelKV K ρ H (kvs.map fun kv => bif beqK kv.1 key then (kv.1, d) else kv) (vs.map fun kv => if kv.1 = key then (kv.1, v) else kv) := by
  induction r with
  | nil => exact .nil
  | @cons j d' v' ds us r1 t ih =>
    rw [List.map_cons, List.map_cons, beqK_eq]
    by_cases h : j = key
    · rw [decide_eq_true h, if_pos h]
      exact .cons rd ih
    · rw [decide_eq_false h, if_neg h]
      exact .cons r1 ih
theorem putK_rel {ρ : List Addr} {H : Hp} (key : Key) {d : D} {v : V} (rd : RelD K ρ H d v) {kvs : List (Key × D)} {vs : List (Key × V)} (r : RelKV K ρ H kvs vs) : RelKV K ρ H (putD key d kvs) (putK vs key v) := by
  unfold putD putK
  rw [any_rel key r]
  cases h : vs.any fun kv => decide (kv.1 = key) with
  | true => exact map_rel key rd r
  | false =>
    rw [if_neg Bool.false_ne_true]
    exact r.append (.cons rd .nil)
theorem semDc {wi : Itr} {g : TG} {t : Tg} {c : T} {ek e : E} {n : Nat} {vs : List Nat} (ct : CT K g t vs) : ∀ σ H Q, semE K cls (eDc n wi vs t c ek e) σ H Q → tDc (semI K cls wi) g (semT K cls c) (semE K cls ek) (semE K cls e) vs σ H Q := by
  intro σ H Q ⟨ρ, sa, h, d, h', R, S, ev, k⟩
  obtain ⟨⟨nx, h1⟩, e1, ev⟩ := bs ev
  obtain ⟨h2, e2, ev⟩ := bs ev
  cases ev
  refine ⟨ρ, sa, h, nx, h1, R, S, e1, fun ρ1 J H1 x1 k1 R1 wk D hD => ?_⟩
  have kn : Keep H1 (upd H1 D (.dK [])) := Keep.new hD
  have R2 : RelH K cls (ρ1 ++ [D]) (h1.push (.dic [])) (upd H1 D (.dK [])) := R1.new hD ⟨[], upd_same, .nil⟩
  have hD2 := new_at (p := D) R1
  have S2 := S.mono (x1.trans (Ext.app ρ1 [D])) (k1.trans kn)
  refine ⟨fun i m H => ∃ ρ h, Ext (ρ1 ++ [D]) ρ ∧ Keep (upd H1 D (.dK [])) H ∧ RelH K cls ρ h H ∧ dcL m nx vs t c ek e h1.n i sa h = some h', ⟨n, _, _, Ext.refl _, Keep.refl _, R2, e2⟩, ?_⟩
  rintro i m H ⟨ρ, h, x, kk, R, ev⟩
  cases m with
  | zero => cases ev
  | succ m =>
    unfold dcL at ev
    obtain ⟨od, e2, ev⟩ := bs ev
    cases od with
    | none => cases ev; exact .inl ⟨wk.stop i H ρ _ ((Ext.app _ _).trans x) (kn.trans kk) R e2, k ρ _ H (x1.trans ((Ext.app _ _).trans x)) (k1.trans (kn.trans kk)) R (.obj (x _ _ hD2))⟩
    | some d =>
      obtain ⟨go, yl⟩ := wk.go i H ρ h d ((Ext.app _ _).trans x) (kn.trans kk) R e2
      obtain ⟨sb, e3, ev⟩ := bs ev
      obtain ⟨⟨b, h3⟩, e4, ev⟩ := bs ev
      refine .inr ⟨go, fun H => ∃ ρ h, Ext (ρ1 ++ [D]) ρ ∧ Keep (upd H1 D (.dK [])) H ∧ RelH K cls ρ h H ∧ dcL m nx vs t c ek e h1.n (i + 1) sa h = some h', fun H' q => ⟨m, Nat.lt_succ_self m, q⟩, fun y H' hy => ?_⟩
      obtain ⟨gr, rd⟩ := yl y H' hy
      have kg := grow_keep gr
      refine ct.run y _ H' _ ρ (wipeA sa vs) sb d (((S2.mono x kk).mono (Ext.refl _) kg).wipe vs) rd e3 fun σ2 S2 w2 => ⟨w2.trans (wipe_wipe σ vs), ⟨ρ, sb, h, b, h3, R.grow gr, S2, e4, fun ρ3 H3 x3 k3 R3 => ?_⟩⟩
      cases b with
      | false =>
        rw [if_neg Bool.false_ne_true]
        exact ⟨ρ3, h3, x.trans x3, kk.trans (kg.trans k3), R3, ev⟩
      | true =>
        rw [if_pos rfl]
        obtain ⟨⟨d1, h4⟩, e5, ev⟩ := bs ev
        obtain ⟨⟨d2, h5⟩, e6, ev⟩ := bs ev
        obtain ⟨key, e7, ev⟩ := bs ev
        refine ⟨ρ3, sb, h3, d1, h4, R3, S2.mono x3 k3, e5, fun ρ4 v1 H4 x4 k4 R4 r4 => ⟨ρ4, sb, h4, d2, h5, R4, S2.mono (x3.trans x4) (k3.trans k4), e6, fun ρ5 v2 H5 x5 k5 R5 r5 => ?_⟩⟩
        simp only at ev
        split at ev
        · rename_i acc hd
          split at ev
          · rename_i hl
            have hD5 := x5 _ _ (x4 _ _ (x3 _ _ (x _ _ hD2)))
            obtain ⟨vs', hv, rv⟩ := R5.at_ _ _ _ hd hD5
            have kw : Keep H5 (upd H5 D (.dK (putK vs' key v2))) := Keep.write hv trivial
            refine ⟨vs', key, toKey_kV r4 e7, hv, szl (by rw [← rv.length]; exact hl), ρ5, _, x.trans (x3.trans (x4.trans x5)), kk.trans (kg.trans (k3.trans (k4.trans (k5.trans kw)))), R5.write (o := .dic (putD key d2 acc)) hD5 hv trivial ⟨_, upd_same, (putK_rel key r5 rv).mono (Ext.refl _) kw⟩, ev⟩
          · cases ev
        · cases ev
end
section
variable {X : Cx} {cls : Cl} {elt tg iter tg1 iter1 kx : Expr} {ifs ifs1 : List Expr} {scope : Scope} {own : List (Str × Nat)} {pos spos : Pos} {wi wi1 : Itr} {g g1 : TG} {t t1 : Tg} {c c1 : T} {e ek : E}
theorem xLc (n : Nat) (hc : X.calm = true) (hN : X.N.Nodup) (hi : PI X tg iter (semI X.K cls wi)) (ok : BlkOk X.N X.env.scope scope own) (ct : CT X.K g t (own.map (·.2)))
    (hg : ∀ (s : Shared) (H : Hp) (C : Addr) (cl : List (Str × Addr)) (fp : List Addr), PG (X.blk s H scope (compEnvC scope cl C X.env) fp) tg g) (ht : ∀ (s : Shared) (H : Hp) (C : Addr) (cl : List (Str × Addr)) (fp : List Addr), PTs (X.blk s H scope (compEnvC scope cl C X.env) fp) ifs (semT X.K cls c))
    (he : ∀ (s : Shared) (H : Hp) (C : Addr) (cl : List (Str × Addr)) (fp : List Addr), PE (X.blk s H scope (compEnvC scope cl C X.env) fp) elt (semE X.K cls e)) (hs : ∀ x, foldedSetIterable iter X.env x = pure x := by intro _; rfl) :
    PE X (.ListComp elt [⟨tg, iter, ifs, 0⟩] scope pos) (semE X.K cls (eLc n wi (own.map (·.2)) t c e)) := pe_of (pe_lc hc hN hi ok hg ht he hs) (semLc ct)
theorem xLc2 (n : Nat) {vs1 : List Nat} (hc : X.calm = true) (hN : X.N.Nodup) (hi : PI X tg iter (semI X.K cls wi)) (ok : BlkOk X.N X.env.scope scope own) (hv : ∀ i ∈ vs1, i ∈ own.map (·.2)) (ct : CT X.K g t (own.map (·.2))) (ct1 : CT X.K g1 t1 vs1)
    (hg : ∀ (s : Shared) (H : Hp) (C : Addr) (cl : List (Str × Addr)) (fp : List Addr), PG (X.blk s H scope (compEnvC scope cl C X.env) fp) tg g) (ht : ∀ (s : Shared) (H : Hp) (C : Addr) (cl : List (Str × Addr)) (fp : List Addr), PTs (X.blk s H scope (compEnvC scope cl C X.env) fp) ifs (semT X.K cls c))
    (hi1 : ∀ (s : Shared) (H : Hp) (C : Addr) (cl : List (Str × Addr)) (fp : List Addr), PI (X.blk s H scope (compEnvC scope cl C X.env) fp) tg1 iter1 (semI X.K cls wi1))
    (hg1 : ∀ (s : Shared) (H : Hp) (C : Addr) (cl : List (Str × Addr)) (fp : List Addr), PG (X.blk s H scope (compEnvC scope cl C X.env) fp) tg1 g1) (ht1 : ∀ (s : Shared) (H : Hp) (C : Addr) (cl : List (Str × Addr)) (fp : List Addr), PTs (X.blk s H scope (compEnvC scope cl C X.env) fp) ifs1 (semT X.K cls c1))
    (he : ∀ (s : Shared) (H : Hp) (C : Addr) (cl : List (Str × Addr)) (fp : List Addr), PE (X.blk s H scope (compEnvC scope cl C X.env) fp) elt (semE X.K cls e)) (hs : ∀ x, foldedSetIterable iter X.env x = pure x := by intro _; rfl) (hs1 : ∀ env x, foldedSetIterable iter1 env x = pure x := by intro _ _; rfl) :
    PE X (.ListComp elt [⟨tg, iter, ifs, 0⟩, ⟨tg1, iter1, ifs1, 0⟩] scope pos) (semE X.K cls (eLc2 n wi (own.map (·.2)) t c wi1 vs1 t1 c1 e)) := pe_of (pe_lc2 hc hN hi ok hv hg ht hi1 hg1 ht1 he hs hs1) (semLc2 ct ct1)
theorem xDc (n : Nat) (hc : X.calm = true) (hN : X.N.Nodup) (hi : PI X tg iter (semI X.K cls wi)) (ok : BlkOk X.N X.env.scope scope own) (ct : CT X.K g t (own.map (·.2)))
    (hg : ∀ (s : Shared) (H : Hp) (C : Addr) (cl : List (Str × Addr)) (fp : List Addr), PG (X.blk s H scope (compEnvC scope cl C X.env) fp) tg g) (ht : ∀ (s : Shared) (H : Hp) (C : Addr) (cl : List (Str × Addr)) (fp : List Addr), PTs (X.blk s H scope (compEnvC scope cl C X.env) fp) ifs (semT X.K cls c))
    (hk : ∀ (s : Shared) (H : Hp) (C : Addr) (cl : List (Str × Addr)) (fp : List Addr), PE (X.blk s H scope (compEnvC scope cl C X.env) fp) kx (semE X.K cls ek))
    (he : ∀ (s : Shared) (H : Hp) (C : Addr) (cl : List (Str × Addr)) (fp : List Addr), PE (X.blk s H scope (compEnvC scope cl C X.env) fp) elt (semE X.K cls e)) (hs : ∀ x, foldedSetIterable iter X.env x = pure x := by intro _; rfl) :
    PE X (.DictComp kx elt [⟨tg, iter, ifs, 0⟩] scope pos) (semE X.K cls (eDc n wi (own.map (·.2)) t c ek e)) := pe_of (pe_dc hc hN hi ok hg ht hk he hs) (semDc ct)
theorem xsSetLc (n : Nat) {i : Nat} {y : Str} {py : Pos} (hc : X.calm = true) (hN : X.N.Nodup) (hi : PI X tg iter (semI X.K cls wi)) (ok : BlkOk X.N X.env.scope scope own) (ct : CT X.K g t (own.map (·.2)))
    (hg : ∀ (s : Shared) (H : Hp) (C : Addr) (cl : List (Str × Addr)) (fp : List Addr), PG (X.blk s H scope (compEnvC scope cl C X.env) fp) tg g) (ht : ∀ (s : Shared) (H : Hp) (C : Addr) (cl : List (Str × Addr)) (fp : List Addr), PTs (X.blk s H scope (compEnvC scope cl C X.env) fp) ifs (semT X.K cls c))
    (he : ∀ (s : Shared) (H : Hp) (C : Addr) (cl : List (Str × Addr)) (fp : List Addr), PE (X.blk s H scope (compEnvC scope cl C X.env) fp) elt (semE X.K cls e)) (hs : ∀ x, foldedSetIterable iter X.env x = pure x := by intro _; rfl)
    (hy : X.N[i]? = some y := by rfl) (hyl : X.env.scope.names.lookup y = some .local := by rfl) (hsw : swapsWith (.ListComp elt [⟨tg, iter, ifs, 0⟩] scope pos) (some (.Name y py)) spos.line X.env = pure true := by rfl) :
    PS X (.Assign [.Name y py] (.ListComp elt [⟨tg, iter, ifs, 0⟩] scope pos) spos) (semS X.K cls (sAsg (eLc n wi (own.map (·.2)) t c e) (tgN i))) := by
  refine ps_of (ps_setLc hc hN hy hyl hsw hi ok hg ht he hs) fun Dn σ H ⟨ρ, sa, h, o, sa', h', R, S, ev, k⟩ => ?_
  obtain ⟨⟨x, h1⟩, e1, ev⟩ := bs ev
  obtain ⟨sb, e2, ev⟩ := bs ev
  cases ev
  cases e2
  exact semLc ct σ H _ ⟨ρ, sa, h, x, _, R, S, e1, fun ρ1 v H1 x1 k1 R1 r1 => k ρ1 H1 x1 k1 R1 _ ((S.mono x1 k1).set i r1)⟩
end
end Gw
set_option Elab.async false
set_option linter.all false
set_option maxRecDepth 100000
set_option maxHeartbeats 4000000
/-! Gw: stores. -/
namespace Gw
open PySem PyProof.Rows L2

/-- o[k] = v, o a dict or a list -/
def putAtD (o k v : D) (h : Ah) : Option Ah := match o with
  | .obj j => match h.get j with
    | some (.dic kvs) => (toKey k).bind fun key => if kvs.length < 1000000 then some (h.set j (.dic (putD key v kvs))) else none
    | some (.lst ds) => match k with
      | .int i => (ixN ds.length i).map fun n => h.set j (.lst (ds.set n v))
      | _ => none
    | _ => none
  | _ => none
def sPut (o k v : E) : S := fun sa h => (v sa h).bind fun p => (o sa p.2).bind fun q => (k sa q.2).bind fun r => (putAtD q.1 r.1 p.1 r.2).map fun h' => (.nx, sa, h')
def putFD (f : Str) (d : D) : List (Str × D) → List (Str × D)
  | [] => [(f, d)]
  | (g, x) :: r => bif beqS g f then (g, d) :: r else (g, x) :: putFD f d r
def setFld (f : Str) (o v : D) (h : Ah) : Option Ah := match o with
  | .obj j => match h.get j with
    | some (.ins c fs) => if fs.length < 1000 then some (h.set j (.ins c (putFD f v fs))) else none
    | _ => none
  | _ => none
def sFldSt (f : Str) (o v : E) : S := fun sa h => (v sa h).bind fun p => (o sa p.2).bind fun q => (setFld f q.1 p.1 q.2).map fun h' => (.nx, sa, h')
/-- i += e of ints -/
def sAugI (i : Nat) (e : E) : S := fun sa h => match sa[i]? with
  | some (some (.int a)) => (e sa h).bind fun p => match p.1 with
    | .int b => some (.nx, sa.set i (some (.int (a + b))), p.2)
    | _ => none
  | _ => none
def sPar2 (i j : Nat) (as : As) : S := fun sa h => (as sa h).bind fun p => match p.1 with
  | [u, v] => some (.nx, (sa.set i (some u)).set j (some v), p.2)
  | _ => none
def sPar3 (i j l : Nat) (as : As) : S := fun sa h => (as sa h).bind fun p => match p.1 with
  | [u, v, w] => some (.nx, ((sa.set i (some u)).set j (some v)).set l (some w), p.2)
  | _ => none

section
variable {X : Cx} {cls : Cl} {o k v e a b c : Expr} {fo fk fv fe : E} {fa : As} {pos pos' : Pos}
theorem xsPut (hu : X.A.units + 1 < cLine) (ho : PE X o (semE X.K cls fo)) (hk : PE X k (semE X.K cls fk)) (hv : PE X v (semE X.K cls fv)) (hs : swapsWith v (some (.Subscript o k pos')) pos.line X.env = pure false := by rfl)
    (hs2 : swapsWithSole [.Subscript o k pos'] v pos.line X.env = pure false := by rfl) (hw : swappedStores [.Subscript o k pos'] v X.env = pure none := by rfl) (h1 : (assignEach [.Subscript o k pos'] X.env).map (·.2) = [assign (.Subscript o k pos') X.env] := by rfl)
    (ha : ∀ v, assign (.Subscript o k pos') X.env v = (do
      let ov ← holding [v] (eval o X.env)
      let iv ← holding [v, ov] (eval k X.env)
      standAt pos'
      holding [v, ov, iv] (setItem ov iv v)
      release [v, ov, iv] []) := by intro _; rfl) : PS X (.Assign [.Subscript o k pos'] v pos) (semS X.K cls (sPut fo fk fv)) := by
  refine ⟨fun pins s σ H Dn I q => ?_⟩
  obtain ⟨ρ, sa, h, out, sa', h', R, S, ev, kk⟩ := q
  obtain ⟨⟨d1, h1'⟩, e1, ev⟩ := bs ev
  obtain ⟨⟨d2, h2⟩, e2, ev⟩ := bs ev
  obtain ⟨⟨d3, h3⟩, e3, ev⟩ := bs ev
  obtain ⟨h4, e4, e5⟩ := Option.map_eq_some_iff.mp ev
  cases e5
  unfold putAtD at e4
  split at e4
  · rename_i j hobj
    split at e4
    · rename_i kvs hd
      obtain ⟨key, ek, e4⟩ := bs e4
      split at e4
      · rename_i hl
        cases e4
        refine (ps_dput hu ho hk hv hs).run pins s σ H Dn I ⟨ρ, sa, h, d1, h1', R, S, e1, fun ρ1 v1 H1 x1 k1 R1 r1 => ⟨ρ1, sa, h1', d2, h2, R1, S.mono x1 k1, e2, fun ρ2 v2 H2 x2 k2 R2 r2 =>
          ⟨ρ2, sa, h2, d3, h3, R2, S.mono (x1.trans x2) (k1.trans k2), e3, fun ρ3 v3 H3 x3 k3 R3 r3 => ?_⟩⟩⟩
        have hobj' : d2 = .obj j := hobj
        subst hobj'
        cases r2 with
        | @obj _ p hj =>
          have hj3 := x3 _ _ hj
          obtain ⟨vs, hv, rv⟩ := R3.at_ _ _ _ hd hj3
          have kw : Keep H3 (upd H3 p (.dK (putK vs key v1))) := Keep.write hv trivial
          refine ⟨p, _, rfl, .inl ⟨vs, key, hv, toKey_kV r3 ek, szl (by rw [← rv.length]; exact hl), rfl⟩, ?_⟩
          have R4 := R3.write (o := .dic (putD key d1 kvs)) hj3 hv trivial ⟨_, upd_same, (putK_rel key (r1.mono (x2.trans x3) (k2.trans k3)) rv).mono (Ext.refl _) kw⟩
          exact kk ρ3 _ (x1.trans (x2.trans x3)) (k1.trans (k2.trans (k3.trans kw))) R4 σ (S.mono (x1.trans (x2.trans x3)) (k1.trans (k2.trans (k3.trans kw))))
      · cases e4
    · rename_i ds hd
      split at e4
      · rename_i i hint
        obtain ⟨n, en, e4⟩ := Option.map_eq_some_iff.mp e4
        subst e4
        refine (ps_asg hv (pg_sub ho hk set_list ha) hs2 hw h1).run pins s σ H Dn I ⟨ρ, sa, h, d1, h1', R, S, e1, fun ρ1 v1 H1 x1 k1 R1 r1 => ⟨ρ1, sa, h1', d2, h2, R1, S.mono x1 k1, e2, fun ρ2 v2 H2 x2 k2 R2 r2 =>
          ⟨ρ2, sa, h2, d3, h3, R2, S.mono (x1.trans x2) (k1.trans k2), e3, fun ρ3 v3 H3 x3 k3 R3 r3 => ?_⟩⟩⟩
        have hobj' : d2 = .obj j := hobj
        have hint' : d3 = .int i := hint
        subst hobj' hint'
        cases r3
        cases r2 with
        | @obj _ p hj =>
          have hj3 := x3 _ _ hj
          obtain ⟨vs, hv, rv⟩ := R3.at_ _ _ _ hd hj3
          have kw : Keep H3 (upd H3 p (.lst (vs.set n v1))) := Keep.write hv trivial
          refine ⟨p, vs, i, n, rfl, rfl, hv, by rw [← rv.length]; exact en, ?_⟩
          have R4 := R3.write (o := .lst (ds.set n d1)) hj3 hv trivial ⟨_, upd_same, (RelDs.set n (r1.mono (x2.trans x3) (k2.trans k3)) rv).mono (Ext.refl _) kw⟩
          exact kk ρ3 _ (x1.trans (x2.trans x3)) (k1.trans (k2.trans (k3.trans kw))) R4 σ (S.mono (x1.trans (x2.trans x3)) (k1.trans (k2.trans (k3.trans kw))))
      · cases e4
    · cases e4
  · cases e4
theorem putF_rel {K : PySem.W.Frag} {ρ : List Addr} {H : Hp} (f : Str) {d : D} {v : V} (rd : RelD K ρ H d v) {fs : List (Str × D)} {vs : List (Str × V)} (r : RelKV K ρ H fs vs) : RelKV K ρ H (putFD f d fs) (putF f v vs) := by
  induction r with
  | nil => exact .cons rd .nil
  | @cons g d' v' ds us r1 t ih =>
    simp only [putFD, putF, beqS_eq]
    by_cases h : g = f
    · rw [decide_eq_true h, if_pos h]
      exact .cons rd t
    · rw [decide_eq_false h, if_neg h]
      exact .cons r1 ih
theorem xsFld {f : Str} (na : Att X.K cls f) (ho : PE X o (semE X.K cls fo)) (hv : PE X v (semE X.K cls fv)) (hs : swapsWith v (some (.Attribute o f pos')) pos.line X.env = pure false := by rfl) : PS X (.Assign [.Attribute o f pos'] v pos) (semS X.K cls (sFldSt f fo fv)) := by
  refine ps_of (ps_fld ho hv hs) fun Dn σ H ⟨ρ, sa, h, out, sa', h', R, S, ev, kk⟩ => ?_
  obtain ⟨⟨d1, h1'⟩, e1, ev⟩ := bs ev
  obtain ⟨⟨d2, h2⟩, e2, ev⟩ := bs ev
  obtain ⟨h4, e4, e5⟩ := Option.map_eq_some_iff.mp ev
  cases e5
  refine ⟨ρ, sa, h, d1, h1', R, S, e1, fun ρ1 v1 H1 x1 k1 R1 r1 => ⟨ρ1, sa, h1', d2, h2, R1, S.mono x1 k1, e2, fun ρ2 v2 H2 x2 k2 R2 r2 => ?_⟩⟩
  unfold setFld at e4
  simp only at e4
  split at e4
  · split at e4
    · rename_i j cn fs hd
      split at e4
      · rename_i hl
        cases e4
        cases r2 with
        | @obj _ p hj =>
          obtain ⟨C, dx, vs, hc, hv, rv⟩ := R2.at_ _ _ _ hd hj
          obtain ⟨cl, na'⟩ := na _ _ hc
          have kw : Keep H2 (upd H2 p (.ins C dx (putF f v1 vs))) := Keep.write hv trivial
          refine ⟨p, C, dx, vs, rfl, hv, cl, na', by rw [← rv.length]; exact hl, ?_⟩
          have R4 := R2.write (o := .ins cn (putFD f d1 fs)) hj hv trivial ⟨C, dx, _, hc, upd_same, (putF_rel f (r1.mono x2 k2) rv).mono (Ext.refl _) kw⟩
          exact kk ρ2 _ (x1.trans x2) (k1.trans (k2.trans kw)) R4 σ (S.mono (x1.trans x2) (k1.trans (k2.trans kw)))
      · cases e4
    · cases e4
  · cases e4
theorem xsAugI (i : Nat) {x : Str} (hN : X.N.Nodup) (he : PE X e (semE X.K cls fe)) (hi : X.N[i]? = some x := by rfl) (hx : Loc X.env.scope x := by first | exact Or.inl rfl | exact Or.inr rfl) (hf : X.fn x = true ∨ X.env.scope.names.lookup x = some .local := by first | exact .inl rfl | exact .inr rfl) :
    PS X (.AugAssign (.Name x pos') .Add e pos) (semS X.K cls (sAugI i fe)) := by
  refine ps_of (ps_aug hN hi hx he ip_add hf) fun Dn σ H ⟨ρ, sa, h, out, sa', h', R, S, ev, kk⟩ => ?_
  unfold sAugI at ev
  split at ev
  · rename_i a ea
    obtain ⟨⟨d1, h1'⟩, e1, ev⟩ := bs ev
    simp only at ev
    split at ev
    · cases ev
      obtain ⟨w, hw, rw'⟩ := S.2 i _ ea
      cases rw'
      refine ⟨_, hw, ρ, sa, h, _, _, R, S, e1, fun ρ1 v1 H1 x1 k1 R1 r1 => ?_⟩
      cases r1
      exact ⟨_, _, rfl, rfl, kk ρ1 H1 x1 k1 R1 _ ((S.mono x1 k1).set i (.int _))⟩
    · cases ev
  · cases ev
theorem xsPar2 (i j : Nat) {x y : Str} {px py pt : Pos} {kt k2 pt2} (hc : X.calm = true) (hN : X.N.Nodup) (ha : PA X [a, b] (semA X.K cls fa)) (hi : X.N[i]? = some x := by rfl) (hj : X.N[j]? = some y := by rfl) (hij : i ≠ j := by decide)
    (hx : X.env.scope.names.lookup x = some .local := by rfl) (hy : X.env.scope.names.lookup y = some .local := by rfl)
    (hw : swappedStores [.Tuple [.Name x px, .Name y py] kt pt] (.Tuple [a, b] k2 pt2) X.env = pure (some [x, y]) := by rfl)
    (hs : swapsWithSole [.Tuple [.Name x px, .Name y py] kt pt] (.Tuple [a, b] k2 pt2) pos.line X.env = pure false := by rfl) :
    PS X (.Assign [.Tuple [.Name x px, .Name y py] kt pt] (.Tuple [a, b] k2 pt2) pos) (semS X.K cls (sPar2 i j fa)) := by
  refine ps_of (ps_par hc hN hi hj hij hx hy ha hw hs) fun Dn σ H ⟨ρ, sa, h, out, sa', h', R, S, ev, kk⟩ => ?_
  obtain ⟨⟨ds, h1'⟩, e1, ev⟩ := bs ev
  refine ⟨ρ, sa, h, ds, h1', R, S, e1, fun ρ1 vs H1 x1 k1 R1 r1 => ?_⟩
  simp only at ev
  split at ev
  · cases ev
    cases r1 with
    | cons r rr =>
      cases rr with
      | cons r2 rr =>
        cases rr
        exact ⟨_, _, rfl, kk ρ1 H1 x1 k1 R1 _ (((S.mono x1 k1).set i r).set j r2)⟩
  · cases ev
theorem xsPar3 (i j l : Nat) {x y z : Str} {px py pz pt : Pos} {kt k2 pt2} (hc : X.calm = true) (hN : X.N.Nodup) (ha : PA X [a, b, c] (semA X.K cls fa)) (hi : X.N[i]? = some x := by rfl) (hj : X.N[j]? = some y := by rfl) (hl : X.N[l]? = some z := by rfl) (hij : i ≠ j := by decide) (hil : i ≠ l := by decide) (hjl : j ≠ l := by decide)
    (hx : X.env.scope.names.lookup x = some .local := by rfl) (hy : X.env.scope.names.lookup y = some .local := by rfl) (hz : X.env.scope.names.lookup z = some .local := by rfl)
    (hw : swappedStores [.Tuple [.Name x px, .Name y py, .Name z pz] kt pt] (.Tuple [a, b, c] k2 pt2) X.env = pure (some [x, y, z]) := by rfl)
    (hs : swapsWithSole [.Tuple [.Name x px, .Name y py, .Name z pz] kt pt] (.Tuple [a, b, c] k2 pt2) pos.line X.env = pure false := by rfl) :
    PS X (.Assign [.Tuple [.Name x px, .Name y py, .Name z pz] kt pt] (.Tuple [a, b, c] k2 pt2) pos) (semS X.K cls (sPar3 i j l fa)) := by
  refine ps_of (ps_par3 hc hN hi hj hl hij hil hjl hx hy hz ha hw hs) fun Dn σ H ⟨ρ, sa, h, out, sa', h', R, S, ev, kk⟩ => ?_
  obtain ⟨⟨ds, h1'⟩, e1, ev⟩ := bs ev
  refine ⟨ρ, sa, h, ds, h1', R, S, e1, fun ρ1 vs H1 x1 k1 R1 r1 => ?_⟩
  simp only at ev
  split at ev
  · cases ev
    cases r1 with
    | cons r rr =>
      cases rr with
      | cons r2 rr =>
        cases rr with
        | cons r3 rr =>
          cases rr
          exact ⟨_, _, _, rfl, kk ρ1 H1 x1 k1 R1 _ ((((S.mono x1 k1).set i r).set j r2).set l r3)⟩
  · cases ev
end
end Gw
set_option Elab.async false
set_option linter.all false
set_option maxRecDepth 100000
set_option maxHeartbeats 4000000
/-! Gw: built-in functions, methods. -/
namespace Gw
open PySem PyProof.Rows L2

abbrev Fb := List D → Ah → Option (D × Ah)
def bLen : Fb
  | [.tup ds], h => some (.int ds.length, h)
  | [.str x], h => if x.length ≤ 1000000 then some (.int x.length, h) else none
  | [.obj j], h => match h.get j with
    | some (.lst ds) => some (.int ds.length, h)
    | some (.dic kvs) => some (.int kvs.length, h)
    | _ => none
  | _, _ => none
def bList : Fb
  | [.tup ds], h => some (.obj h.n, h.push (.lst ds))
  | [.obj j], h => match h.get j with
    | some (.lst ds) => some (.obj h.n, h.push (.lst ds))
    | _ => none
  | _, _ => none
def bTup : Fb
  | [.tup ds], h => some (.tup ds, h)
  | [.obj j], h => match h.get j with
    | some (.lst ds) => some (.tup ds, h)
    | _ => none
  | _, _ => none
def bInt : Fb
  | [.int i], h => some (.int i, h)
  | [.bl b], h => some (.int (if b then 1 else 0), h)
  | _, _ => none
def blsOf : List D → Option (List Bool)
  | [] => some []
  | .bl b :: r => (blsOf r).map (b :: ·)
  | _ => none
def intsOf : List D → Option (List Int)
  | [] => some []
  | .int b :: r => (intsOf r).map (b :: ·)
  | _ => none
def bAll : Fb
  | [.obj j], h => match h.get j with
    | some (.lst ds) => (blsOf ds).map fun bs => (.bl (bs.all id), h)
    | _ => none
  | _, _ => none
def bAny : Fb
  | [.obj j], h => match h.get j with
    | some (.lst ds) => (blsOf ds).map fun bs => (.bl (bs.any id), h)
    | _ => none
  | _, _ => none
def bSum : Fb
  | [.obj j], h => match h.get j with
    | some (.lst ds) => (intsOf ds).map fun bs => (.int bs.sum, h)
    | _ => none
  | _, _ => none
/-- sorting -/
def insI (x : Int) : List Int → List Int
  | [] => [x]
  | y :: r => if x ≤ y then x :: y :: r else y :: insI x r
def sortI : List Int → List Int
  | [] => []
  | x :: r => insI x (sortI r)
def ltN : List Nat → List Nat → Bool
  | [], [] => false
  | [], _ :: _ => true
  | _ :: _, [] => false
  | a :: as, b :: bs => bif Nat.blt a b then true else bif Nat.beq a b then ltN as bs else false
def insS (x : Str) : List Str → List Str
  | [] => [x]
  | y :: r => bif ltN y.cps.toList x.cps.toList then y :: insS x r else x :: y :: r
def sortS : List Str → List Str
  | [] => []
  | x :: r => insS x (sortS r)
def keysI : List (Key × D) → Option (List Int)
  | [] => some []
  | (.inl i, _) :: r => (keysI r).map (i :: ·)
  | _ => none
def keysS : List (Key × D) → Option (List Str)
  | [] => some []
  | (.inr i, _) :: r => (keysS r).map (i :: ·)
  | _ => none
def bSortD : Fb
  | [.obj j], h => match h.get j with
    | some (.dic kvs) => match keysS kvs with
      | some ks => if ks.length < 64 then some (.obj h.n, h.push (.lst ((sortS ks).map .str))) else none
      | none => (keysI kvs).bind fun ks => if ks.length < 64 then some (.obj h.n, h.push (.lst ((sortI ks).map .int))) else none
    | _ => none
  | _, _ => none
/-! methods -/
abbrev Mb := D → List D → Ah → Option (D × Ah)
def mApp : Mb
  | .obj j, [d], h => match h.get j with
    | some (.lst ds) => if ds.length < 1000000 then some (.non, h.set j (.lst (ds ++ [d]))) else none
    | _ => none
  | _, _, _ => none
def mExt : Mb
  | .obj j, [.obj i], h => match h.get j, h.get i with
    | some (.lst ds), some (.lst es) => if ds.length + es.length ≤ 1000000 then some (.non, h.set j (.lst (ds ++ es))) else none
    | _, _ => none
  | _, _, _ => none
def mPop : Mb
  | .obj j, [], h => match h.get j with
    | some (.lst ds) => (ds[ds.length - 1]?).map fun d => (d, h.set j (.lst ds.dropLast))
    | _ => none
  | _, _, _ => none
def mPop0 : Mb
  | .obj j, [.int 0], h => match h.get j with
    | some (.lst (d :: ds)) => some (d, h.set j (.lst ds))
    | _ => none
  | _, _, _ => none
def mergeD : List (Key × D) → List (Key × D) → List (Key × D)
  | kvs, [] => kvs
  | kvs, (k, d) :: r => mergeD (putD k d kvs) r
def mUpd : Mb
  | .obj j, [.obj i], h => if i = j then none else match h.get j, h.get i with
    | some (.dic ds), some (.dic es) => if ds.length + es.length ≤ 1000000 then some (.non, h.set j (.dic (mergeD ds es))) else none
    | _, _ => none
  | _, _, _ => none
/-- d.get(k, x) -/
def eGet2 (o k x : E) : E := fun sa h => (o sa h).bind fun p => (k sa p.2).bind fun q => (x sa q.2).bind fun r => match p.1 with
  | .obj j => match p.2.get j, r.2.get j with
    | some (.dic _), some (.dic kvs) => (toKey q.1).map fun key => ((lookK key kvs).getD r.1, r.2)
    | _, _ => none
  | _ => none
/-- isinstance(e, T) -/
def tyD : D → Ah → Option String
  | .non, _ => some "NoneType"
  | .bl _, _ => some "bool"
  | .int _, _ => some "int"
  | .str _, _ => some "str"
  | .tup _, _ => some "tuple"
  | .obj j, h => match h.get j with
    | some (.lst _) => some "list"
    | some (.dic _) => some "dict"
    | _ => none
inductive Tn where
  | int | bool | str | tuple | list
def Tn.name : Tn → String
  | .int => "int" | .bool => "bool" | .str => "str" | .tuple => "tuple" | .list => "list"
def isD (t : Tn) : D → Ah → Option Bool
  | .non, _ => some false
  | .bl _, _ => some (match t with | .int => true | .bool => true | _ => false)
  | .int _, _ => some (match t with | .int => true | _ => false)
  | .str _, _ => some (match t with | .str => true | _ => false)
  | .tup _, _ => some (match t with | .tuple => true | _ => false)
  | .obj j, h => match h.get j with
    | some (.lst _) => some (match t with | .list => true | _ => false)
    | some (.dic _) => some false
    | _ => none
def eIsi (t : Tn) (e : E) : E := fun sa h => (e sa h).bind fun p => (isD t p.1 p.2).map fun b => (.bl b, p.2)

section
variable {K : PySem.W.Frag} {ρ : List Addr} {H : Hp}
theorem blsOf_v : ∀ {ds : List D} {vs : List V} {bs : List Bool}, RelDs K ρ H ds vs → blsOf ds = some bs → vs = bs.map V.bl
  | _, _, _, .nil, e => by cases e; rfl
  | _, _, _, .cons r t, e => by
    cases r <;> simp only [blsOf] at e <;> try (cases e)
    obtain ⟨bs', h1, h2⟩ := Option.map_eq_some_iff.mp e
    subst h2
    rw [blsOf_v t h1]; rfl
theorem intsOf_v : ∀ {ds : List D} {vs : List V} {bs : List Int}, RelDs K ρ H ds vs → intsOf ds = some bs → vs = bs.map V.int
  | _, _, _, .nil, e => by cases e; rfl
  | _, _, _, .cons r t, e => by
    cases r <;> simp only [intsOf] at e <;> try (cases e)
    obtain ⟨bs', h1, h2⟩ := Option.map_eq_some_iff.mp e
    subst h2
    rw [intsOf_v t h1]; rfl
theorem keysI_v : ∀ {ds : List (Key × D)} {vs : List (Key × V)} {ks : List Int}, RelKV K ρ H ds vs → keysI ds = some ks → vs.map (·.1) = ks.map Sum.inl
  | _, _, _, .nil, e => by cases e; rfl
  | _, _, _, .cons (k := k) r t, e => by
    cases k <;> simp only [keysI] at e <;> try (cases e)
    obtain ⟨bs', h1, h2⟩ := Option.map_eq_some_iff.mp e
    subst h2
    rw [List.map_cons, keysI_v t h1]; rfl
theorem keysS_v : ∀ {ds : List (Key × D)} {vs : List (Key × V)} {ks : List Str}, RelKV K ρ H ds vs → keysS ds = some ks → vs.map (·.1) = ks.map Sum.inr
  | _, _, _, .nil, e => by cases e; rfl
  | _, _, _, .cons (k := k) r t, e => by
    cases k <;> simp only [keysS] at e <;> try (cases e)
    obtain ⟨bs', h1, h2⟩ := Option.map_eq_some_iff.mp e
    subst h2
    rw [List.map_cons, keysS_v t h1]; rfl
theorem rel_ints : ∀ ns : List Int, RelDs K ρ H (ns.map D.int) (ns.map V.int)
  | [] => .nil
  | n :: ns => .cons (.int n) (rel_ints ns)
theorem rel_strs : ∀ ns : List Str, RelDs K ρ H (ns.map D.str) (ns.map V.str)
  | [] => .nil
  | n :: ns => .cons (.str n) (rel_strs ns)
end
theorem insI_perm (x : Int) : ∀ l : List Int, (insI x l).Perm (x :: l)
  | [] => .refl _
  | y :: r => by
    unfold insI
    split
    · exact .refl _
    · exact ((insI_perm x r).cons y).trans (.swap x y r)
theorem sortI_perm : ∀ l : List Int, (sortI l).Perm l
  | [] => .refl _
  | x :: r => (insI_perm x _).trans ((sortI_perm r).cons x)
theorem insI_sorted (x : Int) : ∀ l : List Int, l.Pairwise (· ≤ ·) → (insI x l).Pairwise (· ≤ ·)
  | [], _ => List.pairwise_singleton _ _
  | y :: r, h => by
    unfold insI
    rw [List.pairwise_cons] at h
    split
    · rename_i hx
      refine List.pairwise_cons.mpr ⟨fun z hz => ?_, List.pairwise_cons.mpr h⟩
      rcases List.mem_cons.mp hz with rfl | hz
      · exact hx
      · exact Int.le_trans hx (h.1 z hz)
    · rename_i hx
      refine List.pairwise_cons.mpr ⟨fun z hz => ?_, insI_sorted x r h.2⟩
      rcases List.mem_cons.mp ((insI_perm x r).mem_iff.mp hz) with rfl | hz
      · omega
      · exact h.1 z hz
theorem sortI_sorted : ∀ l : List Int, (sortI l).Pairwise (· ≤ ·)
  | [] => .nil
  | x :: r => insI_sorted x _ (sortI_sorted r)
theorem sortI_eq {ys ks : List Int} (p : ys.Perm ks) (s : ys.Pairwise (· ≤ ·)) : ys = sortI ks :=
  List.Perm.eq_of_pairwise (le := (· ≤ ·)) (fun a b _ _ h1 h2 => Int.le_antisymm h1 h2) s (sortI_sorted ks) (p.trans (sortI_perm ks).symm)
theorem ltN_eq : ∀ a b : List Nat, ltN a b = decide (a < b)
  | [], [] => by simp [ltN]
  | [], _ :: _ => by simp [ltN]
  | _ :: _, [] => by simp [ltN]
  | a :: as, b :: bs => by
    simp only [ltN, ltN_eq as bs]
    have e1 : Nat.blt a b = decide (a < b) := by
      by_cases h : a < b
      · rw [Ah.blt_t h, decide_eq_true h]
      · rw [Ah.blt_f h, decide_eq_false h]
    have e2 : Nat.beq a b = decide (a = b) := by
      by_cases h : a = b
      · rw [Tr.beq_t h, decide_eq_true h]
      · rw [Tr.beq_f h, decide_eq_false h]
    rw [e1, e2]
    by_cases h : a < b
    · simp [h, List.cons_lt_cons_iff]
    · by_cases h2 : a = b
      · simp [h2, List.cons_lt_cons_iff]
      · simp [h, h2, List.cons_lt_cons_iff]
abbrev leS (a b : Str) : Prop := ¬ (b.cps.toList < a.cps.toList)
theorem leS_trans {a b c : Str} (h1 : leS a b) (h2 : leS b c) : leS a c := fun h => by
  have q1 := List.not_lt.mp h1
  have q2 := List.not_lt.mp h2
  exact absurd h (List.not_lt.mpr (List.le_trans q1 q2))
theorem leS_anti {a b : Str} (h1 : leS a b) (h2 : leS b a) : a = b := by
  have e : a.cps.toList = b.cps.toList := List.le_antisymm (List.not_lt.mp h1) (List.not_lt.mp h2)
  obtain ⟨⟨l⟩⟩ := a
  obtain ⟨⟨m⟩⟩ := b
  simp at e; subst e; rfl
theorem insS_perm (x : Str) : ∀ l : List Str, (insS x l).Perm (x :: l)
  | [] => .refl _
  | y :: r => by
    unfold insS
    cases ltN y.cps.toList x.cps.toList with
    | false => exact .refl _
    | true => exact ((insS_perm x r).cons y).trans (.swap x y r)
theorem sortS_perm : ∀ l : List Str, (sortS l).Perm l
  | [] => .refl _
  | x :: r => (insS_perm x _).trans ((sortS_perm r).cons x)
theorem insS_sorted (x : Str) : ∀ l : List Str, l.Pairwise leS → (insS x l).Pairwise leS
  | [], _ => List.pairwise_singleton _ _
  | y :: r, h => by
    unfold insS
    rw [List.pairwise_cons] at h
    rw [ltN_eq]
    by_cases hx : y.cps.toList < x.cps.toList
    · rw [decide_eq_true hx]
      refine List.pairwise_cons.mpr ⟨fun z hz => ?_, insS_sorted x r h.2⟩
      rcases List.mem_cons.mp ((insS_perm x r).mem_iff.mp hz) with rfl | hz
      · exact List.not_lt.mpr (List.le_of_lt hx)
      · exact h.1 z hz
    · rw [decide_eq_false hx]
      refine List.pairwise_cons.mpr ⟨fun z hz => ?_, List.pairwise_cons.mpr h⟩
      rcases List.mem_cons.mp hz with rfl | hz
      · exact hx
      · exact leS_trans (b := y) hx (h.1 z hz)
theorem sortS_sorted : ∀ l : List Str, (sortS l).Pairwise leS
  | [] => .nil
  | x :: r => insS_sorted x _ (sortS_sorted r)
theorem rising_pw : ∀ (p : Str) (l : List Str), risingS p l = true → (p :: l).Pairwise leS
  | p, [], _ => List.pairwise_singleton _ _
  | p, x :: r, h => by
    simp only [risingS, Bool.and_eq_true, Bool.not_eq_true'] at h
    have ih := rising_pw x r h.2
    have h1 : leS p x := fun z => by
      have := h.1
      rw [ltCps_eq, decide_eq_false_iff_not] at this
      exact this z
    refine List.pairwise_cons.mpr ⟨fun z hz => ?_, ih⟩
    rcases List.mem_cons.mp hz with rfl | hz
    · exact h1
    · exact leS_trans h1 ((List.pairwise_cons.mp ih).1 z hz)
theorem sortS_eq {ys ks : List Str} (p : ys.Perm ks) (s : sortedS ys = true) : ys = sortS ks := by
  have s' : ys.Pairwise leS := by
    cases ys with
    | nil => exact .nil
    | cons y r => exact rising_pw y r s
  exact List.Perm.eq_of_pairwise (le := leS) (fun a b _ _ h1 h2 => leS_anti h1 h2) s' (sortS_sorted ks) (p.trans (sortS_perm ks).symm)

section
variable {X : Cx} {cls : Cl}
theorem c_len : CallR X (.builtin "len") (rMs X.K cls bLen) := by
  intro pins s σ H xs us Q I rx ⟨ρ, h, ds, d, h', R, r, ev, k⟩
  unfold bLen at ev
  split at ev
  · cases ev
    cases r with
    | cons r1 rr =>
      cases rr
      cases r1 with
      | @tup _ vs a hs rs => exact call_len pins s σ H _ us Q I rx ⟨_, _, rfl, .inr ⟨vs, hs, rfl⟩, by rw [← rs.length]; exact k.at R (.int _)⟩
  · split at ev
    · rename_i hl
      cases ev
      cases r with
      | cons r1 rr =>
        cases rr
        cases r1
        exact call_len pins s σ H _ us Q I rx ⟨_, _, rfl, ⟨sz hl, rfl⟩, k.at R (.int _)⟩
    · cases ev
  · cases r with
    | cons r1 rr =>
      cases rr
      cases r1 with
      | @obj _ a hj =>
        split at ev
        · rename_i ds hd
          cases ev
          obtain ⟨vs, hv, rv⟩ := R.at_ _ _ _ hd hj
          exact call_len pins s σ H _ us Q I rx ⟨_, _, rfl, .inl ⟨vs, SqL.of hv, rfl⟩, by rw [← rv.length]; exact k.at R (.int _)⟩
        · rename_i kvs hd
          cases ev
          obtain ⟨vs, hv, rv⟩ := R.at_ _ _ _ hd hj
          exact call_lenD pins s σ H _ us Q I rx ⟨_, _, rfl, hv, by rw [← rv.length]; exact k.at R (.int _)⟩
        · cases ev
  · cases ev
theorem c_list : CallR X (.type "list") (rMs X.K cls bList) := by
  intro pins s σ H xs us Q I rx ⟨ρ, h, ds, d, h', R, r, ev, k⟩
  unfold bList at ev
  split at ev
  · cases ev
    cases r with
    | cons r1 rr =>
      cases rr
      cases r1 with
      | @tup _ vs a hs rs => exact call_list_of pins s σ H _ us Q I rx ⟨_, _, rfl, .inr hs, fun l hl => k.lst R rs hl⟩
  · cases r with
    | cons r1 rr =>
      cases rr
      cases r1 with
      | @obj _ a hj =>
        split at ev
        · rename_i ds hd
          cases ev
          obtain ⟨vs, hv, rv⟩ := R.at_ _ _ _ hd hj
          exact call_list_of pins s σ H _ us Q I rx ⟨_, _, rfl, .inl (SqL.of hv), fun l hl => k.lst R rv hl⟩
        · cases ev
  · cases ev
theorem c_tup : CallR X (.type "tuple") (rMs X.K cls bTup) := by
  intro pins s σ H xs us Q I rx ⟨ρ, h, ds, d, h', R, r, ev, k⟩
  unfold bTup at ev
  split at ev
  · cases ev
    cases r with
    | cons r1 rr =>
      cases rr
      cases r1 with
      | @tup _ vs a hs rs => exact call_tuple_of pins s σ H _ us Q I rx ⟨_, _, rfl, .inr ⟨hs, k.at R (.tup hs rs)⟩⟩
  · cases r with
    | cons r1 rr =>
      cases rr
      cases r1 with
      | @obj _ a hj =>
        split at ev
        · rename_i ds hd
          cases ev
          obtain ⟨vs, hv, rv⟩ := R.at_ _ _ _ hd hj
          exact call_tuple_of pins s σ H _ us Q I rx ⟨_, _, rfl, .inl ⟨SqL.of hv, fun l hl => k.tup R rv hl⟩⟩
        · cases ev
  · cases ev
theorem c_int : CallR X (.type "int") (rMs X.K cls bInt) := by
  intro pins s σ H xs us Q I rx ⟨ρ, h, ds, d, h', R, r, ev, k⟩
  unfold bInt at ev
  split at ev
  · cases ev
    cases r with
    | cons r1 rr =>
      cases rr
      cases r1
      exact call_int1 pins s σ H _ us Q I rx (.inl ⟨_, rfl, k.at R (.int _)⟩)
  · cases ev
    cases r with
    | cons r1 rr =>
      cases rr
      cases r1
      exact call_int1 pins s σ H _ us Q I rx (.inr ⟨_, rfl, k.at R (.int _)⟩)
  · cases ev
theorem c_all (hc : X.calm = true) : CallR X (.builtin "all") (rMs X.K cls bAll) := by
  intro pins s σ H xs us Q I rx ⟨ρ, h, ds, d, h', R, r, ev, k⟩
  unfold bAll at ev
  split at ev
  · cases r with
    | cons r1 rr =>
      cases rr
      cases r1 with
      | @obj _ a hj =>
        split at ev
        · rename_i ds hd
          obtain ⟨bs, h1, h2⟩ := Option.map_eq_some_iff.mp ev
          cases h2
          obtain ⟨vs, hv, rv⟩ := R.at_ _ _ _ hd hj
          exact cr_all hc pins s σ H _ us Q I rx ⟨a, bs, rfl, by rw [← blsOf_v rv h1]; exact SqL.of hv, k.at R (.bl _)⟩
        · cases ev
  · cases ev
theorem c_any (hc : X.calm = true) : CallR X (.builtin "any") (rMs X.K cls bAny) := by
  intro pins s σ H xs us Q I rx ⟨ρ, h, ds, d, h', R, r, ev, k⟩
  unfold bAny at ev
  split at ev
  · cases r with
    | cons r1 rr =>
      cases rr
      cases r1 with
      | @obj _ a hj =>
        split at ev
        · rename_i ds hd
          obtain ⟨bs, h1, h2⟩ := Option.map_eq_some_iff.mp ev
          cases h2
          obtain ⟨vs, hv, rv⟩ := R.at_ _ _ _ hd hj
          exact cr_any hc pins s σ H _ us Q I rx ⟨a, bs, rfl, by rw [← blsOf_v rv h1]; exact SqL.of hv, k.at R (.bl _)⟩
        · cases ev
  · cases ev
theorem c_sum (hc : X.calm = true) : CallR X (.builtin "sum") (rMs X.K cls bSum) := by
  intro pins s σ H xs us Q I rx ⟨ρ, h, ds, d, h', R, r, ev, k⟩
  unfold bSum at ev
  split at ev
  · cases r with
    | cons r1 rr =>
      cases rr
      cases r1 with
      | @obj _ a hj =>
        split at ev
        · rename_i ds hd
          obtain ⟨bs, h1, h2⟩ := Option.map_eq_some_iff.mp ev
          cases h2
          obtain ⟨vs, hv, rv⟩ := R.at_ _ _ _ hd hj
          exact cr_sum hc pins s σ H _ us Q I rx ⟨a, bs, rfl, by rw [← intsOf_v rv h1]; exact SqL.of hv, k.at R (.int _)⟩
        · cases ev
  · cases ev
theorem c_sortD (hc : X.calm = true) : CallR X (.builtin "sorted") (rMs X.K cls bSortD) := by
  intro pins s σ H xs us Q I rx ⟨ρ, h, ds, d, h', R, r, ev, k⟩
  unfold bSortD at ev
  split at ev
  · cases r with
    | cons r1 rr =>
      cases rr
      cases r1 with
      | @obj _ a hj =>
        split at ev
        · rename_i kvs hd
          obtain ⟨vs, hv, rv⟩ := R.at_ _ _ _ hd hj
          split at ev
          · rename_i ks hk
            split at ev
            · rename_i hl
              cases ev
              exact call_sortedD hc pins s σ H _ us Q I rx ⟨a, vs, ks, rfl, .inl hv, keysS_v rv hk, hl, fun ys p hp hs hn => by rw [sortS_eq hp hs]; exact k.lst R (rel_strs _) hn⟩
            · cases ev
          · obtain ⟨ks, hk, ev⟩ := bs ev
            split at ev
            · rename_i hl
              cases ev
              exact call_sortedDI hc pins s σ H _ us Q I rx ⟨a, vs, ks, rfl, .inl hv, keysI_v rv hk, hl, fun ys p hp hs hn => by rw [sortI_eq hp hs]; exact k.lst R (rel_ints _) hn⟩
            · cases ev
        · cases ev
  · cases ev
end
end Gw
set_option Elab.async false
set_option linter.all false
set_option maxRecDepth 100000
set_option maxHeartbeats 4000000
/-! Gw: methods, isinstance. -/
namespace Gw
open PySem PyProof.Rows L2
section
variable {X : Cx} {cls : Cl}
theorem m_app : MtR X "list.append" (rMm X.K cls mApp) := by
  intro pins s σ H x xs v us Q I rx rxs ⟨ρ, h, dx, ds, d, h', R, r1, rs, ev, k⟩
  unfold mApp at ev
  split at ev
  · split at ev
    · rename_i ds' hd
      split at ev
      · rename_i hl
        cases ev
        cases r1 with
        | @obj _ a hj =>
          cases rs with
          | cons r2 rr =>
            cases rr
            obtain ⟨vs, hv, rv⟩ := R.at_ _ _ _ hd hj
            exact mt_append pins s σ H _ _ v us Q I rx rxs ⟨a, vs, _, rfl, rfl, hv, szl (by rw [← rv.length]; exact hl), k.wl R hj hv trivial (rv.append (.cons r2 .nil)) .non⟩
      · cases ev
    · cases ev
  · cases ev
theorem m_ext : MtR X "list.extend" (rMm X.K cls mExt) := by
  intro pins s σ H x xs v us Q I rx rxs ⟨ρ, h, dx, ds, d, h', R, r1, rs, ev, k⟩
  unfold mExt at ev
  split at ev
  · split at ev
    · rename_i ds' es hd he
      split at ev
      · rename_i hl
        cases ev
        cases r1 with
        | @obj _ a hj =>
          cases rs with
          | cons r2 rr =>
            cases rr
            cases r2 with
            | @obj _ b hi =>
              obtain ⟨vs, hv, rv⟩ := R.at_ _ _ _ hd hj
              obtain ⟨ws, hw, rw'⟩ := R.at_ _ _ _ he hi
              exact mt_extend pins s σ H _ _ v us Q I rx rxs ⟨a, b, vs, ws, rfl, rfl, hv, hw, sz (by rw [← rv.length, ← rw'.length]; exact hl), k.wl R hj hv trivial (rv.append rw') .non⟩
      · cases ev
    · cases ev
  · cases ev
theorem m_pop : MtR X "list.pop" (rMm X.K cls mPop) := by
  intro pins s σ H x xs v us Q I rx rxs ⟨ρ, h, dx, ds, d, h', R, r1, rs, ev, k⟩
  unfold mPop at ev
  split at ev
  · split at ev
    · rename_i ds' hd
      obtain ⟨d', h1, h2⟩ := Option.map_eq_some_iff.mp ev
      cases h2
      cases r1 with
      | @obj _ a hj =>
        cases rs
        obtain ⟨vs, hv, rv⟩ := R.at_ _ _ _ hd hj
        obtain ⟨y, hy, ry⟩ := rv.get h1
        rw [rv.length] at hy
        exact mt_pop pins s σ H _ _ v us Q I rx rxs ⟨a, vs, y, rfl, rfl, hv, hy, k.wl R hj hv trivial rv.dropLast ry⟩
    · cases ev
  · cases ev
theorem m_pop0 : MtR X "list.pop" (rMm X.K cls mPop0) := by
  intro pins s σ H x xs v us Q I rx rxs ⟨ρ, h, dx, ds, d, h', R, r1, rs, ev, k⟩
  unfold mPop0 at ev
  split at ev
  · split at ev
    · rename_i d' ds' hd
      cases ev
      cases r1 with
      | @obj _ a hj =>
        cases rs with
        | cons r2 rr =>
          cases rr
          cases r2
          obtain ⟨vs, hv, rv⟩ := R.at_ _ _ _ hd hj
          cases rv with
          | @cons _ y _ ys ry rt =>
            exact mt_popAt pins s σ H _ _ v us Q I rx rxs ⟨a, y :: ys, 0, 0, y, rfl, rfl, hv, by decide, by decide, by simp [seqIndex?], rfl, k.wl R hj hv trivial rt ry⟩
    · cases ev
  · cases ev
theorem merge_rel {K : PySem.W.Frag} {ρ : List Addr} {H : Hp} : ∀ {es : List (Key × D)} {ws : List (Key × V)} {kvs : List (Key × D)} {vs : List (Key × V)}, RelKV K ρ H es ws → RelKV K ρ H kvs vs → RelKV K ρ H (mergeD kvs es) (mergeK vs ws)
  | _, _, _, _, .nil, r => r
  | _, _, _, _, .cons (k := key) r1 t, r => by
    have q := merge_rel t (putK_rel key r1 r)
    exact q
theorem m_upd : MtR X "dict.update" (rMm X.K cls mUpd) := by
  intro pins s σ H x xs v us Q I rx rxs ⟨ρ, h, dx, ds, d, h', R, r1, rs, ev, k⟩
  unfold mUpd at ev
  split at ev
  · rename_i j i
    split at ev
    · cases ev
    · rename_i hij
      split at ev
      · rename_i ds' es hd he
        split at ev
        · rename_i hl
          cases ev
          cases r1 with
          | @obj _ a hj =>
            cases rs with
            | cons r2 rr =>
              cases rr
              cases r2 with
              | @obj _ b hi =>
                obtain ⟨vs, hv, rv⟩ := R.at_ _ _ _ hd hj
                obtain ⟨ws, hw, rw'⟩ := R.at_ _ _ _ he hi
                cases rx
                cases rxs with
                | cons q1 q2 =>
                  cases q2
                  cases q1
                  have hab : a ≠ b := fun e => hij (R.nd _ _ _ hi (e ▸ hj))
                  obtain ⟨z1, s1, us1, rel1, dd1⟩ := dk_of I.hok hv
                  obtain ⟨z2, s2, us2, rel2, dd2⟩ := dk_of I.hok hw
                  have hsz : us1.length + us2.length ≤ sizeLine := by rw [← rel1.length, ← rel2.length, ← rv.length, ← rw'.length]; exact sz hl
                  refine call_meetsIn PySem.F.slot_dict_update dd1.typeIs PySem.F.entry_dict_update (PySem.F.args_dict_update_2 _ _) (meets_dict_update (mixKind X.prog X.w) a b hab s2) ⟨us1, us2, dd1, dd2, hsz, fun h' dd' _ hs => ?_⟩
                  have hm : (mergeK vs ws).length ≤ sizeLine := by
                    have := length_mergeK ws vs
                    rw [rel1.length, rel2.length] at this
                    omega
                  have heq : ∃ q, h'.get? a = some q := let ⟨q, _, _, hq, _⟩ := dd'; ⟨q, hq⟩
                  refine ⟨.non, _, d_write (ob := .dK (mergeK vs ws)) (t' := s.toks) I (by rw [hv]; exact True.intro) hs heq (dk_new hm s1 (rel2.merge rel1) dd'), rfl, ?_⟩
                  exact k.wd R hj hv trivial (merge_rel rw' rv) .non
        · cases ev
      · cases ev
  · cases ev
end
section
variable {X : Cx} {cls : Cl} {o e f : Expr} {es : List Expr} {fo fe ff : E} {fa : As} {apos cpos pos : Pos}
/-- a method's receiver is of a type that stays -/
def tyO (T : String) : D → Ah → Bool
  | .obj j, h => match h.get j with
    | some (.lst _) => T == "list"
    | some (.dic _) => T == "dict"
    | _ => false
  | _, _ => false
def eMethT (T : String) (g : Mb) (a : E) (as : As) : E := fun sa h => (a sa h).bind fun p => bif tyO T p.1 p.2 then ((as sa p.2).bind fun q => g p.1 q.1 q.2) else none
theorem tyO_v {K : PySem.W.Frag} {ρ : List Addr} {H : Hp} {h : Ah} {x : D} {v : V} {T : String} (R : RelH K cls ρ h H) (r : RelD K ρ H x v) (e : tyO T x h = true) : tyV K T v H := by
  unfold tyO at e
  split at e
  · cases r with
    | @obj _ a hj =>
      split at e
      · rename_i ds hd
        obtain ⟨vs, hv, rv⟩ := R.at_ _ _ _ hd hj
        exact .inl ⟨beq_iff_eq.mp e, vs, SqL.of hv⟩
      · rename_i ds hd
        obtain ⟨vs, hv, rv⟩ := R.at_ _ _ _ hd hj
        exact .inr (.inr (.inl ⟨beq_iff_eq.mp e, .inl ⟨vs, hv⟩⟩))
      · cases e
  · cases e
theorem xMeth {name : Str} {T id : String} {g : Mb} (pa : PlainAttrs T) (slot : Slot T name id) (hty : typeOf (.builtin id) = pure (.type "method_descriptor")) (hm : MtR X id (rMm X.K cls g)) (ho : PE X o (semE X.K cls fo)) (ha : PA X (e :: es) (semA X.K cls fa))
    (hbase : attributeBase o name X.env (eval o X.env) = eval o X.env := by rfl)
    (hfew : ((backTo cpos (starEach (e :: es) X.env)).all (fun x => !x.1) && (backToKw cpos (keywordEach [] X.env)).all (fun x => x.1.isSome)
      && decide ((e :: es).length + ([] : List Keyword).length + (if ([] : List Keyword).isEmpty then 0 else 1) < 30)) = true := by rfl)
    (hline : (apos.endLine == cpos.line) = true := by rfl) (hs : starEach (e :: es) X.env = (false, eval e X.env) :: starEach es X.env := by rfl) (hplain : (backTo cpos (starEach es X.env)).any (·.1) = false := by rfl) :
    PE X (.Call (.Attribute o name apos) (e :: es) [] cpos) (semE X.K cls (eMethT T g fo fa)) := by
  refine pe_of (pe_bm pa slot hty hm ho ha hbase hfew hline hs hplain) fun σ H Q ⟨ρ, sa, h, d, h', R, S, ev, k⟩ => ?_
  obtain ⟨⟨x, h1⟩, e1, ev⟩ := bs ev
  cases ht : tyO T x h1 with
  | false => simp only [ht] at ev; cases ev
  | true =>
    simp only [ht] at ev
    obtain ⟨⟨ds, h2⟩, e2, ev⟩ := bs ev
    exact ⟨ρ, sa, h, x, h1, R, S, e1, fun ρ1 v H1 x1 k1 R1 r1 => ⟨tyO_v R1 r1 ht, ρ1, sa, h1, ds, h2, R1, S.mono x1 k1, e2, fun ρ2 vs H2 x2 k2 R2 r2 =>
      ⟨ρ2, h2, x, ds, d, h', R2, r1.mono x2 k2, r2, ev, fun ρ3 w H3 x3 k3 R3 r3 => k ρ3 w H3 (x1.trans (x2.trans x3)) (k1.trans (k2.trans k3)) R3 r3⟩⟩⟩
theorem xMeth0 {name : Str} {T id : String} {g : Mb} (pa : PlainAttrs T) (slot : Slot T name id) (hty : typeOf (.builtin id) = pure (.type "method_descriptor")) (hm : MtR X id (rMm X.K cls g)) (ho : PE X o (semE X.K cls fo))
    (hbase : attributeBase o name X.env (eval o X.env) = eval o X.env := by rfl) (hline : (apos.endLine == cpos.line) = true := by rfl) : PE X (.Call (.Attribute o name apos) [] [] cpos) (semE X.K cls (eMethT T g fo aNil)) := by
  refine pe_of (pe_bm0 pa slot hty hm ho hbase hline) fun σ H Q ⟨ρ, sa, h, d, h', R, S, ev, k⟩ => ?_
  obtain ⟨⟨x, h1⟩, e1, ev⟩ := bs ev
  cases ht : tyO T x h1 with
  | false => simp only [ht] at ev; cases ev
  | true =>
    simp only [ht] at ev
    exact ⟨ρ, sa, h, x, h1, R, S, e1, fun ρ1 v H1 x1 k1 R1 r1 => ⟨tyO_v R1 r1 ht, ρ1, h1, x, [], d, h', R1, r1, .nil, ev, fun ρ3 w H3 x3 k3 R3 r3 => k ρ3 w H3 (x1.trans x3) (k1.trans k3) R3 r3⟩⟩
/-- d.get(k, x) -/
theorem xGet2 (hu : X.A.units + 1 < cLine) (ho : PE X o (semE X.K cls fo)) (he : PE X e (semE X.K cls fe)) (hf : PE X f (semE X.K cls ff)) (m : M2 X o "get" apos e f cpos := by exact ⟨rfl, rfl, rfl, rfl⟩) : PE X (.Call (.Attribute o "get" apos) [e, f] [] cpos) (semE X.K cls (eGet2 fo fe ff)) := by
  refine pe_of (pe_dget2 hu ho he hf m) fun σ H Q ⟨ρ, sa, h, d, h', R, S, ev, k⟩ => ?_
  obtain ⟨⟨x, h1⟩, e1, ev⟩ := bs ev
  obtain ⟨⟨y, h2⟩, e2, ev⟩ := bs ev
  obtain ⟨⟨z, h3⟩, e3, ev⟩ := bs ev
  simp only at ev
  split at ev
  · rename_i j
    split at ev
    · rename_i ks kvs hd0 hd
      obtain ⟨key, ek, ev⟩ := Option.map_eq_some_iff.mp ev
      cases ev
      refine ⟨ρ, sa, h, _, h1, R, S, e1, fun ρ1 v H1 x1 k1 R1 r1 => ?_⟩
      cases r1 with
      | @obj _ a hj =>
        obtain ⟨vs0, hv0, rv0⟩ := R1.at_ _ _ _ hd0 hj
        refine ⟨a, rfl, .inl ⟨vs0, .inl hv0⟩, ρ1, sa, h1, y, h2, R1, S.mono x1 k1, e2, fun ρ2 v2 H2 x2 k2 R2 r2 => ⟨ρ2, sa, h2, z, _, R2, S.mono (x1.trans x2) (k1.trans k2), e3, fun ρ3 v3 H3 x3 k3 R3 r3 => ?_⟩⟩
        obtain ⟨vs, hv, rv⟩ := R3.at_ _ _ _ hd (x3 _ _ (x2 _ _ hj))
        refine ⟨_, .inl ⟨vs, key, .inl hv, toKey_kV r2 ek, rfl⟩, ?_⟩
        refine k ρ3 _ H3 (x1.trans (x2.trans x3)) (k1.trans (k2.trans k3)) R3 ?_
        rcases lookK_val rv key with ⟨n1, n2⟩ | ⟨d2, v2, l1, l2, l3⟩
        · rw [n1, n2]; exact r3
        · rw [l1, l2]; exact l3
    · cases ev
  · cases ev
/-- isinstance(e, T) -/
theorem isD_ty {K : PySem.W.Frag} {ρ : List Addr} {H : Hp} {h : Ah} {x : D} {v : V} {t : Tn} {b : Bool} (R : RelH K cls ρ h H) (r : RelD K ρ H x v) (e : isD t x h = some b) : ∃ n, TyX K H v (.type n) ∧ PySem.W.kitOne K (.type n) (.type t.name) = some b := by
  cases r with
  | non => cases e; exact ⟨_, .base .non, by cases t <;> exact kit_ty (by decide +kernel)⟩
  | bl y => cases e; exact ⟨_, .base (.bl y), by cases t <;> exact kit_ty (by decide +kernel)⟩
  | int i => cases e; exact ⟨_, .base (.int i), by cases t <;> exact kit_ty (by decide +kernel)⟩
  | str y => cases e; exact ⟨_, .base (.str y), by cases t <;> exact kit_ty (by decide +kernel)⟩
  | @tup ds vs a hs rs =>
    cases e
    refine ⟨"tuple", ?_, by cases t <;> exact kit_ty (by decide +kernel)⟩
    rcases hs with (hs | ⟨o, hs⟩) | ⟨o, its, n, h1, h2, _⟩
    · exact .base (.tup hs)
    · exact .fTuple hs
    · exact .kTuple h1 h2
  | @obj i a hi =>
    simp only [isD] at e
    split at e
    · rename_i ds hd
      cases e
      obtain ⟨vs, hv, rv⟩ := R.at_ _ _ _ hd hi
      exact ⟨_, .base (.lst hv), by cases t <;> exact kit_ty (by decide +kernel)⟩
    · rename_i ds hd
      cases e
      obtain ⟨vs, hv, rv⟩ := R.at_ _ _ _ hd hi
      exact ⟨_, .base (.dK hv), by cases t <;> exact kit_ty (by decide +kernel)⟩
    · cases e
theorem xIsi (t : Tn) {p pt : Pos} {x : Str} (hm : X.mg "isinstance" = none) (hmt : X.mg x = none) (he : PE X e (semE X.K cls fe)) (hv : bootBuiltins x = some (.type t.name) := by rfl) (hg : Gl X "isinstance" := by rfl) (hgt : Gl X x := by rfl) (hn : x ≠ "__name__" := by decide) (hd : (x == ("__debug__" : Str)) = false := by decide)
    (hst : starEach [e, .Name x pt] X.env = (false, eval e X.env) :: starEach [.Name x pt] X.env := by rfl) (hpl : (backTo pos (starEach [.Name x pt] X.env)).any (·.1) = false := by rfl) :
    PE X (.Call (.Name "isinstance" p) [e, .Name x pt] [] pos) (semE X.K cls (eIsi t fe)) := by
  refine pe_of (pe_callB call_isi hg hm (by rfl) (pa_cons he (pa_cons (pe_bltn (v := .ty t.name) hgt hmt hv rfl hn hd) pa_nil) hst) (by decide) (by decide) hst hpl) fun σ H Q ⟨ρ, sa, h, d, h', R, S, ev, k⟩ => ?_
  obtain ⟨⟨y, h1⟩, e1, ev⟩ := bs ev
  obtain ⟨b, e2, ev⟩ := Option.map_eq_some_iff.mp ev
  cases ev
  refine ⟨ρ, sa, h, y, _, R, S, e1, fun ρ1 v H1 x1 k1 R1 r1 => ?_⟩
  obtain ⟨n, hty, hk⟩ := isD_ty R1 r1 e2
  exact ⟨v, .ty t.name, .type n, .type t.name, b, rfl, .ty _, hty, hk, k ρ1 _ H1 x1 k1 R1 (.bl b)⟩
end
end Gw
set_option Elab.async false
set_option linter.all false
set_option maxRecDepth 100000
set_option maxHeartbeats 4000000
/-! Gw: ranges and views as tuples, repr, enumerate over a tuple. -/
namespace Gw
open PySem PyProof.Rows L2

/-- tuple(range(e)) -/
def eTupRg1 (a : E) : E := fun sa h => (a sa h).bind fun p => match p.1 with
  | .int n => bif decide (0 ≤ n) && decide (n ≤ 1000000) then some (.tup ((List.range n.toNat).map fun i => .int (i : Nat)), p.2) else none
  | _ => none
/-- tuple(o.values()), sorted(o.values()) of one value at most -/
def eTupVals (o : E) : E := fun sa h => (o sa h).bind fun p => match p.1 with
  | .obj j => match p.2.get j with
    | some (.dic kvs) => some (.tup (kvs.map Prod.snd), p.2)
    | _ => none
  | _ => none
def eSortVals (o : E) : E := fun sa h => (o sa h).bind fun p => match p.1 with
  | .obj j => match p.2.get j with
    | some (.dic kvs) => if kvs.length ≤ 1 then some (.obj p.2.n, p.2.push (.lst (kvs.map Prod.snd))) else none
    | _ => none
  | _ => none
/-- repr of a tuple -/
def bRepr : Fb
  | [.tup ds], h => (toPy (.tup ds)).bind fun p => if p.showable && decide (p.depth ≤ 60) && decide (p.shown.length ≤ 1000000) then some (.str p.shown, h) else none
  | _, _ => none
/-- enumerate(e), e a tuple -/
def nxEnum (ds : List D) : Nx := fun i _ => some ((ds[i]?).map fun d => .tup [.int (i : Nat), d])
def iEnumT (as : As) : Itr := fun sa h => (as sa h).bind fun p => match p.1 with
  | [.tup ds] => some (nxEnum ds, p.2)
  | _ => none

section
variable {prog : Program} {w : World} {A : Around} {E : Value → Shared → Prop} {s : Shared} {T : String} {r d : Addr} {n : Nat} {P : Nat → Value → Prop} {OK : Heap → Prop}
theorem code_tuple_new_src {Q₁ : Value → Shared → Prop} (K : PySem.W.KdlSrc prog w T r d n P OK) (hh : A.handled = none) (hok : OK s.heap) (hn : n ≤ sizeLine)
    (h : ∀ (h' : Heap) (tk : Nat) (acc : Array Value), (∀ b o, s.heap.get? b = some o → h'.get? b = some o) → ItemsOf P acc n → Q₁ (.ref h'.objs.size) { s with heap := h'.push { cls := .type "tuple", data := .seq acc }, toks := tk }) :
    codeAny (model prog w) A (.call (.builtin "tuple.__new__") ⟨[.type "tuple", .ref r], []⟩) (wants Q₁ E) s := by
  refine codeAny_of_tree ?_
  show wpAny _ A.in1 (do checkBuiltinCall "tuple.__new__" ⟨[.type "tuple", .ref r], []⟩; again (.builtin "tuple.__new__" ⟨[.type "tuple", .ref r], []⟩)) _ _ s
  refine wpAny_bind (wpAny_of_eq (PySem.F.newCall_tuple_1 _) (wpAny_pure ⟨plainId_quiet PySem.F.plain_tuple_new _, codeAny_builtin PySem.F.entry_tuple_new ?_⟩))
  rw [Around.under_plainId PySem.F.plain_tuple_new _]
  have hsub := PySem.sub_tuple_self
  have hinit := PySem.init_tuple_lookup
  have hmh := PySem.madeHere_tuple
  have hTI : s.TypeIs (.ref r) T := K.type s hok
  have hnl := K.notList
  have hnt := K.notTuple
  have hh1 : A.in1.handled = none := hh
  wp_walk using wpAny_typeOf hTI, PySem.W.kdu_collect (A := A.in1) K hh1 hok hn
  intro h' tk acc hk hacc
  show wpAny _ _ (Builtin.Tuple.tupleExact acc.toList.toArray >>= fun v => ret v) _ _ _
  unfold Builtin.Tuple.tupleExact
  refine wpAny_bind (wpAny_newObj_type ?_ (by show acc.toList.toArray.size ≤ sizeLine; simp only [Array.toArray_toList]; rw [hacc.1]; exact hn))
  refine wpAny_pure ?_
  have e : acc.toList.toArray = acc := by simp
  rw [e]
  exact h h' tk acc hk hacc
theorem call_tuple_src {Q : Value → Shared → Prop} (K : PySem.W.KdlSrc prog w T r d n P OK) (hh : A.handled = none) (hok : OK s.heap) (hn : n ≤ sizeLine)
    (hQ : ∀ (h' : Heap) (tk : Nat) (acc : Array Value), (∀ b o, s.heap.get? b = some o → h'.get? b = some o) → ItemsOf P acc n → Q (.ref h'.objs.size) { s with heap := h'.push { cls := .type "tuple", data := .seq acc }, toks := tk }) :
    wpAny (model prog w) A (call (.type "tuple") [.ref r]) Q E s := by
  refine callType_codes (Q₁ := fun obj s₁ => s₁.TypeIs obj "tuple" ∧ Q obj s₁) PySem.F.called_tuple (PySem.F.typeCall_tuple_1 _) PySem.F.entry_object_init
    (code_tuple_new_src (A := A.in1) K hh hok hn fun h' tk acc hk hacc => ⟨⟨_, Heap.get?_push_size _ rfl, rfl⟩, hQ h' tk acc hk hacc⟩) fun obj s₁ h₁ => ?_
  exact ⟨h₁.1, PySem.F.args_object_init_2 obj _, object_init_meets PySem.F.called_tuple.init.lookup PySem.F.called_tuple.made (by decide) prog w A.in1 _ s₁ ⟨h₁.1, rfl, h₁.2⟩⟩
set_option maxHeartbeats 1000000 in
theorem meets_enum1 {v : Value} {o : Obj} {H : Heap → Prop} (B : Begins v o H) :
    Meets (Builtin.«enumerate.__new__» ⟨[.type "enumerate", v], []⟩) (fun _ R s => H s.heap ∧
      R (.ok (.ret (.ref (s.heap.push o).objs.size))) { s with heap := (s.heap.push o).push { cls := .type "enumerate", data := .fields #[.none, .bool false, .ref s.heap.objs.size, rawInt 0, .none, .none] } }) :=
  .of_wp fun prog w A R s h => by
    obtain ⟨hp, g, d, tk, os⟩ := s; obtain ⟨h1, h⟩ := h
    have hsub := sub_enumerate
    have q1 : ∀ {A' : Around} {E : Value → Shared → Prop} {Q : Value → Shared → Prop}, Q (.ref hp.objs.size) ⟨hp.push o, g, d, tk, os⟩ → wpAny (model prog w) A' (pyIter v) Q E ⟨hp, g, d, tk, os⟩ :=
      fun q => B.iter prog w _ _ ⟨hp, g, d, tk, os⟩ _ h1 q
    wp_walk using q1
    refine wpAny_stack_any fun st => wpAny_pure ?_
    split
    · rename_i c _ _ _ _ _
      cases (c == Value.type "enumerate")
      · wp_walk using q1
        exact ⟨_, rfl, h⟩
      · wp_walk using q1
        exact ⟨_, rfl, h⟩
    · wp_walk using q1
      exact ⟨_, rfl, h⟩
theorem enum_begins1 {v : Value} {o : Obj} {H : Heap → Prop} {Q : Value → Shared → Prop} (B : Begins v o H) (h1 : H s.heap)
    (h : ∀ h', IsEnum h' (s.heap.objs.size + 1) s.heap.objs.size 0 .none → h'.get? s.heap.objs.size = some o → h'.objs.size = s.heap.objs.size + 2 →
      (∀ b o, s.heap.get? b = some o → h'.get? b = some o) → Q (.ref (s.heap.objs.size + 1)) { s with heap := h' }) :
    wpAny (model prog w) A (call (.type "enumerate") [v]) Q E s := by
  refine callType_new PySem.F.called_enumerate (by decide) (PySem.F.typeCall_enumerate_1 _) (PySem.F.newCall_enumerate_1 _) (fun obj => PySem.F.args_object_init_2 obj _) PySem.F.entry_enumerate_new
    (meets_enum1 B) ⟨h1, ?_⟩
  have hz : (s.heap.push o).objs.size = s.heap.objs.size + 1 := Heap.size_push ..
  show _ ∧ _
  rw [hz]
  have he : IsEnum ((s.heap.push o).push { cls := .type "enumerate", data := .fields #[.none, .bool false, .ref s.heap.objs.size, rawInt 0, .none, .none] }) (s.heap.objs.size + 1) s.heap.objs.size 0 .none := by
    have := Heap.get?_push_size (s.heap.push o) (o := { cls := .type "enumerate", data := .fields #[.none, .bool false, .ref s.heap.objs.size, rawInt 0, .none, .none] }) rfl
    rw [hz] at this; exact this
  refine ⟨⟨_, he, rfl⟩, h _ he (Heap.get?_push_of_some _ (Heap.get?_push_size _ B.free)) (by rw [Heap.size_push, hz]) fun b o x => Heap.get?_push_of_some _ (Heap.get?_push_of_some _ x)⟩
end

/-! ### enumerate(tuple) -/
def IteT (K : PySem.W.Frag) (a : Addr) (xs : List V) : It :=
  ⟨fun i H => SqT K H a xs ∧ i < xs.length, fun i H v H' => ∃ T x, v = .ref T ∧ H T = none ∧ H' = upd H T (.tup [.int (i : Nat), x]) ∧ xs[i]? = some x, fun i H => SqT K H a xs ∧ xs.length ≤ i⟩
theorem turn_enumT {P : Program} {w : World} {K : PySem.W.Frag} {elts : List Expr} {kk : Nat} {tpos : Pos} (a e it : Addr) (its : Array Value) (xs : List V) (hl : xs.length = its.size) :
    Turn P w K (.Tuple elts kk tpos) (IteT K a xs) [e, it] e (fun i h => (∃ old, IsEnum h e it ((i : Nat) : Int) old) ∧ h.IsTupleIter it a i ∧ e ≠ it ∧ i ≤ xs.length ∧ a ≠ it ∧ a ≠ e) where
  mem := by simp
  obj := fun i h st b hb => by
    obtain ⟨⟨old, he⟩, ⟨o, ho, hc, hd⟩, _⟩ := st
    have e' : b = e ∨ b = it := by simpa using hb
    rcases e' with z | z
    · rw [z]; exact ⟨_, he, fun v q => nomatch q⟩
    · rw [z]; exact ⟨o, ho, fun v q => by rw [hd] at q; cases q⟩
  keep := fun i h h' st k => let ⟨⟨old, he⟩, hi, hne⟩ := st; ⟨⟨old, k e (by simp) _ he⟩, hi.at fun o q => k it (by simp) o q, hne⟩
  item := by
    intro X hP hw hK hc i pins s σ H E I hf st hg
    subst hP hw hK
    obtain ⟨⟨old, he⟩, hit, hne, hin, hat, hae⟩ := st
    obtain ⟨hq, hi⟩ := hg
    obtain ⟨its', rv, p, hz⟩ := I.tuple hq
    have hel : e < s.heap.objs.size := Heap.lt_size he
    have hil : it < s.heap.objs.size := by obtain ⟨_, q, _⟩ := hit; exact Heap.lt_size q
    have hx : xs[i]? = some xs[i] := List.getElem?_eq_getElem hi
    obtain ⟨u, hu, ru⟩ := rv.get hx
    have hsz2 : i < its'.toArray.size := by rw [List.size_toArray, ← rv.length]; exact hi
    refine wpAny_pyNext_enum_itemD (Draws.tuple (A := X.A.in1) (I.ok.hd hc) it a hat its'.toArray) he ⟨hit, show s.heap.IsTuple a its'.toArray from p⟩ hsz2 hne (by simp; exact ⟨hne, Ne.symm hae⟩) fun y h' tk hP ho hst' hT hsz hk => ?_
    have hyu : y = u := by
      have h1 : its'[i]? = some y := by simpa using hP
      rw [hu] at h1
      exact (Option.some.inj h1).symm
    subst hyu
    refine ⟨_, rfl, wpAny_letOwnedTupleGo_enum (s := { s with heap := h', toks := tk + 1 }) ho fun h'' he' sb => ?_⟩
    have hT2 : h''.get? s.heap.objs.size = some { cls := .type "tuple", data := .seq #[.int i tk, y] } := (sb.2 _ (Nat.ne_of_gt hel)).trans hT
    have new : ObjOk X.prog X.w (upd H s.heap.objs.size (.tup [.int (i : Nat), xs[i]])) h'' s.heap.objs.size (.tup [.int (i : Nat), xs[i]]) :=
      ⟨by show 2 ≤ sizeLine; decide, [.int i tk, y], .cons ⟨_, rfl⟩ (.cons ru .nil), ⟨_, hT2, rfl, _, rfl⟩⟩
    have I1 : Inv X pins σ (upd H s.heap.objs.size (.tup [.int (i : Nat), xs[i]])) { s with heap := h'', toks := tk + 1 } :=
      I.turnedNew (t' := tk + 1) (ch := [e, it]) (fun b ob hb q => (sb.2 b (fun z => hb (by simp [z]))).trans (hk b ob (fun z => hb (by simp [z])) (fun z => hb (by simp [z])) q)) hf (Nat.le_refl _) new
    refine ⟨.ref s.heap.objs.size, _, I1, rfl, ⟨_, xs[i], rfl, I.hok.fresh (Nat.le_refl _), rfl, hx⟩, ⟨⟨y, ?_⟩, hst'.1.at fun o q => (sb.2 it (Ne.symm hne)).trans q, hne, hi, hat, hae⟩, fun b hb => ?_⟩
    · have e1 : ((i + 1 : Nat) : Int) = (i : Int) + 1 := by omega
      rw [e1]; exact he'
    · have hb' : b < s.heap.objs.size := by
        have e' : b = e ∨ b = it := by simpa using hb
        rcases e' with z | z
        · rw [z]; exact hel
        · rw [z]; exact hil
      rw [upd_ne (Nat.ne_of_lt hb')]
      exact (hf b hb).1
  done := by
    intro X hP hw hK hc i pins s σ H E I hf st hg
    subst hP hw hK
    obtain ⟨⟨old, he⟩, hit, hne, hin, hat, hae⟩ := st
    obtain ⟨hq, hx⟩ := hg
    obtain ⟨its', rv, p, hz⟩ := I.tuple hq
    obtain ⟨f0, f1, f2, f3, f4, f5⟩ := hf it (by simp)
    have hii : i = its'.toArray.size := by rw [List.size_toArray, ← rv.length]; omega
    subst hii
    exact wpAny_pyNext_enum_endD (Draws.tuple (A := X.A.in1) (I.ok.hd hc) it a hat its'.toArray) he ⟨hit, show s.heap.IsTuple a its'.toArray from p⟩ fun h' eb => ⟨rfl, I.turned (t' := s.toks) (fun b o hb q => eb b o hb q) f0 f1 f3 f4 f5⟩
  self := fun A i s Q E st h => let ⟨⟨_, he⟩, _⟩ := st; wpAny_pyIter_enum he h
def iEnT (K : PySem.W.Frag) (ta : TA) : TI := fun σ H R => ta σ H fun vs H1 => ∃ a xs, vs = [.ref a] ∧ SqT K H1 a xs ∧ R (IteT K a xs) H1
theorem pi_enumT {X : Cx} {e : Expr} {ta : TA} {p pos tpos : Pos} {elts : List Expr} {kk : Nat} (hg : Gl X "enumerate") (hm : X.mg "enumerate" = none) (ha : PA X [e] ta) (hs : starEach [e] X.env = [(false, eval e X.env)] := by rfl) :
    PI X (.Tuple elts kk tpos) (.Call (.Name "enumerate" p) [e] [] pos) (iEnT X.K ta) := by
  refine ⟨fun pins s σ H R I h => ?_⟩
  refine Call_ (ld_blt I hg hm boot_enumerate (PyProof.Rows.callWith_type1 (thn (ha.run pos pins s σ H _ I h) fun us s1 ⟨vs, H1, I1, r1, q1⟩ => ?_) hs rfl))
  obtain ⟨a, xs, ex, hq, q⟩ := q1
  subst ex
  cases r1 with
  | cons r rr =>
    cases rr
    cases r
    obtain ⟨its, rv, p', hz⟩ := I1.tuple hq
    have hlt : a < s1.heap.objs.size := p'.lt
    refine enum_begins1 (begins_tuple a its.toArray) (show s1.heap.IsTuple a its.toArray from p') fun h' he hit hsz hk => wpAny_pyIter_enum he ?_
    have I2 : Inv X pins σ H1 { s1 with heap := h' } := I1.kept (t' := s1.toks) hk
    refine ⟨s1.heap.objs.size + 1, [s1.heap.objs.size + 1, s1.heap.objs.size], _, _, H1, rfl, I2, turn_enumT a (s1.heap.objs.size + 1) s1.heap.objs.size its.toArray xs (by rw [List.size_toArray]; exact rv.length),
      ⟨⟨.none, he⟩, ⟨_, hit, rfl, rfl⟩, Nat.succ_ne_self _, Nat.zero_le _, Nat.ne_of_lt hlt, Nat.ne_of_lt (Nat.lt_succ_of_lt hlt)⟩, fun b hb => ?_, q⟩
    have e' : b = s1.heap.objs.size + 1 ∨ b = s1.heap.objs.size := by simpa using hb
    have hle : s1.heap.objs.size ≤ b := by
      rcases e' with z | z
      · rw [z]; exact Nat.le_add_right _ _
      · rw [z]; exact Nat.le_refl _
    exact I1.fpOk hle (I1.hok.fresh hle)
section
variable {K : PySem.W.Frag} {cls : Cl} {ρ0 : List Addr} {H0 : Hp}
theorem wk_enumT {ds : List D} {vs : List V} {a : Addr} (hs : SqT K H0 a vs) (rs : RelDs K ρ0 H0 ds vs) : Wk K cls (IteT K a vs) ρ0 H0 (nxEnum ds) := by
  refine ⟨fun i H ρ h d x k R e => ?_, fun i H ρ h x k R e => ?_⟩
  · have e' := Option.some.inj e
    obtain ⟨d1, h1, e'⟩ := Option.map_eq_some_iff.mp e'
    subst e'
    obtain ⟨v, h3, h4⟩ := (rs.mono x k).get h1
    refine ⟨⟨k.sqt hs, (List.getElem?_eq_some_iff.mp h3).1⟩, fun y H' hy => ?_⟩
    obtain ⟨T, x', rfl, hT, rfl, q1⟩ := hy
    have e1 := Option.some.inj (h3.symm.trans q1)
    subst e1
    exact ⟨upd_grow hT, .tup (SqT.of upd_same) (.cons (.int _) (.cons (h4.mono (Ext.refl _) (Keep.new hT)) .nil))⟩
  · have e' := Option.some.inj e
    refine ⟨k.sqt hs, ?_⟩
    rw [← rs.length]
    exact get_none (by simpa using e')
end
section
variable {X : Cx} {cls : Cl} {tg e o : Expr} {fe fo : E} {fa : As} {pos p : Pos}
theorem xiEnumT {elts : List Expr} {n : Nat} {tpos : Pos} (hm : X.mg "enumerate" = none) (ha : PA X [e] (semA X.K cls fa)) (hg : Gl X "enumerate" := by rfl) (hs : starEach [e] X.env = [(false, eval e X.env)] := by rfl) :
    PI X (.Tuple elts n tpos) (.Call (.Name "enumerate" p) [e] [] pos) (semI X.K cls (iEnumT fa)) := by
  refine pi_of (pi_enumT hg hm ha hs) fun σ H R ⟨ρ, sa, h, nx, h', RH, S, ev, kk⟩ => ?_
  obtain ⟨⟨ds, h1⟩, e1, ev⟩ := bs ev
  refine ⟨ρ, sa, h, ds, h1, RH, S, e1, fun ρ1 vs H1 x1 k1 R1 r1 => ?_⟩
  simp only at ev
  split at ev
  · cases ev
    cases r1 with
    | cons r rr =>
      cases rr
      cases r with
      | @tup _ vs a hs rs => exact ⟨a, vs, rfl, hs, kk ρ1 _ H1 x1 k1 R1 (wk_enumT hs rs)⟩
  · cases ev
theorem rel_range {K : PySem.W.Frag} {ρ : List Addr} {H : Hp} (n : Int) : RelDs K ρ H ((List.range n.toNat).map fun i => D.int (i : Nat)) (rgV 0 n) := by
  unfold rgV
  have e : (n - 0).toNat = n.toNat := by rw [Int.sub_zero]
  rw [e]
  have : ∀ l : List Nat, RelDs K ρ H (l.map fun i => D.int (i : Nat)) (l.map fun i => V.int (0 + (i : Nat))) := fun l => by
    induction l with
    | nil => exact .nil
    | cons a l ih =>
      rw [List.map_cons, List.map_cons, Int.zero_add]
      exact .cons (.int _) ih
  exact this _
theorem xTupRg1 {pr p2 : Pos} (hc : X.calm = true) (hm : X.mg "tuple" = none) (hmr : X.mg "range" = none) (he : PE X e (semE X.K cls fe)) (hg : Gl X "tuple" := by rfl) (hgr : Gl X "range" := by rfl) (na : starEach [e] X.env = (false, eval e X.env) :: starEach [] X.env := by rfl)
    (na2 : starEach [.Call (.Name "range" pr) [e] [] p2] X.env = (false, eval (.Call (.Name "range" pr) [e] [] p2) X.env) :: starEach [] X.env := by rfl) :
    PE X (.Call (.Name "tuple" p) [.Call (.Name "range" pr) [e] [] p2] [] pos) (semE X.K cls (eTupRg1 fe)) := by
  refine pe_of (pe_tupRg hc hg hm (prg_1 hgr hmr he na) na2) fun σ H Q ⟨ρ, sa, h, d, h', R, S, ev, k⟩ => ?_
  obtain ⟨⟨x, h1⟩, e1, ev⟩ := bs ev
  refine ⟨ρ, sa, h, x, h1, R, S, e1, fun ρ1 v H1 x1 k1 R1 r1 => ?_⟩
  simp only at ev
  split at ev
  · rename_i n
    cases hb : (decide (0 ≤ n) && decide (n ≤ 1000000)) with
    | false => rw [hb] at ev; cases ev
    | true =>
      rw [hb] at ev
      cases ev
      simp only [Bool.and_eq_true, decide_eq_true_eq] at hb
      cases r1
      exact ⟨n, rfl, RgOk.of_le (by omega) (by omega) (by omega) hb.1, fun q hq => Fin.tup (fun ρ' w H' e' k' R' r => k ρ' w H' (x1.trans e') (k1.trans k') R' r) R1 (rel_range n) hq⟩
  · cases ev

/-! ### views -/
theorem vals_run {apos mpos : Pos} {pins : List (Addr × Obj)} {s : Shared} {σ : L2.St} {H : Hp} {to : TE} {R : Addr → List (Key × V) → Hp → Prop} (I : Inv X pins σ H s) (ho : PE X o to)
    (hq : to σ H fun x H1 => ∃ a kvs, x = V.ref a ∧ H1 a = some (.dK kvs) ∧ R a kvs H1) (hbase : attributeBase o "values" X.env (eval o X.env) = eval o X.env) (hline : (apos.endLine == mpos.line) = true) :
    wpAny (model X.prog X.w) X.A (eval (.Call (.Attribute o "values" apos) [] [] mpos) X.env) (fun v s1 => ∃ r a kvs H1, v = .ref r ∧ Inv X pins σ H1 s1 ∧ s1.heap.IsValuesView r a ∧ H1 a = some (.dK kvs) ∧ R a kvs H1) X.xe s := by
  refine wpAny_Call_method0_late hbase hline (thn (ho.run pins s σ H _ I hq) fun v s1 ⟨x, H1, I1, r1, a, kvs, ex, ha, q⟩ => ?_)
  subst ex
  obtain rfl : v = Value.ref a := r1
  obtain ⟨_, hsys, vs, rel, dof⟩ := dk_of I1.hok ha
  obtain ⟨ep, dat⟩ := dof.dictAt
  have dat' := dat
  obtain ⟨ob, es, hob, ex, hdat, hko, hpr, hnd⟩ := dat'
  refine ⟨"dict", "dict.values", PySem.F.plainAttrs_dict, PySem.F.slot_dict_values, PySem.F.type_dict_values, ⟨ob, hob, ex.1⟩, fun b e => ?_, Calls.callWith_builtin rfl (PySem.evalArgs_none ?_)⟩
  · cases e
    exact ⟨ob, hob, ex.2.1⟩
  refine call_meetsIn PySem.F.slot_dict_values ⟨ob, hob, ex.1⟩ PySem.F.entry_dict_values (PySem.F.args_dict_values_1 _) (meets_dict_values (mixKind X.prog X.w) a hsys) ⟨⟨vs, dof⟩, ?_⟩
  exact ⟨_, a, kvs, H1, rfl, I1.kept (t' := s1.toks) fun b u e => Heap.get?_push_of_some _ e, ⟨_, Heap.get?_push_size _ rfl, rfl, rfl⟩, ha, q⟩
theorem vals_items {K : PySem.W.Frag} {kvs : List (Key × V)} {vs : List (Key × Value)} {acc : Array Value} (rel : KV kvs vs) (h : ItemsOf (fun i v => ∃ k, vs[i]? = some (k, v)) acc vs.length) : Vals (kvs.map Prod.snd) acc.toList := by
  refine vals_of_at (by rw [List.length_map, Array.length_toList]; exact (KV.length rel).trans h.1.symm) fun j x u h1 h2 => ?_
  obtain ⟨k, hk⟩ := h.2 j u (by rw [← Array.getElem?_toList]; exact h2)
  obtain ⟨y, hy, ry⟩ := KV.at' rel hk
  rw [List.getElem?_map, hy] at h1
  cases h1
  exact ry
theorem relKV_snd {K : PySem.W.Frag} {ρ : List Addr} {H : Hp} {ds : List (Key × D)} {vs : List (Key × V)} (r : RelKV K ρ H ds vs) : RelDs K ρ H (ds.map Prod.snd) (vs.map Prod.snd) := by
  induction r with
  | nil => exact .nil
  | cons r1 t ih => exact .cons r1 ih
theorem xTupVals {apos mpos : Pos} (hc : X.calm = true) (hm : X.mg "tuple" = none) (ho : PE X o (semE X.K cls fo)) (hg : Gl X "tuple" := by rfl) (hbase : attributeBase o "values" X.env (eval o X.env) = eval o X.env := by rfl) (hline : (apos.endLine == mpos.line) = true := by rfl)
    (na : starEach [.Call (.Attribute o "values" apos) [] [] mpos] X.env = (false, eval (.Call (.Attribute o "values" apos) [] [] mpos) X.env) :: starEach [] X.env := by rfl) :
    PE X (.Call (.Name "tuple" p) [.Call (.Attribute o "values" apos) [] [] mpos] [] pos) (semE X.K cls (eTupVals fo)) := by
  refine ⟨fun pins s σ H Q I ⟨ρ, sa, h, d, h', R, S, ev, k⟩ => ?_⟩
  obtain ⟨⟨x, h1⟩, e1, ev⟩ := bs ev
  simp only at ev
  split at ev
  · rename_i j
    split at ev
    · rename_i kvs hd
      cases ev
      refine Call_ (ld_blt I hg hm boot_tuple (PyProof.Rows.callWith_type1 (args_cons (thn (vals_run (R := fun a vs H1 => ∀ p, H1 p = none → Q (.ref p) (upd H1 p (.tup (vs.map Prod.snd)))) I ho ⟨ρ, sa, h, _, _, R, S, e1, fun ρ1 v H1 x1 k1 R1 r1 => ?_⟩ hbase hline)
        fun x s1 ⟨r, a, vs, H1, ex, I1, hv, ha, q⟩ => args_nil ?_) na) na))
      · cases r1 with
        | @obj _ a hj =>
          obtain ⟨vs, hv, rv⟩ := R1.at_ _ _ _ hd hj
          exact ⟨a, vs, rfl, hv, fun p hp => Fin.tup (fun ρ' w H' e' k' R' r => k ρ' w H' (x1.trans e') (k1.trans k') R' r) R1 (relKV_snd rv) hp⟩
      · subst ex
        obtain ⟨z, hsys, us, rel, dof⟩ := dk_of I1.hok ha
        obtain ⟨ep, dat⟩ := dof.dictAt
        have hz : us.length ≤ sizeLine := by rw [← rel.length]; exact z
        refine call_tuple_src (PySem.W.kdl_values (knd := mixKind X.prog X.w) (kvs := us) (ep := ep)) (I1.ok.hd hc) ⟨hv, dat⟩ hz fun h' tk acc hk hi => ?_
        have I2 : Inv X pins σ H1 { s1 with heap := h', toks := tk } := I1.kept hk
        refine ⟨.ref h'.objs.size, upd H1 h'.objs.size (.tup (vs.map Prod.snd)), I2.laid (t' := tk) (fun c o e => Heap.get?_push_of_some _ e) (Nat.le_refl _) (show ObjOk X.prog X.w _ _ _ (.tup (vs.map Prod.snd)) from ⟨by rw [List.length_map]; exact z, acc.toList, vals_items (K := X.K) rel hi, ?_⟩), rfl, q _ (I2.hok.fresh (Nat.le_refl _))⟩
        rw [Array.toArray_toList]; exact IsTup.new _ _
    · cases ev
  · cases ev
theorem xSortVals {apos mpos : Pos} (hc : X.calm = true) (hm : X.mg "sorted" = none) (ho : PE X o (semE X.K cls fo)) (hg : Gl X "sorted" := by rfl) (hbase : attributeBase o "values" X.env (eval o X.env) = eval o X.env := by rfl) (hline : (apos.endLine == mpos.line) = true := by rfl)
    (na : starEach [.Call (.Attribute o "values" apos) [] [] mpos] X.env = (false, eval (.Call (.Attribute o "values" apos) [] [] mpos) X.env) :: starEach [] X.env := by rfl) :
    PE X (.Call (.Name "sorted" p) [.Call (.Attribute o "values" apos) [] [] mpos] [] pos) (semE X.K cls (eSortVals fo)) := by
  refine ⟨fun pins s σ H Q I ⟨ρ, sa, h, d, h', R, S, ev, k⟩ => ?_⟩
  obtain ⟨⟨x, h1⟩, e1, ev⟩ := bs ev
  simp only at ev
  split at ev
  · rename_i j
    split at ev
    · rename_i kvs hd
      split at ev
      · rename_i hl1
        cases ev
        refine wpAny_Call_Name_kw (ld_blt I hg hm (u := .builtin "sorted") (by first | rfl | decide +kernel) ?_ (by first | decide +kernel | decide) (by first | decide +kernel | decide))
        refine PyProof.Rows.callWith_builtin1 (args_cons (thn (vals_run (R := fun a vs H1 => vs.length ≤ 1 ∧ ∀ p, H1 p = none → Q (.ref p) (upd H1 p (.lst (vs.map Prod.snd)))) I ho ⟨ρ, sa, h, _, _, R, S, e1, fun ρ1 v H1 x1 k1 R1 r1 => ?_⟩ hbase hline)
          fun x s1 ⟨r, a, vs, H1, ex, I1, hv, ha, hl2, q⟩ => args_nil ?_) na) na rfl
        · cases r1 with
          | @obj _ a hj =>
            obtain ⟨vs, hv, rv⟩ := R1.at_ _ _ _ hd hj
            exact ⟨a, vs, rfl, hv, by rw [← rv.length]; exact hl1, fun p hp => Fin.lst (fun ρ' w H' e' k' R' r => k ρ' w H' (x1.trans e') (k1.trans k') R' r) R1 (relKV_snd rv) hp⟩
        · subst ex
          obtain ⟨z, hsys, us, rel, dof⟩ := dk_of I1.hok ha
          obtain ⟨ep, dat⟩ := dof.dictAt
          have hz : us.length ≤ sizeLine := by rw [← rel.length]; exact z
          refine Calls.call_function_entry PyProof.Rows.kind_sorted PyProof.Rows.plain_sorted PyProof.Rows.entry_sorted (PyProof.Rows.args_sorted1 _) ?_
          unfold Builtin.«sorted»
          refine wpAny_bind (m := checkCount "sorted" 1 1 _) (wpAny_pure ?_)
          refine wpAny_bind (PySem.W.kdu_collect (A := X.A.in1) (PySem.W.kdl_values (knd := mixKind X.prog X.w) (kvs := us) (ep := ep)) (I1.ok.hd hc) ⟨hv, dat⟩ hz fun h' tk acc hk hacc => ?_)
          have I2 : Inv X pins σ H1 { s1 with heap := h', toks := tk } := I1.kept hk
          have hal : acc.toList.length = us.length := by rw [Array.length_toList, hacc.1]
          have hu1 : us.length ≤ 1 := by rw [← rel.length]; exact hl2
          refine wpAny_bind (wpAny_newList ?_ (by rw [hal]; exact hz))
          have hoL : (h'.push (seqObj "list" acc.toList.toArray 0)).get? h'.objs.size = some (seqObj "list" acc.toList.toArray 0) := Heap.get?_push_size _ rfl
          show wpAny _ _ _ _ _ { s1 with heap := h'.push (seqObj "list" acc.toList.toArray 0), toks := tk }
          refine wpAny_bind (wpAny_holding (wpAny_call_entry PyProof.Rows.slot_list_sort ⟨_, hoL, rfl⟩ PyProof.Rows.entry_list_sort
            (Srt.list_sort_any (s := { s1 with heap := h'.push (seqObj "list" acc.toList.toArray 0), toks := tk }) hoL (by rw [hal]; exact hz) (fun h2 => absurd h2 (by omega)) fun out hp => ⟨_, rfl, ?_⟩)
            (PyProof.Rows.args_list_sort _)))
          have hout : out = acc.toList := by
            have hle : acc.toList.length ≤ 1 := by omega
            revert hp hle
            generalize acc.toList = l
            intro hp hle
            match l, hle with
            | [], _ => exact hp.eq_nil
            | [y], _ => exact hp.eq_singleton
          subst hout
          obtain ⟨e', he'⟩ := PyProof.Rows.sortedHeap_at (vs := acc.toList) (out := acc.toList.toArray) hoL
          refine wpAny_pure ⟨_, rfl, .ref h'.objs.size, upd H1 h'.objs.size (.lst (vs.map Prod.snd)), I2.laid (t' := tk) (fun b u e => ?_) (Nat.le_refl _)
            (show ObjOk X.prog X.w _ _ _ (.lst (vs.map Prod.snd)) from ⟨by rw [List.length_map]; exact z, acc.toList, e', vals_items (K := X.K) rel hacc, he'⟩), rfl, q _ (I2.hok.fresh (Nat.le_refl _))⟩
          have hb : b < h'.objs.size := Heap.lt_size e
          rw [PyProof.Rows.sortedHeap_old (Nat.ne_of_lt hb) (by rw [size_push']; exact Nat.lt_succ_of_lt hb)]
          exact Heap.get?_push_of_some _ e
      · cases ev
    · cases ev
  · cases ev
end
/-! ### repr -/
mutual
theorem toPy_noDict : ∀ {d : D} {p : PyData}, toPy d = some p → p.hasDict = false
  | .non, _, e => by cases e; rfl
  | .bl _, _, e => by cases e; rfl
  | .int _, _, e => by cases e; rfl
  | .str _, _, e => by cases e; rfl
  | .tup ds, _, e => by
    simp only [toPy, Option.map_eq_some_iff] at e
    obtain ⟨ps, e, rfl⟩ := e
    simp only [PyData.hasDict]
    exact toPys_noDict e
  | .obj _, _, e => by cases e
theorem toPys_noDict : ∀ {ds : List D} {ps : List PyData}, toPys ds = some ps → PyData.hasDictAll ps = false
  | [], _, e => by cases e; rfl
  | d :: ds, _, e => by
    simp only [toPys] at e
    obtain ⟨a, ea, e1⟩ := bs e
    simp only [Option.map_eq_some_iff] at e1
    obtain ⟨ps, e2, rfl⟩ := e1
    simp only [PyData.hasDictAll, toPy_noDict ea, toPys_noDict e2, Bool.or_self]
end
section
variable {X : Cx} {pins : List (Addr × Obj)} {σ : L2.St} {H : Hp} {s : Shared} {ρ : List Addr}
mutual
theorem reads_of (I : Inv X pins σ H s) : ∀ {d : D} {v : V} {u : Value} {p : PyData}, RelD X.K ρ H d v → RelV v u → toPy d = some p → ∃ as, Reads s.heap u p as
  | _, _, u, _, .non, r, e => by cases e; cases (show u = Value.none from r); exact ⟨_, .none⟩
  | _, _, u, _, .bl b, r, e => by cases e; cases (show u = Value.bool b from r); exact ⟨_, .bool b⟩
  | _, _, u, _, .int i, r, e => by cases e; obtain ⟨t, rfl⟩ := (show ∃ t, u = Value.int i t from r); exact ⟨_, .int i t⟩
  | _, _, u, _, .str x, r, e => by cases e; obtain ⟨t, rfl⟩ := (show ∃ t, u = Value.str x t from r); exact ⟨_, .str x t⟩
  | _, _, u, _, .tup (a := a) hs rs, r, e => by
    simp only [toPy, Option.map_eq_some_iff] at e
    obtain ⟨ps, e, rfl⟩ := e
    cases (show u = Value.ref a from r)
    obtain ⟨its, rv, ⟨o, ho, hc, n, hd⟩, hz⟩ := I.tuple hs
    obtain ⟨as, q⟩ := readss_of I rs rv e
    exact ⟨as, .tuple ho hc hd (by simpa using q)⟩
  | _, _, _, _, .obj _, _, e => by cases e
theorem readss_of (I : Inv X pins σ H s) : ∀ {ds : List D} {vs : List V} {us : List Value} {ps : List PyData}, RelDs X.K ρ H ds vs → Vals vs us → toPys ds = some ps → ∃ as, ReadsAll s.heap us ps as
  | _, _, _, _, .nil, .nil, e => by cases e; exact ⟨_, .nil⟩
  | _, _, _, _, .cons r rs, .cons q qs, e => by
    simp only [toPys] at e
    obtain ⟨a, ea, e1⟩ := bs e
    simp only [Option.map_eq_some_iff] at e1
    obtain ⟨ps, e2, rfl⟩ := e1
    obtain ⟨as, h1⟩ := reads_of I r q ea
    obtain ⟨bs, h2⟩ := readss_of I rs qs e2
    exact ⟨_, .cons h1 h2⟩
end
theorem c_repr {cls : Cl} (hg : X.A.guards = some []) (hu : X.A.units + 64 < cLine) : CallR X (.builtin "repr") (rMs X.K cls bRepr) := by
  intro pins s σ H xs us Q I rx ⟨ρ, h, ds, d, h', R, r, ev, k⟩
  unfold bRepr at ev
  split at ev
  · obtain ⟨p, ep, ev⟩ := bs ev
    split at ev
    · rename_i hb
      simp only [Bool.and_eq_true, decide_eq_true_eq] at hb
      cases ev
      cases r with
      | cons r1 rr =>
        cases rr
        cases rx with
        | cons q1 q2 =>
          cases q2
          obtain ⟨as, hr⟩ := reads_of I r1 q1 ep
          cases r1 with
          | @tup _ vs a hs rs =>
            cases q1
            exact repr_of_reads' hr hb.1.1 (PyData.noDict_hsm (toPy_noDict ep)) hg (by omega) (fun _ _ e => e) (fun h' u tk hk => ⟨.str _, H, I.kept hk, ⟨u, rfl⟩, k.at R (.str _)⟩) (sz hb.2)
    · cases ev
  · cases ev
end
end Gw
set_option Elab.async false
set_option linter.all false
set_option maxRecDepth 100000
set_option maxHeartbeats 4000000
/-! Gw: tuple * int. -/
namespace Gw
open PySem PyProof.Rows L2
open AutoSeq1 (wpAny_loadPart')
theorem tuple_mul1 (l : Addr) (items : Array Value) (n : Nat) (dd : Option Addr) (sl : Array (Option Value)) (x : Int) (u : Tok) (c0 : (decide (x < -(2 ^ 63)) || decide (x ≥ 2 ^ 63)) = false) (c1 : (items.isEmpty || x == 1) = true) :
    Meets (Builtin.«tuple.__mul__» ⟨[.ref l, .int x u], []⟩) (fun _ R s => s.heap.get? l = some { cls := .type "tuple", dict := dd, data := .seq items n, slots := sl } ∧ R (.ok (.ret (Value.ref l))) s) :=
  .of_wp fun prog w A R s h => by
    obtain ⟨hp, g, d, tk, os⟩ := s
    obtain ⟨hl, h⟩ := h
    have f1 := AutoSeq1.idx_int
    wp_walk using wpAny_loadPart' hl
    repeat (first
      | (refine wpAny_ite_false (decide_eq_false (by rw [c0]; exact Bool.false_ne_true)) ?_; wp_walk using wpAny_loadPart' hl)
      | (refine wpAny_ite_true (decide_eq_true (by rw [c1])) ?_; wp_walk using wpAny_loadPart' hl))
    exact ⟨_, rfl, h⟩
theorem tuple_mul0 (l : Addr) (items : Array Value) (n : Nat) (dd : Option Addr) (sl : Array (Option Value)) (x : Int) (u : Tok) (c0 : (decide (x < -(2 ^ 63)) || decide (x ≥ 2 ^ 63)) = false) (c1 : (items.isEmpty || x == 1) = false) (c2 : (decide (x ≤ 0) || items.isEmpty) = true) :
    Meets (Builtin.«tuple.__mul__» ⟨[.ref l, .int x u], []⟩) (fun _ R s => s.heap.get? l = some { cls := .type "tuple", dict := dd, data := .seq items n, slots := sl } ∧
      R (.ok (.ret (Value.ref s.heap.objs.size))) { s with heap := s.heap.push { cls := Value.type "tuple", data := Data.seq #[] } }) :=
  .of_wp fun prog w A R s h => by
    obtain ⟨hp, g, d, tk, os⟩ := s
    obtain ⟨hl, h⟩ := h
    have f1 := AutoSeq1.idx_int
    wp_walk using wpAny_loadPart' hl
    repeat (first
      | (refine wpAny_ite_false (decide_eq_false (by rw [c0]; exact Bool.false_ne_true)) ?_; wp_walk using wpAny_loadPart' hl)
      | (refine wpAny_ite_false (decide_eq_false (by rw [c1]; exact Bool.false_ne_true)) ?_; wp_walk using wpAny_loadPart' hl)
      | (refine wpAny_ite_true (decide_eq_true (by rw [c2])) ?_; wp_walk using wpAny_loadPart' hl))
    exact ⟨_, rfl, h⟩
def gMulA : G2
  | .tup ds, .int k, h => bif decide (0 ≤ k) && decide (k ≤ 1000) && decide (ds.length ≤ 1000) && !ds.isEmpty then some (.tup (List.replicate k.toNat ds).flatten, h) else none
  | x, y, h => gMul x y h
section
variable {X : Cx} {cls : Cl}
theorem op_gMulA : OpR X (binaryOp .Mult) (rM X.K cls gMulA) := by
  intro pins s σ H x y v u Q I rx ry ⟨ρ, h, dx, dy, d, h', R, r1, r2, ev, kk⟩
  by_cases ht : ∃ ds k, dx = .tup ds ∧ dy = .int k
  · obtain ⟨ds, k, rfl, rfl⟩ := ht
    have ev : (bif decide (0 ≤ k) && decide (k ≤ 1000) && decide (ds.length ≤ 1000) && !ds.isEmpty then some (D.tup (List.replicate k.toNat ds).flatten, h) else none) = some (d, h') := ev
    cases hb : (decide (0 ≤ k) && decide (k ≤ 1000) && decide (ds.length ≤ 1000) && !ds.isEmpty) with
    | false => rw [hb] at ev; cases ev
    | true =>
      rw [hb] at ev
      cases ev
      simp only [Bool.and_eq_true, decide_eq_true_eq, Bool.not_eq_true'] at hb
      obtain ⟨⟨⟨b1, b2⟩, b3⟩, b4⟩ := hb
      cases r1 with
      | @tup _ xs l hT rs =>
        cases r2
        have hne : xs ≠ [] := fun e => by
          subst e
          cases rs
          cases b4
        have hlen := rs.length
        by_cases h2 : 2 ≤ k
        · exact op_repT pins s σ H _ _ v u Q I rx ry ⟨l, k, xs, rfl, rfl, hT, hne, h2, b2, by omega, fun p hp => kk.tup R (rs.flat _) hp⟩
        · cases rx
          obtain ⟨t, rfl⟩ := ry
          obtain ⟨its, r, ⟨⟨cls', dd, data, sl⟩, ho, hc, n, hd⟩, hs⟩ := I.tuple hT
          simp only at hc hd
          subst hc hd
          have c0 : (decide (k < -(2 ^ 63)) || decide (k ≥ 2 ^ 63)) = false := by
            rw [decide_eq_false (by omega), decide_eq_false (by omega)]; rfl
          have hi : its.toArray.isEmpty = false := by
            cases its with
            | nil => cases r; exact absurd rfl hne
            | cons a b => rfl
          by_cases h1 : k = 1
          · subst h1
            refine wpAny_binaryOp_repeat_ref (T := "tuple") (U := "int") (by decide) ⟨_, ho, rfl⟩ (fun s' => typeIs_int s' 1 t) noFill_tuple_mul PySem.F.fills_int_mul PySem.F.slot_int_rmul repeat_tuple PySem.F.slot_int_index.lookup
              (call_meets PySem.F.slot_int_rmul (typeIs_int s 1 t) PySem.F.entry_int_rmul (PySem.F.args_int_rmul_2 _ _) (int_rmul_tuple 1 t l its.toArray n dd sl)
                ⟨ho, rfl, ⟨_, ho, rfl⟩, call_meets PySem.F.slot_tuple_mul ⟨_, ho, rfl⟩ PySem.F.entry_tuple_mul (PySem.F.args_tuple_mul_2 _ _) (tuple_mul1 l its.toArray n dd sl 1 t c0 (by rw [hi]; rfl)) ⟨ho, ?_⟩⟩)
            refine ⟨.ref l, H, I, rfl, kk.at R ?_⟩
            have e : (List.replicate (1 : Int).toNat ds).flatten = ds := by show [ds].flatten = ds; simp
            rw [e]
            exact .tup hT rs
          · have h0 : k = 0 := by omega
            subst h0
            refine wpAny_binaryOp_repeat_ref (T := "tuple") (U := "int") (by decide) ⟨_, ho, rfl⟩ (fun s' => typeIs_int s' 0 t) noFill_tuple_mul PySem.F.fills_int_mul PySem.F.slot_int_rmul repeat_tuple PySem.F.slot_int_index.lookup
              (call_meets PySem.F.slot_int_rmul (typeIs_int s 0 t) PySem.F.entry_int_rmul (PySem.F.args_int_rmul_2 _ _) (int_rmul_tuple 0 t l its.toArray n dd sl)
                ⟨ho, rfl, ⟨_, ho, rfl⟩, call_meets PySem.F.slot_tuple_mul ⟨_, ho, rfl⟩ PySem.F.entry_tuple_mul (PySem.F.args_tuple_mul_2 _ _) (tuple_mul0 l its.toArray n dd sl 0 t c0 (by rw [hi]; rfl) (by rw [decide_eq_true (Int.le_refl 0)]; rfl)) ⟨ho, ?_⟩⟩)
            have hf : H s.heap.objs.size = none := I.hok.fresh (Nat.le_refl _)
            refine ⟨.ref s.heap.objs.size, upd H s.heap.objs.size (.tup []), I.laid (t' := s.toks) (fun b o e => Heap.get?_push_of_some _ e) (Nat.le_refl _) (show ObjOk X.prog X.w _ _ _ (.tup []) from ⟨Nat.zero_le _, [], .nil, ⟨_, Heap.get?_push_size _ rfl, rfl, _, rfl⟩⟩), rfl, ?_⟩
            exact kk.tup R .nil hf
  · have e : gMulA dx dy h = gMul dx dy h := by
      cases dx <;> cases dy <;> first | rfl | (exact absurd ⟨_, _, rfl, rfl⟩ ht)
    rw [e] at ev
    exact op_gMul pins s σ H x y v u Q I rx ry ⟨ρ, h, dx, dy, d, h', R, r1, r2, ev, kk⟩
end
end Gw
set_option Elab.async false
set_option linter.all false
set_option maxRecDepth 100000
set_option maxHeartbeats 4000000
/-! Gw: dicts whose keys are nested tuples. -/
namespace Gw
open PySem PyProof.Rows L2

/-! ### meanings -/
def eqN : NestedKey → NestedKey → Bool := NestedKey.beq
def lookN (k : NestedKey) : List (NestedKey × D) → Option D
  | [] => none
  | (j, d) :: r => bif eqN j k then some d else lookN k r
def putN (k : NestedKey) (d : D) (l : List (NestedKey × D)) : List (NestedKey × D) := bif (lookN k l).isSome then l.map (fun kv => bif eqN kv.1 k then (kv.1, d) else kv) else l ++ [(k, d)]
/-- a tuple as a key -/
def keyN : D → Option NestedKey
  | .tup ds => (nkOf (.tup ds)).bind fun k => bif decide (k.depth ≤ 8) then some k else none
  | _ => none
def eKd0 : E := fun _ h => some (.obj h.n, h.push (.kd []))
/-- d.setdefault(k, x) -/
def eKSetd (o k x : E) : E := fun sa h => (o sa h).bind fun p => (k sa p.2).bind fun q => (x sa q.2).bind fun r => match p.1 with
  | .obj j => match p.2.get j, r.2.get j with
    | some (.kd _), some (.kd kvs) => (keyN q.1).bind fun key => if kvs.length < 1000000 then (match lookN key kvs with
      | some d => some (d, r.2)
      | none => some (r.1, r.2.set j (.kd (kvs ++ [(key, r.1)])))) else none
    | _, _ => none
  | _ => none
def gKIx : G2
  | .obj j, k, h => match h.get j with
    | some (.kd kvs) => (keyN k).bind fun key => (lookN key kvs).map fun d => (d, h)
    | _ => none
  | _, _, _ => none
def bKLen : Fb
  | [.obj j], h => match h.get j with
    | some (.kd kvs) => if kvs.length ≤ 1000000 then some (.int kvs.length, h) else none
    | _ => none
  | _, _ => none
/-- {k: v for ..} -/
def kcL : Nat → Nx → List Nat → Tg → T → E → E → Nat → Nat → AEnv → Ah → Option Ah
  | 0, _, _, _, _, _, _, _, _, _, _ => none
  | n + 1, nx, vs, t, c, ek, e, j, i, sa, h => (nx i h).bind fun o => match o with
    | none => some h
    | some d => (t d (wipeA sa vs)).bind fun sb => (c sb h).bind fun p => bif p.1 then ((ek sb p.2).bind fun u => (e sb u.2).bind fun q => (keyN u.1).bind fun key => match q.2.get j with
        | some (.kd acc) => if acc.length < 1000000 then kcL n nx vs t c ek e j (i + 1) sa (q.2.set j (.kd (putN key q.1 acc))) else none
        | _ => none) else kcL n nx vs t c ek e j (i + 1) sa p.2
def eKc (n : Nat) (it : Itr) (vs : List Nat) (t : Tg) (c : T) (ek e : E) : E := fun sa h => (it sa h).bind fun p => (kcL n p.1 vs t c ek e p.2.n 0 sa (p.2.push (.kd []))).bind fun h2 => some (.obj p.2.n, h2)

/-! ### relations -/
section
variable {X : Cx} {pins : List (Addr × Obj)} {σ : L2.St} {H : Hp} {s : Shared} {ρ : List Addr}
mutual
theorem nested_of (I : Inv X pins σ H s) : ∀ {d : D} {v : V} {u : Value} {k : NestedKey}, RelD X.K ρ H d v → RelV v u → nkOf d = some k → NestedIs s.heap k u
  | _, _, u, _, .non, r, e => by cases e; cases (show u = Value.none from r); exact .none
  | _, _, u, _, .bl b, r, e => by cases e; cases (show u = Value.bool b from r); exact .bool rfl
  | _, _, u, _, .int i, r, e => by cases e; obtain ⟨t, rfl⟩ := (show ∃ t, u = Value.int i t from r); exact .int i t
  | _, _, u, _, .str x, r, e => by cases e; obtain ⟨t, rfl⟩ := (show ∃ t, u = Value.str x t from r); exact .text x t
  | _, _, u, _, .tup (a := a) hs rs, r, e => by
    simp only [nkOf, Option.map_eq_some_iff] at e
    obtain ⟨ps, e, rfl⟩ := e
    cases (show u = Value.ref a from r)
    obtain ⟨its, rv, ⟨o, ho, hc, n, hd⟩, hz⟩ := I.tuple hs
    exact .tup ho hc hd (by simpa using nesteds_of I rs rv e)
  | _, _, _, _, .obj _, _, e => by cases e
theorem nesteds_of (I : Inv X pins σ H s) : ∀ {ds : List D} {vs : List V} {us : List Value} {ks : List NestedKey}, RelDs X.K ρ H ds vs → Vals vs us → nksOf ds = some ks → NestedAll s.heap ks us
  | _, _, _, _, .nil, .nil, e => by cases e; exact .nil
  | _, _, _, _, .cons r rs, .cons q qs, e => by
    simp only [nksOf] at e
    obtain ⟨a, ea, e1⟩ := bs e
    simp only [Option.map_eq_some_iff] at e1
    obtain ⟨ps, e2, rfl⟩ := e1
    exact .cons (nested_of I r q ea) (nesteds_of I rs qs e2)
end
abbrev KU (xs : List (NestedKey × Addr × V)) (us : List (NestedKey × Addr × Value)) : Prop := Paired (fun (p : NestedKey × Addr × V) (q : NestedKey × Addr × Value) => p.1 = q.1 ∧ p.2.1 = q.2.1 ∧ RelV p.2.2 q.2.2) xs us
theorem ku_is (I : Inv X pins σ H s) {kvs : List (NestedKey × D)} {xs : List (NestedKey × Addr × V)} (r : RelK X.K ρ H kvs xs) : ∀ {us : List (NestedKey × Addr × Value)}, KU xs us → ∀ u ∈ us, (nestedKind X.prog X.w).is s.heap u.1 u.2.1 := by
  induction r with
  | nil => intro us q u hu; cases q; cases hu
  | @cons k kd d qa v ds vs h1 h2 h3 h4 t ih =>
    intro us q u hu
    cases q with
    | @cons _ u0 _ _ q1 q2 =>
      rcases List.mem_cons.mp hu with rfl | hu
      · obtain ⟨a1, a2, a3⟩ := q1
        rw [← a1, ← a2]
        exact ⟨nested_of I h3 rfl h1, h2⟩
      · exact ih q2 u hu
/-- the dict as it stands -/
theorem kd_at {cls : Cl} (hP : cls.P = X.prog) (hw : cls.w = X.w) (I : Inv X pins σ H s) {a : Addr} {kvs : List (NestedKey × D)} {xs : List (NestedKey × Addr × V)} (ha : H a = some (KDO cls.P cls.w a xs)) (r : RelK X.K ρ H kvs xs) :
    (a == sysModules) = false ∧ ∃ us, KU xs us ∧ s.heap.DictOfH (nestedKind X.prog X.w) a us := by
  obtain ⟨⟨h1, us, ku, o, es, ep, ho, hx, hd, he, hn⟩, _, _⟩ := (show ObjOk X.prog X.w H s.heap a (KDO cls.P cls.w a xs) from I.hok a _ ha)
  rw [hP, hw] at he
  exact ⟨h1, us, ku, o, es, ep, ho, hx, hd, he, ku_is I r ku, hn⟩
theorem kd_ok {cls : Cl} (hP : cls.P = X.prog) (hw : cls.w = X.w) {H' : Hp} {h' : Heap} {a : Addr} {xs : List (NestedKey × Addr × V)} {us : List (NestedKey × Addr × Value)} (h1 : (a == sysModules) = false) (ku : KU xs us) (d : h'.DictOfH (nestedKind X.prog X.w) a us) : ObjOk X.prog X.w H' h' a (KDO cls.P cls.w a xs) := by
  obtain ⟨o, es, ep, ho, hx, hd, he, hi, hn⟩ := d
  refine ⟨⟨h1, us, ku, o, es, ep, ho, hx, hd, by rw [hP, hw]; exact he, hn⟩, ⟨o, ho⟩, fun g1 g2 p k => ?_⟩
  obtain ⟨a1, vs, b1, o2, es2, ep2, c1, c2⟩ := p
  exact ⟨a1, vs, b1, o2, es2, ep2, k o2 c1, c2⟩
theorem ku_len {xs : List (NestedKey × Addr × V)} {us : List (NestedKey × Addr × Value)} (ku : KU xs us) : xs.length = us.length := Paired.length ku
theorem relK_len {K : PySem.W.Frag} {kvs : List (NestedKey × D)} {xs : List (NestedKey × Addr × V)} (r : RelK K ρ H kvs xs) : kvs.length = xs.length := by
  induction r with
  | nil => rfl
  | cons _ _ _ _ _ ih => simp [ih]
theorem eqN_eq (a b : NestedKey) : eqN a b = decide (a = b) := (NestedKey.decide_eq a b).symm
theorem atKey_cons (x : NestedKey × Addr × Value) (r : List (NestedKey × Addr × Value)) (k : NestedKey) : atKey (x :: r) k = if x.1 = k then some x.2 else atKey r k := by
  unfold atKey
  rw [List.find?_cons]
  by_cases h : x.1 = k
  · simp [h]
  · simp [h]
/-- what is looked up -/
theorem look_rel {K : PySem.W.Frag} {kvs : List (NestedKey × D)} {xs : List (NestedKey × Addr × V)} (r : RelK K ρ H kvs xs) (k : NestedKey) : ∀ {us : List (NestedKey × Addr × Value)}, KU xs us →
    (lookN k kvs = none ∧ atKey us k = none) ∨ ∃ d v p, lookN k kvs = some d ∧ atKey us k = some p ∧ RelV v p.2 ∧ RelD K ρ H d v := by
  induction r with
  | nil => intro us q; cases q; exact .inl ⟨rfl, rfl⟩
  | @cons j kd d qa v ds vs h1 h2 h3 h4 t ih =>
    intro us q
    cases q with
    | @cons _ u0 _ us' q1 q2 =>
      obtain ⟨a1, a2, a3⟩ := q1
      rw [atKey_cons]
      simp only [lookN, eqN_eq]
      have a1' : j = u0.1 := a1
      rw [← a1']
      by_cases e : j = k
      · rw [if_pos e, decide_eq_true e]
        exact .inr ⟨d, v, u0.2, rfl, rfl, a3, h4⟩
      · rw [if_neg e, decide_eq_false e]
        exact ih q2
/-- what is stored -/
theorem map_relN {K : PySem.W.Frag} {kvs : List (NestedKey × D)} {xs : List (NestedKey × Addr × V)} (r : RelK K ρ H kvs xs) (k : NestedKey) {d : D} {v : V} (rd : RelD K ρ H d v) :
    RelK K ρ H (kvs.map fun kv => bif eqN kv.1 k then (kv.1, d) else kv) (xs.map fun x => if x.1 = k then (x.1, x.2.1, v) else x) := by
  induction r with
  | nil => exact .nil
  | @cons j kd d' qa v' ds vs h1 h2 h3 h4 t ih =>
    rw [List.map_cons, List.map_cons, eqN_eq]
    by_cases e : j = k
    · rw [if_pos e, decide_eq_true e]
      exact .cons h1 h2 h3 rd ih
    · rw [if_neg e, decide_eq_false e]
      exact .cons h1 h2 h3 h4 ih
theorem ku_map {xs : List (NestedKey × Addr × V)} (k : NestedKey) {v : V} {u : Value} (ru : RelV v u) : ∀ {us : List (NestedKey × Addr × Value)}, KU xs us → KU (xs.map fun x => if x.1 = k then (x.1, x.2.1, v) else x) (us.map (putAt k u)) := by
  intro us q
  induction q with
  | nil => exact .nil
  | @cons x u0 xs us q1 q2 ih =>
    rw [List.map_cons, List.map_cons]
    refine .cons ?_ ih
    obtain ⟨a1, a2, a3⟩ := q1
    unfold putAt
    by_cases e : x.1 = k
    · rw [if_pos e, if_pos (a1 ▸ e)]
      exact ⟨a1, a2, ru⟩
    · rw [if_neg e, if_neg (fun z => e (a1.trans z))]
      exact ⟨a1, a2, a3⟩
theorem app_relN {K : PySem.W.Frag} {kvs : List (NestedKey × D)} {xs : List (NestedKey × Addr × V)} (r : RelK K ρ H kvs xs) {k : NestedKey} {kd d : D} {q : Addr} {v : V} (h1 : nkOf kd = some k) (h2 : k.depth ≤ 8) (h3 : RelD K ρ H kd (.ref q)) (h4 : RelD K ρ H d v) : RelK K ρ H (kvs ++ [(k, d)]) (xs ++ [(k, q, v)]) := by
  induction r with
  | nil => exact .cons h1 h2 h3 h4 .nil
  | cons g1 g2 g3 g4 t ih => exact .cons g1 g2 g3 g4 ih
theorem ku_app {xs : List (NestedKey × Addr × V)} {k : NestedKey} {q : Addr} {v : V} {u : Value} (ru : RelV v u) : ∀ {us : List (NestedKey × Addr × Value)}, KU xs us → KU (xs ++ [(k, q, v)]) (us ++ [(k, q, u)]) := by
  intro us p
  induction p with
  | nil => exact .cons ⟨rfl, rfl, ru⟩ .nil
  | cons p1 p2 ih => exact .cons p1 ih
theorem keyN_ref {d : D} {v : V} {k : NestedKey} {K : PySem.W.Frag} (r : RelD K ρ H d v) (e : keyN d = some k) : ∃ q, v = .ref q ∧ nkOf d = some k ∧ k.depth ≤ 8 := by
  cases d <;> simp only [keyN] at e <;> try (cases e)
  obtain ⟨k', e1, e2⟩ := bs e
  cases hb : decide (k'.depth ≤ 8) with
  | false => rw [hb] at e2; cases e2
  | true =>
    rw [hb] at e2
    cases e2
    cases r with
    | tup hs rs => exact ⟨_, rfl, e1, of_decide_eq_true hb⟩
/-- the dict behind a store -/
theorem putN_rel {K : PySem.W.Frag} {kvs : List (NestedKey × D)} {xs : List (NestedKey × Addr × V)} (r : RelK K ρ H kvs xs) {us : List (NestedKey × Addr × Value)} (ku : KU xs us) {k : NestedKey} {kd d : D} {q : Addr} {v : V} {u : Value} (h1 : nkOf kd = some k) (h2 : k.depth ≤ 8) (h3 : RelD K ρ H kd (.ref q)) (h4 : RelD K ρ H d v) (ru : RelV v u) :
    ∃ ys, RelK K ρ H (putN k d kvs) ys ∧ KU ys (storedH us k q u) := by
  unfold putN
  rcases look_rel r k ku with ⟨n1, n2⟩ | ⟨d2, v2, p, l1, l2, l3, l4⟩
  · rw [n1, storedH_new n2]
    exact ⟨_, app_relN r h1 h2 h3 h4, ku_app ru ku⟩
  · rw [l1, storedH_old l2]
    exact ⟨_, map_relN r k h4, ku_map k ru ku⟩
end

/-! ### rules -/
section
variable {X : Cx} {cls : Cl} {o e f : Expr} {fo fe ff : E} {apos cpos pos : Pos}
theorem kroom {A : Around} (hu : A.units + 64 < cLine) {P : Program} {w : World} : (nestedKind P w).room A.in1 := by
  show A.in1.units + 8 < cLine
  show A.units + 1 + 8 < cLine
  omega
theorem xKd0 (hP : cls.P = X.prog) (hw : cls.w = X.w) : PE X (.Dict [] [] pos) (semE X.K cls eKd0) := by
  refine ⟨fun pins s σ H Q I ⟨ρ, sa, h, d, h', R, S, ev, k⟩ => ?_⟩
  cases ev
  have hf : H s.heap.objs.size = none := I.hok.fresh (Nat.le_refl _)
  refine wpAny_Dict_empty ⟨.ref s.heap.objs.size, _, I.laid (a := s.heap.objs.size) (o := KDO cls.P cls.w s.heap.objs.size []) (t' := s.toks) (fun _ _ q => Heap.get?_push_of_some _ q) (Nat.le_refl _)
    (kd_ok hP hw (us := []) (beq_eq_false_iff_ne.mpr (Ne.symm (Nat.ne_of_lt I.big))) .nil (Heap.DictOfH.new s.heap)), rfl, ?_⟩
  exact k (ρ ++ [s.heap.objs.size]) _ _ (Ext.app _ _) (Keep.new hf) (R.new hf ⟨[], upd_same, .nil⟩) (.obj (new_at R))
theorem c_klen (hP : cls.P = X.prog) (hw : cls.w = X.w) : CallR X (.builtin "len") (rMs X.K cls bKLen) := by
  intro pins s σ H xs us Q I rx ⟨ρ, h, ds, d, h', R, r, ev, k⟩
  unfold bKLen at ev
  split at ev
  · cases r with
    | cons r1 rr =>
      cases rr
      cases r1 with
      | @obj _ a hj =>
        split at ev
        · rename_i kvs hd
          split at ev
          · rename_i hl
            cases ev
            obtain ⟨xs, hv, rv⟩ := R.at_ _ _ _ hd hj
            cases rx with
            | cons q1 q2 =>
              cases q2
              cases q1
              obtain ⟨hs, us, ku, dd⟩ := kd_at hP hw I hv rv
              have hlen : us.length = kvs.length := by rw [relK_len rv]; exact (ku_len ku).symm
              refine call_len_dictH hs dd (by rw [hlen]; omega) ?_
              rw [hlen]
              exact ⟨.int _, H, I.tok _, ⟨_, rfl⟩, k.at R (.int _)⟩
          · cases ev
        · cases ev
  · cases ev
theorem ix_k (hP : cls.P = X.prog) (hw : cls.w = X.w) (hu : X.A.units + 64 < cLine) : IxR X (rM X.K cls gKIx) := by
  intro value slice pins s σ H x y v u Q I rx ry ⟨ρ, h, dx, dy, d, h', R, r1, r2, ev, k⟩ hs
  unfold gKIx at ev
  split at ev
  · cases r1 with
    | @obj _ a hj =>
      split at ev
      · rename_i kvs hd
        obtain ⟨key, ek, ev⟩ := bs ev
        obtain ⟨d', e1, e2⟩ := Option.map_eq_some_iff.mp ev
        cases e2
        obtain ⟨q, rfl, h1, h2⟩ := keyN_ref r2 ek
        obtain ⟨xs, hv, rv⟩ := R.at_ _ _ _ hd hj
        obtain ⟨hsm, us, ku, dd⟩ := kd_at hP hw I hv rv
        cases (show v = Value.ref a from rx)
        cases (show u = Value.ref q from ry)
        rcases look_rel rv key ku with ⟨n1, _⟩ | ⟨d2, v2, p, l1, l2, l3, l4⟩
        · rw [n1] at e1; cases e1
        · rw [l1] at e1; cases e1
          refine tailD dd.typeIs PySem.F.slot_dict_getitem.lookup hs (wpAny_getItem_heap (kroom hu) ⟨nested_of I r2 rfl h1, h2⟩ dd l2 ?_)
          exact ⟨v2, H, I.tok _, l3, k.at R l4⟩
      · cases ev
  · cases ev
theorem xKIx (hP : cls.P = X.prog) (hw : cls.w = X.w) (hu : X.A.units + 64 < cLine) (ha : PE X o (semE X.K cls fo)) (hb : PE X e (semE X.K cls fe)) (hs : PlainIx e := by exact fun _ _ => rfl) : PE X (.Subscript o e pos) (semE X.K cls (eOp gKIx fo fe)) := pe_of (pe_ix (ix_k hP hw hu) ha hb hs) sem2
theorem xKSetd (hP : cls.P = X.prog) (hw : cls.w = X.w) (hu : X.A.units + 64 < cLine) (ho : PE X o (semE X.K cls fo)) (he : PE X e (semE X.K cls fe)) (hf : PE X f (semE X.K cls ff)) (m : M2 X o "setdefault" apos e f cpos := by exact ⟨rfl, rfl, rfl, rfl⟩) :
    PE X (.Call (.Attribute o "setdefault" apos) [e, f] [] cpos) (semE X.K cls (eKSetd fo fe ff)) := by
  refine ⟨fun pins s σ H Q I ⟨ρ, sa, h, d, h', R, S, ev, k⟩ => ?_⟩
  obtain ⟨⟨x, h1⟩, e1, ev⟩ := bs ev
  obtain ⟨⟨y, h2⟩, e2, ev⟩ := bs ev
  obtain ⟨⟨z, h3⟩, e3, ev⟩ := bs ev
  cases x with
  | obj j =>
    simp only at ev
    split at ev
    · rename_i ks kvs hd0 hd
      obtain ⟨key, ek, ev⟩ := bs ev
      split at ev
      · rename_i hl
        refine wpAny_Call_method m.base m.few m.line PySem.F.plainAttrs_dict PySem.F.slot_dict_setdefault PySem.F.type_dict_setdefault (thn (ho.run pins s σ H (fun v H1 => ∃ ρ1, Ext ρ ρ1 ∧ Keep H H1 ∧ RelH X.K cls ρ1 h1 H1 ∧ RelD X.K ρ1 H1 (.obj j) v) I
          ⟨ρ, sa, h, _, h1, R, S, e1, fun ρ1 v H1 x1 k1 R1 r1 => ⟨ρ1, x1, k1, R1, r1⟩⟩) fun u s1 ⟨v, H1, I1, rx, ρ1, x1, k1, R1, r1⟩ => ?_)
        cases r1 with
        | @obj _ a hj =>
          obtain rfl : u = Value.ref a := rx
          obtain ⟨xs0, hv0, rv0⟩ := R1.at_ _ _ _ hd0 hj
          obtain ⟨hsm0, us0, ku0, dd0⟩ := kd_at hP hw I1 hv0 rv0
          have t2 : ∀ b, Value.ref a = .ref b → ∃ ob, s1.heap.get? b = some ob ∧ ob.dict = none := fun b eb => by
            cases eb
            obtain ⟨ob, es, ep, hob, hex, _⟩ := dd0
            exact ⟨ob, hob, hex.2.1⟩
          refine ⟨dd0.typeIs, t2, ?_⟩
          rw [m.trees]
          refine Calls.callWith_builtin rfl (Calls.evalArgs_plain (Calls.spliced_cons (thn (he.run pins s1 σ H1 (fun v H2 => ∃ ρ2, Ext ρ1 ρ2 ∧ Keep H1 H2 ∧ RelH X.K cls ρ2 h2 H2 ∧ RelD X.K ρ2 H2 y v) I1 ⟨ρ1, sa, h1, y, h2, R1, S.mono x1 k1, e2, fun ρ2 v H2 x2 k2 R2 r2 => ⟨ρ2, x2, k2, R2, r2⟩⟩) fun iv s2 ⟨vy, H2, I2, ry, ρ2, x2, k2, R2, r2⟩ =>
            Calls.spliced_cons (thn (hf.run pins s2 σ H2 (fun v H3 => ∃ ρ3, Ext ρ2 ρ3 ∧ Keep H2 H3 ∧ RelH X.K cls ρ3 h3 H3 ∧ RelD X.K ρ3 H3 z v) I2 ⟨ρ2, sa, h2, z, h3, R2, S.mono (x1.trans x2) (k1.trans k2), e3, fun ρ3 v H3 x3 k3 R3 r3 => ⟨ρ3, x3, k3, R3, r3⟩⟩) fun fv s3 ⟨vz, H3, I3, rz, ρ3, x3, k3, R3, r3⟩ => Calls.spliced_nil ?_))))
          have r2' := r2.mono x3 k3
          obtain ⟨q, rfl, n1, n2⟩ := keyN_ref r2' ek
          obtain rfl : iv = Value.ref q := ry
          have hj3 := x3 _ _ (x2 _ _ hj)
          obtain ⟨xs, hv, rv⟩ := R3.at_ _ _ _ hd hj3
          obtain ⟨hsm, us, ku, dd⟩ := kd_at hP hw I3 hv rv
          have hz : us.length ≤ sizeLine := by rw [← ku_len ku, ← relK_len rv]; exact sz (by omega)
          refine call_setdefault_heap (kroom hu) ⟨nested_of I3 r2' rfl n1, n2⟩ hsm dd (fun p hp => ?_) (fun hn h4 dd4 hs4 => ?_) hz
          · rcases look_rel rv key ku with ⟨m1, m2⟩ | ⟨d2, v2, p2, l1, l2, l3, l4⟩
            · rw [m2] at hp; cases hp
            · rw [l2] at hp; cases hp
              rw [l1] at ev
              cases ev
              exact ⟨v2, H3, I3.tok _, l3, k ρ3 v2 H3 (x1.trans (x2.trans x3)) (k1.trans (k2.trans k3)) R3 l4⟩
          · rcases look_rel rv key ku with ⟨m1, m2⟩ | ⟨d2, v2, p2, l1, l2, l3, l4⟩
            · rw [m1] at ev
              cases ev
              rw [storedH_new hn] at dd4
              have heq : ∃ q, h4.get? a = some q := let ⟨q, _, _, hq, _⟩ := dd4; ⟨q, hq⟩
              have kw : Keep H3 (upd H3 a (KDO cls.P cls.w a (xs ++ [(key, q, vz)]))) := Keep.write hv trivial
              refine ⟨vz, _, d_write (ob := KDO cls.P cls.w a (xs ++ [(key, q, vz)])) I3 (by rw [hv]; exact True.intro) hs4 heq (kd_ok hP hw hsm (ku_app rz ku) dd4), rz, ?_⟩
              exact k ρ3 vz _ (x1.trans (x2.trans x3)) (k1.trans (k2.trans (k3.trans kw))) (R3.write (o := .kd (kvs ++ [(key, _)])) hj3 hv trivial ⟨_, upd_same, (app_relN rv n1 n2 r2' r3).mono (Ext.refl _) kw⟩) (r3.mono (Ext.refl _) kw)
            · rw [l2] at hn; cases hn
      · cases ev
    · cases ev
  | _ => cases ev
end
end Gw
set_option Elab.async false
set_option linter.all false
set_option maxRecDepth 100000
set_option maxHeartbeats 4000000
/-! Gw: dict comprehensions with a dict of any form. -/
namespace Gw
open PySem PyProof.Rows L2

/-- how a block stores into its new dict -/
def PutOk (X : Cx) (put : Hp → Addr → V → V → Hp → Prop) : Prop :=
  ∀ (s3 : Shared) (H3 : Hp) (scope : Scope) (ce : Env) (fp : List Addr) (pins : List (Addr × Obj)) (σ : L2.St) (H H' : Hp) (s : Shared) (D : Addr) (y z : V) (u r : Value) (Q : Unit → Shared → Prop) (E : Value → Shared → Prop),
    Inv (X.blk s3 H3 scope ce fp) pins σ H s → RelV y u → RelV z r → put H D y z H' → (∀ s', Inv (X.blk s3 H3 scope ce fp) pins σ H' s' → Q () s') → wpAny (model X.prog X.w) X.A (dictSet D u r) Q E s
/-- {k: v for target in iter if ..}: O0 the new dict's form -/
def tDcG (O0 : Addr → HO) (put : Hp → Addr → V → V → Hp → Prop) (wi : TI) (g : TG) (tt : TT) (tk tv : TE) (vs : List Nat) : TE := fun σ H Q => wi σ H fun J H1 => ∀ D, H1 D = none → ∃ W : Nat → Nat → Hp → Prop, (∃ m, W 0 m (upd H1 D (O0 D))) ∧ ∀ i m H, W i m H →
  (J.stop i H ∧ Q (.ref D) H) ∨ (J.go i H ∧ ∃ Nx : Hp → Prop, (∀ H', Nx H' → ∃ m', m' < m ∧ W (i + 1) m' H') ∧ ∀ x H', J.yld i H x H' → g x (wipe σ vs) H' fun σ2 H2 => wipe σ2 vs = wipe σ vs ∧ tt σ2 H2 fun b H3 =>
    if b = true then tk σ2 H3 fun y H4 => tv σ2 H4 fun z H5 => ∃ H6, put H5 D y z H6 ∧ Nx H6 else Nx H3)
section
variable {X : Cx} {O0 : Addr → HO} {put : Hp → Addr → V → V → Hp → Prop}
theorem dcg_core {pins : List (Addr × Obj)} {s : Shared} {σ : L2.St} {H : Hp} {Q : VK} {kx vx tg iter : Expr} {ifs : List Expr} {scope : Scope} {own : List (Str × Nat)} {pos pos' : Pos} {wi : TI} {g : TG} {tt : TT} {tk tv : TE} {use : Option (Value → Sem Unit)} {Qf : Value → Shared → Prop}
    (hnew : ∀ (H : Hp) (h : Heap), sysModules < h.objs.size → ObjOk X.prog X.w H (h.push { cls := .type "dict", data := .dict #[] }) h.objs.size (O0 h.objs.size)) (hput : PutOk X put)
    (hc : X.calm = true) (hN : X.N.Nodup) (I : Inv X pins σ H s) (hi : PI X tg iter wi) (ok : BlkOk X.N X.env.scope scope own)
    (hg : ∀ (s : Shared) (H : Hp) (C : Addr) (cl : List (Str × Addr)) (fp : List Addr), PG (X.blk s H scope (compEnvC scope cl C X.env) fp) tg g) (ht : ∀ (s : Shared) (H : Hp) (C : Addr) (cl : List (Str × Addr)) (fp : List Addr), PTs (X.blk s H scope (compEnvC scope cl C X.env) fp) ifs tt)
    (hk : ∀ (s : Shared) (H : Hp) (C : Addr) (cl : List (Str × Addr)) (fp : List Addr), PE (X.blk s H scope (compEnvC scope cl C X.env) fp) kx tk)
    (he : ∀ (s : Shared) (H : Hp) (C : Addr) (cl : List (Str × Addr)) (fp : List Addr), PE (X.blk s H scope (compEnvC scope cl C X.env) fp) vx tv) (hs : ∀ x, foldedSetIterable iter X.env x = pure x)
    (h : tDcG O0 put wi g tt tk tv (own.map (·.2)) σ H Q)
    (hRR : ∀ D C s' m H', Inv X pins σ H' s' → Q (.ref D) H' → s'.heap.Ns C m → FpOk X pins H' C → compPost (model X.prog X.w) X.A X.xe use Qf (.ref D) C (.ok .next) s') :
    wpAny (model X.prog X.w) X.A (comprehension (.DictComp kx vx [⟨tg, iter, ifs, 0⟩] scope pos) scope X.env pos' newDict false (eval iter X.env) use) Qf X.xe s := by
  have hfree : ∀ y ∈ scope.names, y.2 = .free → ∃ c, X.env.cells.lookup y.1 = some c := fun y hy e => by
    rcases ok.free y hy e with k | k
    · exact I.ok.has _ (.inl k)
    · exact I.ok.has _ (.inr k)
  refine wpAny_comprehension_free (use := use) rfl hs (closure_ok hfree) ok.kind (fun y hy e => by rw [ok.uniq y hy, e])
    (thn (hi.run pins s σ H _ I h) fun xv s1 hx => thn hx fun itv s2 h2 => ?_)
  obtain ⟨it, fp, tn, J, H2, e, I2, T, st2, f2, q⟩ := h2
  subst e
  refine wpAny_newObj_type (newEnv_comp ?_)
  generalize hD : s2.heap.objs.size = D
  have hDn : H2 D = none := I2.hok.fresh (Nat.le_of_eq hD)
  obtain ⟨W, ⟨m0, w0⟩, turn⟩ := q D hDn
  generalize hs3 : ({ s2 with heap := s2.heap.push { cls := .type "dict", data := .dict #[] } } : Shared) = s3
  have I3 : Inv X pins σ (upd H2 D (O0 D)) s3 := by
    rw [← hs3]
    refine I2.laid (t' := s2.toks) (fun b o e => Heap.get?_push_of_some _ e) (Nat.le_of_eq hD) ?_
    rw [← hD]
    exact hnew _ s2.heap I2.big
  have h3 : s3.heap = s2.heap.push { cls := .type "dict", data := .dict #[] } := by rw [← hs3]
  have below : ∀ b ∈ fp, b < s2.heap.objs.size := fun b hb => by
    obtain ⟨o, e, _⟩ := T.obj _ _ st2 b hb
    exact Heap.lt_size e
  have f3 : ∀ b ∈ fp, FpOk X pins (upd H2 D (O0 D)) b ∧ b < s3.heap.objs.size := fun b hb => by
    have hlt := below b hb
    refine ⟨⟨?_, (f2 b hb).2⟩, by rw [h3, Heap.size_push]; exact Nat.lt_succ_of_lt hlt⟩
    rw [upd_ne (by rw [← hD]; exact Nat.ne_of_lt hlt)]
    exact (f2 b hb).1
  have st3 : tn 0 s3.heap := T.keep _ _ _ st2 fun b _ o e => by rw [h3]; exact Heap.get?_push_of_some _ e
  have I4 := block_start I3 ok hN f3
  have pg := hg s3 (upd H2 D (O0 D)) s3.heap.objs.size (cellsFrom (s3.heap.objs.size + 1) scope.names (cloFrom X.env.cells scope.names [])) fp
  have pt := ht s3 (upd H2 D (O0 D)) s3.heap.objs.size (cellsFrom (s3.heap.objs.size + 1) scope.names (cloFrom X.env.cells scope.names [])) fp
  have pk := hk s3 (upd H2 D (O0 D)) s3.heap.objs.size (cellsFrom (s3.heap.objs.size + 1) scope.names (cloFrom X.env.cells scope.names [])) fp
  have pe := he s3 (upd H2 D (O0 D)) s3.heap.objs.size (cellsFrom (s3.heap.objs.size + 1) scope.names (cloFrom X.env.cells scope.names [])) fp
  show codeAny _ _ (.compStart (.DictComp kx vx [⟨tg, iter, ifs, 0⟩] scope pos) 0 (.ref it) (.ref D) (compEnvC scope (cellsFrom (s3.heap.objs.size + 1) scope.names (cloFrom X.env.cells scope.names [])) s3.heap.objs.size X.env)) (compPost (model X.prog X.w) X.A X.xe use Qf (.ref D) s3.heap.objs.size) { s3 with heap := pushCells (s3.heap.push { cls := .type "dict", data := .dict #[] }) scope.names }
  have nfp : ∀ b ∈ fp, (upd H2 D (O0 D)) b = none := fun b hb => (f3 b hb).1.1
  generalize hce : compEnvC scope (cellsFrom (s3.heap.objs.size + 1) scope.names (cloFrom X.env.cells scope.names [])) s3.heap.objs.size X.env = ce at I4 pg pt pk pe ⊢
  have cL : ce.locals = s3.heap.objs.size := by subst hce; rfl
  generalize hH3 : upd H2 D (O0 D) = H3 at I3 I4 pg pt pk pe w0 nfp f3
  generalize hs4 : ({ s3 with heap := pushCells (s3.heap.push { cls := .type "dict", data := .dict #[] }) scope.names } : Shared) = s4 at I4 ⊢
  have st4 : tn 0 s4.heap := T.keep _ _ _ st3 fun b _ o e => by rw [← hs4]; exact pushCells_keeps _ _ _ _ (Heap.get?_push_of_some _ e)
  have stat : ∀ {σ' : L2.St} {H' : Hp} {s' : Shared}, Inv (X.blk s3 H3 scope ce fp) [] σ' H' s' → (∀ b ∈ fp, H' b = none) → ∀ b ∈ fp, FpOk (X.blk s3 H3 scope ce fp) [] H' b := fun {σ' H' s'} I' hn b hb =>
    ⟨hn b hb, (I'.ok.exf b hb).1, I'.ok.exfs b hb, .inl hb, fun x c e => (I'.ok.exf b hb).2 x c e, fun p hp => absurd (show p ∈ ([] : List (Addr × Obj)) ++ [] from hp) (by simp)⟩
  have loop : codeAny (model X.prog X.w) X.A (.compLoop (.DictComp kx vx [⟨tg, iter, ifs, 0⟩] scope pos) 0 (.ref it) (.ref D) ce) (compPost (model X.prog X.w) X.A X.xe use Qf (.ref D) s3.heap.objs.size) s4 := by
    refine compLoop_anyD (fun n s' => ∃ i H', Inv (X.blk s3 H3 scope ce fp) [] (wipe σ (own.map (·.2))) H' s' ∧ tn i s'.heap ∧ (∀ b ∈ fp, H' b = none) ∧ W i n H') ?_ m0 ⟨0, H3, I4, st4, nfp, w0⟩
    rintro n s5 ⟨i, H5, I5, st5, n5, w5⟩
    rcases turn i n H5 w5 with ⟨stop, qq⟩ | ⟨go, Nx, hNx, step⟩
    · refine thnF (T.done (X.blk s3 H3 scope ce fp) rfl rfl rfl hc i [] s5 _ H5 (fun _ _ => False) I5 (stat I5 n5) st5 stop) fun r s6 ⟨hr, I6⟩ => ?_
      subst hr
      have I7 : Inv X pins σ H5 s6 := I3.call' (ch := fp) I6.os I6.base I6.hok I6.bare fun b hb => ⟨(f3 b hb).1.2.2.2.1, (f3 b hb).1.2.1, (f3 b hb).1.2.2.2.2.1, (f3 b hb).1.2.2.2.2.2⟩
      have nC : H5 s3.heap.objs.size = none := by
        have z : H5 ce.locals = none := I6.free
        rw [cL] at z
        exact z
      obtain ⟨m, hn, _⟩ := I6.loc
      have hn : s6.heap.Ns ce.locals m := hn
      rw [cL] at hn
      exact hRR D s3.heap.objs.size s6 m H5 I7 qq hn (I3.fpOk (Nat.le_refl _) nC)
    · refine thnF (T.item (X.blk s3 H3 scope ce fp) rfl rfl rfl hc i [] s5 _ H5 (fun _ _ => False) I5 (stat I5 n5) st5 go) fun r s6 ⟨u, hr, h6⟩ => ?_
      subst hr
      refine thnF h6 fun _ s7 ⟨x, H7, I7, r7, y7, st7, n7⟩ => ?_
      have I7' := I7.pinned (stat I7 n7) (T.obj _ _ st7)
      refine thnF (pg.run _ s7 _ H7 x u _ I7' r7 (step x H7 y7)) fun _ s8 ⟨σ8, H8, I8, hw8, q8⟩ => ?_
      refine thnF (pt.run _ s8 σ8 H8 _ I8 q8) fun b s9 ⟨H9, I9, q9⟩ => ?_
      have fin : ∀ {s' : Shared} {H' : Hp}, Inv (X.blk s3 H3 scope ce fp) ([] ++ pinsAt fp s7.heap) σ8 H' s' → Nx H' → ∃ m, m < n ∧ ∃ i H', Inv (X.blk s3 H3 scope ce fp) [] (wipe σ (own.map (·.2))) H' s' ∧ tn i s'.heap ∧ (∀ b ∈ fp, H' b = none) ∧ W i m H' := fun {s' H'} I' nx => by
        obtain ⟨m', hm, w'⟩ := hNx H' nx
        have pin' : ∀ b ∈ fp, ∀ o, s7.heap.get? b = some o → s'.heap.get? b = some o ∧ H' b = none := fun b hb o e =>
          let z := I'.pin (b, o) (List.mem_append_right _ (List.mem_append_right _ (mem_pinsAt hb e)))
          ⟨z.1, z.2.1⟩
        have hl : (wipe σ (own.map (·.2))).length = σ8.length := by rw [← hw8, wipe_length]
        refine ⟨m', hm, i + 1, H', (I'.unpinned (pins := [])).weak hl (fun j v e => ?_), T.keep _ _ _ st7 fun b hb o e => (pin' b hb o e).1, fun b hb => ?_, w'⟩
        · rw [← hw8] at e
          exact (wipe_some e).1
        · obtain ⟨o, e, _⟩ := T.obj _ _ st7 b hb
          exact (pin' b hb o e).2
      cases b with
      | false =>
        simp only [Bool.false_eq_true, if_false] at q9 ⊢
        exact fin I9 q9
      | true =>
        simp only [if_true] at q9 ⊢
        refine thnF (pk.run _ s9 σ8 H9 _ I9 q9) fun z s10 ⟨yk, H10, I10, r10, q10⟩ => ?_
        refine thnF (pe.run _ s10 σ8 H10 _ I10 q10) fun z2 s11 ⟨yv, H11, I11, r11, H6, hp, nx⟩ => ?_
        exact hput s3 H3 scope ce fp _ σ8 H11 H6 s11 D yk yv z z2 _ _ I11 r10 r11 hp fun s12 I12 => fin I12 nx
  exact codeAny_compStart_dict loop (T.self X.A 0 _ _ _ st4 loop)
theorem pe_dcg {kx vx tg iter : Expr} {ifs : List Expr} {scope : Scope} {own : List (Str × Nat)} {pos : Pos} {wi : TI} {g : TG} {tt : TT} {tk tv : TE}
    (hnew : ∀ (H : Hp) (h : Heap), sysModules < h.objs.size → ObjOk X.prog X.w H (h.push { cls := .type "dict", data := .dict #[] }) h.objs.size (O0 h.objs.size)) (hput : PutOk X put)
    (hc : X.calm = true) (hN : X.N.Nodup) (hi : PI X tg iter wi) (ok : BlkOk X.N X.env.scope scope own)
    (hg : ∀ (s : Shared) (H : Hp) (C : Addr) (cl : List (Str × Addr)) (fp : List Addr), PG (X.blk s H scope (compEnvC scope cl C X.env) fp) tg g) (ht : ∀ (s : Shared) (H : Hp) (C : Addr) (cl : List (Str × Addr)) (fp : List Addr), PTs (X.blk s H scope (compEnvC scope cl C X.env) fp) ifs tt)
    (hk : ∀ (s : Shared) (H : Hp) (C : Addr) (cl : List (Str × Addr)) (fp : List Addr), PE (X.blk s H scope (compEnvC scope cl C X.env) fp) kx tk)
    (he : ∀ (s : Shared) (H : Hp) (C : Addr) (cl : List (Str × Addr)) (fp : List Addr), PE (X.blk s H scope (compEnvC scope cl C X.env) fp) vx tv) (hs : ∀ x, foldedSetIterable iter X.env x = pure x := by intro _; rfl) :
    PE X (.DictComp kx vx [⟨tg, iter, ifs, 0⟩] scope pos) (tDcG O0 put wi g tt tk tv (own.map (·.2))) := by
  refine ⟨fun pins s σ H Q I h => ?_⟩
  rw [arm_eval_DictComp]
  refine dcg_core hnew hput hc hN I hi ok hg ht hk he hs h fun D C s' m H' I' q hn f => ⟨m, hn, fun h'' sb => ?_⟩
  obtain ⟨f0, f1, f2, f3, f4, f5⟩ := f
  exact ⟨.ref D, H', I'.turned (t' := s'.toks) (fun b o hb e => (sb.2 b hb).trans e) f0 f1 f3 f4 f5, rfl, q⟩
end

/-! ### nested keys -/
def putKd (K : PySem.W.Frag) (cls : Cl) : Hp → Addr → V → V → Hp → Prop := fun H D y z H' => ∃ ρ kvs xs kd key d q, H D = some (KDO cls.P cls.w D xs) ∧ RelK K ρ H kvs xs ∧ kvs.length < 1000000 ∧ y = .ref q ∧ nkOf kd = some key ∧ key.depth ≤ 8 ∧ RelD K ρ H kd (.ref q) ∧ RelD K ρ H d z ∧
  ∃ ys, (∀ us r, KU xs us → RelV z r → KU ys (storedH us key q r)) ∧ H' = upd H D (KDO cls.P cls.w D ys)
section
variable {X : Cx} {cls : Cl}
theorem put_ok (hP : cls.P = X.prog) (hw : cls.w = X.w) (hu : X.A.units + 64 < cLine) : PutOk X (putKd X.K cls) := by
  intro s3 H3 scope ce fp pins σ H H' s D y z u r Q E I ry rz ⟨ρ, kvs, xs, kd, key, d, q, hD, rk, hl, ey, n1, n2, rkd, rd, ys, hys, eH⟩ hQ
  subst ey
  obtain rfl : u = Value.ref q := ry
  obtain ⟨hsm, us, ku, dd⟩ := kd_at (X := X.blk s3 H3 scope ce fp) hP hw I hD rk
  have hz : us.length ≤ sizeLine := by rw [← ku_len ku, ← relK_len rk]; exact sz (by omega)
  have dd : s.heap.DictOfH (nestedKind X.prog X.w) D us := dd
  have hk : (nestedKind X.prog X.w).is s.heap key q := ⟨nested_of (X := X.blk s3 H3 scope ce fp) I rkd rfl n1, n2⟩
  refine wpAny_dictSet_heap (knd := nestedKind X.prog X.w) (hsz := hz) (show X.A.units + 8 < cLine by omega) hk dd fun h' dd' hs => hQ _ ?_
  subst eH
  have heq : ∃ q, h'.get? D = some q := let ⟨q, _, _, hq, _⟩ := dd'; ⟨q, hq⟩
  exact d_write (ob := KDO cls.P cls.w D ys) I (by rw [hD]; exact True.intro) hs heq (kd_ok (X := X.blk s3 H3 scope ce fp) hP hw hsm (hys us r ku rz) dd')
theorem putN_rel2 {K : PySem.W.Frag} {ρ : List Addr} {H : Hp} {kvs : List (NestedKey × D)} {xs : List (NestedKey × Addr × V)} (r : RelK K ρ H kvs xs) {k : NestedKey} {kd d : D} {q : Addr} {v : V} (h1 : nkOf kd = some k) (h2 : k.depth ≤ 8) (h3 : RelD K ρ H kd (.ref q)) (h4 : RelD K ρ H d v) :
    ∃ ys, RelK K ρ H (putN k d kvs) ys ∧ ∀ us u, KU xs us → RelV v u → KU ys (storedH us k q u) := by
  have lk : ∀ us, KU xs us → (lookN k kvs).isSome = (atKey us k).isSome := fun us ku => by
    rcases look_rel r k ku with ⟨n1, n2⟩ | ⟨d2, v2, p, l1, l2, l3, l4⟩
    · rw [n1, n2]; rfl
    · rw [l1, l2]; rfl
  unfold putN
  cases hb : (lookN k kvs).isSome with
  | true =>
    refine ⟨_, map_relN r k h4, fun us u ku ru => ?_⟩
    have e := lk us ku
    rw [hb] at e
    unfold storedH
    rw [← e, if_pos rfl]
    exact ku_map k ru ku
  | false =>
    refine ⟨_, app_relN r h1 h2 h3 h4, fun us u ku ru => ?_⟩
    have e := lk us ku
    rw [hb] at e
    unfold storedH
    rw [← e, if_neg Bool.false_ne_true]
    exact ku_app ru ku
theorem semKc {K : PySem.W.Frag} {wi : Itr} {g : TG} {t : Tg} {c : T} {ek e : E} {n : Nat} {vs : List Nat} (ct : CT K g t vs) :
    ∀ σ H Q, semE K cls (eKc n wi vs t c ek e) σ H Q → tDcG (fun D => KDO cls.P cls.w D []) (putKd K cls) (semI K cls wi) g (semT K cls c) (semE K cls ek) (semE K cls e) vs σ H Q := by
  intro σ H Q ⟨ρ, sa, h, d, h', R, S, ev, k⟩
  obtain ⟨⟨nx, h1⟩, e1, ev⟩ := bs ev
  obtain ⟨h2, e2, ev⟩ := bs ev
  cases ev
  refine ⟨ρ, sa, h, nx, h1, R, S, e1, fun ρ1 J H1 x1 k1 R1 wk D hD => ?_⟩
  have kn : Keep H1 (upd H1 D (KDO cls.P cls.w D [])) := Keep.new hD
  have R2 : RelH K cls (ρ1 ++ [D]) (h1.push (.kd [])) (upd H1 D (KDO cls.P cls.w D [])) := R1.new hD ⟨[], upd_same, .nil⟩
  have hD2 := new_at (p := D) R1
  have S2 := S.mono (x1.trans (Ext.app ρ1 [D])) (k1.trans kn)
  refine ⟨fun i m H => ∃ ρ h, Ext (ρ1 ++ [D]) ρ ∧ Keep (upd H1 D (KDO cls.P cls.w D [])) H ∧ RelH K cls ρ h H ∧ kcL m nx vs t c ek e h1.n i sa h = some h', ⟨n, _, _, Ext.refl _, Keep.refl _, R2, e2⟩, ?_⟩
  rintro i m H ⟨ρ, h, x, kk, R, ev⟩
  cases m with
  | zero => cases ev
  | succ m =>
    unfold kcL at ev
    obtain ⟨od, e2, ev⟩ := bs ev
    cases od with
    | none => cases ev; exact .inl ⟨wk.stop i H ρ _ ((Ext.app _ _).trans x) (kn.trans kk) R e2, k ρ _ H (x1.trans ((Ext.app _ _).trans x)) (k1.trans (kn.trans kk)) R (.obj (x _ _ hD2))⟩
    | some d =>
      obtain ⟨go, yl⟩ := wk.go i H ρ h d ((Ext.app _ _).trans x) (kn.trans kk) R e2
      obtain ⟨sb, e3, ev⟩ := bs ev
      obtain ⟨⟨b, h3⟩, e4, ev⟩ := bs ev
      refine .inr ⟨go, fun H => ∃ ρ h, Ext (ρ1 ++ [D]) ρ ∧ Keep (upd H1 D (KDO cls.P cls.w D [])) H ∧ RelH K cls ρ h H ∧ kcL m nx vs t c ek e h1.n (i + 1) sa h = some h', fun H' q => ⟨m, Nat.lt_succ_self m, q⟩, fun y H' hy => ?_⟩
      obtain ⟨gr, rd⟩ := yl y H' hy
      have kg := grow_keep gr
      refine ct.run y _ H' _ ρ (wipeA sa vs) sb d (((S2.mono x kk).mono (Ext.refl _) kg).wipe vs) rd e3 fun σ2 S2 w2 => ⟨w2.trans (wipe_wipe σ vs), ⟨ρ, sb, h, b, h3, R.grow gr, S2, e4, fun ρ3 H3 x3 k3 R3 => ?_⟩⟩
      cases b with
      | false =>
        rw [if_neg Bool.false_ne_true]
        exact ⟨ρ3, h3, x.trans x3, kk.trans (kg.trans k3), R3, ev⟩
      | true =>
        rw [if_pos rfl]
        obtain ⟨⟨d1, h4⟩, e5, ev⟩ := bs ev
        obtain ⟨⟨d2, h5⟩, e6, ev⟩ := bs ev
        obtain ⟨key, e7, ev⟩ := bs ev
        refine ⟨ρ3, sb, h3, d1, h4, R3, S2.mono x3 k3, e5, fun ρ4 v1 H4 x4 k4 R4 r4 => ⟨ρ4, sb, h4, d2, h5, R4, S2.mono (x3.trans x4) (k3.trans k4), e6, fun ρ5 v2 H5 x5 k5 R5 r5 => ?_⟩⟩
        simp only at ev
        split at ev
        · rename_i acc hd
          split at ev
          · rename_i hl
            have hD5 := x5 _ _ (x4 _ _ (x3 _ _ (x _ _ hD2)))
            obtain ⟨xs, hv, rv⟩ := R5.at_ _ _ _ hd hD5
            have r4' := r4.mono x5 k5
            obtain ⟨q, rfl, n1, n2⟩ := keyN_ref r4' e7
            obtain ⟨ys, ry, hys⟩ := putN_rel2 rv n1 n2 r4' r5
            have kw : Keep H5 (upd H5 D (KDO cls.P cls.w D ys)) := Keep.write hv trivial
            refine ⟨_, ⟨ρ5, acc, xs, d1, key, d2, q, hv, rv, hl, rfl, n1, n2, r4', r5, ys, hys, rfl⟩, ρ5, _, x.trans (x3.trans (x4.trans x5)), kk.trans (kg.trans (k3.trans (k4.trans (k5.trans kw)))), R5.write (o := .kd (putN key d2 acc)) hD5 hv trivial ⟨ys, upd_same, ry.mono (Ext.refl _) kw⟩, ev⟩
          · cases ev
        · cases ev
variable {elt tg iter kx : Expr} {ifs : List Expr} {scope : Scope} {own : List (Str × Nat)} {pos : Pos} {wi : Itr} {g : TG} {t : Tg} {c : T} {e ek : E}
theorem xKc (n : Nat) (hP : cls.P = X.prog) (hw : cls.w = X.w) (hu : X.A.units + 64 < cLine) (hc : X.calm = true) (hN : X.N.Nodup) (hi : PI X tg iter (semI X.K cls wi)) (ok : BlkOk X.N X.env.scope scope own) (ct : CT X.K g t (own.map (·.2)))
    (hg : ∀ (s : Shared) (H : Hp) (C : Addr) (cl : List (Str × Addr)) (fp : List Addr), PG (X.blk s H scope (compEnvC scope cl C X.env) fp) tg g) (ht : ∀ (s : Shared) (H : Hp) (C : Addr) (cl : List (Str × Addr)) (fp : List Addr), PTs (X.blk s H scope (compEnvC scope cl C X.env) fp) ifs (semT X.K cls c))
    (hk : ∀ (s : Shared) (H : Hp) (C : Addr) (cl : List (Str × Addr)) (fp : List Addr), PE (X.blk s H scope (compEnvC scope cl C X.env) fp) kx (semE X.K cls ek))
    (he : ∀ (s : Shared) (H : Hp) (C : Addr) (cl : List (Str × Addr)) (fp : List Addr), PE (X.blk s H scope (compEnvC scope cl C X.env) fp) elt (semE X.K cls e)) (hs : ∀ x, foldedSetIterable iter X.env x = pure x := by intro _; rfl) :
    PE X (.DictComp kx elt [⟨tg, iter, ifs, 0⟩] scope pos) (semE X.K cls (eKc n wi (own.map (·.2)) t c ek e)) :=
  pe_of (pe_dcg (fun H h hb => kd_ok (X := X) hP hw (us := []) (beq_eq_false_iff_ne.mpr (Ne.symm (Nat.ne_of_lt hb))) .nil (Heap.DictOfH.new h)) (put_ok hP hw hu) hc hN hi ok hg ht hk he hs) (semKc ct)
end
end Gw
set_option Elab.async false
set_option linter.all false
set_option maxRecDepth 100000
set_option maxHeartbeats 4000000
/-! Gw: defs, classes, the law. -/
namespace Gw
open PySem PySem.Spec PyProof.Rows L2

/-- a body run on its arguments -/
def initD (n : Nat) (ds : List D) : AEnv := ds.map some ++ List.replicate (n - ds.length) none
def runF (n : Nat) (b : S) : F := fun ds h => (b (initD n ds) h).bind fun r => match r.1 with
  | .rt d => some (d, r.2.2)
  | .nx => some (.non, r.2.2)
  | _ => none
def defF (ar n : Nat) (b : S) : F := fun ds h => if ds.length = ar then runF n b ds h else none
/-- one default -/
def defF1 (ar : Nat) (dd : D) (n : Nat) (b : S) : F := fun ds h => if ds.length = ar then runF n b ds h else if ds.length + 1 = ar then runF n b (ds ++ [dd]) h else none
/-- *v behind k parameters -/
def defFS (k n : Nat) (b : S) : F := fun ds h => if k ≤ ds.length ∧ ds.length ≤ 1000000 then runF n b (ds.take k ++ [.tup (ds.drop k)]) h else none
def noF : F := fun _ _ => none

section
variable {P : Program} {w : World} {K : PySem.W.Frag} {mg : Str → Option Value} {base : Heap} {cls : Cl}
theorem rel_start {ρ : List Addr} {H : Hp} {ds : List D} {vs : List V} (r : RelDs K ρ H ds vs) (N : List Str) : RelS K ρ H (initD N.length ds) (L2.start N vs) := by
  refine ⟨by unfold initD L2.start; simp [r.length], fun i d e => ?_⟩
  unfold initD at e
  unfold L2.start
  by_cases hi : i < ds.length
  · rw [List.getElem?_append_left (by simpa using hi), List.getElem?_map] at e
    cases hd : ds[i]? with
    | none => rw [hd] at e; cases e
    | some d' =>
      rw [hd] at e
      cases e
      obtain ⟨v, h1, h2⟩ := r.get hd
      refine ⟨v, ?_, h2⟩
      rw [List.getElem?_append_left (by rw [List.length_map, ← r.length]; exact hi), List.getElem?_map, h1]
      rfl
  · rw [List.getElem?_append_right (by simpa using hi), List.getElem?_replicate] at e
    split at e <;> cases e
/-- the end of a body -/
theorem body_end {ρ : List Addr} {H : Hp} {h h' : Ah} {ds : List D} {vs : List V} {d : D} {N : List Str} {b : S} {Q : VK} (R : RelH K cls ρ h H) (r : RelDs K ρ H ds vs) (ev : runF N.length b ds h = some (d, h')) (k : Fin K cls ρ H d h' Q) :
    semS K cls b { nx := fun _ H' => Q .non H', rt := Q } (L2.start N vs) H := by
  unfold runF at ev
  obtain ⟨⟨o, sa, h1⟩, e1, ev⟩ := bs ev
  refine ⟨ρ, _, h, o, sa, h1, R, rel_start r N, e1, fun ρ1 H1 x1 k1 R1 => ?_⟩
  cases o with
  | nx => cases ev; exact fun σ' S' => k ρ1 .non H1 x1 k1 R1 .non
  | rt d' => cases ev; exact fun v rv => k ρ1 v H1 x1 k1 R1 rv
  | bk => cases ev
  | ct => cases ev
theorem bnd_of {fd : FuncData} {args : Args} {ps : List Str} {A : Around} {outer : List Env} {s : Shared} {H : Hp} {E : XK} {us : List Value} {vs : List V} (hb : BindsTo s fd args (ps.zip us)) (e0 : Env0 P w K mg base A outer s H) (r : Vals vs us) (hl : vs.length = ps.length) :
    StX.Bnd CX0 P w K mg base fd args ps A outer s H E (fun xs H2 => xs = vs ∧ H2 = H) := fun A' Ex Q h => hb _ _ _ _ (h s H vs us e0 Un.refl rfl (fun _ _ z => z) r hl ⟨rfl, rfl⟩)
variable {name qual : Str} {params : Arguments} {body : List Stmt} {scope : Scope} {dV kV doc pm cdv ct oc : Value} {an od : Option Addr} {osl : Array (Option Value)} {N ps : List Str} {k : Nat} {f : Addr} {b : S}
abbrev BodyOk (P : Program) (w : World) (K : PySem.W.Frag) (mg : Str → Option Value) (base : Heap) (cls : Cl) (N : List Str) (qual : Str) (scope : Scope) (f : Addr) (cdv : Value) (k : Nat) (body : List Stmt) (b : S) : Prop :=
  ∀ (A : Around) (outer : List Env) (s : Shared) (H : Hp) (E : XK), RoomG k (A.deeper (envOfC qual scope s.heap.objs.size f cdv)) → PSs (cxOf CX0 P w K mg base N qual scope f cdv A outer s H E).nox body (semS K cls b)
/-- a def without defaults -/
theorem fnG_def (lk : K.lookup f = some ⟨oc, od, .func (PySem.W.fnOf name qual params body scope dV kV doc pm an cdv ct), osl⟩) (hcd : PySem.W.codeIn K cdv qual = true) (S : FnScope N ps scope) (hbody : BodyOk P w K mg base cls N qual scope f cdv k body b)
    (hb : ∀ (s : Shared) (us : List Value), K.In s.heap → us.length = ps.length → BindsTo s (PySem.W.fnOf name qual params body scope dV kV doc pm an cdv ct) ⟨us, []⟩ (ps.zip us)) : FnG P w K mg base (k + 1) f (semR K cls (defF ps.length N.length b)) := by
  intro A outer s H us vs Q E hr e0 r ⟨ρ, h, ds, d, h', R, rd, ev, kk⟩
  unfold defF at ev
  split at ev
  · rename_i hl
    have hlv : vs.length = ps.length := by rw [← rd.length]; exact hl
    have hlu : us.length = ps.length := by rw [← r.length]; exact hlv
    refine StX.run_bnd lk hcd S hr.rm e0 (bnd_of (hb s us (e0.mod.kin.keeps fun b o e => (e0.bs b o e).1) hlu) e0 r hlv) fun s2 H2 xs ⟨ex, eH⟩ hr' => ?_
    subst ex eH
    exact ⟨_, (hbody A outer s2 H2 E (hr.deeper _)).nox, body_end R rd ev kk⟩
  · cases ev
/-- a def whose last parameter has a default -/
theorem fnG_def1 {dd : D} (lk : K.lookup f = some ⟨oc, od, .func (PySem.W.fnOf name qual params body scope dV kV doc pm an cdv ct), osl⟩) (hcd : PySem.W.codeIn K cdv qual = true) (S : FnScope N ps scope) (hbody : BodyOk P w K mg base cls N qual scope f cdv k body b)
    (hb : ∀ (s : Shared) (us : List Value), K.In s.heap → us.length = ps.length → BindsTo s (PySem.W.fnOf name qual params body scope dV kV doc pm an cdv ct) ⟨us, []⟩ (ps.zip us))
    {dv : V} {du : Value} (rv : RelV dv du) (rdd : ∀ ρ H, RelD K ρ H dd dv)
    (hb1 : ∀ (s : Shared) (us : List Value), K.In s.heap → us.length + 1 = ps.length → BindsTo s (PySem.W.fnOf name qual params body scope dV kV doc pm an cdv ct) ⟨us, []⟩ (ps.zip (us ++ [du]))) : FnG P w K mg base (k + 1) f (semR K cls (defF1 ps.length dd N.length b)) := by
  intro A outer s H us vs Q E hr e0 r ⟨ρ, h, ds, d, h', R, rd, ev, kk⟩
  have hK : K.In s.heap := e0.mod.kin.keeps fun b o e => (e0.bs b o e).1
  unfold defF1 at ev
  split at ev
  · rename_i hl
    have hlv : vs.length = ps.length := by rw [← rd.length]; exact hl
    have hlu : us.length = ps.length := by rw [← r.length]; exact hlv
    refine StX.run_bnd lk hcd S hr.rm e0 (bnd_of (hb s us hK hlu) e0 r hlv) fun s2 H2 xs ⟨ex, eH⟩ hr' => ?_
    subst ex eH
    exact ⟨_, (hbody A outer s2 H2 E (hr.deeper _)).nox, body_end R rd ev kk⟩
  · split at ev
    · rename_i hl
      have hlv : vs.length + 1 = ps.length := by rw [← rd.length]; exact hl
      have hlu : us.length + 1 = ps.length := by rw [← r.length]; exact hlv
      have r2 : Vals (vs ++ [dv]) (us ++ [du]) := r.append (.cons rv .nil)
      have rd2 : RelDs K ρ H (ds ++ [dd]) (vs ++ [dv]) := rd.append (.cons (rdd ρ H) .nil)
      refine StX.run_bnd lk hcd S hr.rm e0 (bnd_of (hb1 s us hK hlu) e0 r2 (by rw [List.length_append]; exact hlv)) fun s2 H2 xs ⟨ex, eH⟩ hr' => ?_
      subst ex eH
      exact ⟨_, (hbody A outer s2 H2 E (hr.deeper _)).nox, body_end R rd2 ev kk⟩
    · cases ev
/-- the same, from the tuple of the defaults -/
theorem fnG_dflt {z : Int} {T : Addr} {tk : Tok} {oT : Obj} {m : Nat} (lk : K.lookup f = some ⟨oc, od, .func (PySem.W.fnOf name qual params body scope (.ref T) kV doc pm an cdv ct), osl⟩) (hcd : PySem.W.codeIn K cdv qual = true) (kp : PySem.W.keepIn K (.ref f) = true)
    (lT : K.lookup T = some oT) (dT : oT.data = .seq #[.int z tk] m) (S : FnScope N ps scope) (hbody : BodyOk P w K mg base cls N qual scope f cdv k body b)
    (h : ∀ (T : Addr) (kV doc pm : Value) (an : Option Addr) (cdv ct : Value) (us its : List Value), us.length = ps.length → its.length = 1 →
      ∃ k, bindArgs (PySem.W.fnOf name qual params body scope (.ref T) kV doc pm an cdv ct) ⟨us, []⟩ = seqItems? (.ref T) >>= k ∧ k (some its.toArray) = pure (ps.zip us))
    (h1 : ∀ (T : Addr) (kV doc pm : Value) (an : Option Addr) (cdv ct : Value) (us its : List Value), us.length + 1 = ps.length → its.length = 1 →
      ∃ k, bindArgs (PySem.W.fnOf name qual params body scope (.ref T) kV doc pm an cdv ct) ⟨us, []⟩ = seqItems? (.ref T) >>= k ∧ k (some its.toArray) = pure (ps.zip (us ++ its))) : FnG P w K mg base (k + 1) f (semR K cls (defF1 ps.length (.int z) N.length b)) := by
  have F : FunD K name qual params body scope [.int z] [] f (PySem.W.fnOf name qual params body scope (.ref T) kV doc pm an cdv ct) :=
    ⟨⟨oc, od, .ref T, kV, doc, pm, an, cdv, ct, osl, rfl, lk, hcd, .inr ⟨by simp, T, oT, [.int z tk], m, rfl, lT, dT, .cons ⟨tk, rfl⟩ .nil⟩, .inl rfl⟩, kp⟩
  refine fnG_def1 (dv := .int z) (du := .int z tk) lk hcd S hbody (fun s us X hl => ?_) ⟨tk, rfl⟩ (fun _ _ => .int z) (fun s us X hl => ?_)
  · obtain ⟨kk, e1, e2⟩ := h T kV doc pm an cdv ct us [.int z tk] hl rfl
    refine BindsTo.of_looks fun M => ?_
    rw [e1]
    exact looks_items X lT dT (.of_pure e2)
  · obtain ⟨kk, e1, e2⟩ := h1 T kV doc pm an cdv ct us [.int z tk] hl rfl
    refine BindsTo.of_looks fun M => ?_
    rw [e1]
    exact looks_items X lT dT (.of_pure e2)
/-- a def with *v -/
theorem fnG_star {pv : Str} (lk : K.lookup f = some ⟨oc, od, .func (PySem.W.fnOf name qual params body scope dV kV doc pm an cdv ct), osl⟩) (hcd : PySem.W.codeIn K cdv qual = true) (S : FnScope N (ps ++ [pv]) scope) (hbody : BodyOk P w K mg base cls N qual scope f cdv k body b)
    (hb : ∀ us rest : List Value, us.length = ps.length → bindArgs (PySem.W.fnOf name qual params body scope dV kV doc pm an cdv ct) ⟨us ++ rest, []⟩ = (newTuple rest >>= fun t => pure (ps.zip us ++ [(pv, t)]))) : FnG P w K mg base (k + 1) f (semR K cls (defFS ps.length N.length b)) := by
  intro A outer s H us vs Q E hr e0 r ⟨ρ, h, ds, d, h', R, rd, ev, kk⟩
  unfold defFS at ev
  split at ev
  · rename_i hl
    obtain ⟨hl1, hl2⟩ := hl
    have hlv : ps.length ≤ vs.length := by rw [← rd.length]; exact hl1
    have rt := r.take ps.length
    have rdp := r.drop ps.length
    have hz : (us.drop ps.length).length ≤ sizeLine := by rw [List.length_drop, ← r.length, ← rd.length]; exact sz (by omega)
    have hn : H s.heap.objs.size = Option.none := e0.hok.fresh (Nat.le_refl _)
    have hl3 : (us.take ps.length).length = ps.length := by rw [List.length_take, ← r.length]; omega
    have kn : Keep H (upd H s.heap.objs.size (.tup (vs.drop ps.length))) := Keep.new hn
    refine StX.run_bnd lk hcd S hr.rm e0 (G := fun xs H2 => xs = vs.take ps.length ++ [V.ref s.heap.objs.size] ∧ H2 = upd H s.heap.objs.size (.tup (vs.drop ps.length))) (fun A' Ex Q' hq => ?_) fun s2 H2 xs ⟨ex, eH⟩ hr' => ?_
    · have e : us = us.take ps.length ++ us.drop ps.length := (List.take_append_drop _ _).symm
      rw [e, hb _ _ hl3]
      refine wpAny_bind (wpAny_newTuple (wpAny_pure ?_) hz)
      have new : ObjOk P w (upd H s.heap.objs.size (.tup (vs.drop ps.length))) (s.heap.push ({ cls := .type "tuple", data := .seq (us.drop ps.length).toArray } : Obj)) s.heap.objs.size (.tup (vs.drop ps.length)) :=
        ⟨by rw [rdp.length]; exact hz, us.drop ps.length, rdp, ⟨_, Heap.get?_push_size _ rfl, rfl, _, rfl⟩⟩
      have un := StX.un_laid (fs := frs outer) (s := s) (o := ({ cls := .type "tuple", data := .seq (us.drop ps.length).toArray } : Obj)) (u := .tup (vs.drop ps.length)) hn
      have z := hq _ _ (vs.take ps.length ++ [V.ref s.heap.objs.size]) (us.take ps.length ++ [Value.ref s.heap.objs.size]) (StX.env0_laid e0 new) un rfl (fun e s' z => z) (rt.append (.cons rfl .nil))
        (by rw [List.length_append, List.length_append, List.length_take, Nat.min_eq_left hlv] <;> rfl) ⟨rfl, rfl⟩
      rw [List.zip_append hl3.symm] at z
      exact z
    · subst ex eH
      refine ⟨_, (hbody A outer s2 _ E (hr.deeper _)).nox, body_end (R.grow (upd_grow hn)) (((rd.take _).mono (Ext.refl _) kn).append (.cons (.tup (SqT.of upd_same) ((rd.drop _).mono (Ext.refl _) kn)) .nil)) ev ?_⟩
      exact fun ρ' v H' x' k' R' r' => kk ρ' v H' x' (kn.trans k') R' r'
  · cases ev
/-- -e -/
def gNeg : G1
  | .int i, h => some (.int (-i), h)
  | _, _ => none
def eNeg (a : E) : E := eOp1 gNeg a
theorem xNeg {X : Cx} {cls : Cl} {a : Expr} {fa : E} {pos : Pos} (ha : PE X a (semE X.K cls fa)) : PE X (.UnaryOp .USub a pos) (semE X.K cls (eNeg fa)) := by
  refine pe_of (pe_un un_neg ha) fun σ H Q q => ?_
  obtain ⟨ρ, sa, h, d, h', R, S, ev, k⟩ := sem1 σ H Q q
  refine ⟨ρ, sa, h, d, h', R, S, ev, fun ρ1 v H1 x1 k1 R1 r1 => ?_⟩
  obtain ⟨ρ2, h2, x, d2, h3, R2, r2, ev2, kk⟩ := k ρ1 v H1 x1 k1 R1 r1
  unfold gNeg at ev2
  split at ev2
  · cases ev2
    cases r2
    exact ⟨_, rfl, kk.at R2 (.int _)⟩
  · cases ev2
theorem fnG_no {j : Nat} : FnG P w K mg base j f (semR K cls noF) := fun _ _ _ _ _ _ _ _ _ _ _ ⟨_, _, _, _, _, _, _, ev, _⟩ => by cases ev
end
end Gw
set_option Elab.async false
set_option linter.all false
set_option maxRecDepth 100000
set_option maxHeartbeats 4000000
/-! Gw: sum of a tuple. -/
namespace Gw
open PySem PySem.Spec PyProof.Rows L2
def bSumA : Fb
  | [.tup ds], h => (intsOf ds).map fun bs => (.int bs.sum, h)
  | x, h => bSum x h
section
variable {prog : Program} {w : World} {A : Around} {E : Value → Shared → Prop} {s : Shared} {l : Addr} {xs : Array (Int × Tok)}
theorem sum_tupG {Q : Value → Shared → Prop} (hh : A.handled = none) (hl : s.heap.IsTuple l (intItems xs)) (h : ∀ h' tk t', (∀ b o, s.heap.get? b = some o → h'.get? b = some o) → Q (.int (preSum (numAt xs) xs.size) t') { s with heap := h', toks := tk }) :
    wpAny (model prog w) A (call (.builtin "sum") [.ref l]) Q E s := by
  have hlt : l < s.heap.objs.size := let ⟨_, ho, _⟩ := hl; Heap.lt_size ho
  refine call_sum_walkG (wpAny_pyIter_tuple hl ?_)
  refine ⟨s.heap.objs.size, _, _, _, _, _, numAt xs, rfl, Walks.tuple (A := A.in1) hh s.heap.objs.size l (Nat.ne_of_lt hlt) (intItems xs), ⟨⟨_, Heap.get?_push_size _ rfl, rfl, rfl⟩, hl.push _⟩, fun b hb => ?_, fun _ _ => intItems_at, fun h' tk t' hk => ?_⟩
  · have hz : (s.heap.push { cls := .type "tuple_iterator", data := .fields #[.ref l, .int 0 0] }).objs.size = s.heap.objs.size + 1 := Heap.size_push ..
    show b < (s.heap.push { cls := .type "tuple_iterator", data := .fields #[.ref l, .int 0 0] }).objs.size
    rw [hz]
    rcases List.mem_cons.mp hb with e | hb
    · rw [e]; exact Nat.lt_succ_self _
    · rw [List.mem_singleton.mp hb]; exact Nat.lt_succ_of_lt hlt
  · have z := h h' tk t' fun b o e => hk b o (fun hm => absurd (Heap.lt_size e) (by rw [List.mem_singleton.mp hm]; exact Nat.lt_irrefl _)) (Heap.get?_push_of_some _ e)
    have hs : (intItems xs).size = xs.size := by unfold intItems; simp
    show Q (.int (preSum (numAt xs) (intItems xs).size) t') _
    rw [hs]
    exact z
end
section
variable {X : Cx} {cls : Cl}
theorem c_sumA (hc : X.calm = true) : CallR X (.builtin "sum") (rMs X.K cls bSumA) := by
  intro pins s σ H xs us Q I rx ⟨ρ, h, ds, d, h', R, r, ev, k⟩
  by_cases ht : ∃ es, ds = [.tup es]
  · obtain ⟨es, rfl⟩ := ht
    have ev : ((intsOf es).map fun bs => (D.int bs.sum, h)) = some (d, h') := ev
    obtain ⟨bs, h1, h2⟩ := Option.map_eq_some_iff.mp ev
    cases h2
    cases r with
    | cons r1 rr =>
      cases rr
      cases rx with
      | cons q1 q2 =>
        cases q2
        cases r1 with
        | @tup _ vs a hs rs =>
          cases q1
          have hv := intsOf_v rs h1
          subst hv
          obtain ⟨its, rv, p, hz⟩ := I.tuple hs
          have hi := rv.ints
          obtain ⟨xs, e⟩ := hi.allInts.items
          have hn : numsOf (intItems xs).toList = bs := by rw [← e]; exact hi.numsOf
          rw [nums_intItems] at hn
          have p' : s.heap.IsTuple a its.toArray := p
          rw [e] at p'
          refine sum_tupG (I.ok.hd hc) p' fun h2 tk t' hk => ⟨.int _, H, I.kept hk, ⟨_, rfl⟩, ?_⟩
          rw [preSum_eq, List.take_of_length_le (by simp), hn]
          exact k.at R (.int _)
  · have e : bSumA ds h = bSum ds h := by
      unfold bSumA
      split
      · exact absurd ⟨_, rfl⟩ ht
      · rfl
    rw [e] at ev
    exact c_sum hc pins s σ H xs us Q I rx ⟨ρ, h, ds, d, h', R, r, ev, k⟩
end
end Gw
set_option Elab.async false
set_option linter.all false
set_option maxRecDepth 100000
set_option maxHeartbeats 4000000
/-! Gw: quick forms of == and repr, texts as lists of signs. -/
namespace Gw
open PySem PySem.Spec PyProof.Rows L2

/-! ### == -/
mutual
def eqB : D → D → Bool
  | .non, .non => true
  | .bl a, .bl b => a == b
  | .bl a, .int j => (if a = true then 1 else 0) == j
  | .int i, .bl b => i == (if b = true then 1 else 0)
  | .int i, .int j => i == j
  | .str x, .str y => beqS x y
  | .tup xs, .tup ys => eqBs xs ys
  | _, _ => false
def eqBs : List D → List D → Bool
  | [], [] => true
  | x :: xs, y :: ys => bif eqB x y then eqBs xs ys else false
  | _, _ => false
end
def okS : List Nat → Bool
  | [] => true
  | c :: r => bif Nat.ble c 1114111 then okS r else false
theorem okS_ok : ∀ {l : List Nat}, okS l = true → ∀ c ∈ l, c < 1114112
  | [], _, c, hc => by cases hc
  | a :: l, h, c, hc => by
    simp only [okS] at h
    cases ha : Nat.ble a 1114111 with
    | false => rw [ha] at h; cases h
    | true =>
      rw [ha] at h
      rcases List.mem_cons.mp hc with rfl | hc
      · exact Nat.lt_succ_of_le (Nat.le_of_ble_eq_true ha)
      · exact okS_ok h c hc
theorem strOk_of {x : Str} (h : okS x.cps.toList = true) : PyData.strOk x = true := by
  unfold PyData.strOk
  rw [Array.all_eq_true_iff_forall_mem]
  intro c hc
  exact decide_eq_true (okS_ok h c (by simpa using hc))
mutual
/-- a tree, at most n deep -/
def okD : Nat → D → Bool
  | _, .non => true
  | _, .bl _ => true
  | _, .int _ => true
  | _, .str x => okS x.cps.toList
  | 0, .tup _ => false
  | n + 1, .tup ds => okDs n ds
  | _, .obj _ => false
def okDs : Nat → List D → Bool
  | _, [] => true
  | n, d :: ds => bif okD n d then okDs n ds else false
end
mutual
theorem okD_py : ∀ {n : Nat} {d : D}, okD n d = true → ∃ p, toPy d = some p ∧ p.canLay0 = true ∧ p.depth ≤ n
  | n, .non, _ => ⟨_, rfl, by simp [PyData.canLay0], by simp [PyData.depth]⟩
  | n, .bl b, _ => ⟨_, rfl, by simp [PyData.canLay0], by simp [PyData.depth]⟩
  | n, .int i, _ => ⟨_, rfl, by simp [PyData.canLay0], by simp [PyData.depth]⟩
  | n, .str x, h => ⟨_, rfl, by simp only [PyData.canLay0]; exact strOk_of (by cases n <;> exact h), by simp [PyData.depth]⟩
  | 0, .tup ds, h => by simp [okD] at h
  | n + 1, .tup ds, h => by
    simp only [okD] at h
    obtain ⟨ps, h1, h2, h3⟩ := okDs_py h
    exact ⟨.tuple ps, by simp [toPy, h1], by simp [PyData.canLay0, h2], by simp [PyData.depth]; omega⟩
  | n, .obj _, h => by cases n <;> simp [okD] at h
theorem okDs_py : ∀ {n : Nat} {ds : List D}, okDs n ds = true → ∃ ps, toPys ds = some ps ∧ PyData.canLayAll0 ps = true ∧ PyData.depthAll ps ≤ n
  | n, [], _ => ⟨[], rfl, by simp [PyData.canLayAll0], by simp [PyData.depthAll]⟩
  | n, d :: ds, h => by
    simp only [okDs] at h
    cases hd : okD n d with
    | false => rw [hd] at h; cases h
    | true =>
      rw [hd] at h
      obtain ⟨p, h1, h2, h3⟩ := okD_py hd
      obtain ⟨ps, g1, g2, g3⟩ := okDs_py (n := n) (ds := ds) h
      exact ⟨p :: ps, by simp [toPys, h1, g1], by simp [PyData.canLayAll0, h2, g2], by simp [PyData.depthAll]; omega⟩
end
theorem strBeq (x y : Str) : (x == y) = beqS x y := by
  rw [beqS_eq]
  by_cases e : x = y
  · subst e; simp
  · simp [e]
mutual
theorem eqB_eqv : ∀ {d e : D} {p q : PyData}, toPy d = some p → toPy e = some q → PyData.eqv p q = eqB d e
  | .non, e, p, q, h1, h2 => by
    cases h1
    cases e with
    | tup ys =>
      simp only [toPy, Option.map_eq_some_iff] at h2
      obtain ⟨qs, _, rfl⟩ := h2
      simp [PyData.eqv, eqB]
    | obj j => cases h2
    | _ => cases h2; simp only [PyData.eqv, eqB]
  | .bl a, e, p, q, h1, h2 => by
    cases h1
    cases e with
    | tup ys =>
      simp only [toPy, Option.map_eq_some_iff] at h2
      obtain ⟨qs, _, rfl⟩ := h2
      simp [PyData.eqv, eqB]
    | obj j => cases h2
    | _ => cases h2; simp only [PyData.eqv, eqB]
  | .int i, e, p, q, h1, h2 => by
    cases h1
    cases e with
    | tup ys =>
      simp only [toPy, Option.map_eq_some_iff] at h2
      obtain ⟨qs, _, rfl⟩ := h2
      simp [PyData.eqv, eqB]
    | obj j => cases h2
    | _ => cases h2; simp only [PyData.eqv, eqB]
  | .str x, e, p, q, h1, h2 => by
    cases h1
    cases e with
    | tup ys =>
      simp only [toPy, Option.map_eq_some_iff] at h2
      obtain ⟨qs, _, rfl⟩ := h2
      simp [PyData.eqv, eqB]
    | obj j => cases h2
    | _ => cases h2; simp only [PyData.eqv, eqB, strBeq]
  | .tup xs, e, p, q, h1, h2 => by
    simp only [toPy, Option.map_eq_some_iff] at h1
    obtain ⟨ps, h1, rfl⟩ := h1
    cases e with
    | tup ys =>
      simp only [toPy, Option.map_eq_some_iff] at h2
      obtain ⟨qs, h2, rfl⟩ := h2
      simp only [PyData.eqv, eqB]
      exact eqBs_eqv h1 h2
    | obj j => cases h2
    | _ => cases h2; simp [PyData.eqv, eqB]
  | .obj _, _, _, _, h1, _ => by cases h1
theorem eqBs_eqv : ∀ {ds es : List D} {ps qs : List PyData}, toPys ds = some ps → toPys es = some qs → PyData.eqvAll ps qs = eqBs ds es
  | [], es, ps, qs, h1, h2 => by
    cases h1
    cases es with
    | nil => cases h2; simp [PyData.eqvAll, eqBs]
    | cons e es =>
      simp only [toPys] at h2
      obtain ⟨a, ea, e1⟩ := bs h2
      simp only [Option.map_eq_some_iff] at e1
      obtain ⟨ps, e2, rfl⟩ := e1
      simp [PyData.eqvAll, eqBs]
  | d :: ds, es, ps, qs, h1, h2 => by
    simp only [toPys] at h1
    obtain ⟨a, ea, e1⟩ := bs h1
    simp only [Option.map_eq_some_iff] at e1
    obtain ⟨as, e2, rfl⟩ := e1
    cases es with
    | nil => cases h2; simp [PyData.eqvAll, eqBs]
    | cons e es =>
      simp only [toPys] at h2
      obtain ⟨b, eb, f1⟩ := bs h2
      simp only [Option.map_eq_some_iff] at f1
      obtain ⟨cs, f2, rfl⟩ := f1
      simp only [PyData.eqvAll, eqBs, eqB_eqv ea eb, eqBs_eqv e2 f2]
      cases eqB d e <;> rfl
end
def gEqQ (x y : D) (h : Ah) : Option Bool := match x, y with
  | .obj i, .obj j => match h.get i, h.get j with
    | some (.lst a), some (.lst b) => bif okDs 60 a && okDs 60 b then some (eqBs a b) else none
    | _, _ => none
  | .int i, .int j => some (i == j)
  | x, y => bif okD 60 x && okD 60 y then some (eqB x y) else none
def gEqF : G2 := fun x y h => (gEqQ x y h).map fun b => (.bl b, h)
def gNeF : G2 := fun x y h => (gEqQ x y h).map fun b => (.bl (!b), h)
theorem shaped_of {p : PyData} (h1 : p.canLay0 = true) (h2 : p.depth ≤ 64) : SeqAt.shaped p = true := by
  unfold SeqAt.shaped
  rw [h1, Bool.true_and]
  exact decide_eq_true h2
theorem toPyH_tree {h : Ah} {x : D} {p : PyData} (e : toPy x = some p) : toPyH h x = some p := by
  cases x <;> first | exact e | cases e
theorem gEqQ_ok {x y : D} {h : Ah} {b : Bool} (e : gEqQ x y h = some b) : ∃ p q, toPyH h x = some p ∧ toPyH h y = some q ∧ SeqAt.shaped p = true ∧ SeqAt.shaped q = true ∧ PyData.eqv p q = b := by
  unfold gEqQ at e
  split at e
  · rename_i i j
    split at e
    · rename_i a b' ha hb
      cases hk : (okDs 60 a && okDs 60 b') with
      | false => rw [hk] at e; cases e
      | true =>
        rw [hk] at e
        cases e
        rw [Bool.and_eq_true] at hk
        obtain ⟨ps, h1, h2, h3⟩ := okDs_py hk.1
        obtain ⟨qs, g1, g2, g3⟩ := okDs_py hk.2
        refine ⟨.list ps, .list qs, by simp [toPyH, ha, h1], by simp [toPyH, hb, g1], shaped_of (by simp [PyData.canLay0, h2]) (by simp [PyData.depth]; omega), shaped_of (by simp [PyData.canLay0, g2]) (by simp [PyData.depth]; omega), ?_⟩
        simp only [PyData.eqv]
        exact eqBs_eqv h1 g1
    · cases e
  · cases e
    exact ⟨_, _, rfl, rfl, shaped_of (by simp [PyData.canLay0]) (by simp [PyData.depth]), shaped_of (by simp [PyData.canLay0]) (by simp [PyData.depth]), by simp [PyData.eqv]⟩
  · cases hk : (okD 60 x && okD 60 y) with
    | false => rw [hk] at e; cases e
    | true =>
      rw [hk] at e
      cases e
      rw [Bool.and_eq_true] at hk
      obtain ⟨p, h1, h2, h3⟩ := okD_py hk.1
      obtain ⟨q, g1, g2, g3⟩ := okD_py hk.2
      exact ⟨p, q, toPyH_tree h1, toPyH_tree g1, shaped_of h2 (by omega), shaped_of g2 (by omega), eqB_eqv h1 g1⟩
theorem gEqF_ok {x y : D} {h : Ah} {r : D × Ah} (e : gEqF x y h = some r) : gEq x y h = some r := by
  obtain ⟨b, h1, h2⟩ := Option.map_eq_some_iff.mp e
  obtain ⟨p, q, e1, e2, s1, s2, e3⟩ := gEqQ_ok h1
  subst h2
  unfold gEq
  rw [e1, Option.bind_some, e2, Option.bind_some, s1, s2, e3]
  rfl
theorem gNeF_ok {x y : D} {h : Ah} {r : D × Ah} (e : gNeF x y h = some r) : gNe x y h = some r := by
  obtain ⟨b, h1, h2⟩ := Option.map_eq_some_iff.mp e
  obtain ⟨p, q, e1, e2, s1, s2, e3⟩ := gEqQ_ok h1
  subst h2
  unfold gNe
  rw [e1, Option.bind_some, e2, Option.bind_some, s1, s2, e3]
  rfl
section
variable {X : Cx} {cls : Cl}
theorem op_sub {X : Cx} {f : Value → Value → Sem Value} {g g' : G2} (ho : OpR X f (rM X.K cls g)) (i : ∀ x y h r, g' x y h = some r → g x y h = some r) : OpR X f (rM X.K cls g') :=
  fun pins s σ H x y v u Q I rx ry ⟨ρ, h, dx, dy, d, h', R, r1, r2, ev, k⟩ => ho pins s σ H x y v u Q I rx ry ⟨ρ, h, dx, dy, d, h', R, r1, r2, i _ _ _ _ ev, k⟩
theorem op_gEqF (hu : X.A.units + 64 < cLine) : OpR X (compareOp .Eq) (rM X.K cls gEqF) := op_sub (op_gEq hu) fun _ _ _ _ e => gEqF_ok e
theorem op_gNeF (hu : X.A.units + 64 < cLine) : OpR X (compareOp .NotEq) (rM X.K cls gNeF) := op_sub (op_gNe hu) fun _ _ _ _ e => gNeF_ok e
end

/-! ### repr -/
def plainC (c : Nat) : Bool := bif Nat.ble 97 c then Nat.ble c 122 else false
def allC : List Nat → Bool
  | [] => true
  | c :: r => bif plainC c then allC r else false
mutual
def shL : D → Option (List Nat)
  | .str x => bif allC x.cps.toList then some (39 :: (x.cps.toList ++ [39])) else none
  | .tup ds => match ds with
    | [] => some [40, 41]
    | [d] => (shL d).map fun l => 40 :: (l ++ [44, 41])
    | d :: e :: r => (shL d).bind fun l => (shLs (e :: r)).map fun m => 40 :: (l ++ m)
  | _ => none
/-- the others of a tuple, each behind a comma, then the end -/
def shLs : List D → Option (List Nat)
  | [] => some [41]
  | d :: r => (shL d).bind fun l => (shLs r).map fun m => 44 :: 32 :: (l ++ m)
end
def mkS (l : List Nat) : Str := ⟨⟨l⟩⟩
theorem S_app (a b : List Nat) : mkS a ++ mkS b = mkS (a ++ b) := by
  show Str.mk (⟨a⟩ ++ ⟨b⟩) = _
  unfold mkS
  congr 1
  exact Array.ext' (by simp)
theorem reprChar_plain : ∀ c : Nat, c < 123 → 97 ≤ c → Builtin.Str.reprChar 39 c = [c] := by decide +kernel
theorem plainC_le {c : Nat} (h : plainC c = true) : 97 ≤ c ∧ c < 123 := by
  unfold plainC at h
  cases h1 : Nat.ble 97 c with
  | false => rw [h1] at h; cases h
  | true =>
    rw [h1] at h
    exact ⟨Nat.le_of_ble_eq_true h1, Nat.lt_succ_of_le (Nat.le_of_ble_eq_true h)⟩
theorem allC_mem : ∀ {l : List Nat}, allC l = true → ∀ c ∈ l, 97 ≤ c ∧ c < 123
  | [], _, c, hc => by cases hc
  | a :: l, h, c, hc => by
    simp only [allC] at h
    cases ha : plainC a with
    | false => rw [ha] at h; cases h
    | true =>
      rw [ha] at h
      rcases List.mem_cons.mp hc with rfl | hc
      · exact plainC_le ha
      · exact allC_mem h c hc
theorem fold_plain : ∀ (l : List Nat) (acc : Array Nat), (∀ c ∈ l, 97 ≤ c ∧ c < 123) → l.foldl (fun out c => out ++ (Builtin.Str.reprChar 39 c).toArray) acc = acc ++ l.toArray
  | [], acc, _ => by simp
  | c :: l, acc, h => by
    rw [List.foldl_cons, reprChar_plain c (h c (List.mem_cons_self ..)).2 (h c (List.mem_cons_self ..)).1, fold_plain l _ fun d hd => h d (List.mem_cons_of_mem _ hd)]
    apply Array.ext'
    simp
theorem repr_plain {x : Str} (h : allC x.cps.toList = true) : reprText x = mkS (39 :: (x.cps.toList ++ [39])) := by
  have hm := allC_mem h
  have hq : reprQuote x = 39 := by
    unfold reprQuote
    have : x.cps.contains 39 = false := by
      rw [Bool.eq_false_iff]
      intro hc
      have h39 : 39 ∈ x.cps.toList := by simpa using hc
      exact absurd (hm 39 h39).1 (by decide)
    rw [this]
    rfl
  unfold reprText
  rw [hq]
  show Str.mk ((x.cps.foldl (fun out c => out ++ (Builtin.Str.reprChar 39 c).toArray) #[39]).push 39) = _
  rw [← Array.foldl_toList, fold_plain _ _ hm]
  unfold mkS
  congr 1
  apply Array.ext'
  simp
theorem join_cons (a b : Str) (r : List Str) : Str.join ", " (a :: b :: r) = a ++ (", " : Str) ++ Str.join ", " (b :: r) := rfl
theorem S_par : ("(" : Str) = mkS [40] := by decide +kernel
theorem S_com : (", " : Str) = mkS [44, 32] := by decide +kernel
theorem S_end : (")" : Str) = mkS [41] := by decide +kernel
theorem S_end1 : (",)" : Str) = mkS [44, 41] := by decide +kernel
mutual
theorem shL_ok : ∀ {d : D} {l : List Nat}, shL d = some l → ∃ p, toPy d = some p ∧ p.showable = true ∧ p.shown = mkS l
  | .str x, l, h => by
    simp only [shL] at h
    cases ha : allC x.cps.toList with
    | false => rw [ha] at h; cases h
    | true =>
      rw [ha] at h
      cases h
      exact ⟨.str x, rfl, by simp [PyData.showable], by simp only [PyData.shown]; exact repr_plain ha⟩
  | .tup [], l, h => by
    simp only [shL] at h
    cases h
    refine ⟨.tuple [], by simp [toPy, toPys], by simp [PyData.showable, PyData.showableAll], ?_⟩
    simp only [PyData.shown, PyData.shownAll]
    decide +kernel
  | .tup [d], l, h => by
    simp only [shL] at h
    obtain ⟨m, h1, h2⟩ := Option.map_eq_some_iff.mp h
    subst h2
    obtain ⟨p, g1, g2, g3⟩ := shL_ok h1
    refine ⟨.tuple [p], by simp [toPy, toPys, g1], by simp [PyData.showable, PyData.showableAll, g2], ?_⟩
    simp only [PyData.shown, PyData.shownAll, g3]
    show ("(" : Str) ++ mkS m ++ (",)" : Str) = _
    rw [S_par, S_end1, S_app, S_app]
    simp
  | .tup (d :: e :: r), l, h => by
    simp only [shL] at h
    obtain ⟨m, h1, h⟩ := bs h
    obtain ⟨m2, h2, h3⟩ := Option.map_eq_some_iff.mp h
    subst h3
    obtain ⟨p, g1, g2, g3⟩ := shL_ok h1
    obtain ⟨ps, f1, f2, f3, f4⟩ := shLs_ok h2
    refine ⟨.tuple (p :: ps), by simp only [toPy]; rw [toPys, g1, Option.bind_some, f1]; rfl, by simp only [PyData.showable, PyData.showableAll, g2, f2]; rfl, ?_⟩
    simp only [PyData.shown, PyData.shownAll, g3]
    unfold tupleText
    obtain ⟨q, qs, hq⟩ : ∃ q qs, ps = q :: qs := by
      cases ps with
      | nil =>
        simp only [toPys] at f1
        obtain ⟨a, _, e1⟩ := bs f1
        simp only [Option.map_eq_some_iff] at e1
        obtain ⟨_, _, e3⟩ := e1
        cases e3
      | cons q qs => exact ⟨q, qs, rfl⟩
    have hlen : ((mkS m :: PyData.shownAll ps).length == 1) = false := by
      rw [hq]
      simp [PyData.shownAll]
    rw [hlen]
    have hj : Str.join ", " (mkS m :: PyData.shownAll ps) ++ (")" : Str) = mkS (m ++ m2) := by
      have e : Str.join ", " (mkS m :: PyData.shownAll ps) = mkS m ++ ((", " : Str) ++ Str.join ", " (PyData.shownAll ps)) := by
        rw [hq]
        simp only [PyData.shownAll]
        rw [join_cons]
        show Str.mk ((_ ++ _) ++ _) = Str.mk (_ ++ (_ ++ _))
        rw [Array.append_assoc]
      rw [e]
      have f := f4 (by rw [hq]; simp)
      show Str.mk ((_ ++ (_ ++ _)) ++ _) = _
      rw [Array.append_assoc]
      show mkS m ++ ((", " : Str) ++ Str.join ", " (PyData.shownAll ps) ++ (")" : Str)) = _
      rw [f, S_app]
    show ("(" : Str) ++ Str.join ", " (mkS m :: PyData.shownAll ps) ++ (")" : Str) = _
    show Str.mk ((_ ++ _) ++ _) = _
    rw [Array.append_assoc]
    show ("(" : Str) ++ (Str.join ", " (mkS m :: PyData.shownAll ps) ++ (")" : Str)) = _
    rw [hj, S_par, S_app]
    rfl
  | .non, _, h => by simp [shL] at h
  | .bl _, _, h => by simp [shL] at h
  | .int _, _, h => by simp [shL] at h
  | .obj _, _, h => by simp [shL] at h
theorem shLs_ok : ∀ {ds : List D} {l : List Nat}, shLs ds = some l → ∃ ps, toPys ds = some ps ∧ PyData.showableAll ps = true ∧ True ∧ (ps ≠ [] → (", " : Str) ++ Str.join ", " (PyData.shownAll ps) ++ (")" : Str) = mkS l)
  | [], l, h => ⟨[], rfl, by simp [PyData.showableAll], trivial, fun z => absurd rfl z⟩
  | [d], l, h => by
    simp only [shLs] at h
    obtain ⟨m, h1, h⟩ := bs h
    obtain ⟨m2, h2, h3⟩ := Option.map_eq_some_iff.mp h
    cases h2
    subst h3
    obtain ⟨p, g1, g2, g3⟩ := shL_ok h1
    refine ⟨[p], by simp [toPys, g1], by simp [PyData.showableAll, g2], trivial, fun _ => ?_⟩
    simp only [PyData.shownAll, g3]
    show (", " : Str) ++ mkS m ++ (")" : Str) = _
    rw [S_com, S_end, S_app, S_app]
    simp
  | d :: e :: r, l, h => by
    rw [shLs] at h
    obtain ⟨m, h1, h⟩ := bs h
    obtain ⟨m2, h2, h3⟩ := Option.map_eq_some_iff.mp h
    subst h3
    obtain ⟨p, g1, g2, g3⟩ := shL_ok h1
    obtain ⟨ps, f1, f2, _, f4⟩ := shLs_ok h2
    obtain ⟨q, qs, hq⟩ : ∃ q qs, ps = q :: qs := by
      cases ps with
      | nil =>
        simp only [toPys] at f1
        obtain ⟨a, _, e1⟩ := bs f1
        simp only [Option.map_eq_some_iff] at e1
        obtain ⟨_, _, e3⟩ := e1
        cases e3
      | cons q qs => exact ⟨q, qs, rfl⟩
    refine ⟨p :: ps, by rw [toPys, g1, Option.bind_some, f1]; rfl, by simp only [PyData.showableAll, g2, f2]; rfl, trivial, fun _ => ?_⟩
    have f := f4 (by rw [hq]; simp)
    have e1 : Str.join ", " (PyData.shownAll (p :: ps)) = mkS m ++ ((", " : Str) ++ Str.join ", " (PyData.shownAll ps)) := by
      rw [hq]
      simp only [PyData.shownAll, g3]
      rw [join_cons]
      show Str.mk ((_ ++ _) ++ _) = Str.mk (_ ++ (_ ++ _))
      rw [Array.append_assoc]
    rw [e1]
    show Str.mk ((_ ++ (_ ++ _)) ++ _) = _
    rw [Array.append_assoc, Array.append_assoc]
    show (", " : Str) ++ (mkS m ++ ((", " : Str) ++ Str.join ", " (PyData.shownAll ps) ++ (")" : Str))) = _
    rw [f, S_com, S_app, S_app]
    simp
end
def bReprF : Fb
  | [.tup ds], h => bif okD 60 (.tup ds) then ((shL (.tup ds)).bind fun l => if l.length ≤ 1000000 then some (.str (mkS l), h) else none) else none
  | _, _ => none
theorem bReprF_ok {ds : List D} {h : Ah} {r : D × Ah} (e : bReprF ds h = some r) : bRepr ds h = some r := by
  unfold bReprF at e
  split at e
  · rename_i es
    cases hk : okD 60 (.tup es) with
    | false => rw [hk] at e; cases e
    | true =>
      rw [hk] at e
      obtain ⟨l, h1, e⟩ := bs e
      split at e
      · rename_i hl
        cases e
        obtain ⟨p, g1, g2, g3⟩ := shL_ok h1
        obtain ⟨q, f1, f2, f3⟩ := okD_py hk
        rw [g1] at f1
        cases f1
        show ((toPy (.tup es)).bind fun p => if p.showable && decide (p.depth ≤ 60) && decide (p.shown.length ≤ 1000000) then some (D.str p.shown, h) else none) = _
        rw [g1, Option.bind_some, g2, decide_eq_true f3, g3]
        have : (mkS l).length ≤ 1000000 := by
          show (Array.mk l).size ≤ _
          simpa using hl
        rw [decide_eq_true this]
        rfl
      · cases e
  · cases e
theorem c_reprF {X : Cx} {cls : Cl} (hg : X.A.guards = some []) (hu : X.A.units + 64 < cLine) : CallR X (.builtin "repr") (rMs X.K cls bReprF) :=
  fun pins s σ H xs us Q I rx ⟨ρ, h, ds, d, h', R, r, ev, k⟩ => c_repr hg hu pins s σ H xs us Q I rx ⟨ρ, h, ds, d, h', R, r, bReprF_ok ev, k⟩

/-! ### texts as lists -/
section
variable {X : Cx} {cls : Cl} {o v : Expr} {fo fv : E} {pos pos' : Pos}
theorem xStrL {x x' : Str} {j : Nat} (h : x = x') : PE X (.Constant (.str x) j pos) (semE X.K cls (eC (.str x'))) := by subst h; exact xStr
theorem xFldL {f f' : Str} (h : f = f') (na : Att X.K cls f) (he : PE X o (semE X.K cls fo)) (hb : attributeBase o f X.env (eval o X.env) = eval o X.env := by rfl) : PE X (.Attribute o f pos) (semE X.K cls (eOp1 (gFld f') fo)) := by subst h; exact xFld na he hb
theorem xsFldL {f f' : Str} (h : f = f') (na : Att X.K cls f) (ho : PE X o (semE X.K cls fo)) (hv : PE X v (semE X.K cls fv)) (hs : swapsWith v (some (.Attribute o f pos')) pos.line X.env = pure false := by rfl) : PS X (.Assign [.Attribute o f pos'] v pos) (semS X.K cls (sFldSt f' fo fv)) := by subst h; exact xsFld na ho hv hs
end
end Gw
set_option Elab.async false
set_option linter.all false
set_option maxRecDepth 100000
set_option maxHeartbeats 4000000
/-! Gw: the law's def, the heap told anew, the head. -/
namespace Gw
open PySem PySem.Spec PyProof.Rows L2
section
variable {P : Program} {w : World} {K : PySem.W.Frag} {mg : Str → Option Value} {base : Heap} {cls : Cl}
/-- a def by its body, any promise -/
theorem fnG_any {x qual : Str} {st : Stmt} {f : Addr} {fd : FuncData} {N ps : List Str} {k : Nat} {sp : Sp} (F : L2.Fun K x qual st f fd) (S : FnScope N ps (defScope st))
    (hb : ∀ (kV doc pm : Value) (an : Option Addr) (cdv ct : Value) (us : List Value), us.length = ps.length → bindArgs (PySem.W.fnOf x qual (defArgs st) (defBody st) (defScope st) .none kV doc pm an cdv ct) ⟨us, []⟩ = pure (ps.zip us))
    (len : ∀ vs H Q E, sp vs H Q E → vs.length = ps.length)
    (hbody : ∀ (cdv : Value) (A : Around) (outer : List Env) (s : Shared) (H : Hp) (vs : List V) (Q : VK) (E E' : XK), RoomG k (A.deeper (envOfC qual (defScope st) s.heap.objs.size f cdv)) → sp vs H Q E' →
      ∃ t, PSs (cxOf CX0 P w K mg base N qual (defScope st) f cdv A outer s H E).nox (defBody st) t ∧ t { nx := fun _ H' => Q .non H', rt := Q } (L2.start N vs) H) : FnG P w K mg base (k + 1) f sp := by
  obtain ⟨oc, od, kV, doc, pm, an, cdv, ct, osl, rfl, lk, hcd⟩ := F.ex
  intro A outer s H us vs Q E hr e0 r hsp
  have hlv := len _ _ _ _ hsp
  have hlu : us.length = ps.length := by rw [← r.length]; exact hlv
  refine StX.run_bnd lk hcd S hr.rm e0 (bnd_of (.of_eq (hb kV doc pm an cdv ct us hlu)) e0 r hlv) fun s2 H2 xs ⟨ex, eH⟩ hr' => ?_
  subst ex eH
  obtain ⟨t, h1, h2⟩ := hbody cdv A outer s2 _ _ Q E E (hr.deeper _) hsp
  exact ⟨t, h1.nox, h2⟩
/-- a call of a def with any promise -/
theorem pe_callG {X : Cx} {x : Str} {f : Addr} {sp : Sp} {k : Nat} {p pos : Pos} {e : Expr} {es : List Expr} {t : TA} (h1 : X.mg x = some (.ref f)) (h2 : PySem.W.keepIn X.K (.ref f) = true) (h3 : FnG X.prog X.w X.K X.mg X.base k f sp) (hr : RoomG k X.A) (ha : PA X (e :: es) t) (hg : Gl X x := by rfl) (hdb : (x == ("__debug__" : Str)) = false := by decide)
    (he : starEach (e :: es) X.env = (false, eval e X.env) :: starEach es X.env := by rfl) (hpl : (backTo pos (starEach es X.env)).any (·.1) = false := by rfl) : PE X (.Call (.Name x p) (e :: es) [] pos) (fun σ H Q => t σ H fun vs H1 => sp vs H1 Q fun _ _ _ => False) := by
  refine ⟨fun pins s σ H Q I h => ?_⟩
  refine wpAny_Call_Name_kw (ld_glob I hg h1 ?_ hdb)
  refine PySem.W.callWith_K (h₀ := X.base) I.ok.mod.kin h2 (thn (ha.run pos pins s σ H _ I h) fun us s1 ⟨vs, H1, I1, r, q⟩ => ⟨I1.kIn, ?_⟩) he hpl
  exact wpAny_call (run_fnG h3 hr I1 r q)

/-! ### the heap told anew -/
mutual
def dLt (n : Nat) : D → Bool
  | .obj i => Nat.blt i n
  | .tup ds => dsLt n ds
  | _ => true
def dsLt (n : Nat) : List D → Bool
  | [] => true
  | d :: ds => dLt n d && dsLt n ds
end
def fsLt (n : Nat) : List (Str × D) → Bool
  | [] => true
  | p :: l => dLt n p.2 && fsLt n l
def aoLt (n : Nat) : AO → Bool
  | .lst ds => dsLt n ds
  | .ins _ fs => fsLt n fs
  | _ => false
theorem take_get {ρ : List Addr} {n i : Nat} {a : Addr} (h : ρ[i]? = some a) (hi : i < n) : (ρ.take n)[i]? = some a := by
  rw [List.getElem?_take_of_lt hi]; exact h
mutual
theorem RelD.cut {ρ : List Addr} {H : Hp} {n : Nat} : ∀ {d : D} {v : V}, RelD K ρ H d v → dLt n d = true → RelD K (ρ.take n) H d v
  | _, _, .non, _ => .non
  | _, _, .bl b, _ => .bl b
  | _, _, .int i, _ => .int i
  | _, _, .str x, _ => .str x
  | _, _, .tup h hs, e => .tup h (RelDs.cut hs (by simpa only [dLt] using e))
  | _, _, .obj h, e => .obj (take_get h (by simp only [dLt] at e; exact Nat.le_of_ble_eq_true e))
theorem RelDs.cut {ρ : List Addr} {H : Hp} {n : Nat} : ∀ {ds : List D} {vs : List V}, RelDs K ρ H ds vs → dsLt n ds = true → RelDs K (ρ.take n) H ds vs
  | _, _, .nil, _ => .nil
  | _, _, .cons h t, e => by
    simp only [dsLt, Bool.and_eq_true] at e
    exact .cons (RelD.cut h e.1) (RelDs.cut t e.2)
end
theorem RelKV.cut {ρ : List Addr} {H : Hp} {n : Nat} : ∀ {ds : List (Str × D)} {vs : List (Str × V)}, RelKV K ρ H ds vs → fsLt n ds = true → RelKV K (ρ.take n) H ds vs
  | _, _, .nil, _ => .nil
  | _, _, .cons h t, e => by
    simp only [fsLt, Bool.and_eq_true] at e
    exact .cons (h.cut e.1) (RelKV.cut t e.2)
/-- the first objects alone -/
theorem RelH.cut {ρ : List Addr} {h h2 : Ah} {H : Hp} (R : RelH K cls ρ h H) (hn : h2.n ≤ h.n) (hs : ∀ i o, h2.get i = some o → h.get i = some o ∧ aoLt h2.n o = true) : RelH K cls (ρ.take h2.n) h2 H := by
  have back : ∀ {i : Nat} {a : Addr}, (ρ.take h2.n)[i]? = some a → ρ[i]? = some a ∧ i < h2.n := fun {i a} e => by
    rw [List.getElem?_take] at e
    split at e
    · exact ⟨e, by assumption⟩
    · cases e
  refine ⟨by rw [List.length_take, R.len]; omega, fun i j a e1 e2 => R.nd i j a (back e1).1 (back e2).1, fun i a e => R.full i a (back e).1, fun i o a e1 e2 => ?_⟩
  obtain ⟨e3, hi⟩ := back e2
  obtain ⟨e4, e5⟩ := hs i o e1
  have r := R.at_ i o a e4 e3
  cases o with
  | lst ds => obtain ⟨vs, q, r⟩ := r; exact ⟨vs, q, r.cut (by simpa only [aoLt] using e5)⟩
  | ins c fs => obtain ⟨C, dx, vs, c1, q, r⟩ := r; exact ⟨C, dx, vs, c1, q, r.cut (by simpa only [aoLt] using e5)⟩
  | dic kvs => cases e5
  | frz kvs => cases e5
  | kd kvs => cases e5
theorem RelS.cut {ρ : List Addr} {H : Hp} {sa sb : AEnv} {σ : L2.St} {n : Nat} (R : RelS K ρ H sa σ) (hl : sb.length = sa.length) (hs : ∀ (i : Nat) (d : D), sb[i]? = some (some d) → sa[i]? = some (some d) ∧ dLt n d = true) : RelS K (ρ.take n) H sb σ :=
  ⟨hl.trans R.1, fun i d e => let ⟨e1, e2⟩ := hs i d e; let ⟨v, h1, h2⟩ := R.2 i d e1; ⟨v, h1, h2.cut e2⟩⟩

/-! ### statements one behind the other -/
def runNx : List S → AEnv → Ah → Option (AEnv × Ah)
  | [], sa, h => some (sa, h)
  | s :: l, sa, h => match s sa h with
    | some (.nx, sb, h1) => runNx l sb h1
    | _ => none
def chain (K : PySem.W.Frag) (cls : Cl) (l : List S) (rest : TS) : TS := l.foldr (fun s t => tSeq (semS K cls s) t) rest
theorem chain_run {rest : TS} {Dn : Ends} : ∀ (l : List S) {ρ : List Addr} {sa sb : AEnv} {h h1 : Ah} {σ : L2.St} {H : Hp}, RelH K cls ρ h H → RelS K ρ H sa σ → runNx l sa h = some (sb, h1) →
    (∀ ρ' σ' H', Ext ρ ρ' → Keep H H' → RelH K cls ρ' h1 H' → RelS K ρ' H' sb σ' → rest Dn σ' H') → chain K cls l rest Dn σ H
  | [], ρ, sa, sb, h, h1, σ, H, R, r, ev, k => by cases ev; exact k ρ σ H (Ext.refl _) (Keep.refl _) R r
  | s :: l, ρ, sa, sb, h, h1, σ, H, R, r, ev, k => by
    unfold runNx at ev
    split at ev
    · rename_i sc h2 e1
      refine ⟨ρ, sa, h, .nx, sc, h2, R, r, e1, fun ρ1 H1 x1 k1 R1 σ1 S1 => ?_⟩
      exact chain_run l R1 S1 ev fun ρ2 σ2 H2 x2 k2 => k ρ2 σ2 H2 (x1.trans x2) (k1.trans k2)
    · cases ev

/-! ### the draws -/
def hp2 (x y : AO) : Ah := (Ah.nil.push x).push y
def hp3 (x y z : AO) : Ah := ((Ah.nil.push x).push y).push z
abbrev scr (ns : List Int) : AO := .lst (ns.map D.int)
abbrev drw (a b c : Int) : AO := .lst [.obj 0, .int a, .int b, .int c]
def spDraws (K : PySem.W.Frag) (cls : Cl) : Sp := fun vs H Q _ => ∃ a ns, vs = [.ref a] ∧ SqL K H a (ns.map V.int) ∧ ∀ p1 p2 H', RelH K cls [p1, p2] (hp2 (scr ns) (drw 0 0 1)) H' → Q (.ref p2) H'
theorem rel_ns {ρ : List Addr} {H : Hp} : ∀ ns : List Int, RelDs K ρ H (ns.map D.int) (ns.map V.int)
  | [] => .nil
  | n :: ns => .cons (.int n) (rel_ns ns)
theorem hp2_0 (x y : AO) : (hp2 x y).get 0 = some x := by kernel_rfl
theorem hp2_1 (x y : AO) : (hp2 x y).get 1 = some y := by kernel_rfl
theorem hp3_0 (x y z : AO) : (hp3 x y z).get 0 = some x := by kernel_rfl
theorem hp3_1 (x y z : AO) : (hp3 x y z).get 1 = some y := by kernel_rfl
theorem hp3_2 (x y z : AO) : (hp3 x y z).get 2 = some z := by kernel_rfl
theorem hp3_set (x y z u : AO) : (hp3 x y z).set 1 u = hp3 x u z := by kernel_rfl
theorem rel_draws {H : Hp} {p1 p2 : Addr} {ns : List Int} {a b c : Int} (h : p1 ≠ p2) (e1 : H p1 = some (.lst (ns.map V.int))) (e2 : H p2 = some (.lst [.ref p1, .int a, .int b, .int c])) : RelH K cls [p1, p2] (hp2 (scr ns) (drw a b c)) H := by
  refine ⟨rfl, fun i j x ei ej => ?_, fun i x ei => ?_, fun i o x eo ei => ?_⟩
  · match i, j with
    | 0, 0 => rfl
    | 1, 1 => rfl
    | 0, 1 => simp at ei ej; exact absurd (ei.trans ej.symm) h
    | 1, 0 => simp at ei ej; exact absurd (ej.trans ei.symm) h
    | n + 2, _ => simp at ei
    | 0, n + 2 => simp at ej
    | 1, n + 2 => simp at ej
  · match i with
    | 0 => cases ei; exact ⟨_, e1⟩
    | 1 => cases ei; exact ⟨_, e2⟩
    | n + 2 => simp at ei
  · match i with
    | 0 => cases ei; have e := (hp2_0 _ _).symm.trans eo; cases e; exact ⟨_, e1, rel_ns ns⟩
    | 1 => cases ei; have e := (hp2_1 _ _).symm.trans eo; cases e; exact ⟨_, e2, .cons (.obj rfl) (.cons (.int a) (.cons (.int b) (.cons (.int c) .nil)))⟩
    | n + 2 => simp at ei
theorem chain_last {Dn : Ends} {s0 : S} : ∀ (l : List S) {ρ : List Addr} {sa sb : AEnv} {h h1 : Ah} {σ : L2.St} {H : Hp}, RelH K cls ρ h H → RelS K ρ H sa σ → runNx (l ++ [s0]) sa h = some (sb, h1) →
    (∀ ρ' σ' H', Ext ρ ρ' → Keep H H' → RelH K cls ρ' h1 H' → RelS K ρ' H' sb σ' → Dn.nx σ' H') → chain K cls l (semS K cls s0) Dn σ H
  | [], ρ, sa, sb, h, h1, σ, H, R, r, ev, k => by
    simp only [List.nil_append, runNx] at ev
    split at ev
    · rename_i sc h2 e1
      cases ev
      exact ⟨ρ, sa, h, .nx, _, _, R, r, e1, fun ρ1 H1 x1 k1 R1 σ1 S1 => k ρ1 σ1 H1 x1 k1 R1 S1⟩
    · cases ev
  | s :: l, ρ, sa, sb, h, h1, σ, H, R, r, ev, k => by
    rw [List.cons_append] at ev
    unfold runNx at ev
    split at ev
    · rename_i sc h2 e1
      refine ⟨ρ, sa, h, .nx, sc, h2, R, r, e1, fun ρ1 H1 x1 k1 R1 σ1 S1 => ?_⟩
      exact chain_last l R1 S1 ev fun ρ2 σ2 H2 x2 k2 => k ρ2 σ2 H2 (x1.trans x2) (k1.trans k2)
    · cases ev
/-- what an env keeps of another -/
inductive Sub (n : Nat) : AEnv → AEnv → Prop
  | nil {l : AEnv} : Sub n [] l
  | none0 {s : AEnv} : Sub n s [] → Sub n (none :: s) []
  | skip {s l : AEnv} {x : Option D} : Sub n s l → Sub n (none :: s) (x :: l)
  | cons {s l : AEnv} {d : D} : dLt n d = true → Sub n s l → Sub n (some d :: s) (some d :: l)
theorem Sub.get {n : Nat} : ∀ {s l : AEnv}, Sub n s l → ∀ (i : Nat) (d : D), s[i]? = some (some d) → l[i]? = some (some d) ∧ dLt n d = true
  | _, _, .nil, i, d, e => by simp at e
  | _, _, .none0 h, 0, d, e => by simp at e
  | _, _, .none0 h, i + 1, d, e => by
    have := h.get i d (by simpa using e)
    simp at this
  | _, _, .skip h, 0, d, e => by simp at e
  | _, _, .skip h, i + 1, d, e => by simpa using h.get i d (by simpa using e)
  | _, _, .cons h1 h, 0, d, e => by simp at e; subst e; exact ⟨by simp, h1⟩
  | _, _, .cons h1 h, i + 1, d, e => by simpa using h.get i d (by simpa using e)
theorem RelS.sub {ρ : List Addr} {H : Hp} {sb sc l : AEnv} {σ : L2.St} {n k : Nat} (R : RelS K ρ H sb σ) (hk : sb.take k = l) (hl : sc.length = sb.length) (hs : Sub n sc l) : RelS K (ρ.take n) H sc σ := by
  refine R.cut hl fun i d e => ?_
  obtain ⟨e1, e2⟩ := hs.get i d e
  rw [← hk, List.getElem?_take] at e1
  split at e1
  · exact ⟨e1, e2⟩
  · cases e1
theorem ds_ints (n : Nat) : ∀ ns : List Int, dsLt n (ns.map D.int) = true
  | [] => by simp only [List.map_nil, dsLt]
  | _ :: ns => by simp only [List.map_cons, dsLt, dLt, Bool.true_and]; exact ds_ints n ns
theorem drw_lt (n : Nat) (a b c : Int) (h : 0 < n) : aoLt n (drw a b c) = true := by
  simp only [aoLt, dsLt, dLt, Bool.and_true]
  exact Ah.blt_t h
theorem cut2 {ρ : List Addr} {h : Ah} {H : Hp} {ns : List Int} {a b c : Int} (R : RelH K cls ρ h H) (g0 : h.get 0 = some (scr ns)) (g1 : h.get 1 = some (drw a b c)) : RelH K cls (ρ.take 2) (hp2 (scr ns) (drw a b c)) H := by
  refine R.cut (h2 := hp2 (scr ns) (drw a b c)) (Ah.get_some g1) fun i o e => ?_
  have hi : i < 2 := Ah.get_some e
  match i, hi with
  | 0, _ => have e' := (hp2_0 _ _).symm.trans e; cases e'; exact ⟨g0, ds_ints _ ns⟩
  | 1, _ => have e' := (hp2_1 _ _).symm.trans e; cases e'; exact ⟨g1, drw_lt _ _ _ _ (by show 0 < 2; decide)⟩
theorem cut3 {ρ : List Addr} {h : Ah} {H : Hp} {ns : List Int} {a b c : Int} {o3 : AO} (R : RelH K cls ρ h H) (g0 : h.get 0 = some (scr ns)) (g1 : h.get 1 = some (drw a b c)) (g2 : h.get 2 = some o3) (hl : aoLt 3 o3 = true) : RelH K cls (ρ.take 3) (hp3 (scr ns) (drw a b c) o3) H := by
  refine R.cut (h2 := hp3 (scr ns) (drw a b c) o3) (Ah.get_some g2) fun i o e => ?_
  have hi : i < 3 := Ah.get_some e
  match i, hi with
  | 0, _ => have e' := (hp3_0 _ _ _).symm.trans e; cases e'; exact ⟨g0, ds_ints _ ns⟩
  | 1, _ => have e' := (hp3_1 _ _ _).symm.trans e; cases e'; exact ⟨g1, drw_lt _ _ _ _ (by show 0 < 3; decide)⟩
  | 2, _ => have e' := (hp3_2 _ _ _).symm.trans e; cases e'; exact ⟨g2, hl⟩
end
end Gw
set_option Elab.async false
set_option linter.all false
set_option maxRecDepth 100000
set_option maxHeartbeats 4000000
/-! Gw: one draw. -/
namespace Gw
open PySem L2
/-- the text of a draw -/
def drawS : S :=
  (sSeq (sIf (tAndT (tB (eOp (gEqF) (eOp gIx (eVar 0) (eC (.int 2))) (eC (.int 0)))) (tB (eOp (gLt) (eOp gIx (eVar 0) (eC (.int 1))) (eApp bLen (aCons (eOp gIx (eVar 0) (eC (.int 0))) aNil))))) (sSeq (sAsg (eOp gIx (eOp gIx (eVar 0) (eC (.int 0))) (eOp gIx (eVar 0) (eC (.int 1)))) (tgN 2))
    (sSeq (sPut (eVar 0) (eC (.int 1)) (eOp gAdd (eOp gIx (eVar 0) (eC (.int 1))) (eC (.int 1))))
    (sSeq (sIf (tB (eOp (gGe) (eVar 2) (eOp gPow (eC (.int 10)) (eC (.int 18))))) (sPut (eVar 0) (eC (.int 2)) (eVar 2)) sNx)
    (sPut (eVar 0) (eC (.int 3)) (eOp gMod (eApp bInt (aCons (eOp gAdd (eOp gAdd (eOp gMulA (eOp gIx (eVar 0) (eC (.int 3))) (eC (.int 48271))) (eVar 2)) (eC (.int 13))) aNil)) (eC (.int 2147483647))))))) sNx)
    (sSeq (sIf (tB (eOp (gGt) (eOp gIx (eVar 0) (eC (.int 2))) (eC (.int 0)))) (sSeq (sAsg (eOp gMod (eApp bInt (aCons (eOp gIx (eVar 0) (eC (.int 2))) aNil)) (eVar 1)) (tgN 3))
    (sSeq (sPut (eVar 0) (eC (.int 2)) (eOp gFdiv (eOp gIx (eVar 0) (eC (.int 2))) (eVar 1)))
    (sRet (eVar 3)))) sNx)
    (sSeq (sPut (eVar 0) (eC (.int 3)) (eOp gMod (eApp bInt (aCons (eOp gAdd (eOp gMulA (eOp gIx (eVar 0) (eC (.int 3))) (eC (.int 69621))) (eC (.int 7))) aNil)) (eC (.int 2147483629))))
    (sRet (eOp gMod (eApp bInt (aCons (eOp gFdiv (eOp gIx (eVar 0) (eC (.int 3))) (eC (.int 11))) aNil)) (eVar 1))))))
abbrev dsa (lim : Int) (x y : Option D) : AEnv := [some (.obj 1), some (.int lim), x, y]
/-- a heap in which the draws stand at 1, the script at 0 -/
structure DH (ns : List Int) (G : Int → Int → Int → Ah) : Prop where
  g0 : ∀ a b c, (G a b c).get 0 = some (scr ns)
  g1 : ∀ a b c, (G a b c).get 1 = some (drw a b c)
  st : ∀ a b c x y z, (G a b c).set 1 (drw x y z) = G x y z
section
variable {ns : List Int} {G : Int → Int → Int → Ah} {lim a b c : Int} {x y : Option D}
theorem ix_at (X : DH ns G) (j : Int) (d : D) (e : atI [.obj 0, .int a, .int b, .int c] j = some d) : eOp gIx (eVar 0) (eC (.int j)) (dsa lim x y) (G a b c) = some (d, G a b c) := by
  show gIx (.obj 1) (.int j) (G a b c) = _
  unfold gIx
  simp only [X.g1, e]
  rfl
theorem ix0 (X : DH ns G) : eOp gIx (eVar 0) (eC (.int 0)) (dsa lim x y) (G a b c) = some (.obj 0, G a b c) := ix_at X _ _ rfl
theorem ix1 (X : DH ns G) : eOp gIx (eVar 0) (eC (.int 1)) (dsa lim x y) (G a b c) = some (.int a, G a b c) := ix_at X _ _ rfl
theorem ix2 (X : DH ns G) : eOp gIx (eVar 0) (eC (.int 2)) (dsa lim x y) (G a b c) = some (.int b, G a b c) := ix_at X _ _ rfl
theorem ix3 (X : DH ns G) : eOp gIx (eVar 0) (eC (.int 3)) (dsa lim x y) (G a b c) = some (.int c, G a b c) := ix_at X _ _ rfl
theorem put_at (X : DH ns G) {v : E} {u a' b' c' : Int} (j : Int) (n : Nat) (e : v (dsa lim x y) (G a b c) = some (.int u, G a b c)) (e1 : ixN 4 j = some n) (e2 : ([.obj 0, .int a, .int b, .int c] : List D).set n (.int u) = [.obj 0, .int a', .int b', .int c']) :
    sPut (eVar 0) (eC (.int j)) v (dsa lim x y) (G a b c) = some (.nx, dsa lim x y, G a' b' c') := by
  unfold sPut
  rw [e]
  show (putAtD (.obj 1) (.int j) (.int u) (G a b c)).map _ = _
  unfold putAtD
  simp only [X.g1, List.length_cons, List.length_nil, e1, Option.map_some, e2, X.st, Nat.reduceAdd]
theorem op_of {g : G2} {p q : E} {sa : AEnv} {h : Ah} {u v : D} {r : Option (D × Ah)} (e1 : p sa h = some (u, h)) (e2 : q sa h = some (v, h)) (e3 : g u v h = r) : eOp g p q sa h = r := by
  unfold eOp; rw [e1]; show (q sa h).bind _ = r; rw [e2]; exact e3
theorem tB_of {p : E} {sa : AEnv} {h : Ah} {k : Bool} (e : p sa h = some (.bl k, h)) : tB p sa h = some (k, h) := by
  unfold tB; rw [e]; rfl
theorem if_of {t : T} {p q : S} {sa : AEnv} {h : Ah} {k : Bool} (e : t sa h = some (k, h)) : sIf t p q sa h = bif k then p sa h else q sa h := by
  unfold sIf; rw [e]; rfl
theorem and_t {p q : T} {sa : AEnv} {h : Ah} {k : Bool} (e1 : p sa h = some (true, h)) (e2 : q sa h = some (k, h)) : tAndT p q sa h = some (k, h) := by
  unfold tAndT; rw [e1]; exact e2
theorem seq_of {p q : S} {sa sb : AEnv} {h h1 : Ah} (e : p sa h = some (.nx, sb, h1)) : sSeq p q sa h = q sb h1 := by
  unfold sSeq; rw [e]; rfl
theorem app1_of {g : F} {p : E} {sa : AEnv} {h : Ah} {u : D} {r : Option (D × Ah)} (e : p sa h = some (u, h)) (e2 : g [u] h = r) : eApp g (aCons p aNil) sa h = r := by
  unfold eApp aCons; rw [e]; exact e2
theorem mod_of {i j : Int} {h : Ah} (hj : j ≠ 0) : gMod (.int i) (.int j) h = some (.int (i.fmod j), h) := by unfold gMod; exact if_neg hj
theorem draw_run (X : DH ns G) (ha : 0 ≤ a) (hl : 0 < lim) (hl2 : lim < 1000) : ∃ v a' b' c' sa', drawS (dsa lim none none) (G a b c) = some (.rt (.int v), sa', G a' b' c') ∧ 0 ≤ v ∧ v < lim ∧ 0 ≤ a' := by
  have hmod : ∀ i : Int, 0 ≤ i.fmod lim ∧ i.fmod lim < lim := fun i => ⟨Int.fmod_nonneg_of_pos i hl, Int.fmod_lt_of_pos i hl⟩
  -- the first if
  have A : ∃ a1 b1 c1 x1, 0 ≤ a1 ∧ (sIf (tAndT (tB (eOp (gEqF) (eOp gIx (eVar 0) (eC (.int 2))) (eC (.int 0)))) (tB (eOp (gLt) (eOp gIx (eVar 0) (eC (.int 1))) (eApp bLen (aCons (eOp gIx (eVar 0) (eC (.int 0))) aNil))))) (sSeq (sAsg (eOp gIx (eOp gIx (eVar 0) (eC (.int 0))) (eOp gIx (eVar 0) (eC (.int 1)))) (tgN 2))
    (sSeq (sPut (eVar 0) (eC (.int 1)) (eOp gAdd (eOp gIx (eVar 0) (eC (.int 1))) (eC (.int 1))))
    (sSeq (sIf (tB (eOp (gGe) (eVar 2) (eOp gPow (eC (.int 10)) (eC (.int 18))))) (sPut (eVar 0) (eC (.int 2)) (eVar 2)) sNx)
    (sPut (eVar 0) (eC (.int 3)) (eOp gMod (eApp bInt (aCons (eOp gAdd (eOp gAdd (eOp gMulA (eOp gIx (eVar 0) (eC (.int 3))) (eC (.int 48271))) (eVar 2)) (eC (.int 13))) aNil)) (eC (.int 2147483647))))))) sNx) (dsa lim none none) (G a b c) = some (.nx, dsa lim x1 none, G a1 b1 c1) := by
    have t1 : tB (eOp (gEqF) (eOp gIx (eVar 0) (eC (.int 2))) (eC (.int 0))) (dsa lim none none) (G a b c) = some (b == 0, G a b c) := tB_of (op_of (ix2 X) rfl rfl)
    have t2 : tB (eOp (gLt) (eOp gIx (eVar 0) (eC (.int 1))) (eApp bLen (aCons (eOp gIx (eVar 0) (eC (.int 0))) aNil))) (dsa lim none none) (G a b c) = some (decide (a < (ns.length : Int)), G a b c) := by
      refine tB_of (op_of (ix1 X) (app1_of (u := .obj 0) (r := some (.int ns.length, G a b c)) (ix0 X) ?_) rfl)
      unfold bLen
      simp only [X.g0, List.length_map]
    by_cases hb : b = 0
    · by_cases hn : a < (ns.length : Int)
      · obtain ⟨cell, hc⟩ : ∃ cell : Int, (ns.map D.int)[a.toNat]? = some (.int cell) := by
          have : a.toNat < ns.length := by omega
          exact ⟨ns[a.toNat], by simp [this]⟩
        have hat : atI (ns.map D.int) a = some (.int cell) := by
          unfold atI ixN
          rw [if_pos ha, List.length_map, if_pos hn]
          exact hc
        refine ⟨a + 1, (if 10 ^ 18 ≤ cell then cell else b), (c * 48271 + cell + 13).fmod 2147483647, some (.int cell), by omega, ?_⟩
        have tt : tAndT (tB (eOp (gEqF) (eOp gIx (eVar 0) (eC (.int 2))) (eC (.int 0)))) (tB (eOp (gLt) (eOp gIx (eVar 0) (eC (.int 1))) (eApp bLen (aCons (eOp gIx (eVar 0) (eC (.int 0))) aNil)))) (dsa lim none none) (G a b c) = some (true, G a b c) := by
          exact and_t (t1.trans (by rw [hb]; rfl)) (t2.trans (by rw [decide_eq_true hn]))
        rw [if_of tt, cond_true]
        have s1 : sAsg (eOp gIx (eOp gIx (eVar 0) (eC (.int 0))) (eOp gIx (eVar 0) (eC (.int 1)))) (tgN 2) (dsa lim none none) (G a b c) = some (.nx, dsa lim (some (.int cell)) none, G a b c) := by
          have : eOp gIx (eOp gIx (eVar 0) (eC (.int 0))) (eOp gIx (eVar 0) (eC (.int 1))) (dsa lim none none) (G a b c) = some (.int cell, G a b c) := by
            refine op_of (ix0 X) (ix1 X) ?_
            unfold gIx
            simp only [X.g0, hat]
            rfl
          unfold sAsg; rw [this]; rfl
        rw [seq_of s1, seq_of (put_at X (a' := a + 1) (b' := b) (c' := c) 1 1 (op_of (ix1 X) rfl rfl) rfl rfl)]
        have s3 : sIf (tB (eOp (gGe) (eVar 2) (eOp gPow (eC (.int 10)) (eC (.int 18))))) (sPut (eVar 0) (eC (.int 2)) (eVar 2)) sNx (dsa lim (some (.int cell)) none) (G (a + 1) b c) = some (.nx, dsa lim (some (.int cell)) none, G (a + 1) (if 10 ^ 18 ≤ cell then cell else b) c) := by
          have t3 : tB (eOp (gGe) (eVar 2) (eOp gPow (eC (.int 10)) (eC (.int 18)))) (dsa lim (some (.int cell)) none) (G (a + 1) b c) = some (decide (10 ^ 18 ≤ cell), G (a + 1) b c) := tB_of (op_of (u := .int cell) (v := .int (10 ^ 18)) rfl (by kernel_rfl) rfl)
          rw [if_of t3]
          by_cases h3 : (10 ^ 18 : Int) ≤ cell
          · rw [decide_eq_true h3, cond_true, if_pos h3]; exact put_at X 2 2 rfl rfl rfl
          · rw [decide_eq_false h3, cond_false, if_neg h3]; rfl
        rw [seq_of s3]
        refine put_at X 3 3 (op_of (u := .int (c * 48271 + cell + 13)) (app1_of (u := .int (c * 48271 + cell + 13)) ?_ rfl) rfl (mod_of (by decide))) rfl rfl
        exact op_of (op_of (u := .int (c * 48271)) (op_of (ix3 X) rfl rfl) rfl rfl) rfl rfl
      · refine ⟨a, b, c, none, ha, ?_⟩
        have tt : tAndT (tB (eOp (gEqF) (eOp gIx (eVar 0) (eC (.int 2))) (eC (.int 0)))) (tB (eOp (gLt) (eOp gIx (eVar 0) (eC (.int 1))) (eApp bLen (aCons (eOp gIx (eVar 0) (eC (.int 0))) aNil)))) (dsa lim none none) (G a b c) = some (false, G a b c) := by
          exact and_t (t1.trans (by rw [hb]; rfl)) (t2.trans (by rw [decide_eq_false hn]))
        rw [if_of tt]; rfl
    · refine ⟨a, b, c, none, ha, ?_⟩
      have tt : tAndT (tB (eOp (gEqF) (eOp gIx (eVar 0) (eC (.int 2))) (eC (.int 0)))) (tB (eOp (gLt) (eOp gIx (eVar 0) (eC (.int 1))) (eApp bLen (aCons (eOp gIx (eVar 0) (eC (.int 0))) aNil)))) (dsa lim none none) (G a b c) = some (false, G a b c) := by
        have e0 : (b == 0) = false := by simp [hb]
        unfold tAndT; rw [t1, e0]; rfl
      rw [if_of tt]; rfl
  obtain ⟨a1, b1, c1, x1, ha1, e1⟩ := A
  unfold drawS
  rw [seq_of e1]
  have t4 : tB (eOp (gGt) (eOp gIx (eVar 0) (eC (.int 2))) (eC (.int 0))) (dsa lim x1 none) (G a1 b1 c1) = some (decide (0 < b1), G a1 b1 c1) := tB_of (op_of (ix2 X) rfl rfl)
  by_cases hb1 : 0 < b1
  · refine ⟨b1.fmod lim, a1, b1.fdiv lim, c1, dsa lim x1 (some (.int (b1.fmod lim))), ?_, (hmod b1).1, (hmod b1).2, ha1⟩
    have s1 : sAsg (eOp gMod (eApp bInt (aCons (eOp gIx (eVar 0) (eC (.int 2))) aNil)) (eVar 1)) (tgN 3) (dsa lim x1 none) (G a1 b1 c1) = some (.nx, dsa lim x1 (some (.int (b1.fmod lim))), G a1 b1 c1) := by
      have : eOp gMod (eApp bInt (aCons (eOp gIx (eVar 0) (eC (.int 2))) aNil)) (eVar 1) (dsa lim x1 none) (G a1 b1 c1) = some (.int (b1.fmod lim), G a1 b1 c1) := op_of (u := .int b1) (v := .int lim) (app1_of (ix2 X) rfl) rfl (mod_of (by omega))
      unfold sAsg; rw [this]; rfl
    have s2 : sPut (eVar 0) (eC (.int 2)) (eOp gFdiv (eOp gIx (eVar 0) (eC (.int 2))) (eVar 1)) (dsa lim x1 (some (.int (b1.fmod lim)))) (G a1 b1 c1) = some (.nx, dsa lim x1 (some (.int (b1.fmod lim))), G a1 (b1.fdiv lim) c1) := by
      refine put_at X 2 2 (op_of (u := .int b1) (v := .int lim) (ix2 X) rfl ?_) rfl rfl
      unfold gFdiv
      refine if_pos ?_
      simp only [Bool.and_eq_true, decide_eq_true_eq]
      omega
    have e2 : (sIf (tB (eOp (gGt) (eOp gIx (eVar 0) (eC (.int 2))) (eC (.int 0)))) (sSeq (sAsg (eOp gMod (eApp bInt (aCons (eOp gIx (eVar 0) (eC (.int 2))) aNil)) (eVar 1)) (tgN 3)) (sSeq (sPut (eVar 0) (eC (.int 2)) (eOp gFdiv (eOp gIx (eVar 0) (eC (.int 2))) (eVar 1))) (sRet (eVar 3)))) sNx) (dsa lim x1 none) (G a1 b1 c1) = some (.rt (.int (b1.fmod lim)), dsa lim x1 (some (.int (b1.fmod lim))), G a1 (b1.fdiv lim) c1) := by
      rw [if_of t4, decide_eq_true hb1, cond_true, seq_of s1, seq_of s2]; rfl
    unfold sSeq at e2 ⊢
    rw [e2]; rfl
  · refine ⟨(Int.fdiv ((c1 * 69621 + 7).fmod 2147483629) 11).fmod lim, a1, b1, (c1 * 69621 + 7).fmod 2147483629, dsa lim x1 none, ?_, (hmod _).1, (hmod _).2, ha1⟩
    have e2 : (sIf (tB (eOp (gGt) (eOp gIx (eVar 0) (eC (.int 2))) (eC (.int 0)))) (sSeq (sAsg (eOp gMod (eApp bInt (aCons (eOp gIx (eVar 0) (eC (.int 2))) aNil)) (eVar 1)) (tgN 3)) (sSeq (sPut (eVar 0) (eC (.int 2)) (eOp gFdiv (eOp gIx (eVar 0) (eC (.int 2))) (eVar 1))) (sRet (eVar 3)))) sNx) (dsa lim x1 none) (G a1 b1 c1) = some (.nx, dsa lim x1 none, G a1 b1 c1) := by
      rw [if_of t4, decide_eq_false hb1, cond_false]; rfl
    rw [seq_of e2]
    have s1 : sPut (eVar 0) (eC (.int 3)) (eOp gMod (eApp bInt (aCons (eOp gAdd (eOp gMulA (eOp gIx (eVar 0) (eC (.int 3))) (eC (.int 69621))) (eC (.int 7))) aNil)) (eC (.int 2147483629))) (dsa lim x1 none) (G a1 b1 c1) = some (.nx, dsa lim x1 none, G a1 b1 ((c1 * 69621 + 7).fmod 2147483629)) :=
      put_at X 3 3 (op_of (u := .int (c1 * 69621 + 7)) (app1_of (u := .int (c1 * 69621 + 7)) (op_of (u := .int (c1 * 69621)) (op_of (ix3 X) rfl rfl) rfl rfl) rfl) rfl (mod_of (by decide))) rfl rfl
    rw [seq_of s1]
    have s2 : eOp gMod (eApp bInt (aCons (eOp gFdiv (eOp gIx (eVar 0) (eC (.int 3))) (eC (.int 11))) aNil)) (eVar 1) (dsa lim x1 none) (G a1 b1 ((c1 * 69621 + 7).fmod 2147483629)) = some (.int ((Int.fdiv ((c1 * 69621 + 7).fmod 2147483629) 11).fmod lim), G a1 b1 ((c1 * 69621 + 7).fmod 2147483629)) :=
      op_of (u := .int (Int.fdiv ((c1 * 69621 + 7).fmod 2147483629) 11)) (v := .int lim) (app1_of (op_of (v := .int 11) (ix3 X) rfl rfl) rfl) rfl (mod_of (by omega))
    unfold sRet
    rw [s2]; rfl
/-- the def of a draw -/
theorem draw_def (X : DH ns G) (ha : 0 ≤ a) (hl : 0 < lim) (hl2 : lim < 1000) : ∃ v a' b' c', defF 2 4 drawS [.obj 1, .int lim] (G a b c) = some (.int v, G a' b' c') ∧ 0 ≤ v ∧ v < lim ∧ 0 ≤ a' := by
  obtain ⟨v, a', b', c', sa', e, h1, h2, h3⟩ := draw_run (b := b) (c := c) X ha hl hl2
  refine ⟨v, a', b', c', ?_, h1, h2, h3⟩
  show runF 4 drawS [.obj 1, .int lim] (G a b c) = _
  unfold runF
  show (drawS (dsa lim none none) (G a b c)).bind _ = _
  rw [e]; rfl
theorem dh2 (ns : List Int) : DH ns fun a b c => hp2 (scr ns) (drw a b c) := ⟨fun _ _ _ => hp2_0 _ _, fun _ _ _ => hp2_1 _ _, fun a b c x y z => by kernel_rfl⟩
theorem dh3 (ns : List Int) (o : AO) : DH ns fun a b c => hp3 (scr ns) (drw a b c) o := ⟨fun _ _ _ => hp3_0 _ _ _, fun _ _ _ => hp3_1 _ _ _, fun a b c x y z => hp3_set _ _ _ _⟩
end
end Gw
set_option Elab.async false
set_option linter.all false
set_option maxRecDepth 100000
set_option maxHeartbeats 4000000
/-! Gw: the head of a law's row, for a promise under FnG (turned from the library's head for FnOk). -/
namespace Gw
open PySem PySem.Spec PyProof.Rows L2
section
variable {P : Program} {w : World} {K : PySem.W.Frag} {mg mb : Str → Option Value} {k : Nat} {fa a : Addr} {sp : Sp} {s1 : Shared} {vs : List Value} {ns : List Int}
/-- what the caller of law wants -/
def WantTrue (s1 : Shared) : Result → Shared → Prop := fun r s2 => r = .ok (.ret (.bool true)) ∧ OldK s1.heap s2.heap ∧ s2.os = s1.os ∧ AllBare s2.gens
/-- from a told heap that tells the script at most -/
theorem head_core (kin : K.In s1.heap) (nm : s1.heap.Ns mainGlobals mg) (nb : s1.heap.Ns builtinsNs mb) (bb : ∀ x : Str, x ≠ "__name__" → mb x = bootBuiltins x) (nl : s1.heap.NoLimit) (ng : s1.gens = #[])
    (oa : s1.heap.get? a = some { cls := .type "list", data := .seq vs.toArray }) (rm : RoomG k callerA)
    (F : ∀ base : Heap, K.In base → base.Ns mainGlobals mg → FnG P w K mg base k fa sp) {H : Hp} (only : Only H) (ok1 : HOk P w H s1.heap) (at_a : ∀ b, H b ≠ none → b = a) (not_k : H a ≠ none → K.lookup a = none)
    (q : sp [.ref a] H (fun v _ => v = .bl true) fun _ _ _ => False) : codeAny (model P w) callerA (.call (.ref fa) ⟨[.ref a], []⟩) (WantTrue s1) s1 := by
  let B := hidT s1.heap H
  have untold : ∀ b, b ≠ a → H b = none := fun b hb => by
    cases e : H b with
    | none => rfl
    | some u => exact absurd (at_a b (by rw [e]; exact Option.some_ne_none u)) hb
  -- a dict is not the script
  have dicts : ∀ {b : Addr} {o : Obj} {es : Array DictEntry} {ep : Nat}, s1.heap.get? b = some o → o.data = .dict es ep → B.get? b = some o := fun {b o es ep} e d => by
    refine hidT_get e (untold b fun z => ?_)
    subst z
    rw [oa] at e
    cases e
    have d' : Data.seq vs.toArray _ = Data.dict es ep := d
    cases d'
  have spaces : ∀ {b : Addr} {m : Str → Option Value}, s1.heap.Ns b m → B.Ns b m := fun ⟨o, es, ep, e, d, r⟩ => ⟨o, es, ep, dicts e d, d, r⟩
  have kinB : K.In B := fun b o e => hidT_get (kin b o e) (by
    cases z : H b with
    | none => rfl
    | some u =>
      have hz : H b ≠ none := by rw [z]; exact Option.some_ne_none u
      have eb := at_a b hz
      subst eb
      rw [not_k hz] at e
      cases e)
  have modB : Mod K mg B := ⟨kinB, spaces nm, ⟨mb, spaces nb, bb⟩, let ⟨mc, z1, z2⟩ := nl; ⟨mc, spaces z1, z2⟩⟩
  have env : Env0 P w K mg B callerA [] s1 H :=
    ⟨rfl, modB, fun b o e => of_hidT e, Nat.le_of_eq (hidT_size _ _), trivial, fun b hb => absurd (show b ∈ ([] : List Addr) from hb) List.not_mem_nil, ok1, .of_eq ng⟩
  refine codeAny_mono (F B kinB (spaces nm) callerA [] s1 H [.ref a] [.ref a] _ _ rm env (.cons rfl .nil) q) fun r s2 hr => ?_
  match r, hr with
  | .error e, hr => exact False.elim hr
  | .ok .next, hr => exact False.elim hr
  | .ok .brk, hr => exact False.elim hr
  | .ok .cont, hr => exact False.elim hr
  | .ok (.ret u), ⟨v, H2, os, bare, un, ok2, rv, qv⟩ =>
    have qv' : v = .bl true := qv
    subst qv'
    have eu : u = Value.bool true := rv
    subst eu
    refine ⟨rfl, OldK.of_keep fun b o e => ?_, os, bare⟩
    rcases only b with z | ⟨ob, xs, z⟩
    · exact un.keep b o e z (fun y => absurd (show b ∈ ([] : List Addr) from y) List.not_mem_nil) List.not_mem_nil
    · obtain ⟨e1, _⟩ := ok1 b _ z
      obtain ⟨e2, _⟩ := ok2 b _ (un.frzs b ob _ z)
      rw [e] at e1
      cases e1
      exact e2
theorem head_call (kin : K.In s1.heap) (nm : s1.heap.Ns mainGlobals mg) (nb : s1.heap.Ns builtinsNs mb) (bb : ∀ x : Str, x ≠ "__name__" → mb x = bootBuiltins x) (nl : s1.heap.NoLimit) (ng : s1.gens = #[])
    (oa : s1.heap.get? a = some { cls := .type "list", data := .seq vs.toArray }) (ia : IntsAre vs ns) (la : ns.length ≤ sizeLine) (rm : RoomG k callerA)
    (F : ∀ base : Heap, K.In base → base.Ns mainGlobals mg → FnG P w K mg base k fa sp) (hq : ∀ H : Hp, Only H → SqL K H a (ns.map V.int) → sp [.ref a] H (fun v _ => v = .bl true) fun _ _ _ => False) :
    codeAny (model P w) callerA (.call (.ref fa) ⟨[.ref a], []⟩) (WantTrue s1) s1 := by
  have lv := ia.length
  cases hk : K.lookup a with
  | some o =>
    have e := kin a o hk
    rw [oa] at e
    cases e
    have on : Only fun _ => none := fun _ => .inl rfl
    refine head_core kin nm nb bb nl ng oa rm F on (fun b u z => by cases (show (none : Option HO) = some u from z)) (fun b z => absurd rfl z) (fun z => absurd rfl z) (hq _ on (.inr ⟨_, vs.toArray, _, hk, rfl, rfl, rfl, ?_, ?_⟩))
    · rw [List.size_toArray, lv]; exact la
    · simpa using vals_ints ia
  | none =>
    let H : Hp := fun b => if b = a then some (.frz { cls := .type "list", data := .seq vs.toArray } (.lst (ns.map V.int))) else none
    have hH : H a = some (.frz { cls := .type "list", data := .seq vs.toArray } (.lst (ns.map V.int))) := if_pos rfl
    have on : Only H := fun b => by
      by_cases hb : b = a
      · exact .inr ⟨_, _, if_pos hb⟩
      · exact .inl (if_neg hb)
    refine head_core kin nm nb bb nl ng oa rm F on (fun b u z => ?_) (fun b z => ?_) (fun _ => hk) (hq H on (.inl (.inr ⟨_, hH⟩)))
    · by_cases hb : b = a
      · subst hb
        cases hH.symm.trans z
        exact ⟨oa, by rw [List.length_map]; exact la, vs, _, vals_ints ia, oa⟩
      · cases (show H b = none from if_neg hb).symm.trans z
    · by_cases hb : b = a
      · exact hb
      · exact absurd (if_neg hb) z
end
/-- the goal behind the head -/
theorem walkG {l : PySem.W.OpenLaw} {n k : Nat} {q : Program} {loose : List Str} {XP : (Str → Option Value) → Heap → Prop} {YP : World → Heap → Prop} {d : DefRec} {K : Params → PySem.W.Frag} {sp : World → Sp}
    (hn : l.most = some n) (hz : n ≤ sizeLine) (hdf : d.params.defaults = []) (rm : RoomG k callerA) (hY : ∀ (w : World) (h : Heap), YP w h → (K w.params).In h)
    (F : ∀ (w : World) (mg : Str → Option Value) (fa : Addr) (h : Heap), (K w.params).In h → h.Ns mainGlobals mg → mg d.name = some (.ref fa) → ∀ base : Heap, (K w.params).In base → base.Ns mainGlobals mg → FnG l.prog w (K w.params) mg base k fa (sp w))
    (hq : ∀ (w : World) (H : Hp) (a : Addr) (ns : List Int), ns.length ≤ n → Only H → SqL (K w.params) H a (ns.map V.int) → sp w [.ref a] H (fun v _ => v = .bl true) fun _ _ _ => False) :
    PySem.W.WalkO q loose XP YP l.row.toRowW d [] (fun f vs => PySem.call f vs) :=
  Att.attach_call hn hdf fun w s0 s1 mg mb fa o pm cd doc a vs ns G Y ho hd hcd hmg hobj hints hlen hg =>
    head_call (hY w _ Y) G.T.g G.T.b G.T.builtins G.T.nolimit hg hobj hints (Nat.le_trans hlen hz) rm (F w mg fa _ (hY w _ Y) G.T.g hmg) fun H hO hS => hq w H a ns hlen hO hS
theorem room_caller {k : Nat} (h : Room k callerA) : RoomG k callerA := ⟨h, by rfl⟩
end Gw
set_option Elab.async false
set_option linter.all false
set_option maxRecDepth 100000
set_option maxHeartbeats 4000000
/-! The meanings of the program's defs (printed by gen.py). -/
namespace K68
open PySem Gw
abbrev c_MOST_NAMES : D := .int 5
abbrev c_MOST_STEPS : D := .int 6
abbrev c_MOST_STATES : D := .int 8000
abbrev x_no : Str := mkS [110, 111]
theorem k_no : Str.ofString "no" = x_no := by decide +kernel
abbrev x_yes : Str := mkS [121, 101, 115]
theorem k_yes : Str.ofString "yes" = x_yes := by decide +kernel
abbrev x_is : Str := mkS [105, 115]
theorem k_is : Str.ofString "is" = x_is := by decide +kernel
abbrev x_not : Str := mkS [110, 111, 116]
theorem k_not : Str.ofString "not" = x_not := by decide +kernel
abbrev x_or : Str := mkS [111, 114]
theorem k_or : Str.ofString "or" = x_or := by decide +kernel
abbrev x_and : Str := mkS [97, 110, 100]
theorem k_and : Str.ofString "and" = x_and := by decide +kernel
abbrev x_step : Str := mkS [115, 116, 101, 112]
theorem k_step : Str.ofString "step" = x_step := by decide +kernel
abbrev x_test : Str := mkS [116, 101, 115, 116]
theorem k_test : Str.ofString "test" = x_test := by decide +kernel
abbrev x_loop : Str := mkS [108, 111, 111, 112]
theorem k_loop : Str.ofString "loop" = x_loop := by decide +kernel
abbrev x_then : Str := mkS [116, 104, 101, 110]
theorem k_then : Str.ofString "then" = x_then := by decide +kernel
abbrev x_names : Str := mkS [110, 97, 109, 101, 115]
theorem k_names : Str.ofString "names" = x_names := by decide +kernel
abbrev x_steps : Str := mkS [115, 116, 101, 112, 115]
theorem k_steps : Str.ofString "steps" = x_steps := by decide +kernel
abbrev x_atoms : Str := mkS [97, 116, 111, 109, 115]
theorem k_atoms : Str.ofString "atoms" = x_atoms := by decide +kernel
abbrev x_size : Str := mkS [115, 105, 122, 101]
theorem k_size : Str.ofString "size" = x_size := by decide +kernel
abbrev x_ends : Str := mkS [101, 110, 100, 115]
theorem k_ends : Str.ofString "ends" = x_ends := by decide +kernel
abbrev x_ways : Str := mkS [119, 97, 121, 115]
theorem k_ways : Str.ofString "ways" = x_ways := by decide +kernel
abbrev x_scene : Str := mkS [115, 99, 101, 110, 101]
theorem k_scene : Str.ofString "scene" = x_scene := by decide +kernel
abbrev x_r : Str := mkS [114]
theorem k_r : Str.ofString "r" = x_r := by decide +kernel
abbrev x_q : Str := mkS [113]
theorem k_q : Str.ofString "q" = x_q := by decide +kernel
abbrev x_p : Str := mkS [112]
theorem k_p : Str.ofString "p" = x_p := by decide +kernel
abbrev x_abcdefghijklmnopqrstuvwxyz : Str := mkS [97, 98, 99, 100, 101, 102, 103, 104, 105, 106, 107, 108, 109, 110, 111, 112, 113, 114, 115, 116, 117, 118, 119, 120, 121, 122]
theorem k_abcdefghijklmnopqrstuvwxyz : Str.ofString "abcdefghijklmnopqrstuvwxyz" = x_abcdefghijklmnopqrstuvwxyz := by decide +kernel
abbrev c_LETTERS : D := .str x_abcdefghijklmnopqrstuvwxyz
abbrev c_SKIP : D := .tup [.str x_test, .tup [.str x_yes]]
abbrev c_FAIL : D := .tup [.str x_test, .tup [.str x_no]]
structure Tbl where
  f_is_integer : F
  f_is_name : F
  f_is_names : F
  f_is_test : F
  f_names_in : F
  f_has : F
  f_holds : F
  f_is_program : F
  f_key_of : F
  f_distinct : F
  f_parts_of : F
  f_within : F
  f_steps_in : F
  f_tests_in : F
  f_fits : F
  f_look_at : F
  f_row : F
  f_may_end : F
  f_then : F
  f_rests : F
  f_behind : F
  f_is_ends : F
  f_is_ways : F
  f_look_at_agreed : F
  f_pairs_behind : F
  f_side_by_side : F
  f_ends_at : F
  f_all_side_by_side : F
  f_rows_behind : F
  f_live_states : F
  f_blocks_of : F
  f_least : F
  f_count_words : F
  f_law_draw : F
  f_law_same : F
  f_law_choose : F
  f_Scene : F
  f_Machine : F
def tbl0 : Tbl where
  f_is_integer := noF
  f_is_name := noF
  f_is_names := noF
  f_is_test := noF
  f_names_in := noF
  f_has := noF
  f_holds := noF
  f_is_program := noF
  f_key_of := noF
  f_distinct := noF
  f_parts_of := noF
  f_within := noF
  f_steps_in := noF
  f_tests_in := noF
  f_fits := noF
  f_look_at := noF
  f_row := noF
  f_may_end := noF
  f_then := noF
  f_rests := noF
  f_behind := noF
  f_is_ends := noF
  f_is_ways := noF
  f_look_at_agreed := noF
  f_pairs_behind := noF
  f_side_by_side := noF
  f_ends_at := noF
  f_all_side_by_side := noF
  f_rows_behind := noF
  f_live_states := noF
  f_blocks_of := noF
  f_least := noF
  f_count_words := noF
  f_law_draw := noF
  f_law_same := noF
  f_law_choose := noF
  f_Scene := noF
  f_Machine := noF
def s_is_integer (t : Tbl) : S :=
  (sRet (eAnd (eIsi .int (eVar 0)) (eNot (eIsi .bool (eVar 0)))))
def s_is_name (t : Tbl) : S :=
  (sRet (eAnd (eIsi .str (eVar 0)) (eAnd (eChain (gLt) (gLe) (eC (.int 0)) (eApp bLen (aCons (eVar 0) aNil)) (eC (.int 12))) (eApp bAll (aCons (eLc 64 (iSeq (eVar 0)) [1] (tgN 1) tYesT (eOp (gIn false) (eVar 1) (eC c_LETTERS))) aNil)))))
def s_is_names (t : Tbl) : S :=
  (sSeq (sIf (tOrT (tNotT (tTru (eIsi .tuple (eVar 0)))) (tOrT (tB (eOp (gGt) (eApp bLen (aCons (eVar 0) aNil)) (eVar 1))) (tNotT (tTru (eApp bAll (aCons (eLc 64 (iSeq (eVar 0)) [2] (tgN 2) tYesT (eApp t.f_is_name (aCons (eVar 2) aNil))) aNil)))))) (sRet (eC (.bl false))) sNx)
    (sRet (eOp (gEqF) (eApp bList (aCons (eVar 0) aNil)) (eApp bSortD (aCons (eDc 64 (iSeq (eVar 0)) [2] (tgN 2) tYesT (eVar 2) (eC (.bl true))) aNil)))))
def s_is_test (t : Tbl) : S :=
  (sSeq (sIf (tOrT (tB (eOp (gEqF) (eVar 1) (eC (.int 0)))) (tOrT (tNotT (tTru (eIsi .tuple (eVar 0)))) (tB (eOp (gEqF) (eApp bLen (aCons (eVar 0) aNil)) (eC (.int 0)))))) (sRet (eC (.bl false))) sNx)
    (sSeq (sAsg (eOp gIx (eVar 0) (eC (.int 0))) (tgN 2))
    (sSeq (sIf (tB (eOp (gIn false) (eVar 2) (eTup (aCons (eC (.str x_yes)) (aCons (eC (.str x_no)) aNil))))) (sRet (eOp (gEqF) (eApp bLen (aCons (eVar 0) aNil)) (eC (.int 1)))) sNx)
    (sSeq (sIf (tB (eOp (gEqF) (eVar 2) (eC (.str x_is)))) (sRet (eAnd (eOp (gEqF) (eApp bLen (aCons (eVar 0) aNil)) (eC (.int 2))) (eApp t.f_is_name (aCons (eOp gIx (eVar 0) (eC (.int 1))) aNil)))) sNx)
    (sSeq (sIf (tB (eOp (gEqF) (eVar 2) (eC (.str x_not)))) (sRet (eAnd (eOp (gEqF) (eApp bLen (aCons (eVar 0) aNil)) (eC (.int 2))) (eApp t.f_is_test (aCons (eOp gIx (eVar 0) (eC (.int 1))) (aCons (eOp gSub (eVar 1) (eC (.int 1))) aNil))))) sNx)
    (sRet (eAnd (eOp (gIn false) (eVar 2) (eTup (aCons (eC (.str x_and)) (aCons (eC (.str x_or)) aNil)))) (eAnd (eOp (gEqF) (eApp bLen (aCons (eVar 0) aNil)) (eC (.int 3))) (eApp bAll (aCons (eLc 64 (iSeq (eSl (eVar 0) (pSome (eC (.int 1))) pNone)) [3] (tgN 3) tYesT (eApp t.f_is_test (aCons (eVar 3) (aCons (eOp gSub (eVar 1) (eC (.int 1))) aNil)))) aNil))))))))))
def s_names_in (t : Tbl) : S :=
  (sSeq (sIf (tB (eOp (gEqF) (eOp gIx (eVar 0) (eC (.int 0))) (eC (.str x_is)))) (sRet (eTup (aCons (eOp gIx (eVar 0) (eC (.int 1))) aNil))) sNx)
    (sSeq (sAsg eDic0 (tgN 1))
    (sSeq (sFor 64 (iSeq (eSl (eVar 0) (pSome (eC (.int 1))) pNone)) (tgN 2) (sExpr (eMethT "dict" mUpd (eVar 1) (aCons (eDc 64 (iSeq (eApp t.f_names_in (aCons (eVar 2) aNil))) [3] (tgN 3) tYesT (eVar 3) (eC (.bl true))) aNil))))
    (sRet (eApp bTup (aCons (eApp bSortD (aCons (eVar 1) aNil)) aNil))))))
def s_has (t : Tbl) : S :=
  (sRet (eOp (gEqF) (eOp gAndB (eOp gShr (eVar 0) (eVar 1)) (eC (.int 1))) (eC (.int 1))))
def s_holds (t : Tbl) : S :=
  (sSeq (sAsg (eOp gIx (eVar 0) (eC (.int 0))) (tgN 3))
    (sSeq (sIf (tB (eOp (gEqF) (eVar 3) (eC (.str x_is)))) (sRet (eApp t.f_has (aCons (eVar 1) (aCons eNone aNil)))) sNx)
    (sSeq (sIf (tB (eOp (gEqF) (eVar 3) (eC (.str x_not)))) (sRet (eNot (eApp t.f_holds (aCons (eOp gIx (eVar 0) (eC (.int 1))) (aCons (eVar 1) (aCons (eVar 2) aNil)))))) sNx)
    (sSeq (sIf (tB (eOp (gEqF) (eVar 3) (eC (.str x_and)))) (sRet (eAnd (eApp t.f_holds (aCons (eOp gIx (eVar 0) (eC (.int 1))) (aCons (eVar 1) (aCons (eVar 2) aNil)))) (eApp t.f_holds (aCons (eOp gIx (eVar 0) (eC (.int 2))) (aCons (eVar 1) (aCons (eVar 2) aNil)))))) sNx)
    (sSeq (sIf (tB (eOp (gEqF) (eVar 3) (eC (.str x_or)))) (sRet (eOr (eApp t.f_holds (aCons (eOp gIx (eVar 0) (eC (.int 1))) (aCons (eVar 1) (aCons (eVar 2) aNil)))) (eApp t.f_holds (aCons (eOp gIx (eVar 0) (eC (.int 2))) (aCons (eVar 1) (aCons (eVar 2) aNil)))))) sNx)
    (sRet (eOp (gEqF) (eVar 3) (eC (.str x_yes)))))))))
def s_is_program (t : Tbl) : S :=
  (sSeq (sIf (tOrT (tB (eOp (gEqF) (eVar 1) (eC (.int 0)))) (tOrT (tNotT (tTru (eIsi .tuple (eVar 0)))) (tB (eOp (gLt) (eApp bLen (aCons (eVar 0) aNil)) (eC (.int 2)))))) (sRet (eC (.bl false))) sNx)
    (sSeq (sAsg (eOp gIx (eVar 0) (eC (.int 0))) (tgN 2))
    (sSeq (sIf (tB (eOp (gEqF) (eVar 2) (eC (.str x_step)))) (sRet (eAnd (eOp (gEqF) (eApp bLen (aCons (eVar 0) aNil)) (eC (.int 2))) (eApp t.f_is_name (aCons (eOp gIx (eVar 0) (eC (.int 1))) aNil)))) sNx)
    (sSeq (sIf (tB (eOp (gEqF) (eVar 2) (eC (.str x_test)))) (sRet (eAnd (eOp (gEqF) (eApp bLen (aCons (eVar 0) aNil)) (eC (.int 2))) (eApp t.f_is_test (aCons (eOp gIx (eVar 0) (eC (.int 1))) aNil)))) sNx)
    (sSeq (sIf (tB (eOp (gEqF) (eVar 2) (eC (.str x_loop)))) (sRet (eAnd (eOp (gEqF) (eApp bLen (aCons (eVar 0) aNil)) (eC (.int 2))) (eApp t.f_is_program (aCons (eOp gIx (eVar 0) (eC (.int 1))) (aCons (eOp gSub (eVar 1) (eC (.int 1))) aNil))))) sNx)
    (sRet (eAnd (eOp (gIn false) (eVar 2) (eTup (aCons (eC (.str x_then)) (aCons (eC (.str x_or)) aNil)))) (eAnd (eOp (gEqF) (eApp bLen (aCons (eVar 0) aNil)) (eC (.int 3))) (eApp bAll (aCons (eLc 64 (iSeq (eSl (eVar 0) (pSome (eC (.int 1))) pNone)) [3] (tgN 3) tYesT (eApp t.f_is_program (aCons (eVar 3) (aCons (eOp gSub (eVar 1) (eC (.int 1))) aNil)))) aNil))))))))))
def s_key_of (t : Tbl) : S :=
  (sRet (eApp bReprF (aCons (eVar 0) aNil)))
def s_distinct (t : Tbl) : S :=
  (sRet (eApp bTup (aCons (eSortVals (eDc 64 (iSeq (eVar 0)) [1] (tgN 1) tYesT (eApp t.f_key_of (aCons (eVar 1) aNil)) (eVar 1))) aNil)))
def s_parts_of (t : Tbl) : S :=
  (sRet (eIf (tB (eOp (gIn false) (eOp gIx (eVar 0) (eC (.int 0))) (eTup (aCons (eC (.str x_step)) (aCons (eC (.str x_test)) aNil))))) (eTup aNil) (eSl (eVar 0) (pSome (eC (.int 1))) pNone)))
def s_within (t : Tbl) : S :=
  (sSeq (sAsg eDic0 (tgN 1))
    (sSeq (sAsg (eLst (aCons (eVar 0) aNil)) (tgN 2))
    (sSeq (sWhile 64 (tB (eOp (gGt) (eApp bLen (aCons (eVar 2) aNil)) (eC (.int 0)))) (sSeq (sAsg (eMethT "list" mPop (eVar 2) aNil) (tgN 3))
    (sIf (tB (eOp (gIn true) (eApp t.f_key_of (aCons (eVar 3) aNil)) (eVar 1))) (sSeq (sPut (eVar 1) (eApp t.f_key_of (aCons (eVar 3) aNil)) (eVar 3))
    (sExpr (eMethT "list" mExt (eVar 2) (aCons (eOp1 gRev (eApp bList (aCons (eApp t.f_parts_of (aCons (eVar 3) aNil)) aNil))) aNil)))) sNx)))
    (sRet (eTupVals (eVar 1))))))
def s_steps_in (t : Tbl) : S :=
  (sRet (eApp bTup (aCons (eApp bSortD (aCons (eDc 64 (iSeq (eApp t.f_within (aCons (eVar 0) aNil))) [1] (tgN 1) (tB (eOp (gEqF) (eOp gIx (eVar 1) (eC (.int 0))) (eC (.str x_step)))) (eOp gIx (eVar 1) (eC (.int 1))) (eC (.bl true))) aNil)) aNil)))
def s_tests_in (t : Tbl) : S :=
  (sSeq (sAsg eDic0 (tgN 1))
    (sSeq (sFor 64 (iSeq (eApp t.f_within (aCons (eVar 0) aNil))) (tgN 2) (sIf (tB (eOp (gEqF) (eOp gIx (eVar 2) (eC (.int 0))) (eC (.str x_test)))) (sExpr (eMethT "dict" mUpd (eVar 1) (aCons (eDc 64 (iSeq (eApp t.f_names_in (aCons (eOp gIx (eVar 2) (eC (.int 1))) aNil))) [3] (tgN 3) tYesT (eVar 3) (eC (.bl true))) aNil))) sNx))
    (sRet (eApp bTup (aCons (eApp bSortD (aCons (eVar 1) aNil)) aNil)))))
def s_fits (t : Tbl) : S :=
  (sSeq (sIf (tNotT (tTru (eApp t.f_is_program (aCons (eVar 1) aNil)))) (sRet (eC (.bl false))) sNx)
    (sSeq (sIf (tNotT (tTru (eApp bAll (aCons (eLc 64 (iSeq (eApp t.f_tests_in (aCons (eVar 1) aNil))) [2] (tgN 2) tYesT (eOp (gIn false) (eVar 2) (eOp1 (gFld x_names) (eVar 0)))) aNil)))) (sRet (eC (.bl false))) sNx)
    (sRet (eApp bAll (aCons (eLc 64 (iSeq (eApp t.f_steps_in (aCons (eVar 1) aNil))) [3] (tgN 3) tYesT (eOp (gIn false) (eVar 3) (eOp1 (gFld x_steps) (eVar 0)))) aNil)))))
def s_look_at (t : Tbl) : S :=
  (sFor 64 (iSeq (eVar 1)) (tgN 2) (sIf (tNotT (tTru (eApp t.f_fits (aCons (eVar 0) (aCons (eVar 2) aNil))))) sNone sNx))
def s_row (t : Tbl) : S :=
  (sSeq (sIf (tB (eOp (gEqF) (eApp bLen (aCons (eVar 0) aNil)) (eC (.int 0)))) (sRet (eC c_SKIP)) sNx)
    (sSeq (sAsg (eOp gIx (eVar 0) (eNeg (eC (.int 1)))) (tgN 1))
    (sSeq (sFor 64 (iRevD (eSl (eVar 0) pNone (pSome (eNeg (eC (.int 1)))))) (tgN 2) (sAsg (eTup (aCons (eC (.str x_then)) (aCons (eVar 2) (aCons (eVar 1) aNil)))) (tgN 1)))
    (sRet (eVar 1)))))
def s_may_end (t : Tbl) : S :=
  (sSeq (sAsg (eOp gIx (eVar 1) (eC (.int 0))) (tgN 3))
    (sSeq (sIf (tB (eOp (gEqF) (eVar 3) (eC (.str x_test)))) (sRet (eApp t.f_holds (aCons (eOp gIx (eVar 1) (eC (.int 1))) (aCons (eVar 2) (aCons (eOp1 (gFld x_names) (eVar 0)) aNil))))) sNx)
    (sSeq (sIf (tB (eOp (gEqF) (eVar 3) (eC (.str x_step)))) (sRet (eC (.bl false))) sNx)
    (sSeq (sIf (tB (eOp (gEqF) (eVar 3) (eC (.str x_or)))) (sRet (eOr (eApp t.f_may_end (aCons (eVar 0) (aCons (eOp gIx (eVar 1) (eC (.int 1))) (aCons (eVar 2) aNil)))) (eApp t.f_may_end (aCons (eVar 0) (aCons (eOp gIx (eVar 1) (eC (.int 2))) (aCons (eVar 2) aNil)))))) sNx)
    (sSeq (sIf (tB (eOp (gEqF) (eVar 3) (eC (.str x_then)))) (sRet (eAnd (eApp t.f_may_end (aCons (eVar 0) (aCons (eOp gIx (eVar 1) (eC (.int 1))) (aCons (eVar 2) aNil)))) (eApp t.f_may_end (aCons (eVar 0) (aCons (eOp gIx (eVar 1) (eC (.int 2))) (aCons (eVar 2) aNil)))))) sNx)
    (sRet (eC (.bl true))))))))
def s_then (t : Tbl) : S :=
  (sSeq (sIf (tOrT (tB (eOp (gEqF) (eVar 0) (eC c_FAIL))) (tB (eOp (gEqF) (eVar 1) (eC c_FAIL)))) (sRet (eC c_FAIL)) sNx)
    (sSeq (sIf (tB (eOp (gEqF) (eVar 0) (eC c_SKIP))) (sRet (eVar 1)) sNx)
    (sRet (eIf (tB (eOp (gEqF) (eVar 1) (eC c_SKIP))) (eVar 0) (eTup (aCons (eC (.str x_then)) (aCons (eVar 0) (aCons (eVar 1) aNil))))))))
def s_rests (t : Tbl) : S :=
  (sSeq (sAsg (eOp gIx (eVar 1) (eC (.int 0))) (tgN 4))
    (sSeq (sIf (tB (eOp (gEqF) (eVar 4) (eC (.str x_step)))) (sRet (eIf (tB (eOp (gEqF) (eOp gIx (eVar 1) (eC (.int 1))) (eVar 3))) (eLst (aCons (eC c_SKIP) aNil)) (eLst aNil))) sNx)
    (sSeq (sIf (tB (eOp (gEqF) (eVar 4) (eC (.str x_test)))) (sRet (eLst aNil)) sNx)
    (sSeq (sIf (tB (eOp (gEqF) (eVar 4) (eC (.str x_or)))) (sRet (eOp gAdd (eApp t.f_rests (aCons (eVar 0) (aCons (eOp gIx (eVar 1) (eC (.int 1))) (aCons (eVar 2) (aCons (eVar 3) aNil))))) (eApp t.f_rests (aCons (eVar 0) (aCons (eOp gIx (eVar 1) (eC (.int 2))) (aCons (eVar 2) (aCons (eVar 3) aNil))))))) sNx)
    (sSeq (sIf (tB (eOp (gEqF) (eVar 4) (eC (.str x_loop)))) (sRet (eApp t.f_behind (aCons (eApp t.f_rests (aCons (eVar 0) (aCons (eOp gIx (eVar 1) (eC (.int 1))) (aCons (eVar 2) (aCons (eVar 3) aNil))))) (aCons (eVar 1) aNil)))) sNx)
    (sSeq (sAsg (eApp t.f_behind (aCons (eApp t.f_rests (aCons (eVar 0) (aCons (eOp gIx (eVar 1) (eC (.int 1))) (aCons (eVar 2) (aCons (eVar 3) aNil))))) (aCons (eOp gIx (eVar 1) (eC (.int 2))) aNil))) (tgN 5))
    (sSeq (sIf (tTru (eApp t.f_may_end (aCons (eVar 0) (aCons (eOp gIx (eVar 1) (eC (.int 1))) (aCons (eVar 2) aNil))))) (sAsg (eOp gAdd (eVar 5) (eApp t.f_rests (aCons (eVar 0) (aCons (eOp gIx (eVar 1) (eC (.int 2))) (aCons (eVar 2) (aCons (eVar 3) aNil)))))) (tgN 5)) sNx)
    (sRet (eVar 5)))))))))
def s_behind (t : Tbl) : S :=
  (sRet (eLc 64 (iSeq (eLc 64 (iSeq (eVar 0)) [3] (tgN 3) tYesT (eApp t.f_then (aCons (eVar 3) (aCons (eVar 1) aNil))))) [2] (tgN 2) (tB (eOp (gNeF) (eVar 2) (eC c_FAIL))) (eVar 2)))
def s_is_ends (t : Tbl) : S :=
  (sSeq (sIf (tOrT (tNotT (tTru (eIsi .tuple (eVar 1)))) (tNotT (tTru (eApp bAll (aCons (eLc 64 (iSeq (eVar 1)) [2] (tgN 2) tYesT (eAnd (eApp t.f_is_integer (aCons (eVar 2) aNil)) (eChain (gLe) (gLt) (eC (.int 0)) (eVar 2) (eApp bLen (aCons (eOp1 (gFld x_atoms) (eVar 0)) aNil))))) aNil))))) (sRet (eC (.bl false))) sNx)
    (sRet (eOp (gEqF) (eApp bList (aCons (eVar 1) aNil)) (eApp bSortD (aCons (eDc 64 (iSeq (eVar 1)) [2] (tgN 2) tYesT (eVar 2) (eC (.bl true))) aNil)))))
def s_is_ways (t : Tbl) : S :=
  (sSeq (sIf (tOrT (tNotT (tTru (eIsi .tuple (eVar 1)))) (tB (eOp (gNeF) (eApp bLen (aCons (eVar 1) aNil)) (eOp gMulA (eApp bLen (aCons (eOp1 (gFld x_atoms) (eVar 0)) aNil)) (eApp bLen (aCons (eOp1 (gFld x_steps) (eVar 0)) aNil)))))) (sRet (eC (.bl false))) sNx)
    (sRet (eApp bAll (aCons (eLc 64 (iSeq (eVar 1)) [3] (tgN 3) tYesT (eOr (eOp (gIsN) (eVar 3) (eC .non)) (eAnd (eApp t.f_is_integer (aCons (eVar 3) aNil)) (eChain (gLe) (gLt) (eC (.int 0)) (eVar 3) (eVar 2))))) aNil))))
def s_look_at_agreed (t : Tbl) : S :=
  (sIf (tOrT (tNotT (tTru (eApp t.f_is_names (aCons (eVar 1) (aCons (eApp bLen (aCons (eOp1 (gFld x_steps) (eVar 0)) aNil)) aNil))))) (tNotT (tTru (eApp bAll (aCons (eLc 64 (iSeq (eVar 1)) [2] (tgN 2) tYesT (eOp (gIn false) (eVar 2) (eOp1 (gFld x_steps) (eVar 0)))) aNil))))) sNone sNx)
def s_pairs_behind (t : Tbl) : S :=
  (sSeq (sAsg (eLst aNil) (tgN 5))
    (sSeq (sFor 64 (iSeq (eVar 1)) (tgT 2 (tgsCons (tgN 6) (tgsCons (tgN 7) tgsNil))) (sSeq (sAsg (eTup (aCons (eApp t.f_distinct (aCons (eApp t.f_rests (aCons (eVar 0) (aCons (eVar 6) (aCons (eVar 2) (aCons (eVar 3) aNil))))) aNil)) (aCons (eApp t.f_distinct (aCons (eApp t.f_rests (aCons (eVar 0) (aCons (eVar 7) (aCons (eVar 2) (aCons (eVar 3) aNil))))) aNil)) aNil))) (tgT 2 (tgsCons (tgN 8) (tgsCons (tgN 9) tgsNil))))
    (sIf (tB (eOp (gIn false) (eVar 3) (eVar 4))) (sExpr (eMethT "list" mExt (eVar 5) (aCons (eLc2 64 (iSeq (eVar 8)) [10, 11] (tgN 10) tYesT (iSeq (eVar 9)) [11] (tgN 11) tYesT (eTup (aCons (eVar 10) (aCons (eVar 11) aNil)))) aNil))) (sSeq (sExpr (eMethT "list" mExt (eVar 5) (aCons (eLc 64 (iSeq (eVar 8)) [10] (tgN 10) tYesT (eTup (aCons (eVar 10) (aCons (eVar 7) aNil)))) aNil)))
    (sExpr (eMethT "list" mExt (eVar 5) (aCons (eLc 64 (iSeq (eVar 9)) [11] (tgN 11) tYesT (eTup (aCons (eVar 6) (aCons (eVar 11) aNil)))) aNil)))))))
    (sRet (eApp t.f_distinct (aCons (eVar 5) aNil)))))
def s_side_by_side (t : Tbl) : S :=
  (sSeq (sExpr (eApp t.f_look_at (aCons (eVar 0) (aCons (eVar 1) (aCons (eVar 2) aNil)))))
    (sSeq (sExpr (eApp t.f_look_at_agreed (aCons (eVar 0) (aCons (eVar 3) aNil))))
    (sSeq (sAsg (eTup (aCons (eTup (aCons (eVar 1) (aCons (eVar 2) aNil))) aNil)) (tgN 4))
    (sSeq (sAsg (eDic1 (eApp t.f_key_of (aCons (eVar 4) aNil)) (eC (.int 0))) (tgN 5))
    (sSeq (sAsg (eLst (aCons (eVar 4) aNil)) (tgN 6))
    (sSeq (sPar2 7 8 (aCons (eLst aNil) (aCons (eLst aNil) aNil)))
    (sSeq (sWhile 64 (tB (eOp (gGt) (eApp bLen (aCons (eVar 6) aNil)) (eC (.int 0)))) (sSeq (sAsg (eMethT "list" mPop0 (eVar 6) (aCons (eC (.int 0)) aNil)) (tgN 9))
    (sSeq (sExpr (eMethT "list" mApp (eVar 7) (aCons (eApp bTup (aCons (eLc 64 (iSeq (eOp1 (gFld x_atoms) (eVar 0))) [10] (tgN 10) (tTru (eApp t.f_ends_at (aCons (eVar 0) (aCons (eVar 9) (aCons (eVar 10) aNil))))) (eVar 10)) aNil)) aNil)))
    (sSeq (sAsg (eLst aNil) (tgN 11))
    (sSeq (sFor 64 (iSeq (eOp1 (gFld x_atoms) (eVar 0))) (tgN 10) (sFor 64 (iSeq (eOp1 (gFld x_steps) (eVar 0))) (tgN 12) (sSeq (sAsg (eApp t.f_pairs_behind (aCons (eVar 0) (aCons (eVar 9) (aCons (eVar 10) (aCons (eVar 12) (aCons (eVar 3) aNil)))))) (tgN 13))
    (sIf (tB (eOp (gEqF) (eApp bLen (aCons (eVar 13) aNil)) (eC (.int 0)))) (sExpr (eMethT "list" mApp (eVar 11) (aCons (eC .non) aNil))) (sSeq (sIf (tB (eOp (gIn true) (eApp t.f_key_of (aCons (eVar 13) aNil)) (eVar 5))) (sSeq (sIf (tB (eOp (gEqF) (eApp bLen (aCons (eVar 5) aNil)) (eC c_MOST_STATES))) sNone sNx)
    (sSeq (sPut (eVar 5) (eApp t.f_key_of (aCons (eVar 13) aNil)) (eApp bLen (aCons (eVar 5) aNil)))
    (sExpr (eMethT "list" mApp (eVar 6) (aCons (eVar 13) aNil))))) sNx)
    (sExpr (eMethT "list" mApp (eVar 11) (aCons (eOp gIx (eVar 5) (eApp t.f_key_of (aCons (eVar 13) aNil))) aNil))))))))
    (sExpr (eMethT "list" mApp (eVar 8) (aCons (eApp bTup (aCons (eVar 11) aNil)) aNil))))))))
    (sRet (eMake 1 t.f_Machine (aCons (eVar 0) (aCons (eApp bTup (aCons (eVar 7) aNil)) (aCons (eApp bTup (aCons (eVar 8) aNil)) aNil))))))))))))
def s_ends_at (t : Tbl) : S :=
  (sRet (eApp bAny (aCons (eLc 64 (iSeq (eVar 1)) [3, 4] (tgT 2 (tgsCons (tgN 3) (tgsCons (tgN 4) tgsNil))) tYesT (eAnd (eApp t.f_may_end (aCons (eVar 0) (aCons (eVar 3) (aCons (eVar 2) aNil)))) (eApp t.f_may_end (aCons (eVar 0) (aCons (eVar 4) (aCons (eVar 2) aNil)))))) aNil)))
def s_all_side_by_side (t : Tbl) : S :=
  (sSeq (sExpr (eApp t.f_look_at (aCons (eVar 0) (aStar (eVar 1) aNil))))
    (sSeq (sAsg (eTup (aCons (eApp bTup (aCons (eVar 1) aNil)) aNil)) (tgN 2))
    (sSeq (sAsg (eDic1 (eApp t.f_key_of (aCons (eVar 2) aNil)) (eC (.int 0))) (tgN 3))
    (sSeq (sAsg (eLst (aCons (eVar 2) aNil)) (tgN 4))
    (sSeq (sPar2 5 6 (aCons (eLst aNil) (aCons (eLst aNil) aNil)))
    (sSeq (sWhile 64 (tB (eOp (gGt) (eApp bLen (aCons (eVar 4) aNil)) (eC (.int 0)))) (sSeq (sAsg (eMethT "list" mPop0 (eVar 4) (aCons (eC (.int 0)) aNil)) (tgN 7))
    (sSeq (sExpr (eMethT "list" mApp (eVar 5) (aCons (eApp bTup (aCons (eLc 64 (iSeq (eOp1 (gFld x_atoms) (eVar 0))) [8] (tgN 8) (tTru (eApp bAny (aCons (eLc 64 (iSeq (eVar 7)) [12] (tgN 12) tYesT (eApp bAll (aCons (eLc 64 (iSeq (eVar 12)) [13] (tgN 13) tYesT (eApp t.f_may_end (aCons (eVar 0) (aCons (eVar 13) (aCons (eVar 8) aNil))))) aNil))) aNil))) (eVar 8)) aNil)) aNil)))
    (sSeq (sAsg (eLst aNil) (tgN 9))
    (sSeq (sFor 64 (iSeq (eOp1 (gFld x_atoms) (eVar 0))) (tgN 8) (sFor 64 (iSeq (eOp1 (gFld x_steps) (eVar 0))) (tgN 10) (sSeq (sAsg (eApp t.f_rows_behind (aCons (eVar 0) (aCons (eVar 7) (aCons (eVar 8) (aCons (eVar 10) aNil))))) (tgN 11))
    (sIf (tB (eOp (gEqF) (eApp bLen (aCons (eVar 11) aNil)) (eC (.int 0)))) (sExpr (eMethT "list" mApp (eVar 9) (aCons (eC .non) aNil))) (sSeq (sIf (tB (eOp (gIn true) (eApp t.f_key_of (aCons (eVar 11) aNil)) (eVar 3))) (sSeq (sIf (tB (eOp (gEqF) (eApp bLen (aCons (eVar 3) aNil)) (eC c_MOST_STATES))) sNone sNx)
    (sSeq (sPut (eVar 3) (eApp t.f_key_of (aCons (eVar 11) aNil)) (eApp bLen (aCons (eVar 3) aNil)))
    (sExpr (eMethT "list" mApp (eVar 4) (aCons (eVar 11) aNil))))) sNx)
    (sExpr (eMethT "list" mApp (eVar 9) (aCons (eOp gIx (eVar 3) (eApp t.f_key_of (aCons (eVar 11) aNil))) aNil))))))))
    (sExpr (eMethT "list" mApp (eVar 6) (aCons (eApp bTup (aCons (eVar 9) aNil)) aNil))))))))
    (sRet (eMake 1 t.f_Machine (aCons (eVar 0) (aCons (eApp bTup (aCons (eVar 5) aNil)) (aCons (eApp bTup (aCons (eVar 6) aNil)) aNil)))))))))))
def s_rows_behind (t : Tbl) : S :=
  (sSeq (sAsg (eLst aNil) (tgN 4))
    (sSeq (sFor 64 (iSeq (eVar 1)) (tgN 5) (sFor 64 (iEnumT (aCons (eVar 5) aNil)) (tgT 2 (tgsCons (tgN 6) (tgsCons (tgN 7) tgsNil))) (sExpr (eMethT "list" mExt (eVar 4) (aCons (eLc 64 (iSeq (eApp t.f_distinct (aCons (eApp t.f_rests (aCons (eVar 0) (aCons (eVar 7) (aCons (eVar 2) (aCons (eVar 3) aNil))))) aNil))) [8] (tgN 8) tYesT (eOp gAdd (eOp gAdd (eSl (eVar 5) pNone (pSome (eVar 6))) (eTup (aCons (eVar 8) aNil))) (eSl (eVar 5) (pSome (eOp gAdd (eVar 6) (eC (.int 1)))) pNone))) aNil)))))
    (sRet (eApp t.f_distinct (aCons (eVar 4) aNil)))))
def s_live_states (t : Tbl) : S :=
  (sSeq (sAsg (eDc 64 (iRng1 (aCons (eOp1 (gFld x_size) (eVar 0)) aNil)) [1] (tgN 1) (tB (eOp (gGt) (eApp bLen (aCons (eOp gIx (eOp1 (gFld x_ends) (eVar 0)) (eVar 1)) aNil)) (eC (.int 0)))) (eVar 1) (eC (.bl true))) (tgN 2))
    (sSeq (sAsg (eC (.bl true)) (tgN 3))
    (sSeq (sWhile 64 (tTru (eVar 3)) (sSeq (sAsg (eC (.bl false)) (tgN 3))
    (sFor 64 (iRng1 (aCons (eOp1 (gFld x_size) (eVar 0)) aNil)) (tgN 1) (sIf (tAndT (tB (eOp (gIn true) (eVar 1) (eVar 2))) (tTru (eApp bAny (aCons (eLc 64 (iSeq (eOp gIx (eOp1 (gFld x_ways) (eVar 0)) (eVar 1))) [4] (tgN 4) (tB (eOp (gNotN) (eVar 4) (eC .non))) (eOp (gIn false) (eVar 4) (eVar 2))) aNil)))) (sSeq (sPut (eVar 2) (eVar 1) (eC (.bl true)))
    (sAsg (eC (.bl true)) (tgN 3))) sNx))))
    (sRet (eVar 2)))))
def s_blocks_of (t : Tbl) : S :=
  (sSeq (sAsg (eApp t.f_live_states (aCons (eVar 0) aNil)) (tgN 1))
    (sSeq (sAsg eDic0 (tgN 2))
    (sSeq (sLock 1 (sFor 64 (iSeq (eVar 1)) (tgN 3) (sPut (eVar 2) (eVar 3) (eOp gIx (eOp1 (gFld x_ends) (eVar 0)) (eVar 3)))))
    (sSeq (sAsg (eC (.int 0)) (tgN 4))
    (sSeq (sWhile 64 (tB (eOp (gGt) (eLock 2 (eApp bKLen (aCons (eKc 64 (iValsD (eVar 2)) [8] (tgN 8) tYesT (eVar 8) (eC (.bl true))) aNil))) (eVar 4))) (sSeq (sAsg (eLock 2 (eApp bKLen (aCons (eKc 64 (iValsD (eVar 2)) [8] (tgN 8) tYesT (eVar 8) (eC (.bl true))) aNil))) (tgN 4))
    (sSeq (sAsg eKd0 (tgN 5))
    (sSeq (sFor 64 (iSeq (eApp bSortD (aCons (eVar 1) aNil))) (tgN 3) (sExpr (eKSetd (eVar 5) (eOp gIx (eVar 2) (eVar 3)) (eApp bKLen (aCons (eVar 5) aNil)))))
    (sSeq (sAsg eDic0 (tgN 6))
    (sSeq (sLock 1 (sFor 64 (iSeq (eVar 1)) (tgN 3) (sSeq (sAsg (eLc 64 (iSeq (eOp gIx (eOp1 (gFld x_ways) (eVar 0)) (eVar 3))) [9] (tgN 9) tYesT (eIf (tB (eOp (gIn true) (eVar 9) (eVar 1))) (eC .non) (eOp gKIx (eVar 5) (eOp gIx (eVar 2) (eVar 9))))) (tgN 7))
    (sPut (eVar 6) (eVar 3) (eTup (aCons (eOp gKIx (eVar 5) (eOp gIx (eVar 2) (eVar 3))) (aCons (eApp bTup (aCons (eVar 7) aNil)) (aCons (eOp gIx (eOp1 (gFld x_ends) (eVar 0)) (eVar 3)) aNil))))))))
    (sAsg (eVar 6) (tgN 2))))))))
    (sSeq (sAsg eKd0 (tgN 5))
    (sSeq (sFor 64 (iSeq (eApp bSortD (aCons (eVar 1) aNil))) (tgN 3) (sExpr (eKSetd (eVar 5) (eOp gIx (eVar 2) (eVar 3)) (eApp bKLen (aCons (eVar 5) aNil)))))
    (sRet (eApp bTup (aCons (eLc 64 (iRng1 (aCons (eOp1 (gFld x_size) (eVar 0)) aNil)) [3] (tgN 3) tYesT (eIf (tB (eOp (gIn false) (eVar 3) (eVar 1))) (eOp gKIx (eVar 5) (eOp gIx (eVar 2) (eVar 3))) (eC .non))) aNil))))))))))
def s_least (t : Tbl) : S :=
  (sSeq (sAsg (eApp t.f_blocks_of (aCons (eVar 0) aNil)) (tgN 1))
    (sSeq (sAsg (eOp1 (gFld x_scene) (eVar 0)) (tgN 2))
    (sSeq (sIf (tB (eOp (gIsN) (eOp gIx (eVar 1) (eC (.int 0))) (eC .non))) (sRet (eMake 1 t.f_Machine (aCons (eVar 2) (aCons (eTup (aCons (eTup aNil) aNil)) (aCons (eTup (aCons (eOp gMulA (eTup (aCons (eC .non) aNil)) (eOp gMulA (eApp bLen (aCons (eOp1 (gFld x_atoms) (eVar 2)) aNil)) (eApp bLen (aCons (eOp1 (gFld x_steps) (eVar 2)) aNil)))) aNil)) aNil))))) sNx)
    (sSeq (sAsg (eLst (aCons (eC (.int 0)) aNil)) (tgN 3))
    (sSeq (sAsg (eDic1 (eOp gIx (eVar 1) (eC (.int 0))) (eC (.int 0))) (tgN 4))
    (sSeq (sPar2 5 6 (aCons (eLst aNil) (aCons (eLst aNil) aNil)))
    (sSeq (sAsg (eC (.int 0)) (tgN 7))
    (sSeq (sWhile 64 (tB (eOp (gLt) (eVar 7) (eApp bLen (aCons (eVar 3) aNil)))) (sSeq (sAsg (eLst aNil) (tgN 8))
    (sSeq (sFor 64 (iSeq (eOp gIx (eOp1 (gFld x_ways) (eVar 0)) (eOp gIx (eVar 3) (eVar 7)))) (tgN 9) (sSeq (sAsg (eIf (tB (eOp (gIsN) (eVar 9) (eC .non))) (eC .non) (eOp gIx (eVar 1) (eVar 9))) (tgN 10))
    (sIf (tB (eOp (gIsN) (eVar 10) (eC .non))) (sExpr (eMethT "list" mApp (eVar 8) (aCons (eC .non) aNil))) (sSeq (sIf (tB (eOp (gIn true) (eVar 10) (eVar 4))) (sSeq (sPut (eVar 4) (eVar 10) (eApp bLen (aCons (eVar 4) aNil)))
    (sExpr (eMethT "list" mApp (eVar 3) (aCons (eVar 9) aNil)))) sNx)
    (sExpr (eMethT "list" mApp (eVar 8) (aCons (eOp gIx (eVar 4) (eVar 10)) aNil)))))))
    (sSeq (sExpr (eMethT "list" mApp (eVar 5) (aCons (eOp gIx (eOp1 (gFld x_ends) (eVar 0)) (eOp gIx (eVar 3) (eVar 7))) aNil)))
    (sSeq (sExpr (eMethT "list" mApp (eVar 6) (aCons (eApp bTup (aCons (eVar 8) aNil)) aNil)))
    (sAugI 7 (eC (.int 1))))))))
    (sRet (eMake 1 t.f_Machine (aCons (eVar 2) (aCons (eApp bTup (aCons (eVar 5) aNil)) (aCons (eApp bTup (aCons (eVar 6) aNil)) aNil)))))))))))))
def s_count_words (t : Tbl) : S :=
  (sSeq (sAsg (eDic1 (eC (.int 0)) (eC (.int 1))) (tgN 2))
    (sSeq (sAsg (eLst aNil) (tgN 3))
    (sSeq (sFor 64 (iRng1 (aCons (eOp gAdd (eVar 1) (eC (.int 1))) aNil)) (tgN 4) (sSeq (sExpr (eMethT "list" mApp (eVar 3) (aCons (eLock 2 (eApp bSumA (aCons (eLc 64 (iSeq (eVar 2)) [5] (tgN 5) tYesT (eOp gMulA (eOp gIx (eVar 2) (eVar 5)) (eApp bLen (aCons (eOp gIx (eOp1 (gFld x_ends) (eVar 0)) (eVar 5)) aNil)))) aNil))) aNil)))
    (sSeq (sAsg eDic0 (tgN 6))
    (sSeq (sLock 2 (sFor 64 (iSeq (eVar 2)) (tgN 5) (sFor 64 (iSeq (eOp gIx (eOp1 (gFld x_ways) (eVar 0)) (eVar 5))) (tgN 7) (sIf (tB (eOp (gNotN) (eVar 7) (eC .non))) (sPut (eVar 6) (eVar 7) (eOp gAdd (eGet2 (eVar 6) (eVar 7) (eC (.int 0))) (eOp gIx (eVar 2) (eVar 5)))) sNx))))
    (sAsg (eVar 6) (tgN 2))))))
    (sRet (eApp bTup (aCons (eVar 3) aNil))))))
def s_law_draw (t : Tbl) : S :=
  (sSeq (sIf (tAndT (tB (eOp (gEqF) (eOp gIx (eVar 0) (eC (.int 2))) (eC (.int 0)))) (tB (eOp (gLt) (eOp gIx (eVar 0) (eC (.int 1))) (eApp bLen (aCons (eOp gIx (eVar 0) (eC (.int 0))) aNil))))) (sSeq (sAsg (eOp gIx (eOp gIx (eVar 0) (eC (.int 0))) (eOp gIx (eVar 0) (eC (.int 1)))) (tgN 2))
    (sSeq (sPut (eVar 0) (eC (.int 1)) (eOp gAdd (eOp gIx (eVar 0) (eC (.int 1))) (eC (.int 1))))
    (sSeq (sIf (tB (eOp (gGe) (eVar 2) (eOp gPow (eC (.int 10)) (eC (.int 18))))) (sPut (eVar 0) (eC (.int 2)) (eVar 2)) sNx)
    (sPut (eVar 0) (eC (.int 3)) (eOp gMod (eApp bInt (aCons (eOp gAdd (eOp gAdd (eOp gMulA (eOp gIx (eVar 0) (eC (.int 3))) (eC (.int 48271))) (eVar 2)) (eC (.int 13))) aNil)) (eC (.int 2147483647))))))) sNx)
    (sSeq (sIf (tB (eOp (gGt) (eOp gIx (eVar 0) (eC (.int 2))) (eC (.int 0)))) (sSeq (sAsg (eOp gMod (eApp bInt (aCons (eOp gIx (eVar 0) (eC (.int 2))) aNil)) (eVar 1)) (tgN 3))
    (sSeq (sPut (eVar 0) (eC (.int 2)) (eOp gFdiv (eOp gIx (eVar 0) (eC (.int 2))) (eVar 1)))
    (sRet (eVar 3)))) sNx)
    (sSeq (sPut (eVar 0) (eC (.int 3)) (eOp gMod (eApp bInt (aCons (eOp gAdd (eOp gMulA (eOp gIx (eVar 0) (eC (.int 3))) (eC (.int 69621))) (eC (.int 7))) aNil)) (eC (.int 2147483629))))
    (sRet (eOp gMod (eApp bInt (aCons (eOp gFdiv (eOp gIx (eVar 0) (eC (.int 3))) (eC (.int 11))) aNil)) (eVar 1))))))
def s_law_same (t : Tbl) : S :=
  (sSeq (sIf (tOrT (tTru (eIsi .tuple (eVar 1))) (tTru (eIsi .list (eVar 1)))) (sSeq (sIf (tOrT (tB (eOp (gNeF) (eIsi .tuple (eVar 1)) (eIsi .tuple (eVar 0)))) (tB (eOp (gNeF) (eIsi .list (eVar 1)) (eIsi .list (eVar 0))))) (sRet (eC (.bl false))) sNx)
    (sSeq (sIf (tB (eOp (gNeF) (eApp bLen (aCons (eVar 0) aNil)) (eApp bLen (aCons (eVar 1) aNil)))) (sRet (eC (.bl false))) sNx)
    (sRet (eOp (gEqF) (eApp bLen (aCons (eLc 64 (iRng1 (aCons (eApp bLen (aCons (eVar 1) aNil)) aNil)) [2] (tgN 2) (tNotT (tTru (eApp t.f_law_same (aCons (eOp gIx (eVar 0) (eVar 2)) (aCons (eOp gIx (eVar 1) (eVar 2)) aNil))))) (eVar 2)) aNil)) (eC (.int 0)))))) sNx)
    (sSeq (sIf (tTru (eIsi .str (eVar 1))) (sRet (eAnd (eIsi .str (eVar 0)) (eOp (gEqF) (eVar 0) (eVar 1)))) sNx)
    (sSeq (sIf (tB (eOp (gIsN) (eVar 1) (eC .non))) (sRet (eOp (gIsN) (eVar 0) (eC .non))) sNx)
    (sSeq (sIf (tOrT (tTru (eIsi .bool (eVar 1))) (tTru (eIsi .bool (eVar 0)))) (sRet (eAnd (eIsi .bool (eVar 1)) (eAnd (eIsi .bool (eVar 0)) (eOp (gEqF) (eVar 0) (eVar 1))))) sNx)
    (sRet (eAnd (eIsi .int (eVar 0)) (eAnd (eIsi .int (eVar 1)) (eOp (gEqF) (eVar 0) (eVar 1)))))))))
def s_law_choose (t : Tbl) : S :=
  (sSeq (sAsg (eC (.int 1)) (tgN 2))
    (sSeq (sFor 64 (iRng1 (aCons (eVar 1) aNil)) (tgN 3) (sAsg (eOp gFdiv (eOp gMulA (eVar 2) (eOp gSub (eVar 0) (eVar 3))) (eOp gAdd (eVar 3) (eC (.int 1)))) (tgN 2)))
    (sRet (eVar 2))))
def s_Scene (t : Tbl) : S :=
  (sSeq (sIf (tOrT (tNotT (tTru (eApp t.f_is_names (aCons (eVar 1) (aCons (eC c_MOST_NAMES) aNil))))) (tNotT (tTru (eApp t.f_is_names (aCons (eVar 2) (aCons (eC c_MOST_STEPS) aNil)))))) sNone sNx)
    (sSeq (sFldSt x_names (eVar 0) (eVar 1))
    (sSeq (sFldSt x_steps (eVar 0) (eVar 2))
    (sFldSt x_atoms (eVar 0) (eTupRg1 (eOp gShl (eC (.int 1)) (eApp bLen (aCons (eVar 1) aNil))))))))
def s_Machine (t : Tbl) : S :=
  (sSeq (sIf (tOrT (tNotT (tTru (eIsi .tuple (eVar 2)))) (tOrT (tNotT (tTru (eIsi .tuple (eVar 3)))) (tOrT (tB (eOp (gNeF) (eApp bLen (aCons (eVar 2) aNil)) (eApp bLen (aCons (eVar 3) aNil)))) (tB (eOp (gEqF) (eApp bLen (aCons (eVar 2) aNil)) (eC (.int 0))))))) sNone sNx)
    (sSeq (sFor 64 (iZipT (aCons (eVar 2) (aCons (eVar 3) aNil))) (tgT 2 (tgsCons (tgN 4) (tgsCons (tgN 5) tgsNil))) (sIf (tOrT (tNotT (tTru (eApp t.f_is_ends (aCons (eVar 1) (aCons (eVar 4) aNil))))) (tNotT (tTru (eApp t.f_is_ways (aCons (eVar 1) (aCons (eVar 5) (aCons (eApp bLen (aCons (eVar 2) aNil)) aNil))))))) sNone sNx))
    (sSeq (sFldSt x_scene (eVar 0) (eVar 1))
    (sSeq (sFldSt x_ends (eVar 0) (eVar 2))
    (sSeq (sFldSt x_ways (eVar 0) (eVar 3))
    (sFldSt x_size (eVar 0) (eApp bLen (aCons (eVar 2) aNil))))))))
def step (t : Tbl) : Tbl where
  f_is_integer := defF 1 1 (s_is_integer t)
  f_is_name := defF 1 2 (s_is_name t)
  f_is_names := defF 2 3 (s_is_names t)
  f_is_test := defF1 2 (.int 40) 4 (s_is_test t)
  f_names_in := defF 1 4 (s_names_in t)
  f_has := defF 2 2 (s_has t)
  f_holds := defF 3 4 (s_holds t)
  f_is_program := defF1 2 (.int 60) 4 (s_is_program t)
  f_key_of := defF 1 1 (s_key_of t)
  f_distinct := defF 1 2 (s_distinct t)
  f_parts_of := defF 1 1 (s_parts_of t)
  f_within := defF 1 4 (s_within t)
  f_steps_in := defF 1 2 (s_steps_in t)
  f_tests_in := defF 1 4 (s_tests_in t)
  f_fits := defF 2 4 (s_fits t)
  f_look_at := defFS 1 3 (s_look_at t)
  f_row := defF 1 3 (s_row t)
  f_may_end := defF 3 4 (s_may_end t)
  f_then := defF 2 2 (s_then t)
  f_rests := defF 4 6 (s_rests t)
  f_behind := defF 2 4 (s_behind t)
  f_is_ends := defF 2 3 (s_is_ends t)
  f_is_ways := defF 3 4 (s_is_ways t)
  f_look_at_agreed := defF 2 3 (s_look_at_agreed t)
  f_pairs_behind := defF 5 12 (s_pairs_behind t)
  f_side_by_side := defF 4 14 (s_side_by_side t)
  f_ends_at := defF 3 5 (s_ends_at t)
  f_all_side_by_side := defF 2 14 (s_all_side_by_side t)
  f_rows_behind := defF 4 9 (s_rows_behind t)
  f_live_states := defF 1 5 (s_live_states t)
  f_blocks_of := defF 1 10 (s_blocks_of t)
  f_least := defF 1 11 (s_least t)
  f_count_words := defF 2 8 (s_count_words t)
  f_law_draw := defF 2 4 (s_law_draw t)
  f_law_same := defF 2 3 (s_law_same t)
  f_law_choose := defF 2 4 (s_law_choose t)
  f_Scene := defF 3 3 (s_Scene t)
  f_Machine := defF 4 6 (s_Machine t)
def tbl : Nat → Tbl
  | 0 => tbl0
  | n + 1 => step (tbl n)
def lp0 (t : Tbl) : S :=
  (sAsg (eMake 0 t.f_Scene (aCons (eTup aNil) (aCons (eTup (aCons (eC (.str x_p)) (aCons (eC (.str x_q)) (aCons (eC (.str x_r)) aNil)))) aNil))) (tgN 3))
def lp1 (t : Tbl) : S :=
  (sAsg (eTup (aCons (eApp t.f_law_draw (aCons (eVar 1) (aCons (eC (.int 4)) aNil))) (aCons (eApp t.f_law_draw (aCons (eVar 1) (aCons (eC (.int 4)) aNil))) (aCons (eApp t.f_law_draw (aCons (eVar 1) (aCons (eC (.int 3)) aNil))) aNil)))) (tgT 3 (tgsCons (tgN 4) (tgsCons (tgN 5) (tgsCons (tgN 6) tgsNil)))))
def lp2 (t : Tbl) : S :=
  (sPar3 7 8 9 (aCons (eApp t.f_row (aCons (eOp gMulA (eLst (aCons (eTup (aCons (eC (.str x_step)) (aCons (eC (.str x_p)) aNil))) aNil)) (eVar 4)) aNil)) (aCons (eApp t.f_row (aCons (eOp gMulA (eLst (aCons (eTup (aCons (eC (.str x_step)) (aCons (eC (.str x_q)) aNil))) aNil)) (eVar 5)) aNil)) (aCons (eApp t.f_row (aCons (eOp gMulA (eLst (aCons (eTup (aCons (eC (.str x_step)) (aCons (eC (.str x_r)) aNil))) aNil)) (eVar 6)) aNil)) aNil))))
def lp3 (t : Tbl) : S :=
  (sAsg (eApp t.f_side_by_side (aCons (eVar 3) (aCons (eVar 7) (aCons (eVar 8) (aCons (eTup aNil) aNil))))) (tgN 10))
def lp4 (t : Tbl) : S :=
  (sAsg (eOp gMulA (eLst (aCons (eC (.int 0)) aNil)) (eOp gAdd (eOp gAdd (eVar 4) (eVar 5)) (eC (.int 1)))) (tgN 11))
def lp5 (t : Tbl) : S :=
  (sPut (eVar 11) (eOp gAdd (eVar 4) (eVar 5)) (eApp t.f_law_choose (aCons (eOp gAdd (eVar 4) (eVar 5)) (aCons (eVar 4) aNil))))
def lp6 (t : Tbl) : S :=
  (sIf (tOrT (tNotT (tTru (eApp t.f_law_same (aCons (eApp t.f_count_words (aCons (eVar 10) (aCons (eOp gAdd (eVar 4) (eVar 5)) aNil))) (aCons (eApp bTup (aCons (eVar 11) aNil)) aNil))))) (tB (eOp (gNeF) (eOp1 (gFld x_size) (eApp t.f_least (aCons (eVar 10) aNil))) (eOp gMulA (eOp gAdd (eVar 4) (eC (.int 1))) (eOp gAdd (eVar 5) (eC (.int 1))))))) (sRet (eC (.bl false))) sNx)
def lp7 (t : Tbl) : S :=
  (sAsg (eApp t.f_all_side_by_side (aCons (eVar 3) (aCons (eLst (aCons (eVar 7) (aCons (eVar 8) (aCons (eVar 9) aNil)))) aNil))) (tgN 12))
def lp8 (t : Tbl) : S :=
  (sIf (tB (eOp (gNeF) (eOp gIx (eApp t.f_count_words (aCons (eVar 12) (aCons (eOp gAdd (eOp gAdd (eVar 4) (eVar 5)) (eVar 6)) aNil))) (eNeg (eC (.int 1)))) (eOp gMulA (eApp t.f_law_choose (aCons (eOp gAdd (eOp gAdd (eVar 4) (eVar 5)) (eVar 6)) (aCons (eVar 4) aNil))) (eApp t.f_law_choose (aCons (eOp gAdd (eVar 5) (eVar 6)) (aCons (eVar 5) aNil)))))) (sRet (eC (.bl false))) sNx)
def lp9 (t : Tbl) : S :=
  (sAsg (eApp t.f_side_by_side (aCons (eVar 3) (aCons (eTup (aCons (eC (.str x_loop)) (aCons (eTup (aCons (eC (.str x_step)) (aCons (eC (.str x_r)) aNil))) aNil))) (aCons (eVar 7) (aCons (eTup aNil) aNil))))) (tgN 13))
def lp10 (t : Tbl) : S :=
  (sAsg (eApp t.f_count_words (aCons (eVar 13) (aCons (eOp gAdd (eVar 4) (eC (.int 4))) aNil))) (tgN 14))
def lp11 (t : Tbl) : S :=
  (sIf (tOrT (tB (eOp (gNeF) (eSl (eVar 14) pNone (pSome (eVar 4))) (eOp gMulA (eTup (aCons (eC (.int 0)) aNil)) (eVar 4)))) (tB (eOp (gNeF) (eLc 64 (iRng1 (aCons (eC (.int 5)) aNil)) [16] (tgN 16) tYesT (eOp gIx (eVar 14) (eOp gAdd (eVar 4) (eVar 16)))) (eLc 64 (iRng1 (aCons (eC (.int 5)) aNil)) [16] (tgN 16) tYesT (eApp t.f_law_choose (aCons (eOp gAdd (eVar 4) (eVar 16)) (aCons (eVar 16) aNil))))))) (sRet (eC (.bl false))) sNx)
def lp12 (t : Tbl) : S :=
  (sAsg (eApp t.f_side_by_side (aCons (eVar 3) (aCons (eApp t.f_row (aCons (eOp gAdd (eOp gMulA (eLst (aCons (eTup (aCons (eC (.str x_step)) (aCons (eC (.str x_p)) aNil))) aNil)) (eVar 4)) (eOp gMulA (eLst (aCons (eTup (aCons (eC (.str x_step)) (aCons (eC (.str x_q)) aNil))) aNil)) (eVar 5))) aNil)) (aCons (eApp t.f_row (aCons (eOp gAdd (eOp gMulA (eLst (aCons (eTup (aCons (eC (.str x_step)) (aCons (eC (.str x_p)) aNil))) aNil)) (eVar 6)) (eLst (aCons (eTup (aCons (eC (.str x_step)) (aCons (eC (.str x_r)) aNil))) aNil))) aNil)) (aCons (eTup (aCons (eC (.str x_p)) aNil)) aNil))))) (tgN 15))
def lp13 (t : Tbl) : S :=
  (sIf (tB (eOp (gNeF) (eOp (gGt) (eApp bSumA (aCons (eApp t.f_count_words (aCons (eVar 15) (aCons (eC (.int 12)) aNil))) aNil)) (eC (.int 0))) (eOp (gEqF) (eVar 4) (eVar 6)))) (sRet (eC (.bl false))) sNx)
def lp14 (t : Tbl) : S :=
  (sIf (tAndT (tB (eOp (gEqF) (eVar 4) (eVar 6))) (tB (eOp (gNeF) (eOp gIx (eApp t.f_count_words (aCons (eVar 15) (aCons (eOp gAdd (eOp gAdd (eVar 4) (eVar 5)) (eC (.int 1))) aNil))) (eNeg (eC (.int 1)))) (eApp t.f_law_choose (aCons (eOp gAdd (eVar 5) (eC (.int 1))) (aCons (eC (.int 1)) aNil)))))) (sRet (eC (.bl false))) sNx)
/-- the names of law: ['script', 'draws', 'turn', 'told', 'm', 'n', 'k', 'one', 'two', 'three', 'both', 'due', 'every', 'loop', 'counts', 'same', 'j'] -/
def lawN : Nat := 17
end K68
set_option Elab.async false
set_option linter.all false
set_option maxRecDepth 100000
set_option maxHeartbeats 4000000
/-! The text by places; what the top has made (printed by gen.py). -/
namespace K68
open PySem PyProof.Rows Gw L2
def top (i : Nat) : Stmt := PySem.Challenge.pw_guardedways_k68_whole_side_by_side_count.main.body.getD i (.Pass ⟨0, 0, 0, 0⟩)
structure Txt (K : PySem.W.Frag) (mg : Str → Option Value) (cls : Cl) : Prop where
  b_all : mg "all" = none
  b_any : mg "any" = none
  b_bool : mg "bool" = none
  b_enumerate : mg "enumerate" = none
  b_int : mg "int" = none
  b_isinstance : mg "isinstance" = none
  b_len : mg "len" = none
  b_list : mg "list" = none
  b_range : mg "range" = none
  b_repr : mg "repr" = none
  b_reversed : mg "reversed" = none
  b_sorted : mg "sorted" = none
  b_str : mg "str" = none
  b_sum : mg "sum" = none
  b_tuple : mg "tuple" = none
  b_zip : mg "zip" = none
  g_FAIL : GC K mg "FAIL" c_FAIL
  g_LETTERS : GC K mg "LETTERS" c_LETTERS
  g_MOST_NAMES : GC K mg "MOST_NAMES" c_MOST_NAMES
  g_MOST_STATES : GC K mg "MOST_STATES" c_MOST_STATES
  g_MOST_STEPS : GC K mg "MOST_STEPS" c_MOST_STEPS
  g_SKIP : GC K mg "SKIP" c_SKIP
  a_atoms : Att K cls "atoms"
  a_ends : Att K cls "ends"
  a_names : Att K cls "names"
  a_scene : Att K cls "scene"
  a_size : Att K cls "size"
  a_steps : Att K cls "steps"
  a_ways : Att K cls "ways"
structure AllOk (P : Program) (w : World) (K : PySem.W.Frag) (mg : Str → Option Value) (base : Heap) (cls : Cl) (k : Nat) (t : Tbl) : Prop where
  f_is_integer : Fn P w K mg base cls k "is_integer" t.f_is_integer
  f_is_name : Fn P w K mg base cls k "is_name" t.f_is_name
  f_is_names : Fn P w K mg base cls k "is_names" t.f_is_names
  f_is_test : Fn P w K mg base cls k "is_test" t.f_is_test
  f_names_in : Fn P w K mg base cls k "names_in" t.f_names_in
  f_has : Fn P w K mg base cls k "has" t.f_has
  f_holds : Fn P w K mg base cls k "holds" t.f_holds
  f_is_program : Fn P w K mg base cls k "is_program" t.f_is_program
  f_key_of : Fn P w K mg base cls k "key_of" t.f_key_of
  f_distinct : Fn P w K mg base cls k "distinct" t.f_distinct
  f_parts_of : Fn P w K mg base cls k "parts_of" t.f_parts_of
  f_within : Fn P w K mg base cls k "within" t.f_within
  f_steps_in : Fn P w K mg base cls k "steps_in" t.f_steps_in
  f_tests_in : Fn P w K mg base cls k "tests_in" t.f_tests_in
  f_fits : Fn P w K mg base cls k "fits" t.f_fits
  f_look_at : Fn P w K mg base cls k "look_at" t.f_look_at
  f_row : Fn P w K mg base cls k "row" t.f_row
  f_may_end : Fn P w K mg base cls k "may_end" t.f_may_end
  f_then : Fn P w K mg base cls k "then" t.f_then
  f_rests : Fn P w K mg base cls k "rests" t.f_rests
  f_behind : Fn P w K mg base cls k "behind" t.f_behind
  f_is_ends : Fn P w K mg base cls k "is_ends" t.f_is_ends
  f_is_ways : Fn P w K mg base cls k "is_ways" t.f_is_ways
  f_look_at_agreed : Fn P w K mg base cls k "look_at_agreed" t.f_look_at_agreed
  f_pairs_behind : Fn P w K mg base cls k "pairs_behind" t.f_pairs_behind
  f_side_by_side : Fn P w K mg base cls k "side_by_side" t.f_side_by_side
  f_ends_at : Fn P w K mg base cls k "ends_at" t.f_ends_at
  f_all_side_by_side : Fn P w K mg base cls k "all_side_by_side" t.f_all_side_by_side
  f_rows_behind : Fn P w K mg base cls k "rows_behind" t.f_rows_behind
  f_live_states : Fn P w K mg base cls k "live_states" t.f_live_states
  f_blocks_of : Fn P w K mg base cls k "blocks_of" t.f_blocks_of
  f_least : Fn P w K mg base cls k "least" t.f_least
  f_count_words : Fn P w K mg base cls k "count_words" t.f_count_words
  f_law_draw : Fn P w K mg base cls k "_law_draw" t.f_law_draw
  f_law_same : Fn P w K mg base cls k "_law_same" t.f_law_same
  f_law_choose : Fn P w K mg base cls k "_law_choose" t.f_law_choose
  f_Scene : Kl P w K mg base cls k "Scene" 0 t.f_Scene
  f_Machine : Kl P w K mg base cls k "Machine" 1 t.f_Machine
end K68
set_option Elab.async false
set_option linter.all false
set_option maxRecDepth 100000
set_option maxHeartbeats 4000000
/-! The derivations (printed by gen.py). -/
namespace K68
open PySem PyProof.Rows Gw L2
section
variable {P : Program} {w : World} {K : PySem.W.Frag} {mg : Str → Option Value} {base : Heap} {cls : Cl} {n : Nat} {t : Tbl}
abbrev st_is_integer : Stmt := top 10
theorem sc_is_integer : FnScope ["value"] ["value"] (defScope st_is_integer) := C8.fnScope_by (by decide +kernel)
theorem d_is_integer (T : Txt K mg cls) (A : AllOk P w K mg base cls (2 * n) t) (hP : cls.P = P) (hw : cls.w = w) {f : Addr} {cdv : Value} : BodyOk P w K mg base cls ["value"] "is_integer" (defScope st_is_integer) f cdv (2 * n + 1) (defBody st_is_integer) (s_is_integer t) := by
  intro A0 outer s H E hr1
  have hr : RoomG (2 * n) (A0.deeper (envOfC "is_integer" (defScope st_is_integer) s.heap.objs.size f cdv)) := hr1.mono (Nat.le_succ _)
  have hu := hr.rm.units
  have hu1 := hu_of hr.rm
  have hN := sc_is_integer.nd
  exact (xssOne (xsRet (xAnd (xIsi .int T.b_isinstance T.b_int (xVar 0)) (xOne (xNot (xIsi .bool T.b_isinstance T.b_bool (xVar 0)))))))

abbrev st_is_name : Stmt := top 11
theorem sc_is_name : FnScope ["value", "one"] ["value"] (defScope st_is_name) := C8.fnScope_by (by decide +kernel)
theorem d_is_name (T : Txt K mg cls) (A : AllOk P w K mg base cls (2 * n) t) (hP : cls.P = P) (hw : cls.w = w) {f : Addr} {cdv : Value} : BodyOk P w K mg base cls ["value", "one"] "is_name" (defScope st_is_name) f cdv (2 * n + 1) (defBody st_is_name) (s_is_name t) := by
  intro A0 outer s H E hr1
  have hr : RoomG (2 * n) (A0.deeper (envOfC "is_name" (defScope st_is_name) s.heap.objs.size f cdv)) := hr1.mono (Nat.le_succ _)
  have hu := hr.rm.units
  have hu1 := hu_of hr.rm
  have hN := sc_is_name.nd
  exact (xssOne (xsRet (xAnd (xIsi .str T.b_isinstance T.b_str (xVar 0)) (xAnd (xChain (op_gLt) (op_gLe) xInt (xCallB c_len T.b_len (by rfl) (xaCons (xVar 0) xaNil)) xInt) (xOne (xCallB (c_all rfl) T.b_all (by rfl) (xaCons (xLc 64 rfl hN (xiSeq (xVar 0)) (blkOk_by (own := [("one", 1)]) (by kernel_rfl)) ctN (fun _ _ _ _ _ => (pg_name (i := 1) hN rfl (by first | exact Or.inl rfl | exact Or.inr rfl))) (fun _ _ _ _ _ => xtsNil) (fun _ _ _ _ _ => (xCmp (op_gIn hu) (xVar 1) (xGlob T.g_LETTERS)))) xaNil)))))))

abbrev st_is_names : Stmt := top 12
theorem sc_is_names : FnScope ["value", "most", "one"] ["value", "most"] (defScope st_is_names) := C8.fnScope_by (by decide +kernel)
theorem d_is_names (T : Txt K mg cls) (A : AllOk P w K mg base cls (2 * n) t) (hP : cls.P = P) (hw : cls.w = w) {f : Addr} {cdv : Value} : BodyOk P w K mg base cls ["value", "most", "one"] "is_names" (defScope st_is_names) f cdv (2 * n + 1) (defBody st_is_names) (s_is_names t) := by
  intro A0 outer s H E hr1
  have hr : RoomG (2 * n) (A0.deeper (envOfC "is_names" (defScope st_is_names) s.heap.objs.size f cdv)) := hr1.mono (Nat.le_succ _)
  have hu := hr.rm.units
  have hu1 := hu_of hr.rm
  have hN := sc_is_names.nd
  exact (xssCons (xsIf (PW.pt (xOrW (xNotT (xTru (xIsi .tuple T.b_isinstance T.b_tuple (xVar 0)))) (xOrW (xCmpT (op_gGt) (xCallB c_len T.b_len (by rfl) (xaCons (xVar 0) xaNil)) (xVar 1)) (xOr1 (xNotT (xTru (xCallB (c_all rfl) T.b_all (by rfl) (xaCons (xLc 64 rfl hN (xiSeq (xVar 0)) (blkOk_by (own := [("one", 2)]) (by kernel_rfl)) ctN (fun _ _ _ _ _ => (pg_name (i := 2) hN rfl (by first | exact Or.inl rfl | exact Or.inr rfl))) (fun _ _ _ _ _ => xtsNil) (fun _ _ _ _ _ => (xCall A.f_is_name hr (xaCons (xVar 2) xaNil)))) xaNil)))))))) (xssOne (xsRet xBl)) xssNil)
    (xssOne (xsRet (xCmp (op_gEqF hu) (xCallTy c_list T.b_list (by rfl) (xaCons (xVar 0) xaNil)) (xCallB (c_sortD rfl) T.b_sorted (by rfl) (xaCons (xDc 64 rfl hN (xiSeq (xVar 0)) (blkOk_by (own := [("one", 2)]) (by kernel_rfl)) ctN (fun _ _ _ _ _ => (pg_name (i := 2) hN rfl (by first | exact Or.inl rfl | exact Or.inr rfl))) (fun _ _ _ _ _ => xtsNil) (fun _ _ _ _ _ => (xVar 2)) (fun _ _ _ _ _ => xBl)) xaNil))))))

abbrev st_is_test : Stmt := top 13
theorem sc_is_test : FnScope ["value", "deep", "word", "part"] ["value", "deep"] (defScope st_is_test) := C8.fnScope_by (by decide +kernel)
theorem d_is_test (T : Txt K mg cls) (A : AllOk P w K mg base cls (2 * n) t) (hP : cls.P = P) (hw : cls.w = w) {f : Addr} {cdv : Value} : BodyOk P w K mg base cls ["value", "deep", "word", "part"] "is_test" (defScope st_is_test) f cdv (2 * n + 1) (defBody st_is_test) (s_is_test t) := by
  intro A0 outer s H E hr1
  have hr : RoomG (2 * n) (A0.deeper (envOfC "is_test" (defScope st_is_test) s.heap.objs.size f cdv)) := hr1.mono (Nat.le_succ _)
  have hu := hr.rm.units
  have hu1 := hu_of hr.rm
  have hN := sc_is_test.nd
  exact (xssCons (xsIf (PW.pt (xOrW (xCmpT (op_gEqF hu) (xVar 1) xInt) (xOrW (xNotT (xTru (xIsi .tuple T.b_isinstance T.b_tuple (xVar 0)))) (xOr1 (xCmpT (op_gEqF hu) (xCallB c_len T.b_len (by rfl) (xaCons (xVar 0) xaNil)) xInt))))) (xssOne (xsRet xBl)) xssNil)
    (xssCons (xsAsg (xIx hu (xVar 0) xInt) (xgN 2 hN))
    (xssCons (xsIf (xCmpT (op_gIn hu) (xVar 2) (xTup (xaCons (xStrL k_yes) (xaCons (xStrL k_no) xaNil)))) (xssOne (xsRet (xCmp (op_gEqF hu) (xCallB c_len T.b_len (by rfl) (xaCons (xVar 0) xaNil)) xInt))) xssNil)
    (xssCons (xsIf (xCmpT (op_gEqF hu) (xVar 2) (xStrL k_is)) (xssOne (xsRet (xAnd (xCmp (op_gEqF hu) (xCallB c_len T.b_len (by rfl) (xaCons (xVar 0) xaNil)) xInt) (xOne (xCall A.f_is_name hr (xaCons (xIx hu (xVar 0) xInt) xaNil)))))) xssNil)
    (xssCons (xsIf (xCmpT (op_gEqF hu) (xVar 2) (xStrL k_not)) (xssOne (xsRet (xAnd (xCmp (op_gEqF hu) (xCallB c_len T.b_len (by rfl) (xaCons (xVar 0) xaNil)) xInt) (xOne (xCall A.f_is_test hr (xaCons (xIx hu (xVar 0) xInt) (xaCons (xBin op_gSub (xVar 1) xInt) xaNil))))))) xssNil)
    (xssOne (xsRet (xAnd (xCmp (op_gIn hu) (xVar 2) (xTup (xaCons (xStrL k_and) (xaCons (xStrL k_or) xaNil)))) (xAnd (xCmp (op_gEqF hu) (xCallB c_len T.b_len (by rfl) (xaCons (xVar 0) xaNil)) xInt) (xOne (xCallB (c_all rfl) T.b_all (by rfl) (xaCons (xLc 64 rfl hN (xiSeq (xSl (xVar 0) (xpSome xInt) xpNone)) (blkOk_by (own := [("part", 3)]) (by kernel_rfl)) ctN (fun _ _ _ _ _ => (pg_name (i := 3) hN rfl (by first | exact Or.inl rfl | exact Or.inr rfl))) (fun _ _ _ _ _ => xtsNil) (fun _ _ _ _ _ => (xCall A.f_is_test hr (xaCons (xVar 3) (xaCons (xBin op_gSub (xVar 1) xInt) xaNil))))) xaNil))))))))))))

abbrev st_names_in : Stmt := top 14
theorem sc_names_in : FnScope ["test", "found", "part", "name"] ["test"] (defScope st_names_in) := C8.fnScope_by (by decide +kernel)
theorem d_names_in (T : Txt K mg cls) (A : AllOk P w K mg base cls (2 * n) t) (hP : cls.P = P) (hw : cls.w = w) {f : Addr} {cdv : Value} : BodyOk P w K mg base cls ["test", "found", "part", "name"] "names_in" (defScope st_names_in) f cdv (2 * n + 1) (defBody st_names_in) (s_names_in t) := by
  intro A0 outer s H E hr1
  have hr : RoomG (2 * n) (A0.deeper (envOfC "names_in" (defScope st_names_in) s.heap.objs.size f cdv)) := hr1.mono (Nat.le_succ _)
  have hu := hr.rm.units
  have hu1 := hu_of hr.rm
  have hN := sc_names_in.nd
  exact (xssCons (xsIf (xCmpT (op_gEqF hu) (xIx hu (xVar 0) xInt) (xStrL k_is)) (xssOne (xsRet (xTup (xaCons (xIx hu (xVar 0) xInt) xaNil)))) xssNil)
    (xssCons (xsAsg xDic0 (xgN 1 hN))
    (xssCons (xsFor 64 PassesOwn.never rfl (xiSeq (xSl (xVar 0) (xpSome xInt) xpNone)) (xgN 2 hN) (xssOne (xsExpr (xMeth PySem.F.plainAttrs_dict PySem.F.slot_dict_update PySem.F.type_dict_update m_upd (xVar 1) (xaCons (xDc 64 rfl hN (xiSeq (xCall A.f_names_in hr (xaCons (xVar 2) xaNil))) (blkOk_by (own := [("name", 3)]) (by kernel_rfl)) ctN (fun _ _ _ _ _ => (pg_name (i := 3) hN rfl (by first | exact Or.inl rfl | exact Or.inr rfl))) (fun _ _ _ _ _ => xtsNil) (fun _ _ _ _ _ => (xVar 3)) (fun _ _ _ _ _ => xBl)) xaNil)))))
    (xssOne (xsRet (xCallTy c_tup T.b_tuple (by rfl) (xaCons (xCallB (c_sortD rfl) T.b_sorted (by rfl) (xaCons (xVar 1) xaNil)) xaNil)))))))

abbrev st_has : Stmt := top 15
theorem sc_has : FnScope ["atom", "at"] ["atom", "at"] (defScope st_has) := C8.fnScope_by (by decide +kernel)
theorem d_has (T : Txt K mg cls) (A : AllOk P w K mg base cls (2 * n) t) (hP : cls.P = P) (hw : cls.w = w) {f : Addr} {cdv : Value} : BodyOk P w K mg base cls ["atom", "at"] "has" (defScope st_has) f cdv (2 * n + 1) (defBody st_has) (s_has t) := by
  intro A0 outer s H E hr1
  have hr : RoomG (2 * n) (A0.deeper (envOfC "has" (defScope st_has) s.heap.objs.size f cdv)) := hr1.mono (Nat.le_succ _)
  have hu := hr.rm.units
  have hu1 := hu_of hr.rm
  have hN := sc_has.nd
  exact (xssOne (xsRet (xCmp (op_gEqF hu) (xBin op_gAndB (xBin op_gShr (xVar 0) (xVar 1)) xInt) xInt)))

abbrev st_holds : Stmt := top 16
theorem sc_holds : FnScope ["test", "atom", "names", "word"] ["test", "atom", "names"] (defScope st_holds) := C8.fnScope_by (by decide +kernel)
theorem d_holds (T : Txt K mg cls) (A : AllOk P w K mg base cls (2 * n) t) (hP : cls.P = P) (hw : cls.w = w) {f : Addr} {cdv : Value} : BodyOk P w K mg base cls ["test", "atom", "names", "word"] "holds" (defScope st_holds) f cdv (2 * n + 1) (defBody st_holds) (s_holds t) := by
  intro A0 outer s H E hr1
  have hr : RoomG (2 * n) (A0.deeper (envOfC "holds" (defScope st_holds) s.heap.objs.size f cdv)) := hr1.mono (Nat.le_succ _)
  have hu := hr.rm.units
  have hu1 := hu_of hr.rm
  have hN := sc_holds.nd
  exact (xssCons (xsAsg (xIx hu (xVar 0) xInt) (xgN 3 hN))
    (xssCons (xsIf (xCmpT (op_gEqF hu) (xVar 3) (xStrL k_is)) (xssOne (xsRet (xCall A.f_has hr (xaCons (xVar 1) (xaCons xNone xaNil))))) xssNil)
    (xssCons (xsIf (xCmpT (op_gEqF hu) (xVar 3) (xStrL k_not)) (xssOne (xsRet (xNot (xCall A.f_holds hr (xaCons (xIx hu (xVar 0) xInt) (xaCons (xVar 1) (xaCons (xVar 2) xaNil))))))) xssNil)
    (xssCons (xsIf (xCmpT (op_gEqF hu) (xVar 3) (xStrL k_and)) (xssOne (xsRet (xAnd (xCall A.f_holds hr (xaCons (xIx hu (xVar 0) xInt) (xaCons (xVar 1) (xaCons (xVar 2) xaNil)))) (xOne (xCall A.f_holds hr (xaCons (xIx hu (xVar 0) xInt) (xaCons (xVar 1) (xaCons (xVar 2) xaNil)))))))) xssNil)
    (xssCons (xsIf (xCmpT (op_gEqF hu) (xVar 3) (xStrL k_or)) (xssOne (xsRet (xOr (xCall A.f_holds hr (xaCons (xIx hu (xVar 0) xInt) (xaCons (xVar 1) (xaCons (xVar 2) xaNil)))) (xOne (xCall A.f_holds hr (xaCons (xIx hu (xVar 0) xInt) (xaCons (xVar 1) (xaCons (xVar 2) xaNil)))))))) xssNil)
    (xssOne (xsRet (xCmp (op_gEqF hu) (xVar 3) (xStrL k_yes)))))))))

abbrev st_is_program : Stmt := top 23
theorem sc_is_program : FnScope ["value", "deep", "word", "part"] ["value", "deep"] (defScope st_is_program) := C8.fnScope_by (by decide +kernel)
theorem d_is_program (T : Txt K mg cls) (A : AllOk P w K mg base cls (2 * n) t) (hP : cls.P = P) (hw : cls.w = w) {f : Addr} {cdv : Value} : BodyOk P w K mg base cls ["value", "deep", "word", "part"] "is_program" (defScope st_is_program) f cdv (2 * n + 1) (defBody st_is_program) (s_is_program t) := by
  intro A0 outer s H E hr1
  have hr : RoomG (2 * n) (A0.deeper (envOfC "is_program" (defScope st_is_program) s.heap.objs.size f cdv)) := hr1.mono (Nat.le_succ _)
  have hu := hr.rm.units
  have hu1 := hu_of hr.rm
  have hN := sc_is_program.nd
  exact (xssCons (xsIf (PW.pt (xOrW (xCmpT (op_gEqF hu) (xVar 1) xInt) (xOrW (xNotT (xTru (xIsi .tuple T.b_isinstance T.b_tuple (xVar 0)))) (xOr1 (xCmpT (op_gLt) (xCallB c_len T.b_len (by rfl) (xaCons (xVar 0) xaNil)) xInt))))) (xssOne (xsRet xBl)) xssNil)
    (xssCons (xsAsg (xIx hu (xVar 0) xInt) (xgN 2 hN))
    (xssCons (xsIf (xCmpT (op_gEqF hu) (xVar 2) (xStrL k_step)) (xssOne (xsRet (xAnd (xCmp (op_gEqF hu) (xCallB c_len T.b_len (by rfl) (xaCons (xVar 0) xaNil)) xInt) (xOne (xCall A.f_is_name hr (xaCons (xIx hu (xVar 0) xInt) xaNil)))))) xssNil)
    (xssCons (xsIf (xCmpT (op_gEqF hu) (xVar 2) (xStrL k_test)) (xssOne (xsRet (xAnd (xCmp (op_gEqF hu) (xCallB c_len T.b_len (by rfl) (xaCons (xVar 0) xaNil)) xInt) (xOne (xCall A.f_is_test hr (xaCons (xIx hu (xVar 0) xInt) xaNil)))))) xssNil)
    (xssCons (xsIf (xCmpT (op_gEqF hu) (xVar 2) (xStrL k_loop)) (xssOne (xsRet (xAnd (xCmp (op_gEqF hu) (xCallB c_len T.b_len (by rfl) (xaCons (xVar 0) xaNil)) xInt) (xOne (xCall A.f_is_program hr (xaCons (xIx hu (xVar 0) xInt) (xaCons (xBin op_gSub (xVar 1) xInt) xaNil))))))) xssNil)
    (xssOne (xsRet (xAnd (xCmp (op_gIn hu) (xVar 2) (xTup (xaCons (xStrL k_then) (xaCons (xStrL k_or) xaNil)))) (xAnd (xCmp (op_gEqF hu) (xCallB c_len T.b_len (by rfl) (xaCons (xVar 0) xaNil)) xInt) (xOne (xCallB (c_all rfl) T.b_all (by rfl) (xaCons (xLc 64 rfl hN (xiSeq (xSl (xVar 0) (xpSome xInt) xpNone)) (blkOk_by (own := [("part", 3)]) (by kernel_rfl)) ctN (fun _ _ _ _ _ => (pg_name (i := 3) hN rfl (by first | exact Or.inl rfl | exact Or.inr rfl))) (fun _ _ _ _ _ => xtsNil) (fun _ _ _ _ _ => (xCall A.f_is_program hr (xaCons (xVar 3) (xaCons (xBin op_gSub (xVar 1) xInt) xaNil))))) xaNil))))))))))))

abbrev st_key_of : Stmt := top 24
theorem sc_key_of : FnScope ["value"] ["value"] (defScope st_key_of) := C8.fnScope_by (by decide +kernel)
theorem d_key_of (T : Txt K mg cls) (A : AllOk P w K mg base cls (2 * n) t) (hP : cls.P = P) (hw : cls.w = w) {f : Addr} {cdv : Value} : BodyOk P w K mg base cls ["value"] "key_of" (defScope st_key_of) f cdv (2 * n + 1) (defBody st_key_of) (s_key_of t) := by
  intro A0 outer s H E hr1
  have hr : RoomG (2 * n) (A0.deeper (envOfC "key_of" (defScope st_key_of) s.heap.objs.size f cdv)) := hr1.mono (Nat.le_succ _)
  have hu := hr.rm.units
  have hu1 := hu_of hr.rm
  have hN := sc_key_of.nd
  exact (xssOne (xsRet (xCallB (c_reprF hr.gd hu) T.b_repr (by rfl) (xaCons (xVar 0) xaNil))))

abbrev st_distinct : Stmt := top 25
theorem sc_distinct : FnScope ["programs", "program"] ["programs"] (defScope st_distinct) := C8.fnScope_by (by decide +kernel)
theorem d_distinct (T : Txt K mg cls) (A : AllOk P w K mg base cls (2 * n) t) (hP : cls.P = P) (hw : cls.w = w) {f : Addr} {cdv : Value} : BodyOk P w K mg base cls ["programs", "program"] "distinct" (defScope st_distinct) f cdv (2 * n + 1) (defBody st_distinct) (s_distinct t) := by
  intro A0 outer s H E hr1
  have hr : RoomG (2 * n) (A0.deeper (envOfC "distinct" (defScope st_distinct) s.heap.objs.size f cdv)) := hr1.mono (Nat.le_succ _)
  have hu := hr.rm.units
  have hu1 := hu_of hr.rm
  have hN := sc_distinct.nd
  exact (xssOne (xsRet (xCallTy c_tup T.b_tuple (by rfl) (xaCons (xSortVals rfl T.b_sorted (xDc 64 rfl hN (xiSeq (xVar 0)) (blkOk_by (own := [("program", 1)]) (by kernel_rfl)) ctN (fun _ _ _ _ _ => (pg_name (i := 1) hN rfl (by first | exact Or.inl rfl | exact Or.inr rfl))) (fun _ _ _ _ _ => xtsNil) (fun _ _ _ _ _ => (xCall A.f_key_of hr (xaCons (xVar 1) xaNil))) (fun _ _ _ _ _ => (xVar 1)))) xaNil))))

abbrev st_parts_of : Stmt := top 26
theorem sc_parts_of : FnScope ["program"] ["program"] (defScope st_parts_of) := C8.fnScope_by (by decide +kernel)
theorem d_parts_of (T : Txt K mg cls) (A : AllOk P w K mg base cls (2 * n) t) (hP : cls.P = P) (hw : cls.w = w) {f : Addr} {cdv : Value} : BodyOk P w K mg base cls ["program"] "parts_of" (defScope st_parts_of) f cdv (2 * n + 1) (defBody st_parts_of) (s_parts_of t) := by
  intro A0 outer s H E hr1
  have hr : RoomG (2 * n) (A0.deeper (envOfC "parts_of" (defScope st_parts_of) s.heap.objs.size f cdv)) := hr1.mono (Nat.le_succ _)
  have hu := hr.rm.units
  have hu1 := hu_of hr.rm
  have hN := sc_parts_of.nd
  exact (xssOne (xsRet (xIfE (xCmpT (op_gIn hu) (xIx hu (xVar 0) xInt) (xTup (xaCons (xStrL k_step) (xaCons (xStrL k_test) xaNil)))) (xTup xaNil) (xSl (xVar 0) (xpSome xInt) xpNone))))

abbrev st_within : Stmt := top 27
theorem sc_within : FnScope ["program", "found", "todo", "here"] ["program"] (defScope st_within) := C8.fnScope_by (by decide +kernel)
theorem d_within (T : Txt K mg cls) (A : AllOk P w K mg base cls (2 * n) t) (hP : cls.P = P) (hw : cls.w = w) {f : Addr} {cdv : Value} : BodyOk P w K mg base cls ["program", "found", "todo", "here"] "within" (defScope st_within) f cdv (2 * n + 1) (defBody st_within) (s_within t) := by
  intro A0 outer s H E hr1
  have hr : RoomG (2 * n) (A0.deeper (envOfC "within" (defScope st_within) s.heap.objs.size f cdv)) := hr1.mono (Nat.le_succ _)
  have hu := hr.rm.units
  have hu1 := hu_of hr.rm
  have hN := sc_within.nd
  exact (xssCons (xsAsg xDic0 (xgN 1 hN))
    (xssCons (xsAsg (xLst (xaCons (xVar 0) xaNil)) (xgN 2 hN))
    (xssCons (xsWhile 64 PassesOwn.never (xCmpT (op_gGt) (xCallB c_len T.b_len (by rfl) (xaCons (xVar 2) xaNil)) xInt) (xssCons (xsAsg (xMeth0 PySem.F.plainAttrs_list PySem.F.slot_list_pop PySem.F.type_list_pop m_pop (xVar 2)) (xgN 3 hN))
    (xssOne (xsIf (xCmpT (op_gNotIn hu) (xCall A.f_key_of hr (xaCons (xVar 3) xaNil)) (xVar 1)) (xssCons (xsPut hu1 (xVar 1) (xCall A.f_key_of hr (xaCons (xVar 3) xaNil)) (xVar 3))
    (xssOne (xsExpr (xMeth PySem.F.plainAttrs_list PySem.F.slot_list_extend PySem.F.type_list_extend m_ext (xVar 2) (xaCons (xRevL (xCallTy c_list T.b_list (by rfl) (xaCons (xCall A.f_parts_of hr (xaCons (xVar 3) xaNil)) xaNil))) xaNil))))) xssNil))))
    (xssOne (xsRet (xTupVals rfl T.b_tuple (xVar 1)))))))

abbrev st_steps_in : Stmt := top 28
theorem sc_steps_in : FnScope ["program", "one"] ["program"] (defScope st_steps_in) := C8.fnScope_by (by decide +kernel)
theorem d_steps_in (T : Txt K mg cls) (A : AllOk P w K mg base cls (2 * n) t) (hP : cls.P = P) (hw : cls.w = w) {f : Addr} {cdv : Value} : BodyOk P w K mg base cls ["program", "one"] "steps_in" (defScope st_steps_in) f cdv (2 * n + 1) (defBody st_steps_in) (s_steps_in t) := by
  intro A0 outer s H E hr1
  have hr : RoomG (2 * n) (A0.deeper (envOfC "steps_in" (defScope st_steps_in) s.heap.objs.size f cdv)) := hr1.mono (Nat.le_succ _)
  have hu := hr.rm.units
  have hu1 := hu_of hr.rm
  have hN := sc_steps_in.nd
  exact (xssOne (xsRet (xCallTy c_tup T.b_tuple (by rfl) (xaCons (xCallB (c_sortD rfl) T.b_sorted (by rfl) (xaCons (xDc 64 rfl hN (xiSeq (xCall A.f_within hr (xaCons (xVar 0) xaNil))) (blkOk_by (own := [("one", 1)]) (by kernel_rfl)) ctN (fun _ _ _ _ _ => (pg_name (i := 1) hN rfl (by first | exact Or.inl rfl | exact Or.inr rfl))) (fun _ _ _ _ _ => (xtsOne (xCmpT (op_gEqF hu) (xIx hu (xVar 1) xInt) (xStrL k_step)))) (fun _ _ _ _ _ => (xIx hu (xVar 1) xInt)) (fun _ _ _ _ _ => xBl)) xaNil)) xaNil))))

abbrev st_tests_in : Stmt := top 29
theorem sc_tests_in : FnScope ["program", "found", "one", "name"] ["program"] (defScope st_tests_in) := C8.fnScope_by (by decide +kernel)
theorem d_tests_in (T : Txt K mg cls) (A : AllOk P w K mg base cls (2 * n) t) (hP : cls.P = P) (hw : cls.w = w) {f : Addr} {cdv : Value} : BodyOk P w K mg base cls ["program", "found", "one", "name"] "tests_in" (defScope st_tests_in) f cdv (2 * n + 1) (defBody st_tests_in) (s_tests_in t) := by
  intro A0 outer s H E hr1
  have hr : RoomG (2 * n) (A0.deeper (envOfC "tests_in" (defScope st_tests_in) s.heap.objs.size f cdv)) := hr1.mono (Nat.le_succ _)
  have hu := hr.rm.units
  have hu1 := hu_of hr.rm
  have hN := sc_tests_in.nd
  exact (xssCons (xsAsg xDic0 (xgN 1 hN))
    (xssCons (xsFor 64 PassesOwn.never rfl (xiSeq (xCall A.f_within hr (xaCons (xVar 0) xaNil))) (xgN 2 hN) (xssOne (xsIf (xCmpT (op_gEqF hu) (xIx hu (xVar 2) xInt) (xStrL k_test)) (xssOne (xsExpr (xMeth PySem.F.plainAttrs_dict PySem.F.slot_dict_update PySem.F.type_dict_update m_upd (xVar 1) (xaCons (xDc 64 rfl hN (xiSeq (xCall A.f_names_in hr (xaCons (xIx hu (xVar 2) xInt) xaNil))) (blkOk_by (own := [("name", 3)]) (by kernel_rfl)) ctN (fun _ _ _ _ _ => (pg_name (i := 3) hN rfl (by first | exact Or.inl rfl | exact Or.inr rfl))) (fun _ _ _ _ _ => xtsNil) (fun _ _ _ _ _ => (xVar 3)) (fun _ _ _ _ _ => xBl)) xaNil)))) xssNil)))
    (xssOne (xsRet (xCallTy c_tup T.b_tuple (by rfl) (xaCons (xCallB (c_sortD rfl) T.b_sorted (by rfl) (xaCons (xVar 1) xaNil)) xaNil))))))

abbrev st_fits : Stmt := top 30
theorem sc_fits : FnScope ["scene", "program", "name", "step"] ["scene", "program"] (defScope st_fits) := C8.fnScope_by (by decide +kernel)
theorem d_fits (T : Txt K mg cls) (A : AllOk P w K mg base cls (2 * n) t) (hP : cls.P = P) (hw : cls.w = w) {f : Addr} {cdv : Value} : BodyOk P w K mg base cls ["scene", "program", "name", "step"] "fits" (defScope st_fits) f cdv (2 * n + 1) (defBody st_fits) (s_fits t) := by
  intro A0 outer s H E hr1
  have hr : RoomG (2 * n) (A0.deeper (envOfC "fits" (defScope st_fits) s.heap.objs.size f cdv)) := hr1.mono (Nat.le_succ _)
  have hu := hr.rm.units
  have hu1 := hu_of hr.rm
  have hN := sc_fits.nd
  exact (xssCons (xsIf (xNotT (xTru (xCall A.f_is_program hr (xaCons (xVar 1) xaNil)))) (xssOne (xsRet xBl)) xssNil)
    (xssCons (xsIf (xNotT (xTru (xCallB (c_all rfl) T.b_all (by rfl) (xaCons (xLc 64 rfl hN (xiSeq (xCall A.f_tests_in hr (xaCons (xVar 1) xaNil))) (blkOk_by (own := [("name", 2)]) (by kernel_rfl)) ctN (fun _ _ _ _ _ => (pg_name (i := 2) hN rfl (by first | exact Or.inl rfl | exact Or.inr rfl))) (fun _ _ _ _ _ => xtsNil) (fun _ _ _ _ _ => (xCmp (op_gIn hu) (xVar 2) (xFldL k_names T.a_names (xVar 0))))) xaNil)))) (xssOne (xsRet xBl)) xssNil)
    (xssOne (xsRet (xCallB (c_all rfl) T.b_all (by rfl) (xaCons (xLc 64 rfl hN (xiSeq (xCall A.f_steps_in hr (xaCons (xVar 1) xaNil))) (blkOk_by (own := [("step", 3)]) (by kernel_rfl)) ctN (fun _ _ _ _ _ => (pg_name (i := 3) hN rfl (by first | exact Or.inl rfl | exact Or.inr rfl))) (fun _ _ _ _ _ => xtsNil) (fun _ _ _ _ _ => (xCmp (op_gIn hu) (xVar 3) (xFldL k_steps T.a_steps (xVar 0))))) xaNil))))))

abbrev st_look_at : Stmt := top 31
theorem sc_look_at : FnScope ["scene", "programs", "program"] ["scene", "programs"] (defScope st_look_at) := C8.fnScope_by (by decide +kernel)
theorem d_look_at (T : Txt K mg cls) (A : AllOk P w K mg base cls (2 * n) t) (hP : cls.P = P) (hw : cls.w = w) {f : Addr} {cdv : Value} : BodyOk P w K mg base cls ["scene", "programs", "program"] "look_at" (defScope st_look_at) f cdv (2 * n + 1) (defBody st_look_at) (s_look_at t) := by
  intro A0 outer s H E hr1
  have hr : RoomG (2 * n) (A0.deeper (envOfC "look_at" (defScope st_look_at) s.heap.objs.size f cdv)) := hr1.mono (Nat.le_succ _)
  have hu := hr.rm.units
  have hu1 := hu_of hr.rm
  have hN := sc_look_at.nd
  exact (xssOne (xsFor 64 PassesOwn.never rfl (xiSeq (xVar 1)) (xgN 2 hN) (xssOne (xsIf (xNotT (xTru (xCall A.f_fits hr (xaCons (xVar 0) (xaCons (xVar 2) xaNil))))) (xssOne xsNone) xssNil))))

abbrev st_row : Stmt := top 32
theorem sc_row : FnScope ["programs", "found", "program"] ["programs"] (defScope st_row) := C8.fnScope_by (by decide +kernel)
theorem d_row (T : Txt K mg cls) (A : AllOk P w K mg base cls (2 * n) t) (hP : cls.P = P) (hw : cls.w = w) {f : Addr} {cdv : Value} : BodyOk P w K mg base cls ["programs", "found", "program"] "row" (defScope st_row) f cdv (2 * n + 1) (defBody st_row) (s_row t) := by
  intro A0 outer s H E hr1
  have hr : RoomG (2 * n) (A0.deeper (envOfC "row" (defScope st_row) s.heap.objs.size f cdv)) := hr1.mono (Nat.le_succ _)
  have hu := hr.rm.units
  have hu1 := hu_of hr.rm
  have hN := sc_row.nd
  exact (xssCons (xsIf (xCmpT (op_gEqF hu) (xCallB c_len T.b_len (by rfl) (xaCons (xVar 0) xaNil)) xInt) (xssOne (xsRet (xGlob T.g_SKIP))) xssNil)
    (xssCons (xsAsg (xIx hu (xVar 0) (xNeg xInt)) (xgN 1 hN))
    (xssCons (xsFor 64 PassesOwn.never rfl (xiRev T.b_reversed (xSl (xVar 0) xpNone (xpSome (xNeg xInt)))) (xgN 2 hN) (xssOne (xsAsg (xTup (xaCons (xStrL k_then) (xaCons (xVar 2) (xaCons (xVar 1) xaNil)))) (xgN 1 hN))))
    (xssOne (xsRet (xVar 1))))))

abbrev st_may_end : Stmt := top 34
theorem sc_may_end : FnScope ["scene", "program", "atom", "word"] ["scene", "program", "atom"] (defScope st_may_end) := C8.fnScope_by (by decide +kernel)
theorem d_may_end (T : Txt K mg cls) (A : AllOk P w K mg base cls (2 * n) t) (hP : cls.P = P) (hw : cls.w = w) {f : Addr} {cdv : Value} : BodyOk P w K mg base cls ["scene", "program", "atom", "word"] "may_end" (defScope st_may_end) f cdv (2 * n + 1) (defBody st_may_end) (s_may_end t) := by
  intro A0 outer s H E hr1
  have hr : RoomG (2 * n) (A0.deeper (envOfC "may_end" (defScope st_may_end) s.heap.objs.size f cdv)) := hr1.mono (Nat.le_succ _)
  have hu := hr.rm.units
  have hu1 := hu_of hr.rm
  have hN := sc_may_end.nd
  exact (xssCons (xsAsg (xIx hu (xVar 1) xInt) (xgN 3 hN))
    (xssCons (xsIf (xCmpT (op_gEqF hu) (xVar 3) (xStrL k_test)) (xssOne (xsRet (xCall A.f_holds hr (xaCons (xIx hu (xVar 1) xInt) (xaCons (xVar 2) (xaCons (xFldL k_names T.a_names (xVar 0)) xaNil)))))) xssNil)
    (xssCons (xsIf (xCmpT (op_gEqF hu) (xVar 3) (xStrL k_step)) (xssOne (xsRet xBl)) xssNil)
    (xssCons (xsIf (xCmpT (op_gEqF hu) (xVar 3) (xStrL k_or)) (xssOne (xsRet (xOr (xCall A.f_may_end hr (xaCons (xVar 0) (xaCons (xIx hu (xVar 1) xInt) (xaCons (xVar 2) xaNil)))) (xOne (xCall A.f_may_end hr (xaCons (xVar 0) (xaCons (xIx hu (xVar 1) xInt) (xaCons (xVar 2) xaNil)))))))) xssNil)
    (xssCons (xsIf (xCmpT (op_gEqF hu) (xVar 3) (xStrL k_then)) (xssOne (xsRet (xAnd (xCall A.f_may_end hr (xaCons (xVar 0) (xaCons (xIx hu (xVar 1) xInt) (xaCons (xVar 2) xaNil)))) (xOne (xCall A.f_may_end hr (xaCons (xVar 0) (xaCons (xIx hu (xVar 1) xInt) (xaCons (xVar 2) xaNil)))))))) xssNil)
    (xssOne (xsRet xBl)))))))

abbrev st_then : Stmt := top 35
theorem sc_then : FnScope ["first", "other"] ["first", "other"] (defScope st_then) := C8.fnScope_by (by decide +kernel)
theorem d_then (T : Txt K mg cls) (A : AllOk P w K mg base cls (2 * n) t) (hP : cls.P = P) (hw : cls.w = w) {f : Addr} {cdv : Value} : BodyOk P w K mg base cls ["first", "other"] "then" (defScope st_then) f cdv (2 * n + 1) (defBody st_then) (s_then t) := by
  intro A0 outer s H E hr1
  have hr : RoomG (2 * n) (A0.deeper (envOfC "then" (defScope st_then) s.heap.objs.size f cdv)) := hr1.mono (Nat.le_succ _)
  have hu := hr.rm.units
  have hu1 := hu_of hr.rm
  have hN := sc_then.nd
  exact (xssCons (xsIf (PW.pt (xOrW (xCmpT (op_gEqF hu) (xVar 0) (xGlob T.g_FAIL)) (xOr1 (xCmpT (op_gEqF hu) (xVar 1) (xGlob T.g_FAIL))))) (xssOne (xsRet (xGlob T.g_FAIL))) xssNil)
    (xssCons (xsIf (xCmpT (op_gEqF hu) (xVar 0) (xGlob T.g_SKIP)) (xssOne (xsRet (xVar 1))) xssNil)
    (xssOne (xsRet (xIfE (xCmpT (op_gEqF hu) (xVar 1) (xGlob T.g_SKIP)) (xVar 0) (xTup (xaCons (xStrL k_then) (xaCons (xVar 0) (xaCons (xVar 1) xaNil)))))))))

abbrev st_rests : Stmt := top 36
theorem sc_rests : FnScope ["scene", "program", "atom", "step", "word", "found"] ["scene", "program", "atom", "step"] (defScope st_rests) := C8.fnScope_by (by decide +kernel)
theorem d_rests (T : Txt K mg cls) (A : AllOk P w K mg base cls (2 * n) t) (hP : cls.P = P) (hw : cls.w = w) {f : Addr} {cdv : Value} : BodyOk P w K mg base cls ["scene", "program", "atom", "step", "word", "found"] "rests" (defScope st_rests) f cdv (2 * n + 1) (defBody st_rests) (s_rests t) := by
  intro A0 outer s H E hr1
  have hr : RoomG (2 * n) (A0.deeper (envOfC "rests" (defScope st_rests) s.heap.objs.size f cdv)) := hr1.mono (Nat.le_succ _)
  have hu := hr.rm.units
  have hu1 := hu_of hr.rm
  have hN := sc_rests.nd
  exact (xssCons (xsAsg (xIx hu (xVar 1) xInt) (xgN 4 hN))
    (xssCons (xsIf (xCmpT (op_gEqF hu) (xVar 4) (xStrL k_step)) (xssOne (xsRet (xIfE (xCmpT (op_gEqF hu) (xIx hu (xVar 1) xInt) (xVar 3)) (xLst (xaCons (xGlob T.g_SKIP) xaNil)) (xLst xaNil)))) xssNil)
    (xssCons (xsIf (xCmpT (op_gEqF hu) (xVar 4) (xStrL k_test)) (xssOne (xsRet (xLst xaNil))) xssNil)
    (xssCons (xsIf (xCmpT (op_gEqF hu) (xVar 4) (xStrL k_or)) (xssOne (xsRet (xBin op_gAdd (xCall A.f_rests hr (xaCons (xVar 0) (xaCons (xIx hu (xVar 1) xInt) (xaCons (xVar 2) (xaCons (xVar 3) xaNil))))) (xCall A.f_rests hr (xaCons (xVar 0) (xaCons (xIx hu (xVar 1) xInt) (xaCons (xVar 2) (xaCons (xVar 3) xaNil)))))))) xssNil)
    (xssCons (xsIf (xCmpT (op_gEqF hu) (xVar 4) (xStrL k_loop)) (xssOne (xsRet (xCall A.f_behind hr (xaCons (xCall A.f_rests hr (xaCons (xVar 0) (xaCons (xIx hu (xVar 1) xInt) (xaCons (xVar 2) (xaCons (xVar 3) xaNil))))) (xaCons (xVar 1) xaNil))))) xssNil)
    (xssCons (xsAsg (xCall A.f_behind hr (xaCons (xCall A.f_rests hr (xaCons (xVar 0) (xaCons (xIx hu (xVar 1) xInt) (xaCons (xVar 2) (xaCons (xVar 3) xaNil))))) (xaCons (xIx hu (xVar 1) xInt) xaNil))) (xgN 5 hN))
    (xssCons (xsIf (xTru (xCall A.f_may_end hr (xaCons (xVar 0) (xaCons (xIx hu (xVar 1) xInt) (xaCons (xVar 2) xaNil))))) (xssOne (xsAsg (xBin op_gAdd (xVar 5) (xCall A.f_rests hr (xaCons (xVar 0) (xaCons (xIx hu (xVar 1) xInt) (xaCons (xVar 2) (xaCons (xVar 3) xaNil)))))) (xgN 5 hN))) xssNil)
    (xssOne (xsRet (xVar 5))))))))))

abbrev st_behind : Stmt := top 37
theorem sc_behind : FnScope ["programs", "last", "more", "program"] ["programs", "last"] (defScope st_behind) := C8.fnScope_by (by decide +kernel)
theorem d_behind (T : Txt K mg cls) (A : AllOk P w K mg base cls (2 * n) t) (hP : cls.P = P) (hw : cls.w = w) {f : Addr} {cdv : Value} : BodyOk P w K mg base cls ["programs", "last", "more", "program"] "behind" (defScope st_behind) f cdv (2 * n + 1) (defBody st_behind) (s_behind t) := by
  intro A0 outer s H E hr1
  have hr : RoomG (2 * n) (A0.deeper (envOfC "behind" (defScope st_behind) s.heap.objs.size f cdv)) := hr1.mono (Nat.le_succ _)
  have hu := hr.rm.units
  have hu1 := hu_of hr.rm
  have hN := sc_behind.nd
  exact (xssOne (xsRet (xLc 64 rfl hN (xiSeq (xLc 64 rfl hN (xiSeq (xVar 0)) (blkOk_by (own := [("program", 3)]) (by kernel_rfl)) ctN (fun _ _ _ _ _ => (pg_name (i := 3) hN rfl (by first | exact Or.inl rfl | exact Or.inr rfl))) (fun _ _ _ _ _ => xtsNil) (fun _ _ _ _ _ => (xCall A.f_then hr (xaCons (xVar 3) (xaCons (xVar 1) xaNil)))))) (blkOk_by (own := [("more", 2)]) (by kernel_rfl)) ctN (fun _ _ _ _ _ => (pg_name (i := 2) hN rfl (by first | exact Or.inl rfl | exact Or.inr rfl))) (fun _ _ _ _ _ => (xtsOne (xCmpT (op_gNeF hu) (xVar 2) (xGlob T.g_FAIL)))) (fun _ _ _ _ _ => (xVar 2)))))

abbrev st_is_ends : Stmt := top 43
theorem sc_is_ends : FnScope ["scene", "value", "one"] ["scene", "value"] (defScope st_is_ends) := C8.fnScope_by (by decide +kernel)
theorem d_is_ends (T : Txt K mg cls) (A : AllOk P w K mg base cls (2 * n) t) (hP : cls.P = P) (hw : cls.w = w) {f : Addr} {cdv : Value} : BodyOk P w K mg base cls ["scene", "value", "one"] "is_ends" (defScope st_is_ends) f cdv (2 * n + 1) (defBody st_is_ends) (s_is_ends t) := by
  intro A0 outer s H E hr1
  have hr : RoomG (2 * n) (A0.deeper (envOfC "is_ends" (defScope st_is_ends) s.heap.objs.size f cdv)) := hr1.mono (Nat.le_succ _)
  have hu := hr.rm.units
  have hu1 := hu_of hr.rm
  have hN := sc_is_ends.nd
  exact (xssCons (xsIf (PW.pt (xOrW (xNotT (xTru (xIsi .tuple T.b_isinstance T.b_tuple (xVar 1)))) (xOr1 (xNotT (xTru (xCallB (c_all rfl) T.b_all (by rfl) (xaCons (xLc 64 rfl hN (xiSeq (xVar 1)) (blkOk_by (own := [("one", 2)]) (by kernel_rfl)) ctN (fun _ _ _ _ _ => (pg_name (i := 2) hN rfl (by first | exact Or.inl rfl | exact Or.inr rfl))) (fun _ _ _ _ _ => xtsNil) (fun _ _ _ _ _ => (xAnd (xCall A.f_is_integer hr (xaCons (xVar 2) xaNil)) (xOne (xChain (op_gLe) (op_gLt) xInt (xVar 2) (xCallB c_len T.b_len (by rfl) (xaCons (xFldL k_atoms T.a_atoms (xVar 0)) xaNil))))))) xaNil))))))) (xssOne (xsRet xBl)) xssNil)
    (xssOne (xsRet (xCmp (op_gEqF hu) (xCallTy c_list T.b_list (by rfl) (xaCons (xVar 1) xaNil)) (xCallB (c_sortD rfl) T.b_sorted (by rfl) (xaCons (xDc 64 rfl hN (xiSeq (xVar 1)) (blkOk_by (own := [("one", 2)]) (by kernel_rfl)) ctN (fun _ _ _ _ _ => (pg_name (i := 2) hN rfl (by first | exact Or.inl rfl | exact Or.inr rfl))) (fun _ _ _ _ _ => xtsNil) (fun _ _ _ _ _ => (xVar 2)) (fun _ _ _ _ _ => xBl)) xaNil))))))

abbrev st_is_ways : Stmt := top 44
theorem sc_is_ways : FnScope ["scene", "value", "size", "one"] ["scene", "value", "size"] (defScope st_is_ways) := C8.fnScope_by (by decide +kernel)
theorem d_is_ways (T : Txt K mg cls) (A : AllOk P w K mg base cls (2 * n) t) (hP : cls.P = P) (hw : cls.w = w) {f : Addr} {cdv : Value} : BodyOk P w K mg base cls ["scene", "value", "size", "one"] "is_ways" (defScope st_is_ways) f cdv (2 * n + 1) (defBody st_is_ways) (s_is_ways t) := by
  intro A0 outer s H E hr1
  have hr : RoomG (2 * n) (A0.deeper (envOfC "is_ways" (defScope st_is_ways) s.heap.objs.size f cdv)) := hr1.mono (Nat.le_succ _)
  have hu := hr.rm.units
  have hu1 := hu_of hr.rm
  have hN := sc_is_ways.nd
  exact (xssCons (xsIf (PW.pt (xOrW (xNotT (xTru (xIsi .tuple T.b_isinstance T.b_tuple (xVar 1)))) (xOr1 (xCmpT (op_gNeF hu) (xCallB c_len T.b_len (by rfl) (xaCons (xVar 1) xaNil)) (xBin op_gMulA (xCallB c_len T.b_len (by rfl) (xaCons (xFldL k_atoms T.a_atoms (xVar 0)) xaNil)) (xCallB c_len T.b_len (by rfl) (xaCons (xFldL k_steps T.a_steps (xVar 0)) xaNil))))))) (xssOne (xsRet xBl)) xssNil)
    (xssOne (xsRet (xCallB (c_all rfl) T.b_all (by rfl) (xaCons (xLc 64 rfl hN (xiSeq (xVar 1)) (blkOk_by (own := [("one", 3)]) (by kernel_rfl)) ctN (fun _ _ _ _ _ => (pg_name (i := 3) hN rfl (by first | exact Or.inl rfl | exact Or.inr rfl))) (fun _ _ _ _ _ => xtsNil) (fun _ _ _ _ _ => (xOr (xCmp (op_gIsN) (xVar 3) xNon) (xOne (xAnd (xCall A.f_is_integer hr (xaCons (xVar 3) xaNil)) (xOne (xChain (op_gLe) (op_gLt) xInt (xVar 3) (xVar 2)))))))) xaNil)))))

abbrev st_look_at_agreed : Stmt := top 47
theorem sc_look_at_agreed : FnScope ["scene", "agreed", "step"] ["scene", "agreed"] (defScope st_look_at_agreed) := C8.fnScope_by (by decide +kernel)
theorem d_look_at_agreed (T : Txt K mg cls) (A : AllOk P w K mg base cls (2 * n) t) (hP : cls.P = P) (hw : cls.w = w) {f : Addr} {cdv : Value} : BodyOk P w K mg base cls ["scene", "agreed", "step"] "look_at_agreed" (defScope st_look_at_agreed) f cdv (2 * n + 1) (defBody st_look_at_agreed) (s_look_at_agreed t) := by
  intro A0 outer s H E hr1
  have hr : RoomG (2 * n) (A0.deeper (envOfC "look_at_agreed" (defScope st_look_at_agreed) s.heap.objs.size f cdv)) := hr1.mono (Nat.le_succ _)
  have hu := hr.rm.units
  have hu1 := hu_of hr.rm
  have hN := sc_look_at_agreed.nd
  exact (xssOne (xsIf (PW.pt (xOrW (xNotT (xTru (xCall A.f_is_names hr (xaCons (xVar 1) (xaCons (xCallB c_len T.b_len (by rfl) (xaCons (xFldL k_steps T.a_steps (xVar 0)) xaNil)) xaNil))))) (xOr1 (xNotT (xTru (xCallB (c_all rfl) T.b_all (by rfl) (xaCons (xLc 64 rfl hN (xiSeq (xVar 1)) (blkOk_by (own := [("step", 2)]) (by kernel_rfl)) ctN (fun _ _ _ _ _ => (pg_name (i := 2) hN rfl (by first | exact Or.inl rfl | exact Or.inr rfl))) (fun _ _ _ _ _ => xtsNil) (fun _ _ _ _ _ => (xCmp (op_gIn hu) (xVar 2) (xFldL k_steps T.a_steps (xVar 0))))) xaNil))))))) (xssOne xsNone) xssNil))

abbrev st_pairs_behind : Stmt := top 48
theorem sc_pairs_behind : FnScope ["scene", "pairs", "atom", "step", "agreed", "found", "one", "two", "ahead", "behind", "first", "other"] ["scene", "pairs", "atom", "step", "agreed"] (defScope st_pairs_behind) := C8.fnScope_by (by decide +kernel)
theorem d_pairs_behind (T : Txt K mg cls) (A : AllOk P w K mg base cls (2 * n) t) (hP : cls.P = P) (hw : cls.w = w) {f : Addr} {cdv : Value} : BodyOk P w K mg base cls ["scene", "pairs", "atom", "step", "agreed", "found", "one", "two", "ahead", "behind", "first", "other"] "pairs_behind" (defScope st_pairs_behind) f cdv (2 * n + 1) (defBody st_pairs_behind) (s_pairs_behind t) := by
  intro A0 outer s H E hr1
  have hr : RoomG (2 * n) (A0.deeper (envOfC "pairs_behind" (defScope st_pairs_behind) s.heap.objs.size f cdv)) := hr1.mono (Nat.le_succ _)
  have hu := hr.rm.units
  have hu1 := hu_of hr.rm
  have hN := sc_pairs_behind.nd
  exact (xssCons (xsAsg (xLst xaNil) (xgN 5 hN))
    (xssCons (xsFor 64 PassesOwn.never rfl (xiSeq (xVar 1)) (xgT rfl (xgsCons (xgN 6 hN) (xgsCons (xgN 7 hN) xgsNil))) (xssCons (xsAsg (xTup (xaCons (xCall A.f_distinct hr (xaCons (xCall A.f_rests hr (xaCons (xVar 0) (xaCons (xVar 6) (xaCons (xVar 2) (xaCons (xVar 3) xaNil))))) xaNil)) (xaCons (xCall A.f_distinct hr (xaCons (xCall A.f_rests hr (xaCons (xVar 0) (xaCons (xVar 7) (xaCons (xVar 2) (xaCons (xVar 3) xaNil))))) xaNil)) xaNil))) (xgT rfl (xgsCons (xgN 8 hN) (xgsCons (xgN 9 hN) xgsNil))))
    (xssOne (xsIf (xCmpT (op_gIn hu) (xVar 3) (xVar 4)) (xssOne (xsExpr (xMeth PySem.F.plainAttrs_list PySem.F.slot_list_extend PySem.F.type_list_extend m_ext (xVar 5) (xaCons (xLc2 64 (vs1 := [11]) rfl hN (xiSeq (xVar 8)) (blkOk_by (own := [("first", 10), ("other", 11)]) (by kernel_rfl)) (by decide) ctN ctN (fun _ _ _ _ _ => (pg_name (i := 10) hN rfl (by first | exact Or.inl rfl | exact Or.inr rfl))) (fun _ _ _ _ _ => xtsNil) (fun _ _ _ _ _ => (xiSeq (xVar 9))) (fun _ _ _ _ _ => (pg_name (i := 11) hN rfl (by first | exact Or.inl rfl | exact Or.inr rfl))) (fun _ _ _ _ _ => xtsNil) (fun _ _ _ _ _ => (xTup (xaCons (xVar 10) (xaCons (xVar 11) xaNil))))) xaNil)))) (xssCons (xsExpr (xMeth PySem.F.plainAttrs_list PySem.F.slot_list_extend PySem.F.type_list_extend m_ext (xVar 5) (xaCons (xLc 64 rfl hN (xiSeq (xVar 8)) (blkOk_by (own := [("first", 10)]) (by kernel_rfl)) ctN (fun _ _ _ _ _ => (pg_name (i := 10) hN rfl (by first | exact Or.inl rfl | exact Or.inr rfl))) (fun _ _ _ _ _ => xtsNil) (fun _ _ _ _ _ => (xTup (xaCons (xVar 10) (xaCons (xVar 7) xaNil))))) xaNil)))
    (xssOne (xsExpr (xMeth PySem.F.plainAttrs_list PySem.F.slot_list_extend PySem.F.type_list_extend m_ext (xVar 5) (xaCons (xLc 64 rfl hN (xiSeq (xVar 9)) (blkOk_by (own := [("other", 11)]) (by kernel_rfl)) ctN (fun _ _ _ _ _ => (pg_name (i := 11) hN rfl (by first | exact Or.inl rfl | exact Or.inr rfl))) (fun _ _ _ _ _ => xtsNil) (fun _ _ _ _ _ => (xTup (xaCons (xVar 6) (xaCons (xVar 11) xaNil))))) xaNil)))))))))
    (xssOne (xsRet (xCall A.f_distinct hr (xaCons (xVar 5) xaNil))))))

abbrev st_side_by_side : Stmt := top 49
theorem sc_side_by_side : FnScope ["scene", "first", "other", "agreed", "start", "known", "todo", "ends", "ways", "here", "atom", "line", "step", "there"] ["scene", "first", "other", "agreed"] (defScope st_side_by_side) := C8.fnScope_by (by decide +kernel)
theorem d_side_by_side (T : Txt K mg cls) (A : AllOk P w K mg base cls (2 * n) t) (hP : cls.P = P) (hw : cls.w = w) {f : Addr} {cdv : Value} : BodyOk P w K mg base cls ["scene", "first", "other", "agreed", "start", "known", "todo", "ends", "ways", "here", "atom", "line", "step", "there"] "side_by_side" (defScope st_side_by_side) f cdv (2 * n + 1) (defBody st_side_by_side) (s_side_by_side t) := by
  intro A0 outer s H E hr1
  have hr : RoomG (2 * n) (A0.deeper (envOfC "side_by_side" (defScope st_side_by_side) s.heap.objs.size f cdv)) := hr1.mono (Nat.le_succ _)
  have hu := hr.rm.units
  have hu1 := hu_of hr.rm
  have hN := sc_side_by_side.nd
  exact (xssCons (xsExpr (xCall A.f_look_at hr (xaCons (xVar 0) (xaCons (xVar 1) (xaCons (xVar 2) xaNil)))))
    (xssCons (xsExpr (xCall A.f_look_at_agreed hr (xaCons (xVar 0) (xaCons (xVar 3) xaNil))))
    (xssCons (xsAsg (xTup (xaCons (xTup (xaCons (xVar 1) (xaCons (xVar 2) xaNil))) xaNil)) (xgN 4 hN))
    (xssCons (xsAsg (xDic1 (xCall A.f_key_of hr (xaCons (xVar 4) xaNil)) xInt) (xgN 5 hN))
    (xssCons (xsAsg (xLst (xaCons (xVar 4) xaNil)) (xgN 6 hN))
    (xssCons (xsPar2 7 8 rfl hN (xaCons (xLst xaNil) (xaCons (xLst xaNil) xaNil)))
    (xssCons (xsWhile 64 PassesOwn.never (xCmpT (op_gGt) (xCallB c_len T.b_len (by rfl) (xaCons (xVar 6) xaNil)) xInt) (xssCons (xsAsg (xMeth PySem.F.plainAttrs_list PySem.F.slot_list_pop PySem.F.type_list_pop m_pop0 (xVar 6) (xaCons xInt xaNil)) (xgN 9 hN))
    (xssCons (xsExpr (xMeth PySem.F.plainAttrs_list PySem.F.slot_list_append PySem.F.type_list_append m_app (xVar 7) (xaCons (xCallTy c_tup T.b_tuple (by rfl) (xaCons (xLc 64 rfl hN (xiSeq (xFldL k_atoms T.a_atoms (xVar 0))) (blkOk_by (own := [("atom", 10)]) (by kernel_rfl)) ctN (fun _ _ _ _ _ => (pg_name (i := 10) hN rfl (by first | exact Or.inl rfl | exact Or.inr rfl))) (fun _ _ _ _ _ => (xtsOne (xTru (xCall A.f_ends_at hr (xaCons (xVar 0) (xaCons (xVar 9) (xaCons (xVar 10) xaNil))))))) (fun _ _ _ _ _ => (xVar 10))) xaNil)) xaNil)))
    (xssCons (xsAsg (xLst xaNil) (xgN 11 hN))
    (xssCons (xsFor 64 PassesOwn.never rfl (xiSeq (xFldL k_atoms T.a_atoms (xVar 0))) (xgN 10 hN) (xssOne (xsFor 64 PassesOwn.never rfl (xiSeq (xFldL k_steps T.a_steps (xVar 0))) (xgN 12 hN) (xssCons (xsAsg (xCall A.f_pairs_behind hr (xaCons (xVar 0) (xaCons (xVar 9) (xaCons (xVar 10) (xaCons (xVar 12) (xaCons (xVar 3) xaNil)))))) (xgN 13 hN))
    (xssOne (xsIf (xCmpT (op_gEqF hu) (xCallB c_len T.b_len (by rfl) (xaCons (xVar 13) xaNil)) xInt) (xssOne (xsExpr (xMeth PySem.F.plainAttrs_list PySem.F.slot_list_append PySem.F.type_list_append m_app (xVar 11) (xaCons xNon xaNil)))) (xssCons (xsIf (xCmpT (op_gNotIn hu) (xCall A.f_key_of hr (xaCons (xVar 13) xaNil)) (xVar 5)) (xssCons (xsIf (xCmpT (op_gEqF hu) (xCallB c_len T.b_len (by rfl) (xaCons (xVar 5) xaNil)) (xGlob T.g_MOST_STATES)) (xssOne xsNone) xssNil)
    (xssCons (xsPut hu1 (xVar 5) (xCall A.f_key_of hr (xaCons (xVar 13) xaNil)) (xCallB c_len T.b_len (by rfl) (xaCons (xVar 5) xaNil)))
    (xssOne (xsExpr (xMeth PySem.F.plainAttrs_list PySem.F.slot_list_append PySem.F.type_list_append m_app (xVar 6) (xaCons (xVar 13) xaNil)))))) xssNil)
    (xssOne (xsExpr (xMeth PySem.F.plainAttrs_list PySem.F.slot_list_append PySem.F.type_list_append m_app (xVar 11) (xaCons (xIx hu (xVar 5) (xCall A.f_key_of hr (xaCons (xVar 13) xaNil))) xaNil)))))))))))
    (xssOne (xsExpr (xMeth PySem.F.plainAttrs_list PySem.F.slot_list_append PySem.F.type_list_append m_app (xVar 8) (xaCons (xCallTy c_tup T.b_tuple (by rfl) (xaCons (xVar 11) xaNil)) xaNil)))))))))
    (xssOne (xsRet (xMake A.f_Machine hr1 (xaCons (xVar 0) (xaCons (xCallTy c_tup T.b_tuple (by rfl) (xaCons (xVar 7) xaNil)) (xaCons (xCallTy c_tup T.b_tuple (by rfl) (xaCons (xVar 8) xaNil)) xaNil)))))))))))))

abbrev st_ends_at : Stmt := top 50
theorem sc_ends_at : FnScope ["scene", "pairs", "atom", "one", "two"] ["scene", "pairs", "atom"] (defScope st_ends_at) := C8.fnScope_by (by decide +kernel)
theorem d_ends_at (T : Txt K mg cls) (A : AllOk P w K mg base cls (2 * n) t) (hP : cls.P = P) (hw : cls.w = w) {f : Addr} {cdv : Value} : BodyOk P w K mg base cls ["scene", "pairs", "atom", "one", "two"] "ends_at" (defScope st_ends_at) f cdv (2 * n + 1) (defBody st_ends_at) (s_ends_at t) := by
  intro A0 outer s H E hr1
  have hr : RoomG (2 * n) (A0.deeper (envOfC "ends_at" (defScope st_ends_at) s.heap.objs.size f cdv)) := hr1.mono (Nat.le_succ _)
  have hu := hr.rm.units
  have hu1 := hu_of hr.rm
  have hN := sc_ends_at.nd
  exact (xssOne (xsRet (xCallB (c_any rfl) T.b_any (by rfl) (xaCons (xLc 64 rfl hN (xiSeq (xVar 1)) (blkOk_by (own := [("one", 3), ("two", 4)]) (by kernel_rfl)) (ctT (ctsCons ctN (ctsCons ctN ctsNil))) (fun _ _ _ _ _ => (pg_tup rfl (pgs_cons (pg_name (i := 3) hN rfl (by first | exact Or.inl rfl | exact Or.inr rfl)) (pgs_cons (pg_name (i := 4) hN rfl (by first | exact Or.inl rfl | exact Or.inr rfl)) pgs_nil)))) (fun _ _ _ _ _ => xtsNil) (fun _ _ _ _ _ => (xAnd (xCall A.f_may_end hr (xaCons (xVar 0) (xaCons (xVar 3) (xaCons (xVar 2) xaNil)))) (xOne (xCall A.f_may_end hr (xaCons (xVar 0) (xaCons (xVar 4) (xaCons (xVar 2) xaNil)))))))) xaNil))))

abbrev st_all_side_by_side : Stmt := top 51
theorem sc_all_side_by_side : FnScope ["scene", "programs", "start", "known", "todo", "ends", "ways", "here", "atom", "line", "step", "there", "row", "one"] ["scene", "programs"] (defScope st_all_side_by_side) := C8.fnScope_by (by decide +kernel)
theorem d_all_side_by_side (T : Txt K mg cls) (A : AllOk P w K mg base cls (2 * n) t) (hP : cls.P = P) (hw : cls.w = w) {f : Addr} {cdv : Value} : BodyOk P w K mg base cls ["scene", "programs", "start", "known", "todo", "ends", "ways", "here", "atom", "line", "step", "there", "row", "one"] "all_side_by_side" (defScope st_all_side_by_side) f cdv (2 * n + 1) (defBody st_all_side_by_side) (s_all_side_by_side t) := by
  intro A0 outer s H E hr1
  have hr : RoomG (2 * n) (A0.deeper (envOfC "all_side_by_side" (defScope st_all_side_by_side) s.heap.objs.size f cdv)) := hr1.mono (Nat.le_succ _)
  have hu := hr.rm.units
  have hu1 := hu_of hr.rm
  have hN := sc_all_side_by_side.nd
  exact (xssCons (xsExpr (xCallS2 A.f_look_at hr (xaCons (xVar 0) (xaStar (xVar 1) xaNil))))
    (xssCons (xsAsg (xTup (xaCons (xCallTy c_tup T.b_tuple (by rfl) (xaCons (xVar 1) xaNil)) xaNil)) (xgN 2 hN))
    (xssCons (xsAsg (xDic1 (xCall A.f_key_of hr (xaCons (xVar 2) xaNil)) xInt) (xgN 3 hN))
    (xssCons (xsAsg (xLst (xaCons (xVar 2) xaNil)) (xgN 4 hN))
    (xssCons (xsPar2 5 6 rfl hN (xaCons (xLst xaNil) (xaCons (xLst xaNil) xaNil)))
    (xssCons (xsWhile 64 PassesOwn.never (xCmpT (op_gGt) (xCallB c_len T.b_len (by rfl) (xaCons (xVar 4) xaNil)) xInt) (xssCons (xsAsg (xMeth PySem.F.plainAttrs_list PySem.F.slot_list_pop PySem.F.type_list_pop m_pop0 (xVar 4) (xaCons xInt xaNil)) (xgN 7 hN))
    (xssCons (xsExpr (xMeth PySem.F.plainAttrs_list PySem.F.slot_list_append PySem.F.type_list_append m_app (xVar 5) (xaCons (xCallTy c_tup T.b_tuple (by rfl) (xaCons (xLc 64 rfl hN (xiSeq (xFldL k_atoms T.a_atoms (xVar 0))) (blkOk_by (own := [("atom", 8)]) (by kernel_rfl)) ctN (fun _ _ _ _ _ => (pg_name (i := 8) hN rfl (by first | exact Or.inl rfl | exact Or.inr rfl))) (fun _ _ _ _ _ => (xtsOne (xTru (xCallB (c_any rfl) T.b_any (by rfl) (xaCons (xLc 64 rfl hN (xiSeq (xVar 7)) (blkOk_by (own := [("row", 12)]) (by kernel_rfl)) ctN (fun _ _ _ _ _ => (pg_name (i := 12) hN rfl (by first | exact Or.inl rfl | exact Or.inr rfl))) (fun _ _ _ _ _ => xtsNil) (fun _ _ _ _ _ => (xCallB (c_all rfl) T.b_all (by rfl) (xaCons (xLc 64 rfl hN (xiSeq (xVar 12)) (blkOk_by (own := [("one", 13)]) (by kernel_rfl)) ctN (fun _ _ _ _ _ => (pg_name (i := 13) hN rfl (by first | exact Or.inl rfl | exact Or.inr rfl))) (fun _ _ _ _ _ => xtsNil) (fun _ _ _ _ _ => (xCall A.f_may_end hr (xaCons (xVar 0) (xaCons (xVar 13) (xaCons (xVar 8) xaNil)))))) xaNil)))) xaNil))))) (fun _ _ _ _ _ => (xVar 8))) xaNil)) xaNil)))
    (xssCons (xsAsg (xLst xaNil) (xgN 9 hN))
    (xssCons (xsFor 64 PassesOwn.never rfl (xiSeq (xFldL k_atoms T.a_atoms (xVar 0))) (xgN 8 hN) (xssOne (xsFor 64 PassesOwn.never rfl (xiSeq (xFldL k_steps T.a_steps (xVar 0))) (xgN 10 hN) (xssCons (xsAsg (xCall A.f_rows_behind hr (xaCons (xVar 0) (xaCons (xVar 7) (xaCons (xVar 8) (xaCons (xVar 10) xaNil))))) (xgN 11 hN))
    (xssOne (xsIf (xCmpT (op_gEqF hu) (xCallB c_len T.b_len (by rfl) (xaCons (xVar 11) xaNil)) xInt) (xssOne (xsExpr (xMeth PySem.F.plainAttrs_list PySem.F.slot_list_append PySem.F.type_list_append m_app (xVar 9) (xaCons xNon xaNil)))) (xssCons (xsIf (xCmpT (op_gNotIn hu) (xCall A.f_key_of hr (xaCons (xVar 11) xaNil)) (xVar 3)) (xssCons (xsIf (xCmpT (op_gEqF hu) (xCallB c_len T.b_len (by rfl) (xaCons (xVar 3) xaNil)) (xGlob T.g_MOST_STATES)) (xssOne xsNone) xssNil)
    (xssCons (xsPut hu1 (xVar 3) (xCall A.f_key_of hr (xaCons (xVar 11) xaNil)) (xCallB c_len T.b_len (by rfl) (xaCons (xVar 3) xaNil)))
    (xssOne (xsExpr (xMeth PySem.F.plainAttrs_list PySem.F.slot_list_append PySem.F.type_list_append m_app (xVar 4) (xaCons (xVar 11) xaNil)))))) xssNil)
    (xssOne (xsExpr (xMeth PySem.F.plainAttrs_list PySem.F.slot_list_append PySem.F.type_list_append m_app (xVar 9) (xaCons (xIx hu (xVar 3) (xCall A.f_key_of hr (xaCons (xVar 11) xaNil))) xaNil)))))))))))
    (xssOne (xsExpr (xMeth PySem.F.plainAttrs_list PySem.F.slot_list_append PySem.F.type_list_append m_app (xVar 6) (xaCons (xCallTy c_tup T.b_tuple (by rfl) (xaCons (xVar 9) xaNil)) xaNil)))))))))
    (xssOne (xsRet (xMake A.f_Machine hr1 (xaCons (xVar 0) (xaCons (xCallTy c_tup T.b_tuple (by rfl) (xaCons (xVar 5) xaNil)) (xaCons (xCallTy c_tup T.b_tuple (by rfl) (xaCons (xVar 6) xaNil)) xaNil))))))))))))

abbrev st_rows_behind : Stmt := top 52
theorem sc_rows_behind : FnScope ["scene", "rows", "atom", "step", "found", "row", "at", "program", "rest"] ["scene", "rows", "atom", "step"] (defScope st_rows_behind) := C8.fnScope_by (by decide +kernel)
theorem d_rows_behind (T : Txt K mg cls) (A : AllOk P w K mg base cls (2 * n) t) (hP : cls.P = P) (hw : cls.w = w) {f : Addr} {cdv : Value} : BodyOk P w K mg base cls ["scene", "rows", "atom", "step", "found", "row", "at", "program", "rest"] "rows_behind" (defScope st_rows_behind) f cdv (2 * n + 1) (defBody st_rows_behind) (s_rows_behind t) := by
  intro A0 outer s H E hr1
  have hr : RoomG (2 * n) (A0.deeper (envOfC "rows_behind" (defScope st_rows_behind) s.heap.objs.size f cdv)) := hr1.mono (Nat.le_succ _)
  have hu := hr.rm.units
  have hu1 := hu_of hr.rm
  have hN := sc_rows_behind.nd
  exact (xssCons (xsAsg (xLst xaNil) (xgN 4 hN))
    (xssCons (xsFor 64 PassesOwn.never rfl (xiSeq (xVar 1)) (xgN 5 hN) (xssOne (xsFor 64 PassesOwn.never rfl (xiEnumT T.b_enumerate (xaCons (xVar 5) xaNil)) (xgT rfl (xgsCons (xgN 6 hN) (xgsCons (xgN 7 hN) xgsNil))) (xssOne (xsExpr (xMeth PySem.F.plainAttrs_list PySem.F.slot_list_extend PySem.F.type_list_extend m_ext (xVar 4) (xaCons (xLc 64 rfl hN (xiSeq (xCall A.f_distinct hr (xaCons (xCall A.f_rests hr (xaCons (xVar 0) (xaCons (xVar 7) (xaCons (xVar 2) (xaCons (xVar 3) xaNil))))) xaNil))) (blkOk_by (own := [("rest", 8)]) (by kernel_rfl)) ctN (fun _ _ _ _ _ => (pg_name (i := 8) hN rfl (by first | exact Or.inl rfl | exact Or.inr rfl))) (fun _ _ _ _ _ => xtsNil) (fun _ _ _ _ _ => (xBin op_gAdd (xBin op_gAdd (xSl (xVar 5) xpNone (xpSome (xVar 6))) (xTup (xaCons (xVar 8) xaNil))) (xSl (xVar 5) (xpSome (xBin op_gAdd (xVar 6) xInt)) xpNone)))) xaNil)))))))
    (xssOne (xsRet (xCall A.f_distinct hr (xaCons (xVar 4) xaNil))))))

abbrev st_live_states : Stmt := top 54
theorem sc_live_states : FnScope ["machine", "state", "found", "changed", "there"] ["machine"] (defScope st_live_states) := C8.fnScope_by (by decide +kernel)
theorem d_live_states (T : Txt K mg cls) (A : AllOk P w K mg base cls (2 * n) t) (hP : cls.P = P) (hw : cls.w = w) {f : Addr} {cdv : Value} : BodyOk P w K mg base cls ["machine", "state", "found", "changed", "there"] "live_states" (defScope st_live_states) f cdv (2 * n + 1) (defBody st_live_states) (s_live_states t) := by
  intro A0 outer s H E hr1
  have hr : RoomG (2 * n) (A0.deeper (envOfC "live_states" (defScope st_live_states) s.heap.objs.size f cdv)) := hr1.mono (Nat.le_succ _)
  have hu := hr.rm.units
  have hu1 := hu_of hr.rm
  have hN := sc_live_states.nd
  exact (xssCons (xsAsg (xDc 64 rfl hN (xiRng1 T.b_range (xaCons (xFldL k_size T.a_size (xVar 0)) xaNil)) (blkOk_by (own := [("state", 1)]) (by kernel_rfl)) ctN (fun _ _ _ _ _ => (pg_name (i := 1) hN rfl (by first | exact Or.inl rfl | exact Or.inr rfl))) (fun _ _ _ _ _ => (xtsOne (xCmpT (op_gGt) (xCallB c_len T.b_len (by rfl) (xaCons (xIx hu (xFldL k_ends T.a_ends (xVar 0)) (xVar 1)) xaNil)) xInt))) (fun _ _ _ _ _ => (xVar 1)) (fun _ _ _ _ _ => xBl)) (xgN 2 hN))
    (xssCons (xsAsg xBl (xgN 3 hN))
    (xssCons (xsWhile 64 PassesOwn.never (xTru (xVar 3)) (xssCons (xsAsg xBl (xgN 3 hN))
    (xssOne (xsFor 64 PassesOwn.never rfl (xiRng1 T.b_range (xaCons (xFldL k_size T.a_size (xVar 0)) xaNil)) (xgN 1 hN) (xssOne (xsIf (PW.pt (xAndW (xCmpT (op_gNotIn hu) (xVar 1) (xVar 2)) (xAnd1 (xTru (xCallB (c_any rfl) T.b_any (by rfl) (xaCons (xLc 64 rfl hN (xiSeq (xIx hu (xFldL k_ways T.a_ways (xVar 0)) (xVar 1))) (blkOk_by (own := [("there", 4)]) (by kernel_rfl)) ctN (fun _ _ _ _ _ => (pg_name (i := 4) hN rfl (by first | exact Or.inl rfl | exact Or.inr rfl))) (fun _ _ _ _ _ => (xtsOne (xCmpT (op_gNotN) (xVar 4) xNon))) (fun _ _ _ _ _ => (xCmp (op_gIn hu) (xVar 4) (xVar 2)))) xaNil)))))) (xssCons (xsPut hu1 (xVar 2) (xVar 1) xBl)
    (xssOne (xsAsg xBl (xgN 3 hN)))) xssNil))))))
    (xssOne (xsRet (xVar 2))))))

abbrev st_blocks_of : Stmt := top 55
theorem sc_blocks_of : FnScope ["machine", "live", "marks", "state", "count", "numbers", "fresh", "nexts", "mark", "there"] ["machine"] (defScope st_blocks_of) := C8.fnScope_by (by decide +kernel)
theorem d_blocks_of (T : Txt K mg cls) (A : AllOk P w K mg base cls (2 * n) t) (hP : cls.P = P) (hw : cls.w = w) {f : Addr} {cdv : Value} : BodyOk P w K mg base cls ["machine", "live", "marks", "state", "count", "numbers", "fresh", "nexts", "mark", "there"] "blocks_of" (defScope st_blocks_of) f cdv (2 * n + 1) (defBody st_blocks_of) (s_blocks_of t) := by
  intro A0 outer s H E hr1
  have hr : RoomG (2 * n) (A0.deeper (envOfC "blocks_of" (defScope st_blocks_of) s.heap.objs.size f cdv)) := hr1.mono (Nat.le_succ _)
  have hu := hr.rm.units
  have hu1 := hu_of hr.rm
  have hN := sc_blocks_of.nd
  exact (xssCons (xsAsg (xCall A.f_live_states hr (xaCons (xVar 0) xaNil)) (xgN 1 hN))
    (xssCons (xsAsg xDic0 (xgN 2 hN))
    (xssCons (xsLock 1 (xsFor 64 PassesOwn.never rfl (xiSeq (xVar 1)) (xgN 3 hN) (xssOne (xsPut hu1 (xVar 2) (xVar 3) (xIx hu (xFldL k_ends T.a_ends (xVar 0)) (xVar 3))))))
    (xssCons (xsAsg xInt (xgN 4 hN))
    (xssCons (xsWhile 64 PassesOwn.never (xCmpT (op_gGt) (xLock 2 (xCallB (c_klen hP hw) T.b_len (by rfl) (xaCons (xKc 64 hP hw hu rfl hN (xiVals (xVar 2)) (blkOk_by (own := [("mark", 8)]) (by kernel_rfl)) ctN (fun _ _ _ _ _ => (pg_name (i := 8) hN rfl (by first | exact Or.inl rfl | exact Or.inr rfl))) (fun _ _ _ _ _ => xtsNil) (fun _ _ _ _ _ => (xVar 8)) (fun _ _ _ _ _ => xBl)) xaNil))) (xVar 4)) (xssCons (xsAsg (xLock 2 (xCallB (c_klen hP hw) T.b_len (by rfl) (xaCons (xKc 64 hP hw hu rfl hN (xiVals (xVar 2)) (blkOk_by (own := [("mark", 8)]) (by kernel_rfl)) ctN (fun _ _ _ _ _ => (pg_name (i := 8) hN rfl (by first | exact Or.inl rfl | exact Or.inr rfl))) (fun _ _ _ _ _ => xtsNil) (fun _ _ _ _ _ => (xVar 8)) (fun _ _ _ _ _ => xBl)) xaNil))) (xgN 4 hN))
    (xssCons (xsAsg (xKd0 hP hw) (xgN 5 hN))
    (xssCons (xsFor 64 PassesOwn.never rfl (xiSeq (xCallB (c_sortD rfl) T.b_sorted (by rfl) (xaCons (xVar 1) xaNil))) (xgN 3 hN) (xssOne (xsExpr (xKSetd hP hw hu (xVar 5) (xIx hu (xVar 2) (xVar 3)) (xCallB (c_klen hP hw) T.b_len (by rfl) (xaCons (xVar 5) xaNil))))))
    (xssCons (xsAsg xDic0 (xgN 6 hN))
    (xssCons (xsLock 1 (xsFor 64 PassesOwn.never rfl (xiSeq (xVar 1)) (xgN 3 hN) (xssCons (xsSetLc 64 rfl hN (xiSeq (xIx hu (xFldL k_ways T.a_ways (xVar 0)) (xVar 3))) (blkOk_by (own := [("there", 9)]) (by kernel_rfl)) ctN (fun _ _ _ _ _ => (pg_name (i := 9) hN rfl (by first | exact Or.inl rfl | exact Or.inr rfl))) (fun _ _ _ _ _ => xtsNil) (fun _ _ _ _ _ => (xIfE (xCmpT (op_gNotIn hu) (xVar 9) (xVar 1)) xNon (xKIx hP hw hu (xVar 5) (xIx hu (xVar 2) (xVar 9))))))
    (xssOne (xsPut hu1 (xVar 6) (xVar 3) (xTup (xaCons (xKIx hP hw hu (xVar 5) (xIx hu (xVar 2) (xVar 3))) (xaCons (xCallTy c_tup T.b_tuple (by rfl) (xaCons (xVar 7) xaNil)) (xaCons (xIx hu (xFldL k_ends T.a_ends (xVar 0)) (xVar 3)) xaNil)))))))))
    (xssOne (xsAsg (xVar 6) (xgN 2 hN)))))))))
    (xssCons (xsAsg (xKd0 hP hw) (xgN 5 hN))
    (xssCons (xsFor 64 PassesOwn.never rfl (xiSeq (xCallB (c_sortD rfl) T.b_sorted (by rfl) (xaCons (xVar 1) xaNil))) (xgN 3 hN) (xssOne (xsExpr (xKSetd hP hw hu (xVar 5) (xIx hu (xVar 2) (xVar 3)) (xCallB (c_klen hP hw) T.b_len (by rfl) (xaCons (xVar 5) xaNil))))))
    (xssOne (xsRet (xCallTy c_tup T.b_tuple (by rfl) (xaCons (xLc 64 rfl hN (xiRng1 T.b_range (xaCons (xFldL k_size T.a_size (xVar 0)) xaNil)) (blkOk_by (own := [("state", 3)]) (by kernel_rfl)) ctN (fun _ _ _ _ _ => (pg_name (i := 3) hN rfl (by first | exact Or.inl rfl | exact Or.inr rfl))) (fun _ _ _ _ _ => xtsNil) (fun _ _ _ _ _ => (xIfE (xCmpT (op_gIn hu) (xVar 3) (xVar 1)) (xKIx hP hw hu (xVar 5) (xIx hu (xVar 2) (xVar 3))) xNon))) xaNil)))))))))))

abbrev st_least : Stmt := top 56
theorem sc_least : FnScope ["machine", "blocks", "scene", "states", "known", "ends", "ways", "at", "line", "there", "block"] ["machine"] (defScope st_least) := C8.fnScope_by (by decide +kernel)
theorem d_least (T : Txt K mg cls) (A : AllOk P w K mg base cls (2 * n) t) (hP : cls.P = P) (hw : cls.w = w) {f : Addr} {cdv : Value} : BodyOk P w K mg base cls ["machine", "blocks", "scene", "states", "known", "ends", "ways", "at", "line", "there", "block"] "least" (defScope st_least) f cdv (2 * n + 1) (defBody st_least) (s_least t) := by
  intro A0 outer s H E hr1
  have hr : RoomG (2 * n) (A0.deeper (envOfC "least" (defScope st_least) s.heap.objs.size f cdv)) := hr1.mono (Nat.le_succ _)
  have hu := hr.rm.units
  have hu1 := hu_of hr.rm
  have hN := sc_least.nd
  exact (xssCons (xsAsg (xCall A.f_blocks_of hr (xaCons (xVar 0) xaNil)) (xgN 1 hN))
    (xssCons (xsAsg (xFldL k_scene T.a_scene (xVar 0)) (xgN 2 hN))
    (xssCons (xsIf (xCmpT (op_gIsN) (xIx hu (xVar 1) xInt) xNon) (xssOne (xsRet (xMake A.f_Machine hr1 (xaCons (xVar 2) (xaCons (xTup (xaCons (xTup xaNil) xaNil)) (xaCons (xTup (xaCons (xBin op_gMulA (xTup (xaCons xNon xaNil)) (xBin op_gMulA (xCallB c_len T.b_len (by rfl) (xaCons (xFldL k_atoms T.a_atoms (xVar 2)) xaNil)) (xCallB c_len T.b_len (by rfl) (xaCons (xFldL k_steps T.a_steps (xVar 2)) xaNil)))) xaNil)) xaNil)))))) xssNil)
    (xssCons (xsAsg (xLst (xaCons xInt xaNil)) (xgN 3 hN))
    (xssCons (xsAsg (xDic1 (xIx hu (xVar 1) xInt) xInt) (xgN 4 hN))
    (xssCons (xsPar2 5 6 rfl hN (xaCons (xLst xaNil) (xaCons (xLst xaNil) xaNil)))
    (xssCons (xsAsg xInt (xgN 7 hN))
    (xssCons (xsWhile 64 PassesOwn.never (xCmpT (op_gLt) (xVar 7) (xCallB c_len T.b_len (by rfl) (xaCons (xVar 3) xaNil))) (xssCons (xsAsg (xLst xaNil) (xgN 8 hN))
    (xssCons (xsFor 64 PassesOwn.never rfl (xiSeq (xIx hu (xFldL k_ways T.a_ways (xVar 0)) (xIx hu (xVar 3) (xVar 7)))) (xgN 9 hN) (xssCons (xsAsg (xIfE (xCmpT (op_gIsN) (xVar 9) xNon) xNon (xIx hu (xVar 1) (xVar 9))) (xgN 10 hN))
    (xssOne (xsIf (xCmpT (op_gIsN) (xVar 10) xNon) (xssOne (xsExpr (xMeth PySem.F.plainAttrs_list PySem.F.slot_list_append PySem.F.type_list_append m_app (xVar 8) (xaCons xNon xaNil)))) (xssCons (xsIf (xCmpT (op_gNotIn hu) (xVar 10) (xVar 4)) (xssCons (xsPut hu1 (xVar 4) (xVar 10) (xCallB c_len T.b_len (by rfl) (xaCons (xVar 4) xaNil)))
    (xssOne (xsExpr (xMeth PySem.F.plainAttrs_list PySem.F.slot_list_append PySem.F.type_list_append m_app (xVar 3) (xaCons (xVar 9) xaNil))))) xssNil)
    (xssOne (xsExpr (xMeth PySem.F.plainAttrs_list PySem.F.slot_list_append PySem.F.type_list_append m_app (xVar 8) (xaCons (xIx hu (xVar 4) (xVar 10)) xaNil)))))))))
    (xssCons (xsExpr (xMeth PySem.F.plainAttrs_list PySem.F.slot_list_append PySem.F.type_list_append m_app (xVar 5) (xaCons (xIx hu (xFldL k_ends T.a_ends (xVar 0)) (xIx hu (xVar 3) (xVar 7))) xaNil)))
    (xssCons (xsExpr (xMeth PySem.F.plainAttrs_list PySem.F.slot_list_append PySem.F.type_list_append m_app (xVar 6) (xaCons (xCallTy c_tup T.b_tuple (by rfl) (xaCons (xVar 8) xaNil)) xaNil)))
    (xssOne (xsAugI 7 hN xInt)))))))
    (xssOne (xsRet (xMake A.f_Machine hr1 (xaCons (xVar 2) (xaCons (xCallTy c_tup T.b_tuple (by rfl) (xaCons (xVar 5) xaNil)) (xaCons (xCallTy c_tup T.b_tuple (by rfl) (xaCons (xVar 6) xaNil)) xaNil))))))))))))))

abbrev st_count_words : Stmt := top 57
theorem sc_count_words : FnScope ["machine", "most", "counts", "found", "_", "state", "fresh", "there"] ["machine", "most"] (defScope st_count_words) := C8.fnScope_by (by decide +kernel)
theorem d_count_words (T : Txt K mg cls) (A : AllOk P w K mg base cls (2 * n) t) (hP : cls.P = P) (hw : cls.w = w) {f : Addr} {cdv : Value} : BodyOk P w K mg base cls ["machine", "most", "counts", "found", "_", "state", "fresh", "there"] "count_words" (defScope st_count_words) f cdv (2 * n + 1) (defBody st_count_words) (s_count_words t) := by
  intro A0 outer s H E hr1
  have hr : RoomG (2 * n) (A0.deeper (envOfC "count_words" (defScope st_count_words) s.heap.objs.size f cdv)) := hr1.mono (Nat.le_succ _)
  have hu := hr.rm.units
  have hu1 := hu_of hr.rm
  have hN := sc_count_words.nd
  exact (xssCons (xsAsg (xDic1 xInt xInt) (xgN 2 hN))
    (xssCons (xsAsg (xLst xaNil) (xgN 3 hN))
    (xssCons (xsFor 64 PassesOwn.never rfl (xiRng1 T.b_range (xaCons (xBin op_gAdd (xVar 1) xInt) xaNil)) (xgN 4 hN) (xssCons (xsExpr (xMeth PySem.F.plainAttrs_list PySem.F.slot_list_append PySem.F.type_list_append m_app (xVar 3) (xaCons (xLock 2 (xCallB (c_sumA rfl) T.b_sum (by rfl) (xaCons (xLc 64 rfl hN (xiSeq (xVar 2)) (blkOk_by (own := [("state", 5)]) (by kernel_rfl)) ctN (fun _ _ _ _ _ => (pg_name (i := 5) hN rfl (by first | exact Or.inl rfl | exact Or.inr rfl))) (fun _ _ _ _ _ => xtsNil) (fun _ _ _ _ _ => (xBin op_gMulA (xIx hu (xVar 2) (xVar 5)) (xCallB c_len T.b_len (by rfl) (xaCons (xIx hu (xFldL k_ends T.a_ends (xVar 0)) (xVar 5)) xaNil))))) xaNil))) xaNil)))
    (xssCons (xsAsg xDic0 (xgN 6 hN))
    (xssCons (xsLock 2 (xsFor 64 PassesOwn.never rfl (xiSeq (xVar 2)) (xgN 5 hN) (xssOne (xsFor 64 PassesOwn.never rfl (xiSeq (xIx hu (xFldL k_ways T.a_ways (xVar 0)) (xVar 5))) (xgN 7 hN) (xssOne (xsIf (xCmpT (op_gNotN) (xVar 7) xNon) (xssOne (xsPut hu1 (xVar 6) (xVar 7) (xBin op_gAdd (xGet2 hu1 (xVar 6) (xVar 7) xInt) (xIx hu (xVar 2) (xVar 5))))) xssNil))))))
    (xssOne (xsAsg (xVar 6) (xgN 2 hN)))))))
    (xssOne (xsRet (xCallTy c_tup T.b_tuple (by rfl) (xaCons (xVar 3) xaNil)))))))

abbrev st_law_draw : Stmt := top 60
theorem sc_law_draw : FnScope ["draws", "limit", "cell", "value"] ["draws", "limit"] (defScope st_law_draw) := C8.fnScope_by (by decide +kernel)
theorem d_law_draw (T : Txt K mg cls) (A : AllOk P w K mg base cls (2 * n) t) (hP : cls.P = P) (hw : cls.w = w) {f : Addr} {cdv : Value} : BodyOk P w K mg base cls ["draws", "limit", "cell", "value"] "_law_draw" (defScope st_law_draw) f cdv (2 * n + 1) (defBody st_law_draw) (s_law_draw t) := by
  intro A0 outer s H E hr1
  have hr : RoomG (2 * n) (A0.deeper (envOfC "_law_draw" (defScope st_law_draw) s.heap.objs.size f cdv)) := hr1.mono (Nat.le_succ _)
  have hu := hr.rm.units
  have hu1 := hu_of hr.rm
  have hN := sc_law_draw.nd
  exact (xssCons (xsIf (PW.pt (xAndW (xCmpT (op_gEqF hu) (xIx hu (xVar 0) xInt) xInt) (xAnd1 (xCmpT (op_gLt) (xIx hu (xVar 0) xInt) (xCallB c_len T.b_len (by rfl) (xaCons (xIx hu (xVar 0) xInt) xaNil)))))) (xssCons (xsAsg (xIx hu (xIx hu (xVar 0) xInt) (xIx hu (xVar 0) xInt)) (xgN 2 hN))
    (xssCons (xsPut hu1 (xVar 0) xInt (xBin op_gAdd (xIx hu (xVar 0) xInt) xInt))
    (xssCons (xsIf (xCmpT (op_gGe) (xVar 2) (xBin op_gPow xInt xInt)) (xssOne (xsPut hu1 (xVar 0) xInt (xVar 2))) xssNil)
    (xssOne (xsPut hu1 (xVar 0) xInt (xBin op_gMod (xCallTy c_int T.b_int (by rfl) (xaCons (xBin op_gAdd (xBin op_gAdd (xBin op_gMulA (xIx hu (xVar 0) xInt) xInt) (xVar 2)) xInt) xaNil)) xInt)))))) xssNil)
    (xssCons (xsIf (xCmpT (op_gGt) (xIx hu (xVar 0) xInt) xInt) (xssCons (xsAsg (xBin op_gMod (xCallTy c_int T.b_int (by rfl) (xaCons (xIx hu (xVar 0) xInt) xaNil)) (xVar 1)) (xgN 3 hN))
    (xssCons (xsPut hu1 (xVar 0) xInt (xBin op_gFdiv (xIx hu (xVar 0) xInt) (xVar 1)))
    (xssOne (xsRet (xVar 3))))) xssNil)
    (xssCons (xsPut hu1 (xVar 0) xInt (xBin op_gMod (xCallTy c_int T.b_int (by rfl) (xaCons (xBin op_gAdd (xBin op_gMulA (xIx hu (xVar 0) xInt) xInt) xInt) xaNil)) xInt))
    (xssOne (xsRet (xBin op_gMod (xCallTy c_int T.b_int (by rfl) (xaCons (xBin op_gFdiv (xIx hu (xVar 0) xInt) xInt) xaNil)) (xVar 1)))))))

abbrev st_law_same : Stmt := top 61
theorem sc_law_same : FnScope ["actual", "expected", "k"] ["actual", "expected"] (defScope st_law_same) := C8.fnScope_by (by decide +kernel)
theorem d_law_same (T : Txt K mg cls) (A : AllOk P w K mg base cls (2 * n) t) (hP : cls.P = P) (hw : cls.w = w) {f : Addr} {cdv : Value} : BodyOk P w K mg base cls ["actual", "expected", "k"] "_law_same" (defScope st_law_same) f cdv (2 * n + 1) (defBody st_law_same) (s_law_same t) := by
  intro A0 outer s H E hr1
  have hr : RoomG (2 * n) (A0.deeper (envOfC "_law_same" (defScope st_law_same) s.heap.objs.size f cdv)) := hr1.mono (Nat.le_succ _)
  have hu := hr.rm.units
  have hu1 := hu_of hr.rm
  have hN := sc_law_same.nd
  exact (xssCons (xsIf (PW.pt (xOrW (xTru (xIsi .tuple T.b_isinstance T.b_tuple (xVar 1))) (xOr1 (xTru (xIsi .list T.b_isinstance T.b_list (xVar 1)))))) (xssCons (xsIf (PW.pt (xOrW (xCmpT (op_gNeF hu) (xIsi .tuple T.b_isinstance T.b_tuple (xVar 1)) (xIsi .tuple T.b_isinstance T.b_tuple (xVar 0))) (xOr1 (xCmpT (op_gNeF hu) (xIsi .list T.b_isinstance T.b_list (xVar 1)) (xIsi .list T.b_isinstance T.b_list (xVar 0)))))) (xssOne (xsRet xBl)) xssNil)
    (xssCons (xsIf (xCmpT (op_gNeF hu) (xCallB c_len T.b_len (by rfl) (xaCons (xVar 0) xaNil)) (xCallB c_len T.b_len (by rfl) (xaCons (xVar 1) xaNil))) (xssOne (xsRet xBl)) xssNil)
    (xssOne (xsRet (xCmp (op_gEqF hu) (xCallB c_len T.b_len (by rfl) (xaCons (xLc 64 rfl hN (xiRng1 T.b_range (xaCons (xCallB c_len T.b_len (by rfl) (xaCons (xVar 1) xaNil)) xaNil)) (blkOk_by (own := [("k", 2)]) (by kernel_rfl)) ctN (fun _ _ _ _ _ => (pg_name (i := 2) hN rfl (by first | exact Or.inl rfl | exact Or.inr rfl))) (fun _ _ _ _ _ => (xtsOne (xNotT (xTru (xCall A.f_law_same hr (xaCons (xIx hu (xVar 0) (xVar 2)) (xaCons (xIx hu (xVar 1) (xVar 2)) xaNil))))))) (fun _ _ _ _ _ => (xVar 2))) xaNil)) xInt))))) xssNil)
    (xssCons (xsIf (xTru (xIsi .str T.b_isinstance T.b_str (xVar 1))) (xssOne (xsRet (xAnd (xIsi .str T.b_isinstance T.b_str (xVar 0)) (xOne (xCmp (op_gEqF hu) (xVar 0) (xVar 1)))))) xssNil)
    (xssCons (xsIf (xCmpT (op_gIsN) (xVar 1) xNon) (xssOne (xsRet (xCmp (op_gIsN) (xVar 0) xNon))) xssNil)
    (xssCons (xsIf (PW.pt (xOrW (xTru (xIsi .bool T.b_isinstance T.b_bool (xVar 1))) (xOr1 (xTru (xIsi .bool T.b_isinstance T.b_bool (xVar 0)))))) (xssOne (xsRet (xAnd (xIsi .bool T.b_isinstance T.b_bool (xVar 1)) (xAnd (xIsi .bool T.b_isinstance T.b_bool (xVar 0)) (xOne (xCmp (op_gEqF hu) (xVar 0) (xVar 1))))))) xssNil)
    (xssOne (xsRet (xAnd (xIsi .int T.b_isinstance T.b_int (xVar 0)) (xAnd (xIsi .int T.b_isinstance T.b_int (xVar 1)) (xOne (xCmp (op_gEqF hu) (xVar 0) (xVar 1)))))))))))

abbrev st_law_choose : Stmt := top 62
theorem sc_law_choose : FnScope ["many", "some", "told", "k"] ["many", "some"] (defScope st_law_choose) := C8.fnScope_by (by decide +kernel)
theorem d_law_choose (T : Txt K mg cls) (A : AllOk P w K mg base cls (2 * n) t) (hP : cls.P = P) (hw : cls.w = w) {f : Addr} {cdv : Value} : BodyOk P w K mg base cls ["many", "some", "told", "k"] "_law_choose" (defScope st_law_choose) f cdv (2 * n + 1) (defBody st_law_choose) (s_law_choose t) := by
  intro A0 outer s H E hr1
  have hr : RoomG (2 * n) (A0.deeper (envOfC "_law_choose" (defScope st_law_choose) s.heap.objs.size f cdv)) := hr1.mono (Nat.le_succ _)
  have hu := hr.rm.units
  have hu1 := hu_of hr.rm
  have hN := sc_law_choose.nd
  exact (xssCons (xsAsg xInt (xgN 2 hN))
    (xssCons (xsFor 64 PassesOwn.never rfl (xiRng1 T.b_range (xaCons (xVar 1) xaNil)) (xgN 3 hN) (xssOne (xsAsg (xBin op_gFdiv (xBin op_gMulA (xVar 2) (xBin op_gSub (xVar 0) (xVar 3))) (xBin op_gAdd (xVar 3) xInt)) (xgN 2 hN))))
    (xssOne (xsRet (xVar 2)))))

abbrev st_Scene : Stmt := inClass (top 22) 0
theorem sc_Scene : FnScope ["self", "names", "steps"] ["self", "names", "steps"] (defScope st_Scene) := C8.fnScope_by (by decide +kernel)
theorem d_Scene (T : Txt K mg cls) (A : AllOk P w K mg base cls (2 * n) t) (hP : cls.P = P) (hw : cls.w = w) {f : Addr} {cdv : Value} : BodyOk P w K mg base cls ["self", "names", "steps"] "Scene.__init__" (defScope st_Scene) f cdv (2 * n + 1) (defBody st_Scene) (s_Scene t) := by
  intro A0 outer s H E hr1
  have hr : RoomG (2 * n) (A0.deeper (envOfC "Scene.__init__" (defScope st_Scene) s.heap.objs.size f cdv)) := hr1.mono (Nat.le_succ _)
  have hu := hr.rm.units
  have hu1 := hu_of hr.rm
  have hN := sc_Scene.nd
  exact (xssCons (xsIf (PW.pt (xOrW (xNotT (xTru (xCall A.f_is_names hr (xaCons (xVar 1) (xaCons (xGlob T.g_MOST_NAMES) xaNil))))) (xOr1 (xNotT (xTru (xCall A.f_is_names hr (xaCons (xVar 2) (xaCons (xGlob T.g_MOST_STEPS) xaNil)))))))) (xssOne xsNone) xssNil)
    (xssCons (xsFldL k_names T.a_names (xVar 0) (xVar 1))
    (xssCons (xsFldL k_steps T.a_steps (xVar 0) (xVar 2))
    (xssOne (xsFldL k_atoms T.a_atoms (xVar 0) (xTupRg1 rfl T.b_tuple T.b_range (xBin op_gShl xInt (xCallB c_len T.b_len (by rfl) (xaCons (xVar 1) xaNil)))))))))

abbrev st_Machine : Stmt := inClass (top 42) 0
theorem sc_Machine : FnScope ["self", "scene", "ends", "ways", "row", "line"] ["self", "scene", "ends", "ways"] (defScope st_Machine) := C8.fnScope_by (by decide +kernel)
theorem d_Machine (T : Txt K mg cls) (A : AllOk P w K mg base cls (2 * n) t) (hP : cls.P = P) (hw : cls.w = w) {f : Addr} {cdv : Value} : BodyOk P w K mg base cls ["self", "scene", "ends", "ways", "row", "line"] "Machine.__init__" (defScope st_Machine) f cdv (2 * n + 1) (defBody st_Machine) (s_Machine t) := by
  intro A0 outer s H E hr1
  have hr : RoomG (2 * n) (A0.deeper (envOfC "Machine.__init__" (defScope st_Machine) s.heap.objs.size f cdv)) := hr1.mono (Nat.le_succ _)
  have hu := hr.rm.units
  have hu1 := hu_of hr.rm
  have hN := sc_Machine.nd
  exact (xssCons (xsIf (PW.pt (xOrW (xNotT (xTru (xIsi .tuple T.b_isinstance T.b_tuple (xVar 2)))) (xOrW (xNotT (xTru (xIsi .tuple T.b_isinstance T.b_tuple (xVar 3)))) (xOrW (xCmpT (op_gNeF hu) (xCallB c_len T.b_len (by rfl) (xaCons (xVar 2) xaNil)) (xCallB c_len T.b_len (by rfl) (xaCons (xVar 3) xaNil))) (xOr1 (xCmpT (op_gEqF hu) (xCallB c_len T.b_len (by rfl) (xaCons (xVar 2) xaNil)) xInt)))))) (xssOne xsNone) xssNil)
    (xssCons (xsFor 64 PassesOwn.never rfl (xiZip T.b_zip (xaCons (xVar 2) (xaCons (xVar 3) xaNil))) (xgT rfl (xgsCons (xgN 4 hN) (xgsCons (xgN 5 hN) xgsNil))) (xssOne (xsIf (PW.pt (xOrW (xNotT (xTru (xCall A.f_is_ends hr (xaCons (xVar 1) (xaCons (xVar 4) xaNil))))) (xOr1 (xNotT (xTru (xCall A.f_is_ways hr (xaCons (xVar 1) (xaCons (xVar 5) (xaCons (xCallB c_len T.b_len (by rfl) (xaCons (xVar 2) xaNil)) xaNil))))))))) (xssOne xsNone) xssNil)))
    (xssCons (xsFldL k_scene T.a_scene (xVar 0) (xVar 1))
    (xssCons (xsFldL k_ends T.a_ends (xVar 0) (xVar 2))
    (xssCons (xsFldL k_ways T.a_ways (xVar 0) (xVar 3))
    (xssOne (xsFldL k_size T.a_size (xVar 0) (xCallB c_len T.b_len (by rfl) (xaCons (xVar 2) xaNil)))))))))
end
end K68
set_option Elab.async false
set_option linter.all false
set_option maxRecDepth 100000
set_option maxHeartbeats 4000000
/-! Every def keeps its promise at every depth (printed by gen2.py). -/
namespace K68
open PySem PyProof.Rows Gw L2
section
variable {P : Program} {w : World} {K : PySem.W.Frag} {mg : Str → Option Value} {base : Heap} {cls : Cl}
/-- what the top has made: a plain def -/
def DefP (K : PySem.W.Frag) (mg : Str → Option Value) (x : Str) (st : Stmt) : Prop := ∃ f fd, mg x = some (.ref f) ∧ L2.Fun K x x st f fd
/-- a def with one default, an int -/
def DefI (K : PySem.W.Frag) (mg : Str → Option Value) (x : Str) (st : Stmt) (z : Int) : Prop :=
  ∃ (f T : Addr) (oT : Obj) (tk : Tok) (m : Nat) (oc : Value) (od : Option Addr) (kV doc pm : Value) (an : Option Addr) (cdv ct : Value) (osl : Array (Option Value)),
    mg x = some (.ref f) ∧ K.lookup f = some ⟨oc, od, .func (PySem.W.fnOf x x (defArgs st) (defBody st) (defScope st) (.ref T) kV doc pm an cdv ct), osl⟩ ∧ PySem.W.codeIn K cdv x = true ∧ PySem.W.keepIn K (.ref f) = true ∧
    K.lookup T = some oT ∧ oT.data = .seq #[.int z tk] m
/-- a class -/
def DefC (K : PySem.W.Frag) (mg : Str → Option Value) (cls : Cl) (x qual : Str) (st : Stmt) (c : Nat) : Prop := ∃ C f fd, mg x = some (.ref C) ∧ cls c = some C ∧ Mk K C f ∧ L2.Fun K "__init__" qual st f fd
theorem fnG_fun {x qual : Str} {st : Stmt} {f : Addr} {fd : FuncData} {N ps : List Str} {k : Nat} {b : S} (F : L2.Fun K x qual st f fd) (S : FnScope N ps (defScope st)) (hbody : ∀ cdv, BodyOk P w K mg base cls N qual (defScope st) f cdv k (defBody st) b)
    (hb : ∀ (kV doc pm : Value) (an : Option Addr) (cdv ct : Value) (us : List Value), us.length = ps.length → bindArgs (PySem.W.fnOf x qual (defArgs st) (defBody st) (defScope st) .none kV doc pm an cdv ct) ⟨us, []⟩ = pure (ps.zip us)) :
    FnG P w K mg base (k + 1) f (semR K cls (defF ps.length N.length b)) := by
  obtain ⟨oc, od, kV, doc, pm, an, cdv, ct, osl, rfl, lk, hcd⟩ := F.ex
  exact fnG_def lk hcd S (hbody cdv) fun s us _ hl => .of_eq (hb kV doc pm an cdv ct us hl)
theorem ok_plain {x : Str} {st : Stmt} {N ps : List Str} {k : Nat} {b : S} (D : DefP K mg x st) (S : FnScope N ps (defScope st)) (hbody : ∀ f cdv, BodyOk P w K mg base cls N x (defScope st) f cdv k (defBody st) b)
    (hb : ∀ (kV doc pm : Value) (an : Option Addr) (cdv ct : Value) (us : List Value), us.length = ps.length → bindArgs (PySem.W.fnOf x x (defArgs st) (defBody st) (defScope st) .none kV doc pm an cdv ct) ⟨us, []⟩ = pure (ps.zip us)) :
    Fn P w K mg base cls (k + 1) x (defF ps.length N.length b) := by
  obtain ⟨f, fd, h1, F⟩ := D
  exact ⟨f, h1, F.kp, fnG_fun F S (hbody f) hb⟩
theorem ok_star {x pv : Str} {st : Stmt} {N ps : List Str} {k : Nat} {b : S} (D : DefP K mg x st) (S : FnScope N (ps ++ [pv]) (defScope st)) (hbody : ∀ f cdv, BodyOk P w K mg base cls N x (defScope st) f cdv k (defBody st) b)
    (hb : ∀ (kV doc pm : Value) (an : Option Addr) (cdv ct : Value) (us rest : List Value), us.length = ps.length → bindArgs (PySem.W.fnOf x x (defArgs st) (defBody st) (defScope st) .none kV doc pm an cdv ct) ⟨us ++ rest, []⟩ = (newTuple rest >>= fun t => pure (ps.zip us ++ [(pv, t)]))) :
    Fn P w K mg base cls (k + 1) x (defFS ps.length N.length b) := by
  obtain ⟨f, fd, h1, F⟩ := D
  have kp := F.kp
  obtain ⟨oc, od, kV, doc, pm, an, cdv, ct, osl, rfl, lk, hcd⟩ := F.ex
  exact ⟨f, h1, kp, fnG_star lk hcd S (hbody f cdv) fun us rest hl => hb kV doc pm an cdv ct us rest hl⟩
theorem ok_cls {x qual : Str} {c : Nat} {st : Stmt} {N ps : List Str} {k : Nat} {b : S} (D : DefC K mg cls x qual st c) (S : FnScope N ps (defScope st)) (hbody : ∀ f cdv, BodyOk P w K mg base cls N qual (defScope st) f cdv k (defBody st) b)
    (hb : ∀ (kV doc pm : Value) (an : Option Addr) (cdv ct : Value) (us : List Value), us.length = ps.length → bindArgs (PySem.W.fnOf "__init__" qual (defArgs st) (defBody st) (defScope st) .none kV doc pm an cdv ct) ⟨us, []⟩ = pure (ps.zip us)) :
    Kl P w K mg base cls (k + 1) x c (defF ps.length N.length b) := by
  obtain ⟨C, f, fd, h1, h2, M, F⟩ := D
  exact ⟨C, f, h1, h2, M, fnG_fun F S (hbody f) hb⟩
theorem ok_dflt {x : Str} {st : Stmt} {z : Int} {N ps : List Str} {k : Nat} {b : S} (D : DefI K mg x st z) (S : FnScope N ps (defScope st)) (hbody : ∀ f cdv, BodyOk P w K mg base cls N x (defScope st) f cdv k (defBody st) b)
    (h : ∀ (T : Addr) (kV doc pm : Value) (an : Option Addr) (cdv ct : Value) (us its : List Value), us.length = ps.length → its.length = 1 →
      ∃ k, bindArgs (PySem.W.fnOf x x (defArgs st) (defBody st) (defScope st) (.ref T) kV doc pm an cdv ct) ⟨us, []⟩ = seqItems? (.ref T) >>= k ∧ k (some its.toArray) = pure (ps.zip us))
    (h1 : ∀ (T : Addr) (kV doc pm : Value) (an : Option Addr) (cdv ct : Value) (us its : List Value), us.length + 1 = ps.length → its.length = 1 →
      ∃ k, bindArgs (PySem.W.fnOf x x (defArgs st) (defBody st) (defScope st) (.ref T) kV doc pm an cdv ct) ⟨us, []⟩ = seqItems? (.ref T) >>= k ∧ k (some its.toArray) = pure (ps.zip (us ++ its))) :
    Fn P w K mg base cls (k + 1) x (defF1 ps.length (.int z) N.length b) := by
  obtain ⟨f, T, oT, tk, m, oc, od, kV, doc, pm, an, cdv, ct, osl, e1, lk, hcd, kp, lT, dT⟩ := D
  exact ⟨f, e1, kp, fnG_dflt lk hcd kp lT dT S (hbody f cdv) h h1⟩
/-- what the top has made -/
structure Facts (K : PySem.W.Frag) (mg : Str → Option Value) (cls : Cl) : Prop where
  F_is_integer : DefP K mg "is_integer" st_is_integer
  F_is_name : DefP K mg "is_name" st_is_name
  F_is_names : DefP K mg "is_names" st_is_names
  F_is_test : DefI K mg "is_test" st_is_test 40
  F_names_in : DefP K mg "names_in" st_names_in
  F_has : DefP K mg "has" st_has
  F_holds : DefP K mg "holds" st_holds
  F_is_program : DefI K mg "is_program" st_is_program 60
  F_key_of : DefP K mg "key_of" st_key_of
  F_distinct : DefP K mg "distinct" st_distinct
  F_parts_of : DefP K mg "parts_of" st_parts_of
  F_within : DefP K mg "within" st_within
  F_steps_in : DefP K mg "steps_in" st_steps_in
  F_tests_in : DefP K mg "tests_in" st_tests_in
  F_fits : DefP K mg "fits" st_fits
  F_look_at : DefP K mg "look_at" st_look_at
  F_row : DefP K mg "row" st_row
  F_may_end : DefP K mg "may_end" st_may_end
  F_then : DefP K mg "then" st_then
  F_rests : DefP K mg "rests" st_rests
  F_behind : DefP K mg "behind" st_behind
  F_is_ends : DefP K mg "is_ends" st_is_ends
  F_is_ways : DefP K mg "is_ways" st_is_ways
  F_look_at_agreed : DefP K mg "look_at_agreed" st_look_at_agreed
  F_pairs_behind : DefP K mg "pairs_behind" st_pairs_behind
  F_side_by_side : DefP K mg "side_by_side" st_side_by_side
  F_ends_at : DefP K mg "ends_at" st_ends_at
  F_all_side_by_side : DefP K mg "all_side_by_side" st_all_side_by_side
  F_rows_behind : DefP K mg "rows_behind" st_rows_behind
  F_live_states : DefP K mg "live_states" st_live_states
  F_blocks_of : DefP K mg "blocks_of" st_blocks_of
  F_least : DefP K mg "least" st_least
  F_count_words : DefP K mg "count_words" st_count_words
  F_law_draw : DefP K mg "_law_draw" st_law_draw
  F_law_same : DefP K mg "_law_same" st_law_same
  F_law_choose : DefP K mg "_law_choose" st_law_choose
  F_Scene : DefC K mg cls "Scene" "Scene.__init__" st_Scene 0
  F_Machine : DefC K mg cls "Machine" "Machine.__init__" st_Machine 1
theorem ok_zero (X : Facts K mg cls) : AllOk P w K mg base cls (2 * 0) tbl0 where
  f_is_integer := let ⟨f, _, h1, F⟩ := X.F_is_integer; ⟨f, h1, F.kp, fnG_no⟩
  f_is_name := let ⟨f, _, h1, F⟩ := X.F_is_name; ⟨f, h1, F.kp, fnG_no⟩
  f_is_names := let ⟨f, _, h1, F⟩ := X.F_is_names; ⟨f, h1, F.kp, fnG_no⟩
  f_is_test := let ⟨f, _, _, _, _, _, _, _, _, _, _, _, _, _, h1, _, _, kp, _, _⟩ := X.F_is_test; ⟨f, h1, kp, fnG_no⟩
  f_names_in := let ⟨f, _, h1, F⟩ := X.F_names_in; ⟨f, h1, F.kp, fnG_no⟩
  f_has := let ⟨f, _, h1, F⟩ := X.F_has; ⟨f, h1, F.kp, fnG_no⟩
  f_holds := let ⟨f, _, h1, F⟩ := X.F_holds; ⟨f, h1, F.kp, fnG_no⟩
  f_is_program := let ⟨f, _, _, _, _, _, _, _, _, _, _, _, _, _, h1, _, _, kp, _, _⟩ := X.F_is_program; ⟨f, h1, kp, fnG_no⟩
  f_key_of := let ⟨f, _, h1, F⟩ := X.F_key_of; ⟨f, h1, F.kp, fnG_no⟩
  f_distinct := let ⟨f, _, h1, F⟩ := X.F_distinct; ⟨f, h1, F.kp, fnG_no⟩
  f_parts_of := let ⟨f, _, h1, F⟩ := X.F_parts_of; ⟨f, h1, F.kp, fnG_no⟩
  f_within := let ⟨f, _, h1, F⟩ := X.F_within; ⟨f, h1, F.kp, fnG_no⟩
  f_steps_in := let ⟨f, _, h1, F⟩ := X.F_steps_in; ⟨f, h1, F.kp, fnG_no⟩
  f_tests_in := let ⟨f, _, h1, F⟩ := X.F_tests_in; ⟨f, h1, F.kp, fnG_no⟩
  f_fits := let ⟨f, _, h1, F⟩ := X.F_fits; ⟨f, h1, F.kp, fnG_no⟩
  f_look_at := let ⟨f, _, h1, F⟩ := X.F_look_at; ⟨f, h1, F.kp, fnG_no⟩
  f_row := let ⟨f, _, h1, F⟩ := X.F_row; ⟨f, h1, F.kp, fnG_no⟩
  f_may_end := let ⟨f, _, h1, F⟩ := X.F_may_end; ⟨f, h1, F.kp, fnG_no⟩
  f_then := let ⟨f, _, h1, F⟩ := X.F_then; ⟨f, h1, F.kp, fnG_no⟩
  f_rests := let ⟨f, _, h1, F⟩ := X.F_rests; ⟨f, h1, F.kp, fnG_no⟩
  f_behind := let ⟨f, _, h1, F⟩ := X.F_behind; ⟨f, h1, F.kp, fnG_no⟩
  f_is_ends := let ⟨f, _, h1, F⟩ := X.F_is_ends; ⟨f, h1, F.kp, fnG_no⟩
  f_is_ways := let ⟨f, _, h1, F⟩ := X.F_is_ways; ⟨f, h1, F.kp, fnG_no⟩
  f_look_at_agreed := let ⟨f, _, h1, F⟩ := X.F_look_at_agreed; ⟨f, h1, F.kp, fnG_no⟩
  f_pairs_behind := let ⟨f, _, h1, F⟩ := X.F_pairs_behind; ⟨f, h1, F.kp, fnG_no⟩
  f_side_by_side := let ⟨f, _, h1, F⟩ := X.F_side_by_side; ⟨f, h1, F.kp, fnG_no⟩
  f_ends_at := let ⟨f, _, h1, F⟩ := X.F_ends_at; ⟨f, h1, F.kp, fnG_no⟩
  f_all_side_by_side := let ⟨f, _, h1, F⟩ := X.F_all_side_by_side; ⟨f, h1, F.kp, fnG_no⟩
  f_rows_behind := let ⟨f, _, h1, F⟩ := X.F_rows_behind; ⟨f, h1, F.kp, fnG_no⟩
  f_live_states := let ⟨f, _, h1, F⟩ := X.F_live_states; ⟨f, h1, F.kp, fnG_no⟩
  f_blocks_of := let ⟨f, _, h1, F⟩ := X.F_blocks_of; ⟨f, h1, F.kp, fnG_no⟩
  f_least := let ⟨f, _, h1, F⟩ := X.F_least; ⟨f, h1, F.kp, fnG_no⟩
  f_count_words := let ⟨f, _, h1, F⟩ := X.F_count_words; ⟨f, h1, F.kp, fnG_no⟩
  f_law_draw := let ⟨f, _, h1, F⟩ := X.F_law_draw; ⟨f, h1, F.kp, fnG_no⟩
  f_law_same := let ⟨f, _, h1, F⟩ := X.F_law_same; ⟨f, h1, F.kp, fnG_no⟩
  f_law_choose := let ⟨f, _, h1, F⟩ := X.F_law_choose; ⟨f, h1, F.kp, fnG_no⟩
  f_Scene := let ⟨C, f, _, h1, h2, M, _⟩ := X.F_Scene; ⟨C, f, h1, h2, M, fnG_no⟩
  f_Machine := let ⟨C, f, _, h1, h2, M, _⟩ := X.F_Machine; ⟨C, f, h1, h2, M, fnG_no⟩
section
variable {n : Nat} {t : Tbl}
theorem o_is_integer (X : Facts K mg cls) (T : Txt K mg cls) (A : AllOk P w K mg base cls (2 * n) t) (hP : cls.P = P) (hw : cls.w = w) : Fn P w K mg base cls (2 * n + 1 + 1) "is_integer" (step t).f_is_integer :=
  ok_plain (ps := ["value"]) X.F_is_integer sc_is_integer (fun f cdv => d_is_integer T A hP hw) fun _ _ _ _ _ _ us hl => match us, hl with | [_], _ => rfl
theorem o_is_name (X : Facts K mg cls) (T : Txt K mg cls) (A : AllOk P w K mg base cls (2 * n) t) (hP : cls.P = P) (hw : cls.w = w) : Fn P w K mg base cls (2 * n + 1 + 1) "is_name" (step t).f_is_name :=
  ok_plain (ps := ["value"]) X.F_is_name sc_is_name (fun f cdv => d_is_name T A hP hw) fun _ _ _ _ _ _ us hl => match us, hl with | [_], _ => rfl
theorem o_is_names (X : Facts K mg cls) (T : Txt K mg cls) (A : AllOk P w K mg base cls (2 * n) t) (hP : cls.P = P) (hw : cls.w = w) : Fn P w K mg base cls (2 * n + 1 + 1) "is_names" (step t).f_is_names :=
  ok_plain (ps := ["value", "most"]) X.F_is_names sc_is_names (fun f cdv => d_is_names T A hP hw) fun _ _ _ _ _ _ us hl => match us, hl with | [_, _], _ => rfl
theorem o_is_test (X : Facts K mg cls) (T : Txt K mg cls) (A : AllOk P w K mg base cls (2 * n) t) (hP : cls.P = P) (hw : cls.w = w) : Fn P w K mg base cls (2 * n + 1 + 1) "is_test" (step t).f_is_test :=
  ok_dflt (ps := ["value", "deep"]) X.F_is_test sc_is_test (fun f cdv => d_is_test T A hP hw) (fun _ _ _ _ _ _ _ us its hl hi => match us, its, hl, hi with | [_, _], [_], _, _ => ⟨_, rfl, rfl⟩) (fun _ _ _ _ _ _ _ us its hl hi => match us, its, hl, hi with | [_], [_], _, _ => ⟨_, rfl, rfl⟩)
theorem o_names_in (X : Facts K mg cls) (T : Txt K mg cls) (A : AllOk P w K mg base cls (2 * n) t) (hP : cls.P = P) (hw : cls.w = w) : Fn P w K mg base cls (2 * n + 1 + 1) "names_in" (step t).f_names_in :=
  ok_plain (ps := ["test"]) X.F_names_in sc_names_in (fun f cdv => d_names_in T A hP hw) fun _ _ _ _ _ _ us hl => match us, hl with | [_], _ => rfl
theorem o_has (X : Facts K mg cls) (T : Txt K mg cls) (A : AllOk P w K mg base cls (2 * n) t) (hP : cls.P = P) (hw : cls.w = w) : Fn P w K mg base cls (2 * n + 1 + 1) "has" (step t).f_has :=
  ok_plain (ps := ["atom", "at"]) X.F_has sc_has (fun f cdv => d_has T A hP hw) fun _ _ _ _ _ _ us hl => match us, hl with | [_, _], _ => rfl
theorem o_holds (X : Facts K mg cls) (T : Txt K mg cls) (A : AllOk P w K mg base cls (2 * n) t) (hP : cls.P = P) (hw : cls.w = w) : Fn P w K mg base cls (2 * n + 1 + 1) "holds" (step t).f_holds :=
  ok_plain (ps := ["test", "atom", "names"]) X.F_holds sc_holds (fun f cdv => d_holds T A hP hw) fun _ _ _ _ _ _ us hl => match us, hl with | [_, _, _], _ => rfl
theorem o_is_program (X : Facts K mg cls) (T : Txt K mg cls) (A : AllOk P w K mg base cls (2 * n) t) (hP : cls.P = P) (hw : cls.w = w) : Fn P w K mg base cls (2 * n + 1 + 1) "is_program" (step t).f_is_program :=
  ok_dflt (ps := ["value", "deep"]) X.F_is_program sc_is_program (fun f cdv => d_is_program T A hP hw) (fun _ _ _ _ _ _ _ us its hl hi => match us, its, hl, hi with | [_, _], [_], _, _ => ⟨_, rfl, rfl⟩) (fun _ _ _ _ _ _ _ us its hl hi => match us, its, hl, hi with | [_], [_], _, _ => ⟨_, rfl, rfl⟩)
theorem o_key_of (X : Facts K mg cls) (T : Txt K mg cls) (A : AllOk P w K mg base cls (2 * n) t) (hP : cls.P = P) (hw : cls.w = w) : Fn P w K mg base cls (2 * n + 1 + 1) "key_of" (step t).f_key_of :=
  ok_plain (ps := ["value"]) X.F_key_of sc_key_of (fun f cdv => d_key_of T A hP hw) fun _ _ _ _ _ _ us hl => match us, hl with | [_], _ => rfl
theorem o_distinct (X : Facts K mg cls) (T : Txt K mg cls) (A : AllOk P w K mg base cls (2 * n) t) (hP : cls.P = P) (hw : cls.w = w) : Fn P w K mg base cls (2 * n + 1 + 1) "distinct" (step t).f_distinct :=
  ok_plain (ps := ["programs"]) X.F_distinct sc_distinct (fun f cdv => d_distinct T A hP hw) fun _ _ _ _ _ _ us hl => match us, hl with | [_], _ => rfl
theorem o_parts_of (X : Facts K mg cls) (T : Txt K mg cls) (A : AllOk P w K mg base cls (2 * n) t) (hP : cls.P = P) (hw : cls.w = w) : Fn P w K mg base cls (2 * n + 1 + 1) "parts_of" (step t).f_parts_of :=
  ok_plain (ps := ["program"]) X.F_parts_of sc_parts_of (fun f cdv => d_parts_of T A hP hw) fun _ _ _ _ _ _ us hl => match us, hl with | [_], _ => rfl
theorem o_within (X : Facts K mg cls) (T : Txt K mg cls) (A : AllOk P w K mg base cls (2 * n) t) (hP : cls.P = P) (hw : cls.w = w) : Fn P w K mg base cls (2 * n + 1 + 1) "within" (step t).f_within :=
  ok_plain (ps := ["program"]) X.F_within sc_within (fun f cdv => d_within T A hP hw) fun _ _ _ _ _ _ us hl => match us, hl with | [_], _ => rfl
theorem o_steps_in (X : Facts K mg cls) (T : Txt K mg cls) (A : AllOk P w K mg base cls (2 * n) t) (hP : cls.P = P) (hw : cls.w = w) : Fn P w K mg base cls (2 * n + 1 + 1) "steps_in" (step t).f_steps_in :=
  ok_plain (ps := ["program"]) X.F_steps_in sc_steps_in (fun f cdv => d_steps_in T A hP hw) fun _ _ _ _ _ _ us hl => match us, hl with | [_], _ => rfl
theorem o_tests_in (X : Facts K mg cls) (T : Txt K mg cls) (A : AllOk P w K mg base cls (2 * n) t) (hP : cls.P = P) (hw : cls.w = w) : Fn P w K mg base cls (2 * n + 1 + 1) "tests_in" (step t).f_tests_in :=
  ok_plain (ps := ["program"]) X.F_tests_in sc_tests_in (fun f cdv => d_tests_in T A hP hw) fun _ _ _ _ _ _ us hl => match us, hl with | [_], _ => rfl
theorem o_fits (X : Facts K mg cls) (T : Txt K mg cls) (A : AllOk P w K mg base cls (2 * n) t) (hP : cls.P = P) (hw : cls.w = w) : Fn P w K mg base cls (2 * n + 1 + 1) "fits" (step t).f_fits :=
  ok_plain (ps := ["scene", "program"]) X.F_fits sc_fits (fun f cdv => d_fits T A hP hw) fun _ _ _ _ _ _ us hl => match us, hl with | [_, _], _ => rfl
theorem o_look_at (X : Facts K mg cls) (T : Txt K mg cls) (A : AllOk P w K mg base cls (2 * n) t) (hP : cls.P = P) (hw : cls.w = w) : Fn P w K mg base cls (2 * n + 1 + 1) "look_at" (step t).f_look_at :=
  ok_star (ps := ["scene"]) (pv := "programs") X.F_look_at sc_look_at (fun f cdv => d_look_at T A hP hw) fun kV doc pm an cdv ct => StX.bind_star1 (B := fun l => bindArgs (PySem.W.fnOf "look_at" "look_at" (defArgs st_look_at) (defBody st_look_at) (defScope st_look_at) .none kV doc pm an cdv ct) ⟨l, []⟩) (fun _ => rfl) (fun _ _ _ => rfl)
theorem o_row (X : Facts K mg cls) (T : Txt K mg cls) (A : AllOk P w K mg base cls (2 * n) t) (hP : cls.P = P) (hw : cls.w = w) : Fn P w K mg base cls (2 * n + 1 + 1) "row" (step t).f_row :=
  ok_plain (ps := ["programs"]) X.F_row sc_row (fun f cdv => d_row T A hP hw) fun _ _ _ _ _ _ us hl => match us, hl with | [_], _ => rfl
theorem o_may_end (X : Facts K mg cls) (T : Txt K mg cls) (A : AllOk P w K mg base cls (2 * n) t) (hP : cls.P = P) (hw : cls.w = w) : Fn P w K mg base cls (2 * n + 1 + 1) "may_end" (step t).f_may_end :=
  ok_plain (ps := ["scene", "program", "atom"]) X.F_may_end sc_may_end (fun f cdv => d_may_end T A hP hw) fun _ _ _ _ _ _ us hl => match us, hl with | [_, _, _], _ => rfl
theorem o_then (X : Facts K mg cls) (T : Txt K mg cls) (A : AllOk P w K mg base cls (2 * n) t) (hP : cls.P = P) (hw : cls.w = w) : Fn P w K mg base cls (2 * n + 1 + 1) "then" (step t).f_then :=
  ok_plain (ps := ["first", "other"]) X.F_then sc_then (fun f cdv => d_then T A hP hw) fun _ _ _ _ _ _ us hl => match us, hl with | [_, _], _ => rfl
theorem o_rests (X : Facts K mg cls) (T : Txt K mg cls) (A : AllOk P w K mg base cls (2 * n) t) (hP : cls.P = P) (hw : cls.w = w) : Fn P w K mg base cls (2 * n + 1 + 1) "rests" (step t).f_rests :=
  ok_plain (ps := ["scene", "program", "atom", "step"]) X.F_rests sc_rests (fun f cdv => d_rests T A hP hw) fun _ _ _ _ _ _ us hl => match us, hl with | [_, _, _, _], _ => rfl
theorem o_behind (X : Facts K mg cls) (T : Txt K mg cls) (A : AllOk P w K mg base cls (2 * n) t) (hP : cls.P = P) (hw : cls.w = w) : Fn P w K mg base cls (2 * n + 1 + 1) "behind" (step t).f_behind :=
  ok_plain (ps := ["programs", "last"]) X.F_behind sc_behind (fun f cdv => d_behind T A hP hw) fun _ _ _ _ _ _ us hl => match us, hl with | [_, _], _ => rfl
theorem o_is_ends (X : Facts K mg cls) (T : Txt K mg cls) (A : AllOk P w K mg base cls (2 * n) t) (hP : cls.P = P) (hw : cls.w = w) : Fn P w K mg base cls (2 * n + 1 + 1) "is_ends" (step t).f_is_ends :=
  ok_plain (ps := ["scene", "value"]) X.F_is_ends sc_is_ends (fun f cdv => d_is_ends T A hP hw) fun _ _ _ _ _ _ us hl => match us, hl with | [_, _], _ => rfl
theorem o_is_ways (X : Facts K mg cls) (T : Txt K mg cls) (A : AllOk P w K mg base cls (2 * n) t) (hP : cls.P = P) (hw : cls.w = w) : Fn P w K mg base cls (2 * n + 1 + 1) "is_ways" (step t).f_is_ways :=
  ok_plain (ps := ["scene", "value", "size"]) X.F_is_ways sc_is_ways (fun f cdv => d_is_ways T A hP hw) fun _ _ _ _ _ _ us hl => match us, hl with | [_, _, _], _ => rfl
theorem o_look_at_agreed (X : Facts K mg cls) (T : Txt K mg cls) (A : AllOk P w K mg base cls (2 * n) t) (hP : cls.P = P) (hw : cls.w = w) : Fn P w K mg base cls (2 * n + 1 + 1) "look_at_agreed" (step t).f_look_at_agreed :=
  ok_plain (ps := ["scene", "agreed"]) X.F_look_at_agreed sc_look_at_agreed (fun f cdv => d_look_at_agreed T A hP hw) fun _ _ _ _ _ _ us hl => match us, hl with | [_, _], _ => rfl
theorem o_pairs_behind (X : Facts K mg cls) (T : Txt K mg cls) (A : AllOk P w K mg base cls (2 * n) t) (hP : cls.P = P) (hw : cls.w = w) : Fn P w K mg base cls (2 * n + 1 + 1) "pairs_behind" (step t).f_pairs_behind :=
  ok_plain (ps := ["scene", "pairs", "atom", "step", "agreed"]) X.F_pairs_behind sc_pairs_behind (fun f cdv => d_pairs_behind T A hP hw) fun _ _ _ _ _ _ us hl => match us, hl with | [_, _, _, _, _], _ => rfl
theorem o_side_by_side (X : Facts K mg cls) (T : Txt K mg cls) (A : AllOk P w K mg base cls (2 * n) t) (hP : cls.P = P) (hw : cls.w = w) : Fn P w K mg base cls (2 * n + 1 + 1) "side_by_side" (step t).f_side_by_side :=
  ok_plain (ps := ["scene", "first", "other", "agreed"]) X.F_side_by_side sc_side_by_side (fun f cdv => d_side_by_side T A hP hw) fun _ _ _ _ _ _ us hl => match us, hl with | [_, _, _, _], _ => rfl
theorem o_ends_at (X : Facts K mg cls) (T : Txt K mg cls) (A : AllOk P w K mg base cls (2 * n) t) (hP : cls.P = P) (hw : cls.w = w) : Fn P w K mg base cls (2 * n + 1 + 1) "ends_at" (step t).f_ends_at :=
  ok_plain (ps := ["scene", "pairs", "atom"]) X.F_ends_at sc_ends_at (fun f cdv => d_ends_at T A hP hw) fun _ _ _ _ _ _ us hl => match us, hl with | [_, _, _], _ => rfl
theorem o_all_side_by_side (X : Facts K mg cls) (T : Txt K mg cls) (A : AllOk P w K mg base cls (2 * n) t) (hP : cls.P = P) (hw : cls.w = w) : Fn P w K mg base cls (2 * n + 1 + 1) "all_side_by_side" (step t).f_all_side_by_side :=
  ok_plain (ps := ["scene", "programs"]) X.F_all_side_by_side sc_all_side_by_side (fun f cdv => d_all_side_by_side T A hP hw) fun _ _ _ _ _ _ us hl => match us, hl with | [_, _], _ => rfl
theorem o_rows_behind (X : Facts K mg cls) (T : Txt K mg cls) (A : AllOk P w K mg base cls (2 * n) t) (hP : cls.P = P) (hw : cls.w = w) : Fn P w K mg base cls (2 * n + 1 + 1) "rows_behind" (step t).f_rows_behind :=
  ok_plain (ps := ["scene", "rows", "atom", "step"]) X.F_rows_behind sc_rows_behind (fun f cdv => d_rows_behind T A hP hw) fun _ _ _ _ _ _ us hl => match us, hl with | [_, _, _, _], _ => rfl
theorem o_live_states (X : Facts K mg cls) (T : Txt K mg cls) (A : AllOk P w K mg base cls (2 * n) t) (hP : cls.P = P) (hw : cls.w = w) : Fn P w K mg base cls (2 * n + 1 + 1) "live_states" (step t).f_live_states :=
  ok_plain (ps := ["machine"]) X.F_live_states sc_live_states (fun f cdv => d_live_states T A hP hw) fun _ _ _ _ _ _ us hl => match us, hl with | [_], _ => rfl
theorem o_blocks_of (X : Facts K mg cls) (T : Txt K mg cls) (A : AllOk P w K mg base cls (2 * n) t) (hP : cls.P = P) (hw : cls.w = w) : Fn P w K mg base cls (2 * n + 1 + 1) "blocks_of" (step t).f_blocks_of :=
  ok_plain (ps := ["machine"]) X.F_blocks_of sc_blocks_of (fun f cdv => d_blocks_of T A hP hw) fun _ _ _ _ _ _ us hl => match us, hl with | [_], _ => rfl
theorem o_least (X : Facts K mg cls) (T : Txt K mg cls) (A : AllOk P w K mg base cls (2 * n) t) (hP : cls.P = P) (hw : cls.w = w) : Fn P w K mg base cls (2 * n + 1 + 1) "least" (step t).f_least :=
  ok_plain (ps := ["machine"]) X.F_least sc_least (fun f cdv => d_least T A hP hw) fun _ _ _ _ _ _ us hl => match us, hl with | [_], _ => rfl
theorem o_count_words (X : Facts K mg cls) (T : Txt K mg cls) (A : AllOk P w K mg base cls (2 * n) t) (hP : cls.P = P) (hw : cls.w = w) : Fn P w K mg base cls (2 * n + 1 + 1) "count_words" (step t).f_count_words :=
  ok_plain (ps := ["machine", "most"]) X.F_count_words sc_count_words (fun f cdv => d_count_words T A hP hw) fun _ _ _ _ _ _ us hl => match us, hl with | [_, _], _ => rfl
theorem o_law_draw (X : Facts K mg cls) (T : Txt K mg cls) (A : AllOk P w K mg base cls (2 * n) t) (hP : cls.P = P) (hw : cls.w = w) : Fn P w K mg base cls (2 * n + 1 + 1) "_law_draw" (step t).f_law_draw :=
  ok_plain (ps := ["draws", "limit"]) X.F_law_draw sc_law_draw (fun f cdv => d_law_draw T A hP hw) fun _ _ _ _ _ _ us hl => match us, hl with | [_, _], _ => rfl
theorem o_law_same (X : Facts K mg cls) (T : Txt K mg cls) (A : AllOk P w K mg base cls (2 * n) t) (hP : cls.P = P) (hw : cls.w = w) : Fn P w K mg base cls (2 * n + 1 + 1) "_law_same" (step t).f_law_same :=
  ok_plain (ps := ["actual", "expected"]) X.F_law_same sc_law_same (fun f cdv => d_law_same T A hP hw) fun _ _ _ _ _ _ us hl => match us, hl with | [_, _], _ => rfl
theorem o_law_choose (X : Facts K mg cls) (T : Txt K mg cls) (A : AllOk P w K mg base cls (2 * n) t) (hP : cls.P = P) (hw : cls.w = w) : Fn P w K mg base cls (2 * n + 1 + 1) "_law_choose" (step t).f_law_choose :=
  ok_plain (ps := ["many", "some"]) X.F_law_choose sc_law_choose (fun f cdv => d_law_choose T A hP hw) fun _ _ _ _ _ _ us hl => match us, hl with | [_, _], _ => rfl
theorem o_Scene (X : Facts K mg cls) (T : Txt K mg cls) (A : AllOk P w K mg base cls (2 * n) t) (hP : cls.P = P) (hw : cls.w = w) : Kl P w K mg base cls (2 * n + 1 + 1) "Scene" 0 (step t).f_Scene :=
  ok_cls (ps := ["self", "names", "steps"]) X.F_Scene sc_Scene (fun f cdv => d_Scene T A hP hw) fun _ _ _ _ _ _ us hl => match us, hl with | [_, _, _], _ => rfl
theorem o_Machine (X : Facts K mg cls) (T : Txt K mg cls) (A : AllOk P w K mg base cls (2 * n) t) (hP : cls.P = P) (hw : cls.w = w) : Kl P w K mg base cls (2 * n + 1 + 1) "Machine" 1 (step t).f_Machine :=
  ok_cls (ps := ["self", "scene", "ends", "ways"]) X.F_Machine sc_Machine (fun f cdv => d_Machine T A hP hw) fun _ _ _ _ _ _ us hl => match us, hl with | [_, _, _, _], _ => rfl
end
theorem ok_all (X : Facts K mg cls) (T : Txt K mg cls) (hP : cls.P = P) (hw : cls.w = w) : ∀ n, AllOk P w K mg base cls (2 * n) (tbl n)
  | 0 => ok_zero X
  | n + 1 => by
    have A := ok_all X T hP hw n
    exact {
      f_is_integer := o_is_integer X T A hP hw,
      f_is_name := o_is_name X T A hP hw,
      f_is_names := o_is_names X T A hP hw,
      f_is_test := o_is_test X T A hP hw,
      f_names_in := o_names_in X T A hP hw,
      f_has := o_has X T A hP hw,
      f_holds := o_holds X T A hP hw,
      f_is_program := o_is_program X T A hP hw,
      f_key_of := o_key_of X T A hP hw,
      f_distinct := o_distinct X T A hP hw,
      f_parts_of := o_parts_of X T A hP hw,
      f_within := o_within X T A hP hw,
      f_steps_in := o_steps_in X T A hP hw,
      f_tests_in := o_tests_in X T A hP hw,
      f_fits := o_fits X T A hP hw,
      f_look_at := o_look_at X T A hP hw,
      f_row := o_row X T A hP hw,
      f_may_end := o_may_end X T A hP hw,
      f_then := o_then X T A hP hw,
      f_rests := o_rests X T A hP hw,
      f_behind := o_behind X T A hP hw,
      f_is_ends := o_is_ends X T A hP hw,
      f_is_ways := o_is_ways X T A hP hw,
      f_look_at_agreed := o_look_at_agreed X T A hP hw,
      f_pairs_behind := o_pairs_behind X T A hP hw,
      f_side_by_side := o_side_by_side X T A hP hw,
      f_ends_at := o_ends_at X T A hP hw,
      f_all_side_by_side := o_all_side_by_side X T A hP hw,
      f_rows_behind := o_rows_behind X T A hP hw,
      f_live_states := o_live_states X T A hP hw,
      f_blocks_of := o_blocks_of X T A hP hw,
      f_least := o_least X T A hP hw,
      f_count_words := o_count_words X T A hP hw,
      f_law_draw := o_law_draw X T A hP hw,
      f_law_same := o_law_same X T A hP hw,
      f_law_choose := o_law_choose X T A hP hw,
      f_Scene := o_Scene X T A hP hw,
      f_Machine := o_Machine X T A hP hw }
end
end K68
set_option Elab.async false
set_option linter.all false
set_option maxRecDepth 1000000
set_option maxHeartbeats 4000000
/-! k68: the law's statements in pieces, from a heap of three objects. -/
namespace K68
open PySem Gw
def fin (k : Nat) (o : Option (AEnv × Ah)) : Option (List (Option D) × Nat × Option AO × Option AO × Option AO) := match o with
  | some (sa, h) => some (sa.take k, sa.length, h.get 0, h.get 1, h.get 2)
  | none => none
def sceneO : AO := .ins 0 [(x_names, .tup []), (x_steps, .tup [.str x_p, .str x_q, .str x_r]), (x_atoms, .tup [.int 0])]
def Seg (l : List S) (sa sb : AEnv) : Prop := ∀ X Y, fin 10 (runNx l sa (hp3 X Y sceneO)) = some (sb.take 10, 17, some X, some Y, some sceneO)
def stepD (x : Str) : D := .tup [.str x_step, .str x]
def rowD (x : Str) : Nat → D
  | 0 => c_SKIP
  | 1 => stepD x
  | n + 2 => .tup [.str x_then, stepD x, rowD x (n + 1)]
def T24 : Tbl := tbl 24
def sv (d4 d5 d6 d7 d8 d9 : D) : AEnv := [none, some (.obj 1), none, some (.obj 2), some d4, some d5, some d6, some d7, some d8, some d9, none, none, none, none, none, none, none]
def sv3 (d4 d5 d6 : D) : AEnv := [none, some (.obj 1), none, some (.obj 2), some d4, some d5, some d6, none, none, none, none, none, none, none, none, none, none]
def sv1 : AEnv := [none, some (.obj 1), none, none, none, none, none, none, none, none, none, none, none, none, none, none, none]
abbrev mnk (m n k : Nat) : AEnv := sv (.int m) (.int n) (.int k) (rowD x_p m) (rowD x_q n) (rowD x_r k)
theorem c0 : ∀ X Y (d : Option D), fin 4 (runNx [lp0 T24] (sv1.set 2 d) (hp2 X Y)) = some ([none, some (.obj 1), d, some (.obj 2)], 17, some X, some Y, some sceneO) := by intro X Y d; kernel_rfl
end K68
set_option Elab.async false
set_option linter.all false
set_option maxRecDepth 1000000
set_option maxHeartbeats 4000000
namespace K68
open PySem Gw
theorem cA_0_0_0 : Seg [lp2 T24] (sv3 (.int 0) (.int 0) (.int 0)) (mnk 0 0 0) := by intro X Y; kernel_rfl
theorem cA_0_0_1 : Seg [lp2 T24] (sv3 (.int 0) (.int 0) (.int 1)) (mnk 0 0 1) := by intro X Y; kernel_rfl
theorem cA_0_0_2 : Seg [lp2 T24] (sv3 (.int 0) (.int 0) (.int 2)) (mnk 0 0 2) := by intro X Y; kernel_rfl
theorem cA_0_1_0 : Seg [lp2 T24] (sv3 (.int 0) (.int 1) (.int 0)) (mnk 0 1 0) := by intro X Y; kernel_rfl
theorem cA_0_1_1 : Seg [lp2 T24] (sv3 (.int 0) (.int 1) (.int 1)) (mnk 0 1 1) := by intro X Y; kernel_rfl
theorem cA_0_1_2 : Seg [lp2 T24] (sv3 (.int 0) (.int 1) (.int 2)) (mnk 0 1 2) := by intro X Y; kernel_rfl
theorem cA_0_2_0 : Seg [lp2 T24] (sv3 (.int 0) (.int 2) (.int 0)) (mnk 0 2 0) := by intro X Y; kernel_rfl
theorem cA_0_2_1 : Seg [lp2 T24] (sv3 (.int 0) (.int 2) (.int 1)) (mnk 0 2 1) := by intro X Y; kernel_rfl
theorem cA_0_2_2 : Seg [lp2 T24] (sv3 (.int 0) (.int 2) (.int 2)) (mnk 0 2 2) := by intro X Y; kernel_rfl
theorem cA_0_3_0 : Seg [lp2 T24] (sv3 (.int 0) (.int 3) (.int 0)) (mnk 0 3 0) := by intro X Y; kernel_rfl
theorem cA_0_3_1 : Seg [lp2 T24] (sv3 (.int 0) (.int 3) (.int 1)) (mnk 0 3 1) := by intro X Y; kernel_rfl
theorem cA_0_3_2 : Seg [lp2 T24] (sv3 (.int 0) (.int 3) (.int 2)) (mnk 0 3 2) := by intro X Y; kernel_rfl
theorem cA_1_0_0 : Seg [lp2 T24] (sv3 (.int 1) (.int 0) (.int 0)) (mnk 1 0 0) := by intro X Y; kernel_rfl
theorem cA_1_0_1 : Seg [lp2 T24] (sv3 (.int 1) (.int 0) (.int 1)) (mnk 1 0 1) := by intro X Y; kernel_rfl
theorem cA_1_0_2 : Seg [lp2 T24] (sv3 (.int 1) (.int 0) (.int 2)) (mnk 1 0 2) := by intro X Y; kernel_rfl
theorem cA_1_1_0 : Seg [lp2 T24] (sv3 (.int 1) (.int 1) (.int 0)) (mnk 1 1 0) := by intro X Y; kernel_rfl
theorem cA_1_1_1 : Seg [lp2 T24] (sv3 (.int 1) (.int 1) (.int 1)) (mnk 1 1 1) := by intro X Y; kernel_rfl
theorem cA_1_1_2 : Seg [lp2 T24] (sv3 (.int 1) (.int 1) (.int 2)) (mnk 1 1 2) := by intro X Y; kernel_rfl
theorem cA_1_2_0 : Seg [lp2 T24] (sv3 (.int 1) (.int 2) (.int 0)) (mnk 1 2 0) := by intro X Y; kernel_rfl
theorem cA_1_2_1 : Seg [lp2 T24] (sv3 (.int 1) (.int 2) (.int 1)) (mnk 1 2 1) := by intro X Y; kernel_rfl
theorem cA_1_2_2 : Seg [lp2 T24] (sv3 (.int 1) (.int 2) (.int 2)) (mnk 1 2 2) := by intro X Y; kernel_rfl
theorem cA_1_3_0 : Seg [lp2 T24] (sv3 (.int 1) (.int 3) (.int 0)) (mnk 1 3 0) := by intro X Y; kernel_rfl
theorem cA_1_3_1 : Seg [lp2 T24] (sv3 (.int 1) (.int 3) (.int 1)) (mnk 1 3 1) := by intro X Y; kernel_rfl
theorem cA_1_3_2 : Seg [lp2 T24] (sv3 (.int 1) (.int 3) (.int 2)) (mnk 1 3 2) := by intro X Y; kernel_rfl
theorem cA_2_0_0 : Seg [lp2 T24] (sv3 (.int 2) (.int 0) (.int 0)) (mnk 2 0 0) := by intro X Y; kernel_rfl
theorem cA_2_0_1 : Seg [lp2 T24] (sv3 (.int 2) (.int 0) (.int 1)) (mnk 2 0 1) := by intro X Y; kernel_rfl
theorem cA_2_0_2 : Seg [lp2 T24] (sv3 (.int 2) (.int 0) (.int 2)) (mnk 2 0 2) := by intro X Y; kernel_rfl
theorem cA_2_1_0 : Seg [lp2 T24] (sv3 (.int 2) (.int 1) (.int 0)) (mnk 2 1 0) := by intro X Y; kernel_rfl
theorem cA_2_1_1 : Seg [lp2 T24] (sv3 (.int 2) (.int 1) (.int 1)) (mnk 2 1 1) := by intro X Y; kernel_rfl
theorem cA_2_1_2 : Seg [lp2 T24] (sv3 (.int 2) (.int 1) (.int 2)) (mnk 2 1 2) := by intro X Y; kernel_rfl
theorem cA_2_2_0 : Seg [lp2 T24] (sv3 (.int 2) (.int 2) (.int 0)) (mnk 2 2 0) := by intro X Y; kernel_rfl
theorem cA_2_2_1 : Seg [lp2 T24] (sv3 (.int 2) (.int 2) (.int 1)) (mnk 2 2 1) := by intro X Y; kernel_rfl
theorem cA_2_2_2 : Seg [lp2 T24] (sv3 (.int 2) (.int 2) (.int 2)) (mnk 2 2 2) := by intro X Y; kernel_rfl
theorem cA_2_3_0 : Seg [lp2 T24] (sv3 (.int 2) (.int 3) (.int 0)) (mnk 2 3 0) := by intro X Y; kernel_rfl
theorem cA_2_3_1 : Seg [lp2 T24] (sv3 (.int 2) (.int 3) (.int 1)) (mnk 2 3 1) := by intro X Y; kernel_rfl
theorem cA_2_3_2 : Seg [lp2 T24] (sv3 (.int 2) (.int 3) (.int 2)) (mnk 2 3 2) := by intro X Y; kernel_rfl
theorem cA_3_0_0 : Seg [lp2 T24] (sv3 (.int 3) (.int 0) (.int 0)) (mnk 3 0 0) := by intro X Y; kernel_rfl
theorem cA_3_0_1 : Seg [lp2 T24] (sv3 (.int 3) (.int 0) (.int 1)) (mnk 3 0 1) := by intro X Y; kernel_rfl
theorem cA_3_0_2 : Seg [lp2 T24] (sv3 (.int 3) (.int 0) (.int 2)) (mnk 3 0 2) := by intro X Y; kernel_rfl
theorem cA_3_1_0 : Seg [lp2 T24] (sv3 (.int 3) (.int 1) (.int 0)) (mnk 3 1 0) := by intro X Y; kernel_rfl
theorem cA_3_1_1 : Seg [lp2 T24] (sv3 (.int 3) (.int 1) (.int 1)) (mnk 3 1 1) := by intro X Y; kernel_rfl
theorem cA_3_1_2 : Seg [lp2 T24] (sv3 (.int 3) (.int 1) (.int 2)) (mnk 3 1 2) := by intro X Y; kernel_rfl
theorem cA_3_2_0 : Seg [lp2 T24] (sv3 (.int 3) (.int 2) (.int 0)) (mnk 3 2 0) := by intro X Y; kernel_rfl
theorem cA_3_2_1 : Seg [lp2 T24] (sv3 (.int 3) (.int 2) (.int 1)) (mnk 3 2 1) := by intro X Y; kernel_rfl
theorem cA_3_2_2 : Seg [lp2 T24] (sv3 (.int 3) (.int 2) (.int 2)) (mnk 3 2 2) := by intro X Y; kernel_rfl
theorem cA_3_3_0 : Seg [lp2 T24] (sv3 (.int 3) (.int 3) (.int 0)) (mnk 3 3 0) := by intro X Y; kernel_rfl
theorem cA_3_3_1 : Seg [lp2 T24] (sv3 (.int 3) (.int 3) (.int 1)) (mnk 3 3 1) := by intro X Y; kernel_rfl
theorem cA_3_3_2 : Seg [lp2 T24] (sv3 (.int 3) (.int 3) (.int 2)) (mnk 3 3 2) := by intro X Y; kernel_rfl
end K68
set_option Elab.async false
set_option linter.all false
set_option maxRecDepth 1000000
set_option maxHeartbeats 4000000
namespace K68
open PySem Gw
theorem cB_0_0 (d6 d9 : D) : Seg [lp3 T24, lp4 T24, lp5 T24, lp6 T24] (sv (.int 0) (.int 0) d6 (rowD x_p 0) (rowD x_q 0) d9) (sv (.int 0) (.int 0) d6 (rowD x_p 0) (rowD x_q 0) d9) := by intro X Y; kernel_rfl
theorem cB_0_1 (d6 d9 : D) : Seg [lp3 T24, lp4 T24, lp5 T24, lp6 T24] (sv (.int 0) (.int 1) d6 (rowD x_p 0) (rowD x_q 1) d9) (sv (.int 0) (.int 1) d6 (rowD x_p 0) (rowD x_q 1) d9) := by intro X Y; kernel_rfl
theorem cB_0_2 (d6 d9 : D) : Seg [lp3 T24, lp4 T24, lp5 T24, lp6 T24] (sv (.int 0) (.int 2) d6 (rowD x_p 0) (rowD x_q 2) d9) (sv (.int 0) (.int 2) d6 (rowD x_p 0) (rowD x_q 2) d9) := by intro X Y; kernel_rfl
theorem cB_0_3 (d6 d9 : D) : Seg [lp3 T24, lp4 T24, lp5 T24, lp6 T24] (sv (.int 0) (.int 3) d6 (rowD x_p 0) (rowD x_q 3) d9) (sv (.int 0) (.int 3) d6 (rowD x_p 0) (rowD x_q 3) d9) := by intro X Y; kernel_rfl
theorem cB_1_0 (d6 d9 : D) : Seg [lp3 T24, lp4 T24, lp5 T24, lp6 T24] (sv (.int 1) (.int 0) d6 (rowD x_p 1) (rowD x_q 0) d9) (sv (.int 1) (.int 0) d6 (rowD x_p 1) (rowD x_q 0) d9) := by intro X Y; kernel_rfl
theorem cB_1_1 (d6 d9 : D) : Seg [lp3 T24, lp4 T24, lp5 T24, lp6 T24] (sv (.int 1) (.int 1) d6 (rowD x_p 1) (rowD x_q 1) d9) (sv (.int 1) (.int 1) d6 (rowD x_p 1) (rowD x_q 1) d9) := by intro X Y; kernel_rfl
theorem cB_1_2 (d6 d9 : D) : Seg [lp3 T24, lp4 T24, lp5 T24, lp6 T24] (sv (.int 1) (.int 2) d6 (rowD x_p 1) (rowD x_q 2) d9) (sv (.int 1) (.int 2) d6 (rowD x_p 1) (rowD x_q 2) d9) := by intro X Y; kernel_rfl
theorem cB_1_3 (d6 d9 : D) : Seg [lp3 T24, lp4 T24, lp5 T24, lp6 T24] (sv (.int 1) (.int 3) d6 (rowD x_p 1) (rowD x_q 3) d9) (sv (.int 1) (.int 3) d6 (rowD x_p 1) (rowD x_q 3) d9) := by intro X Y; kernel_rfl
theorem cB_2_0 (d6 d9 : D) : Seg [lp3 T24, lp4 T24, lp5 T24, lp6 T24] (sv (.int 2) (.int 0) d6 (rowD x_p 2) (rowD x_q 0) d9) (sv (.int 2) (.int 0) d6 (rowD x_p 2) (rowD x_q 0) d9) := by intro X Y; kernel_rfl
theorem cB_2_1 (d6 d9 : D) : Seg [lp3 T24, lp4 T24, lp5 T24, lp6 T24] (sv (.int 2) (.int 1) d6 (rowD x_p 2) (rowD x_q 1) d9) (sv (.int 2) (.int 1) d6 (rowD x_p 2) (rowD x_q 1) d9) := by intro X Y; kernel_rfl
theorem cB_2_2 (d6 d9 : D) : Seg [lp3 T24, lp4 T24, lp5 T24, lp6 T24] (sv (.int 2) (.int 2) d6 (rowD x_p 2) (rowD x_q 2) d9) (sv (.int 2) (.int 2) d6 (rowD x_p 2) (rowD x_q 2) d9) := by intro X Y; kernel_rfl
theorem cB_2_3 (d6 d9 : D) : Seg [lp3 T24, lp4 T24, lp5 T24, lp6 T24] (sv (.int 2) (.int 3) d6 (rowD x_p 2) (rowD x_q 3) d9) (sv (.int 2) (.int 3) d6 (rowD x_p 2) (rowD x_q 3) d9) := by intro X Y; kernel_rfl
theorem cB_3_0 (d6 d9 : D) : Seg [lp3 T24, lp4 T24, lp5 T24, lp6 T24] (sv (.int 3) (.int 0) d6 (rowD x_p 3) (rowD x_q 0) d9) (sv (.int 3) (.int 0) d6 (rowD x_p 3) (rowD x_q 0) d9) := by intro X Y; kernel_rfl
theorem cB_3_1 (d6 d9 : D) : Seg [lp3 T24, lp4 T24, lp5 T24, lp6 T24] (sv (.int 3) (.int 1) d6 (rowD x_p 3) (rowD x_q 1) d9) (sv (.int 3) (.int 1) d6 (rowD x_p 3) (rowD x_q 1) d9) := by intro X Y; kernel_rfl
theorem cB_3_2 (d6 d9 : D) : Seg [lp3 T24, lp4 T24, lp5 T24, lp6 T24] (sv (.int 3) (.int 2) d6 (rowD x_p 3) (rowD x_q 2) d9) (sv (.int 3) (.int 2) d6 (rowD x_p 3) (rowD x_q 2) d9) := by intro X Y; kernel_rfl
theorem cB_3_3 (d6 d9 : D) : Seg [lp3 T24, lp4 T24, lp5 T24, lp6 T24] (sv (.int 3) (.int 3) d6 (rowD x_p 3) (rowD x_q 3) d9) (sv (.int 3) (.int 3) d6 (rowD x_p 3) (rowD x_q 3) d9) := by intro X Y; kernel_rfl
end K68
set_option Elab.async false
set_option linter.all false
set_option maxRecDepth 1000000
set_option maxHeartbeats 4000000
namespace K68
open PySem Gw
theorem cC_0_0_0 : Seg [lp7 T24, lp8 T24] (mnk 0 0 0) (mnk 0 0 0) := by intro X Y; kernel_rfl
theorem cC_0_0_1 : Seg [lp7 T24, lp8 T24] (mnk 0 0 1) (mnk 0 0 1) := by intro X Y; kernel_rfl
theorem cC_0_0_2 : Seg [lp7 T24, lp8 T24] (mnk 0 0 2) (mnk 0 0 2) := by intro X Y; kernel_rfl
theorem cC_0_1_0 : Seg [lp7 T24, lp8 T24] (mnk 0 1 0) (mnk 0 1 0) := by intro X Y; kernel_rfl
theorem cC_0_1_1 : Seg [lp7 T24, lp8 T24] (mnk 0 1 1) (mnk 0 1 1) := by intro X Y; kernel_rfl
theorem cC_0_1_2 : Seg [lp7 T24, lp8 T24] (mnk 0 1 2) (mnk 0 1 2) := by intro X Y; kernel_rfl
theorem cC_0_2_0 : Seg [lp7 T24, lp8 T24] (mnk 0 2 0) (mnk 0 2 0) := by intro X Y; kernel_rfl
theorem cC_0_2_1 : Seg [lp7 T24, lp8 T24] (mnk 0 2 1) (mnk 0 2 1) := by intro X Y; kernel_rfl
theorem cC_0_2_2 : Seg [lp7 T24, lp8 T24] (mnk 0 2 2) (mnk 0 2 2) := by intro X Y; kernel_rfl
theorem cC_0_3_0 : Seg [lp7 T24, lp8 T24] (mnk 0 3 0) (mnk 0 3 0) := by intro X Y; kernel_rfl
theorem cC_0_3_1 : Seg [lp7 T24, lp8 T24] (mnk 0 3 1) (mnk 0 3 1) := by intro X Y; kernel_rfl
theorem cC_0_3_2 : Seg [lp7 T24, lp8 T24] (mnk 0 3 2) (mnk 0 3 2) := by intro X Y; kernel_rfl
end K68
set_option Elab.async false
set_option linter.all false
set_option maxRecDepth 1000000
set_option maxHeartbeats 4000000
namespace K68
open PySem Gw
theorem cC_1_0_0 : Seg [lp7 T24, lp8 T24] (mnk 1 0 0) (mnk 1 0 0) := by intro X Y; kernel_rfl
theorem cC_1_0_1 : Seg [lp7 T24, lp8 T24] (mnk 1 0 1) (mnk 1 0 1) := by intro X Y; kernel_rfl
theorem cC_1_0_2 : Seg [lp7 T24, lp8 T24] (mnk 1 0 2) (mnk 1 0 2) := by intro X Y; kernel_rfl
theorem cC_1_1_0 : Seg [lp7 T24, lp8 T24] (mnk 1 1 0) (mnk 1 1 0) := by intro X Y; kernel_rfl
theorem cC_1_1_1 : Seg [lp7 T24, lp8 T24] (mnk 1 1 1) (mnk 1 1 1) := by intro X Y; kernel_rfl
theorem cC_1_1_2 : Seg [lp7 T24, lp8 T24] (mnk 1 1 2) (mnk 1 1 2) := by intro X Y; kernel_rfl
theorem cC_1_2_0 : Seg [lp7 T24, lp8 T24] (mnk 1 2 0) (mnk 1 2 0) := by intro X Y; kernel_rfl
theorem cC_1_2_1 : Seg [lp7 T24, lp8 T24] (mnk 1 2 1) (mnk 1 2 1) := by intro X Y; kernel_rfl
theorem cC_1_2_2 : Seg [lp7 T24, lp8 T24] (mnk 1 2 2) (mnk 1 2 2) := by intro X Y; kernel_rfl
theorem cC_1_3_0 : Seg [lp7 T24, lp8 T24] (mnk 1 3 0) (mnk 1 3 0) := by intro X Y; kernel_rfl
theorem cC_1_3_1 : Seg [lp7 T24, lp8 T24] (mnk 1 3 1) (mnk 1 3 1) := by intro X Y; kernel_rfl
theorem cC_1_3_2 : Seg [lp7 T24, lp8 T24] (mnk 1 3 2) (mnk 1 3 2) := by intro X Y; kernel_rfl
end K68
set_option Elab.async false
set_option linter.all false
set_option maxRecDepth 1000000
set_option maxHeartbeats 4000000
namespace K68
open PySem Gw
theorem cC_2_0_0 : Seg [lp7 T24, lp8 T24] (mnk 2 0 0) (mnk 2 0 0) := by intro X Y; kernel_rfl
theorem cC_2_0_1 : Seg [lp7 T24, lp8 T24] (mnk 2 0 1) (mnk 2 0 1) := by intro X Y; kernel_rfl
theorem cC_2_0_2 : Seg [lp7 T24, lp8 T24] (mnk 2 0 2) (mnk 2 0 2) := by intro X Y; kernel_rfl
theorem cC_2_1_0 : Seg [lp7 T24, lp8 T24] (mnk 2 1 0) (mnk 2 1 0) := by intro X Y; kernel_rfl
theorem cC_2_1_1 : Seg [lp7 T24, lp8 T24] (mnk 2 1 1) (mnk 2 1 1) := by intro X Y; kernel_rfl
theorem cC_2_1_2 : Seg [lp7 T24, lp8 T24] (mnk 2 1 2) (mnk 2 1 2) := by intro X Y; kernel_rfl
theorem cC_2_2_0 : Seg [lp7 T24, lp8 T24] (mnk 2 2 0) (mnk 2 2 0) := by intro X Y; kernel_rfl
theorem cC_2_2_1 : Seg [lp7 T24, lp8 T24] (mnk 2 2 1) (mnk 2 2 1) := by intro X Y; kernel_rfl
theorem cC_2_2_2 : Seg [lp7 T24, lp8 T24] (mnk 2 2 2) (mnk 2 2 2) := by intro X Y; kernel_rfl
theorem cC_2_3_0 : Seg [lp7 T24, lp8 T24] (mnk 2 3 0) (mnk 2 3 0) := by intro X Y; kernel_rfl
theorem cC_2_3_1 : Seg [lp7 T24, lp8 T24] (mnk 2 3 1) (mnk 2 3 1) := by intro X Y; kernel_rfl
theorem cC_2_3_2 : Seg [lp7 T24, lp8 T24] (mnk 2 3 2) (mnk 2 3 2) := by intro X Y; kernel_rfl
end K68
set_option Elab.async false
set_option linter.all false
set_option maxRecDepth 1000000
set_option maxHeartbeats 4000000
namespace K68
open PySem Gw
theorem cC_3_0_0 : Seg [lp7 T24, lp8 T24] (mnk 3 0 0) (mnk 3 0 0) := by intro X Y; kernel_rfl
theorem cC_3_0_1 : Seg [lp7 T24, lp8 T24] (mnk 3 0 1) (mnk 3 0 1) := by intro X Y; kernel_rfl
theorem cC_3_0_2 : Seg [lp7 T24, lp8 T24] (mnk 3 0 2) (mnk 3 0 2) := by intro X Y; kernel_rfl
theorem cC_3_1_0 : Seg [lp7 T24, lp8 T24] (mnk 3 1 0) (mnk 3 1 0) := by intro X Y; kernel_rfl
theorem cC_3_1_1 : Seg [lp7 T24, lp8 T24] (mnk 3 1 1) (mnk 3 1 1) := by intro X Y; kernel_rfl
theorem cC_3_1_2 : Seg [lp7 T24, lp8 T24] (mnk 3 1 2) (mnk 3 1 2) := by intro X Y; kernel_rfl
theorem cC_3_2_0 : Seg [lp7 T24, lp8 T24] (mnk 3 2 0) (mnk 3 2 0) := by intro X Y; kernel_rfl
theorem cC_3_2_1 : Seg [lp7 T24, lp8 T24] (mnk 3 2 1) (mnk 3 2 1) := by intro X Y; kernel_rfl
theorem cC_3_2_2 : Seg [lp7 T24, lp8 T24] (mnk 3 2 2) (mnk 3 2 2) := by intro X Y; kernel_rfl
theorem cC_3_3_0 : Seg [lp7 T24, lp8 T24] (mnk 3 3 0) (mnk 3 3 0) := by intro X Y; kernel_rfl
theorem cC_3_3_1 : Seg [lp7 T24, lp8 T24] (mnk 3 3 1) (mnk 3 3 1) := by intro X Y; kernel_rfl
theorem cC_3_3_2 : Seg [lp7 T24, lp8 T24] (mnk 3 3 2) (mnk 3 3 2) := by intro X Y; kernel_rfl
end K68
set_option Elab.async false
set_option linter.all false
set_option maxRecDepth 1000000
set_option maxHeartbeats 4000000
namespace K68
open PySem Gw
theorem cD_0 (d5 d6 d8 d9 : D) : Seg [lp9 T24, lp10 T24, lp11 T24] (sv (.int 0) d5 d6 (rowD x_p 0) d8 d9) (sv (.int 0) d5 d6 (rowD x_p 0) d8 d9) := by intro X Y; kernel_rfl
theorem cD_1 (d5 d6 d8 d9 : D) : Seg [lp9 T24, lp10 T24, lp11 T24] (sv (.int 1) d5 d6 (rowD x_p 1) d8 d9) (sv (.int 1) d5 d6 (rowD x_p 1) d8 d9) := by intro X Y; kernel_rfl
theorem cD_2 (d5 d6 d8 d9 : D) : Seg [lp9 T24, lp10 T24, lp11 T24] (sv (.int 2) d5 d6 (rowD x_p 2) d8 d9) (sv (.int 2) d5 d6 (rowD x_p 2) d8 d9) := by intro X Y; kernel_rfl
theorem cD_3 (d5 d6 d8 d9 : D) : Seg [lp9 T24, lp10 T24, lp11 T24] (sv (.int 3) d5 d6 (rowD x_p 3) d8 d9) (sv (.int 3) d5 d6 (rowD x_p 3) d8 d9) := by intro X Y; kernel_rfl
end K68
set_option Elab.async false
set_option linter.all false
set_option maxRecDepth 1000000
set_option maxHeartbeats 4000000
namespace K68
open PySem Gw
theorem cE_0_0_0 (d7 d8 d9 : D) : Seg [lp12 T24, lp13 T24, lp14 T24] (sv (.int 0) (.int 0) (.int 0) d7 d8 d9) (sv (.int 0) (.int 0) (.int 0) d7 d8 d9) := by intro X Y; kernel_rfl
theorem cE_0_0_1 (d7 d8 d9 : D) : Seg [lp12 T24, lp13 T24, lp14 T24] (sv (.int 0) (.int 0) (.int 1) d7 d8 d9) (sv (.int 0) (.int 0) (.int 1) d7 d8 d9) := by intro X Y; kernel_rfl
theorem cE_0_0_2 (d7 d8 d9 : D) : Seg [lp12 T24, lp13 T24, lp14 T24] (sv (.int 0) (.int 0) (.int 2) d7 d8 d9) (sv (.int 0) (.int 0) (.int 2) d7 d8 d9) := by intro X Y; kernel_rfl
theorem cE_0_1_0 (d7 d8 d9 : D) : Seg [lp12 T24, lp13 T24, lp14 T24] (sv (.int 0) (.int 1) (.int 0) d7 d8 d9) (sv (.int 0) (.int 1) (.int 0) d7 d8 d9) := by intro X Y; kernel_rfl
theorem cE_0_1_1 (d7 d8 d9 : D) : Seg [lp12 T24, lp13 T24, lp14 T24] (sv (.int 0) (.int 1) (.int 1) d7 d8 d9) (sv (.int 0) (.int 1) (.int 1) d7 d8 d9) := by intro X Y; kernel_rfl
theorem cE_0_1_2 (d7 d8 d9 : D) : Seg [lp12 T24, lp13 T24, lp14 T24] (sv (.int 0) (.int 1) (.int 2) d7 d8 d9) (sv (.int 0) (.int 1) (.int 2) d7 d8 d9) := by intro X Y; kernel_rfl
theorem cE_0_2_0 (d7 d8 d9 : D) : Seg [lp12 T24, lp13 T24, lp14 T24] (sv (.int 0) (.int 2) (.int 0) d7 d8 d9) (sv (.int 0) (.int 2) (.int 0) d7 d8 d9) := by intro X Y; kernel_rfl
theorem cE_0_2_1 (d7 d8 d9 : D) : Seg [lp12 T24, lp13 T24, lp14 T24] (sv (.int 0) (.int 2) (.int 1) d7 d8 d9) (sv (.int 0) (.int 2) (.int 1) d7 d8 d9) := by intro X Y; kernel_rfl
theorem cE_0_2_2 (d7 d8 d9 : D) : Seg [lp12 T24, lp13 T24, lp14 T24] (sv (.int 0) (.int 2) (.int 2) d7 d8 d9) (sv (.int 0) (.int 2) (.int 2) d7 d8 d9) := by intro X Y; kernel_rfl
theorem cE_0_3_0 (d7 d8 d9 : D) : Seg [lp12 T24, lp13 T24, lp14 T24] (sv (.int 0) (.int 3) (.int 0) d7 d8 d9) (sv (.int 0) (.int 3) (.int 0) d7 d8 d9) := by intro X Y; kernel_rfl
theorem cE_0_3_1 (d7 d8 d9 : D) : Seg [lp12 T24, lp13 T24, lp14 T24] (sv (.int 0) (.int 3) (.int 1) d7 d8 d9) (sv (.int 0) (.int 3) (.int 1) d7 d8 d9) := by intro X Y; kernel_rfl
theorem cE_0_3_2 (d7 d8 d9 : D) : Seg [lp12 T24, lp13 T24, lp14 T24] (sv (.int 0) (.int 3) (.int 2) d7 d8 d9) (sv (.int 0) (.int 3) (.int 2) d7 d8 d9) := by intro X Y; kernel_rfl
end K68
set_option Elab.async false
set_option linter.all false
set_option maxRecDepth 1000000
set_option maxHeartbeats 4000000
namespace K68
open PySem Gw
theorem cE_1_0_0 (d7 d8 d9 : D) : Seg [lp12 T24, lp13 T24, lp14 T24] (sv (.int 1) (.int 0) (.int 0) d7 d8 d9) (sv (.int 1) (.int 0) (.int 0) d7 d8 d9) := by intro X Y; kernel_rfl
theorem cE_1_0_1 (d7 d8 d9 : D) : Seg [lp12 T24, lp13 T24, lp14 T24] (sv (.int 1) (.int 0) (.int 1) d7 d8 d9) (sv (.int 1) (.int 0) (.int 1) d7 d8 d9) := by intro X Y; kernel_rfl
theorem cE_1_0_2 (d7 d8 d9 : D) : Seg [lp12 T24, lp13 T24, lp14 T24] (sv (.int 1) (.int 0) (.int 2) d7 d8 d9) (sv (.int 1) (.int 0) (.int 2) d7 d8 d9) := by intro X Y; kernel_rfl
theorem cE_1_1_0 (d7 d8 d9 : D) : Seg [lp12 T24, lp13 T24, lp14 T24] (sv (.int 1) (.int 1) (.int 0) d7 d8 d9) (sv (.int 1) (.int 1) (.int 0) d7 d8 d9) := by intro X Y; kernel_rfl
theorem cE_1_1_1 (d7 d8 d9 : D) : Seg [lp12 T24, lp13 T24, lp14 T24] (sv (.int 1) (.int 1) (.int 1) d7 d8 d9) (sv (.int 1) (.int 1) (.int 1) d7 d8 d9) := by intro X Y; kernel_rfl
theorem cE_1_1_2 (d7 d8 d9 : D) : Seg [lp12 T24, lp13 T24, lp14 T24] (sv (.int 1) (.int 1) (.int 2) d7 d8 d9) (sv (.int 1) (.int 1) (.int 2) d7 d8 d9) := by intro X Y; kernel_rfl
theorem cE_1_2_0 (d7 d8 d9 : D) : Seg [lp12 T24, lp13 T24, lp14 T24] (sv (.int 1) (.int 2) (.int 0) d7 d8 d9) (sv (.int 1) (.int 2) (.int 0) d7 d8 d9) := by intro X Y; kernel_rfl
theorem cE_1_2_1 (d7 d8 d9 : D) : Seg [lp12 T24, lp13 T24, lp14 T24] (sv (.int 1) (.int 2) (.int 1) d7 d8 d9) (sv (.int 1) (.int 2) (.int 1) d7 d8 d9) := by intro X Y; kernel_rfl
theorem cE_1_2_2 (d7 d8 d9 : D) : Seg [lp12 T24, lp13 T24, lp14 T24] (sv (.int 1) (.int 2) (.int 2) d7 d8 d9) (sv (.int 1) (.int 2) (.int 2) d7 d8 d9) := by intro X Y; kernel_rfl
theorem cE_1_3_0 (d7 d8 d9 : D) : Seg [lp12 T24, lp13 T24, lp14 T24] (sv (.int 1) (.int 3) (.int 0) d7 d8 d9) (sv (.int 1) (.int 3) (.int 0) d7 d8 d9) := by intro X Y; kernel_rfl
theorem cE_1_3_1 (d7 d8 d9 : D) : Seg [lp12 T24, lp13 T24, lp14 T24] (sv (.int 1) (.int 3) (.int 1) d7 d8 d9) (sv (.int 1) (.int 3) (.int 1) d7 d8 d9) := by intro X Y; kernel_rfl
theorem cE_1_3_2 (d7 d8 d9 : D) : Seg [lp12 T24, lp13 T24, lp14 T24] (sv (.int 1) (.int 3) (.int 2) d7 d8 d9) (sv (.int 1) (.int 3) (.int 2) d7 d8 d9) := by intro X Y; kernel_rfl
end K68
set_option Elab.async false
set_option linter.all false
set_option maxRecDepth 1000000
set_option maxHeartbeats 4000000
namespace K68
open PySem Gw
theorem cE_2_0_0 (d7 d8 d9 : D) : Seg [lp12 T24, lp13 T24, lp14 T24] (sv (.int 2) (.int 0) (.int 0) d7 d8 d9) (sv (.int 2) (.int 0) (.int 0) d7 d8 d9) := by intro X Y; kernel_rfl
theorem cE_2_0_1 (d7 d8 d9 : D) : Seg [lp12 T24, lp13 T24, lp14 T24] (sv (.int 2) (.int 0) (.int 1) d7 d8 d9) (sv (.int 2) (.int 0) (.int 1) d7 d8 d9) := by intro X Y; kernel_rfl
theorem cE_2_0_2 (d7 d8 d9 : D) : Seg [lp12 T24, lp13 T24, lp14 T24] (sv (.int 2) (.int 0) (.int 2) d7 d8 d9) (sv (.int 2) (.int 0) (.int 2) d7 d8 d9) := by intro X Y; kernel_rfl
theorem cE_2_1_0 (d7 d8 d9 : D) : Seg [lp12 T24, lp13 T24, lp14 T24] (sv (.int 2) (.int 1) (.int 0) d7 d8 d9) (sv (.int 2) (.int 1) (.int 0) d7 d8 d9) := by intro X Y; kernel_rfl
theorem cE_2_1_1 (d7 d8 d9 : D) : Seg [lp12 T24, lp13 T24, lp14 T24] (sv (.int 2) (.int 1) (.int 1) d7 d8 d9) (sv (.int 2) (.int 1) (.int 1) d7 d8 d9) := by intro X Y; kernel_rfl
theorem cE_2_1_2 (d7 d8 d9 : D) : Seg [lp12 T24, lp13 T24, lp14 T24] (sv (.int 2) (.int 1) (.int 2) d7 d8 d9) (sv (.int 2) (.int 1) (.int 2) d7 d8 d9) := by intro X Y; kernel_rfl
theorem cE_2_2_0 (d7 d8 d9 : D) : Seg [lp12 T24, lp13 T24, lp14 T24] (sv (.int 2) (.int 2) (.int 0) d7 d8 d9) (sv (.int 2) (.int 2) (.int 0) d7 d8 d9) := by intro X Y; kernel_rfl
theorem cE_2_2_1 (d7 d8 d9 : D) : Seg [lp12 T24, lp13 T24, lp14 T24] (sv (.int 2) (.int 2) (.int 1) d7 d8 d9) (sv (.int 2) (.int 2) (.int 1) d7 d8 d9) := by intro X Y; kernel_rfl
theorem cE_2_2_2 (d7 d8 d9 : D) : Seg [lp12 T24, lp13 T24, lp14 T24] (sv (.int 2) (.int 2) (.int 2) d7 d8 d9) (sv (.int 2) (.int 2) (.int 2) d7 d8 d9) := by intro X Y; kernel_rfl
theorem cE_2_3_0 (d7 d8 d9 : D) : Seg [lp12 T24, lp13 T24, lp14 T24] (sv (.int 2) (.int 3) (.int 0) d7 d8 d9) (sv (.int 2) (.int 3) (.int 0) d7 d8 d9) := by intro X Y; kernel_rfl
theorem cE_2_3_1 (d7 d8 d9 : D) : Seg [lp12 T24, lp13 T24, lp14 T24] (sv (.int 2) (.int 3) (.int 1) d7 d8 d9) (sv (.int 2) (.int 3) (.int 1) d7 d8 d9) := by intro X Y; kernel_rfl
theorem cE_2_3_2 (d7 d8 d9 : D) : Seg [lp12 T24, lp13 T24, lp14 T24] (sv (.int 2) (.int 3) (.int 2) d7 d8 d9) (sv (.int 2) (.int 3) (.int 2) d7 d8 d9) := by intro X Y; kernel_rfl
end K68
set_option Elab.async false
set_option linter.all false
set_option maxRecDepth 1000000
set_option maxHeartbeats 4000000
namespace K68
open PySem Gw
theorem cE_3_0_0 (d7 d8 d9 : D) : Seg [lp12 T24, lp13 T24, lp14 T24] (sv (.int 3) (.int 0) (.int 0) d7 d8 d9) (sv (.int 3) (.int 0) (.int 0) d7 d8 d9) := by intro X Y; kernel_rfl
theorem cE_3_0_1 (d7 d8 d9 : D) : Seg [lp12 T24, lp13 T24, lp14 T24] (sv (.int 3) (.int 0) (.int 1) d7 d8 d9) (sv (.int 3) (.int 0) (.int 1) d7 d8 d9) := by intro X Y; kernel_rfl
theorem cE_3_0_2 (d7 d8 d9 : D) : Seg [lp12 T24, lp13 T24, lp14 T24] (sv (.int 3) (.int 0) (.int 2) d7 d8 d9) (sv (.int 3) (.int 0) (.int 2) d7 d8 d9) := by intro X Y; kernel_rfl
theorem cE_3_1_0 (d7 d8 d9 : D) : Seg [lp12 T24, lp13 T24, lp14 T24] (sv (.int 3) (.int 1) (.int 0) d7 d8 d9) (sv (.int 3) (.int 1) (.int 0) d7 d8 d9) := by intro X Y; kernel_rfl
theorem cE_3_1_1 (d7 d8 d9 : D) : Seg [lp12 T24, lp13 T24, lp14 T24] (sv (.int 3) (.int 1) (.int 1) d7 d8 d9) (sv (.int 3) (.int 1) (.int 1) d7 d8 d9) := by intro X Y; kernel_rfl
theorem cE_3_1_2 (d7 d8 d9 : D) : Seg [lp12 T24, lp13 T24, lp14 T24] (sv (.int 3) (.int 1) (.int 2) d7 d8 d9) (sv (.int 3) (.int 1) (.int 2) d7 d8 d9) := by intro X Y; kernel_rfl
theorem cE_3_2_0 (d7 d8 d9 : D) : Seg [lp12 T24, lp13 T24, lp14 T24] (sv (.int 3) (.int 2) (.int 0) d7 d8 d9) (sv (.int 3) (.int 2) (.int 0) d7 d8 d9) := by intro X Y; kernel_rfl
theorem cE_3_2_1 (d7 d8 d9 : D) : Seg [lp12 T24, lp13 T24, lp14 T24] (sv (.int 3) (.int 2) (.int 1) d7 d8 d9) (sv (.int 3) (.int 2) (.int 1) d7 d8 d9) := by intro X Y; kernel_rfl
theorem cE_3_2_2 (d7 d8 d9 : D) : Seg [lp12 T24, lp13 T24, lp14 T24] (sv (.int 3) (.int 2) (.int 2) d7 d8 d9) (sv (.int 3) (.int 2) (.int 2) d7 d8 d9) := by intro X Y; kernel_rfl
theorem cE_3_3_0 (d7 d8 d9 : D) : Seg [lp12 T24, lp13 T24, lp14 T24] (sv (.int 3) (.int 3) (.int 0) d7 d8 d9) (sv (.int 3) (.int 3) (.int 0) d7 d8 d9) := by intro X Y; kernel_rfl
theorem cE_3_3_1 (d7 d8 d9 : D) : Seg [lp12 T24, lp13 T24, lp14 T24] (sv (.int 3) (.int 3) (.int 1) d7 d8 d9) (sv (.int 3) (.int 3) (.int 1) d7 d8 d9) := by intro X Y; kernel_rfl
theorem cE_3_3_2 (d7 d8 d9 : D) : Seg [lp12 T24, lp13 T24, lp14 T24] (sv (.int 3) (.int 3) (.int 2) d7 d8 d9) (sv (.int 3) (.int 3) (.int 2) d7 d8 d9) := by intro X Y; kernel_rfl
end K68
set_option Elab.async false
set_option linter.all false
set_option maxRecDepth 1000000
set_option maxHeartbeats 4000000
/-! k68: one turn of the law. -/
namespace K68
open PySem Gw L2
theorem four {p : Nat → Prop} (h0 : p 0) (h1 : p 1) (h2 : p 2) (h3 : p 3) : ∀ m, m < 4 → p m
  | 0, _ => h0 | 1, _ => h1 | 2, _ => h2 | 3, _ => h3
  | m + 4, h => absurd h (by omega)
theorem three {p : Nat → Prop} (h0 : p 0) (h1 : p 1) (h2 : p 2) : ∀ m, m < 3 → p m
  | 0, _ => h0 | 1, _ => h1 | 2, _ => h2
  | m + 3, h => absurd h (by omega)
abbrev PA (m n k : Nat) : Prop := Seg [lp2 T24] (sv3 (.int m) (.int n) (.int k)) (mnk m n k)
abbrev PB (m n : Nat) : Prop := ∀ d6 d9, Seg [lp3 T24, lp4 T24, lp5 T24, lp6 T24] (sv (.int m) (.int n) d6 (rowD x_p m) (rowD x_q n) d9) (sv (.int m) (.int n) d6 (rowD x_p m) (rowD x_q n) d9)
abbrev PC (m n k : Nat) : Prop := Seg [lp7 T24, lp8 T24] (mnk m n k) (mnk m n k)
abbrev PD (m : Nat) : Prop := ∀ d5 d6 d8 d9, Seg [lp9 T24, lp10 T24, lp11 T24] (sv (.int m) d5 d6 (rowD x_p m) d8 d9) (sv (.int m) d5 d6 (rowD x_p m) d8 d9)
abbrev PE (m n k : Nat) : Prop := ∀ d7 d8 d9, Seg [lp12 T24, lp13 T24, lp14 T24] (sv (.int m) (.int n) (.int k) d7 d8 d9) (sv (.int m) (.int n) (.int k) d7 d8 d9)
theorem allPA : ∀ m, m < 4 → ∀ n, n < 4 → ∀ k, k < 3 → PA m n k := four (p := fun m => ∀ n, n < 4 → ∀ k, k < 3 → PA m n k) (four (p := fun n => ∀ k, k < 3 → PA 0 n k) (three (p := fun k => PA 0 0 k) cA_0_0_0 cA_0_0_1 cA_0_0_2) (three (p := fun k => PA 0 1 k) cA_0_1_0 cA_0_1_1 cA_0_1_2) (three (p := fun k => PA 0 2 k) cA_0_2_0 cA_0_2_1 cA_0_2_2) (three (p := fun k => PA 0 3 k) cA_0_3_0 cA_0_3_1 cA_0_3_2)) (four (p := fun n => ∀ k, k < 3 → PA 1 n k) (three (p := fun k => PA 1 0 k) cA_1_0_0 cA_1_0_1 cA_1_0_2) (three (p := fun k => PA 1 1 k) cA_1_1_0 cA_1_1_1 cA_1_1_2) (three (p := fun k => PA 1 2 k) cA_1_2_0 cA_1_2_1 cA_1_2_2) (three (p := fun k => PA 1 3 k) cA_1_3_0 cA_1_3_1 cA_1_3_2)) (four (p := fun n => ∀ k, k < 3 → PA 2 n k) (three (p := fun k => PA 2 0 k) cA_2_0_0 cA_2_0_1 cA_2_0_2) (three (p := fun k => PA 2 1 k) cA_2_1_0 cA_2_1_1 cA_2_1_2) (three (p := fun k => PA 2 2 k) cA_2_2_0 cA_2_2_1 cA_2_2_2) (three (p := fun k => PA 2 3 k) cA_2_3_0 cA_2_3_1 cA_2_3_2)) (four (p := fun n => ∀ k, k < 3 → PA 3 n k) (three (p := fun k => PA 3 0 k) cA_3_0_0 cA_3_0_1 cA_3_0_2) (three (p := fun k => PA 3 1 k) cA_3_1_0 cA_3_1_1 cA_3_1_2) (three (p := fun k => PA 3 2 k) cA_3_2_0 cA_3_2_1 cA_3_2_2) (three (p := fun k => PA 3 3 k) cA_3_3_0 cA_3_3_1 cA_3_3_2))
theorem allPC : ∀ m, m < 4 → ∀ n, n < 4 → ∀ k, k < 3 → PC m n k := four (p := fun m => ∀ n, n < 4 → ∀ k, k < 3 → PC m n k) (four (p := fun n => ∀ k, k < 3 → PC 0 n k) (three (p := fun k => PC 0 0 k) cC_0_0_0 cC_0_0_1 cC_0_0_2) (three (p := fun k => PC 0 1 k) cC_0_1_0 cC_0_1_1 cC_0_1_2) (three (p := fun k => PC 0 2 k) cC_0_2_0 cC_0_2_1 cC_0_2_2) (three (p := fun k => PC 0 3 k) cC_0_3_0 cC_0_3_1 cC_0_3_2)) (four (p := fun n => ∀ k, k < 3 → PC 1 n k) (three (p := fun k => PC 1 0 k) cC_1_0_0 cC_1_0_1 cC_1_0_2) (three (p := fun k => PC 1 1 k) cC_1_1_0 cC_1_1_1 cC_1_1_2) (three (p := fun k => PC 1 2 k) cC_1_2_0 cC_1_2_1 cC_1_2_2) (three (p := fun k => PC 1 3 k) cC_1_3_0 cC_1_3_1 cC_1_3_2)) (four (p := fun n => ∀ k, k < 3 → PC 2 n k) (three (p := fun k => PC 2 0 k) cC_2_0_0 cC_2_0_1 cC_2_0_2) (three (p := fun k => PC 2 1 k) cC_2_1_0 cC_2_1_1 cC_2_1_2) (three (p := fun k => PC 2 2 k) cC_2_2_0 cC_2_2_1 cC_2_2_2) (three (p := fun k => PC 2 3 k) cC_2_3_0 cC_2_3_1 cC_2_3_2)) (four (p := fun n => ∀ k, k < 3 → PC 3 n k) (three (p := fun k => PC 3 0 k) cC_3_0_0 cC_3_0_1 cC_3_0_2) (three (p := fun k => PC 3 1 k) cC_3_1_0 cC_3_1_1 cC_3_1_2) (three (p := fun k => PC 3 2 k) cC_3_2_0 cC_3_2_1 cC_3_2_2) (three (p := fun k => PC 3 3 k) cC_3_3_0 cC_3_3_1 cC_3_3_2))
theorem allPE : ∀ m, m < 4 → ∀ n, n < 4 → ∀ k, k < 3 → PE m n k := four (p := fun m => ∀ n, n < 4 → ∀ k, k < 3 → PE m n k) (four (p := fun n => ∀ k, k < 3 → PE 0 n k) (three (p := fun k => PE 0 0 k) cE_0_0_0 cE_0_0_1 cE_0_0_2) (three (p := fun k => PE 0 1 k) cE_0_1_0 cE_0_1_1 cE_0_1_2) (three (p := fun k => PE 0 2 k) cE_0_2_0 cE_0_2_1 cE_0_2_2) (three (p := fun k => PE 0 3 k) cE_0_3_0 cE_0_3_1 cE_0_3_2)) (four (p := fun n => ∀ k, k < 3 → PE 1 n k) (three (p := fun k => PE 1 0 k) cE_1_0_0 cE_1_0_1 cE_1_0_2) (three (p := fun k => PE 1 1 k) cE_1_1_0 cE_1_1_1 cE_1_1_2) (three (p := fun k => PE 1 2 k) cE_1_2_0 cE_1_2_1 cE_1_2_2) (three (p := fun k => PE 1 3 k) cE_1_3_0 cE_1_3_1 cE_1_3_2)) (four (p := fun n => ∀ k, k < 3 → PE 2 n k) (three (p := fun k => PE 2 0 k) cE_2_0_0 cE_2_0_1 cE_2_0_2) (three (p := fun k => PE 2 1 k) cE_2_1_0 cE_2_1_1 cE_2_1_2) (three (p := fun k => PE 2 2 k) cE_2_2_0 cE_2_2_1 cE_2_2_2) (three (p := fun k => PE 2 3 k) cE_2_3_0 cE_2_3_1 cE_2_3_2)) (four (p := fun n => ∀ k, k < 3 → PE 3 n k) (three (p := fun k => PE 3 0 k) cE_3_0_0 cE_3_0_1 cE_3_0_2) (three (p := fun k => PE 3 1 k) cE_3_1_0 cE_3_1_1 cE_3_1_2) (three (p := fun k => PE 3 2 k) cE_3_2_0 cE_3_2_1 cE_3_2_2) (three (p := fun k => PE 3 3 k) cE_3_3_0 cE_3_3_1 cE_3_3_2))
theorem allPB : ∀ m, m < 4 → ∀ n, n < 4 → PB m n := four (p := fun m => ∀ n, n < 4 → PB m n) (four (p := fun n => PB 0 n) cB_0_0 cB_0_1 cB_0_2 cB_0_3) (four (p := fun n => PB 1 n) cB_1_0 cB_1_1 cB_1_2 cB_1_3) (four (p := fun n => PB 2 n) cB_2_0 cB_2_1 cB_2_2 cB_2_3) (four (p := fun n => PB 3 n) cB_3_0 cB_3_1 cB_3_2 cB_3_3)
theorem allPD : ∀ m, m < 4 → PD m := four (p := PD) cD_0 cD_1 cD_2 cD_3
theorem fin_get {k : Nat} {o : Option (AEnv × Ah)} {l : List (Option D)} {m : Nat} {g0 g1 g2 : Option AO} (e : fin k o = some (l, m, g0, g1, g2)) : ∃ sb h1, o = some (sb, h1) ∧ sb.take k = l ∧ sb.length = m ∧ h1.get 0 = g0 ∧ h1.get 1 = g1 ∧ h1.get 2 = g2 := by
  unfold fin at e
  split at e
  · rename_i sa h
    cases e
    exact ⟨sa, h, rfl, rfl, rfl, rfl, rfl, rfl⟩
  · cases e
theorem row_lt (x : Str) : ∀ n, dLt 3 (rowD x n) = true
  | 0 => rfl
  | 1 => rfl
  | n + 2 => by
    show dLt 3 (.tup [.str x_then, stepD x, rowD x (n + 1)]) = true
    simp only [dLt, dsLt, row_lt x (n + 1), stepD, Bool.and_true]
section
variable {K : PySem.W.Frag} {cls : Cl}
theorem scene_lt : aoLt 3 sceneO = true := by decide +kernel
/-- a piece, from the env at hand -/
theorem seg_run {rest : TS} {Dn : Ends} {l : List S} {ρ : List Addr} {sa sb : AEnv} {σ : L2.St} {H : Hp} {ns : List Int} {a b c : Int} (R : RelH K cls ρ (hp3 (scr ns) (drw a b c) sceneO) H) (r : RelS K ρ H sa σ) (hs : Seg l sa sb) (hl : sb.length = 17) (hsub : Sub 3 sb (sb.take 10))
    (k : ∀ ρ' σ' H', RelH K cls ρ' (hp3 (scr ns) (drw a b c) sceneO) H' → RelS K ρ' H' sb σ' → rest Dn σ' H') : chain K cls l rest Dn σ H := by
  obtain ⟨sc, h1, e, e1, e2, g0, g1, g2⟩ := fin_get (hs _ _)
  exact chain_run l R r e fun ρ1 σ1 H1 x1 k1 R1 r1 => k (ρ1.take 3) σ1 H1 (cut3 R1 g0 g1 g2 scene_lt) (r1.sub e1 (by rw [hl, e2]) hsub)
theorem sub_sv {d4 d5 d6 d7 d8 d9 : D} (h4 : dLt 3 d4 = true) (h5 : dLt 3 d5 = true) (h6 : dLt 3 d6 = true) (h7 : dLt 3 d7 = true) (h8 : dLt 3 d8 = true) (h9 : dLt 3 d9 = true) : Sub 3 (sv d4 d5 d6 d7 d8 d9) ((sv d4 d5 d6 d7 d8 d9).take 10) :=
  .skip (.cons rfl (.skip (.cons rfl (.cons h4 (.cons h5 (.cons h6 (.cons h7 (.cons h8 (.cons h9 (.none0 (.none0 (.none0 (.none0 (.none0 (.none0 (.none0 .nil))))))))))))))))
/-- the draws of a turn -/
theorem lp1_run {ns : List Int} {a b c : Int} (ha : 0 ≤ a) : ∃ (m n k : Nat) (a' b' c' : Int), m < 4 ∧ n < 4 ∧ k < 3 ∧ 0 ≤ a' ∧
    runNx [lp1 T24] [none, some (.obj 1), none, some (.obj 2), none, none, none, none, none, none, none, none, none, none, none, none, none] (hp3 (scr ns) (drw a b c) sceneO) = some (sv3 (.int m) (.int n) (.int k), hp3 (scr ns) (drw a' b' c') sceneO) := by
  have nat : ∀ {v lim : Int}, 0 ≤ v → v < lim → ∃ m : Nat, v = (m : Int) ∧ (m : Int) < lim := fun {v lim} h1 h2 => ⟨v.toNat, by omega, by omega⟩
  obtain ⟨v1, a1, b1, c1, e1, l1, u1, ha1⟩ := draw_def (lim := 4) (b := b) (c := c) (dh3 ns sceneO) ha (by decide) (by decide)
  obtain ⟨v2, a2, b2, c2, e2, l2, u2, ha2⟩ := draw_def (lim := 4) (b := b1) (c := c1) (dh3 ns sceneO) ha1 (by decide) (by decide)
  obtain ⟨v3, a3, b3, c3, e3, l3, u3, ha3⟩ := draw_def (lim := 3) (b := b2) (c := c2) (dh3 ns sceneO) ha2 (by decide) (by decide)
  obtain ⟨m, rfl, hm⟩ := nat l1 u1
  obtain ⟨n, rfl, hn⟩ := nat l2 u2
  obtain ⟨k, rfl, hk⟩ := nat l3 u3
  refine ⟨m, n, k, a3, b3, c3, by omega, by omega, by omega, ha3, ?_⟩
  have hf : T24.f_law_draw = defF 2 4 drawS := rfl
  have step : ∀ (lim v : Int) (h h1 : Ah), defF 2 4 drawS [.obj 1, .int lim] h = some (.int v, h1) → eApp T24.f_law_draw (aCons (eVar 1) (aCons (eC (.int lim)) aNil)) [none, some (.obj 1), none, some (.obj 2), none, none, none, none, none, none, none, none, none, none, none, none, none] h = some (.int v, h1) := fun lim v h h1 e => by
    rw [hf]; exact e
  have s1 := step 4 _ _ _ e1
  have s2 := step 4 _ _ _ e2
  have s3 := step 3 _ _ _ e3
  unfold runNx lp1 sAsg eTup
  simp only [aCons, s1, s2, s3, Option.bind_some]
  rfl
end
end K68
set_option Elab.async false
set_option linter.all false
set_option maxRecDepth 1000000
set_option maxHeartbeats 4000000
/-! k68: the loop's body. -/
namespace K68
open PySem Gw L2
section
variable {K : PySem.W.Frag} {cls : Cl}
def bodyT (K : PySem.W.Frag) (cls : Cl) (t : Tbl) : TS := chain K cls [lp0 t] (chain K cls [lp1 t] (chain K cls [lp2 t] (chain K cls [lp3 t, lp4 t, lp5 t, lp6 t] (chain K cls [lp7 t, lp8 t] (chain K cls [lp9 t, lp10 t, lp11 t] (chain K cls [lp12 t, lp13 t] (semS K cls (lp14 t))))))))
theorem sub_sv3 {d4 d5 d6 : D} (h4 : dLt 3 d4 = true) (h5 : dLt 3 d5 = true) (h6 : dLt 3 d6 = true) : Sub 3 (sv3 d4 d5 d6) ((sv3 d4 d5 d6).take 17) :=
  .skip (.cons rfl (.skip (.cons rfl (.cons h4 (.cons h5 (.cons h6 (.skip (.skip (.skip (.skip (.skip (.skip (.skip (.skip (.skip (.skip .nil))))))))))))))))
theorem turn_run {Dn : Ends} {ρ : List Addr} {σ : L2.St} {H : Hp} {ns : List Int} {a b c : Int} {d : Option D} (R : RelH K cls ρ (hp2 (scr ns) (drw a b c)) H) (ha : 0 ≤ a) (r : RelS K ρ H (sv1.set 2 d) σ)
    (k : ∀ ρ' σ' H' a' b' c', 0 ≤ a' → RelH K cls ρ' (hp2 (scr ns) (drw a' b' c')) H' → RelS K ρ' H' sv1 σ' → Dn.nx σ' H') : bodyT K cls T24 Dn σ H := by
  -- the scene
  obtain ⟨sc, h1, e, e1, e2, g0, g1, g2⟩ := fin_get (c0 (scr ns) (drw a b c) d)
  refine chain_run [lp0 T24] R r e fun ρ1 σ1 H1 _ _ R1 r1 => ?_
  have R1' := cut3 R1 g0 g1 g2 scene_lt
  have r1' : RelS K (ρ1.take 3) H1 [none, some (.obj 1), none, some (.obj 2), none, none, none, none, none, none, none, none, none, none, none, none, none] σ1 := r1.sub e1 (by rw [e2]; rfl)
    (.skip (.cons rfl (.skip (.cons rfl (.none0 (.none0 (.none0 (.none0 (.none0 (.none0 (.none0 (.none0 (.none0 (.none0 (.none0 (.none0 (.none0 .nil)))))))))))))))))
  -- the draws
  obtain ⟨m, n, kk, a', b', c', hm, hn, hk, ha', ev⟩ := lp1_run (ns := ns) (b := b) (c := c) ha
  refine chain_run [lp1 T24] R1' r1' ev fun ρ2 σ2 H2 _ _ R2 r2 => ?_
  -- the programs
  have hsv : Sub 3 (mnk m n kk) ((mnk m n kk).take 10) := sub_sv rfl rfl rfl (row_lt _ _) (row_lt _ _) (row_lt _ _)
  refine seg_run R2 r2 (allPA m hm n hn kk hk) rfl hsv fun ρ3 σ3 H3 R3 r3 => ?_
  refine seg_run R3 r3 (allPB m hm n hn _ _) rfl hsv fun ρ4 σ4 H4 R4 r4 => ?_
  refine seg_run R4 r4 (allPC m hm n hn kk hk) rfl hsv fun ρ5 σ5 H5 R5 r5 => ?_
  refine seg_run R5 r5 (allPD m hm _ _ _ _) rfl hsv fun ρ6 σ6 H6 R6 r6 => ?_
  obtain ⟨sc7, h7, e7, e71, e72, g70, g71, g72⟩ := fin_get (allPE m hm n hn kk hk (rowD x_p m) (rowD x_q n) (rowD x_r kk) (scr ns) (drw a' b' c'))
  refine chain_last [lp12 T24, lp13 T24] R6 r6 e7 fun ρ7 σ7 H7 _ _ R7 r7 => ?_
  exact k (ρ7.take 2) σ7 H7 a' b' c' ha' (cut2 R7 g70 g71) (r7.sub e71 (by rw [e72]; rfl)
    (.skip (.cons rfl (.skip (.skip (.skip (.skip (.skip (.skip (.skip (.skip (.none0 (.none0 (.none0 (.none0 (.none0 (.none0 (.none0 .nil))))))))))))))))))
end
end K68
set_option Elab.async false
set_option linter.all false
set_option maxRecDepth 100000
set_option maxHeartbeats 4000000
/-! k68: the law's helpers. -/
namespace K68
open PySem PyProof.Rows Gw L2
section
variable {P : Program} {w : World} {K : PySem.W.Frag} {mg : Str → Option Value} {base : Heap} {cls : Cl}
abbrev st_draws : Stmt := top 59
theorem sc_draws : FnScope ["script"] ["script"] (defScope st_draws) := C8.fnScope_by (by decide +kernel)
theorem ok_draws {f : Addr} {fd : FuncData} (F : L2.Fun K "_law_draws" "_law_draws" st_draws f fd) (hm : mg "list" = none) : FnG P w K mg base 1 f (spDraws K cls) := by
  refine fnG_any (ps := ["script"]) F sc_draws (fun _ _ _ _ _ _ us hl => match us, hl with | [_], _ => rfl) (fun vs H Q E ⟨a, ns, e, _⟩ => by subst e; rfl) fun cdv A outer s H vs Q E E' hr ⟨a, ns, e, hS, k⟩ => ?_
  subst e
  refine ⟨_, pss_one (ps_ret (pe_lst (pa_cons (pe_callTy call_list_of (by rfl) hm (by rfl) (pa_cons (pv 0) pa_nil)) (pa_cons pe_int (pa_cons pe_int (pa_cons pe_int pa_nil)))))), ?_⟩
  exact ⟨_, rfl, a, _, rfl, .inl hS, fun p1 h1 => ⟨(by show 4 ≤ sizeLine; decide), fun p2 h2 => k p1 p2 _ (rel_draws (ne_of_none upd_same h2) (by rw [upd_ne (ne_of_none upd_same h2)]; exact upd_same) upd_same)⟩⟩
end
end K68
set_option Elab.async false
set_option linter.all false
set_option maxRecDepth 100000
set_option maxHeartbeats 4000000
/-! k68: the law's def (printed by gen3.py). -/
namespace K68
open PySem PyProof.Rows Gw L2
section
variable {P : Program} {w : World} {K : PySem.W.Frag} {mg : Str → Option Value} {base : Heap} {cls : Cl}
abbrev st_law : Stmt := top 63
theorem sc_law : FnScope ["script", "draws", "turn", "told", "m", "n", "k", "one", "two", "three", "both", "due", "every", "loop", "counts", "same", "j"] ["script"] (defScope st_law) := C8.fnScope_by (by decide +kernel)
def spLaw (K : PySem.W.Frag) : Sp := fun vs H Q _ => ∃ (a : Addr) (ns : List Int), vs = [.ref a] ∧ SqL K H a (ns.map V.int) ∧ ∀ H', Q (.bl true) H'
theorem ok_law {fD f : Addr} {fdD fd : FuncData} (T : Txt K mg cls) (A : AllOk P w K mg base cls (2 * 24) T24) (hP : cls.P = P) (hw : cls.w = w) (gD : mg "_law_draws" = some (.ref fD)) (FD : L2.Fun K "_law_draws" "_law_draws" st_draws fD fdD) (F : L2.Fun K "law" "law" st_law f fd) :
    FnG P w K mg base (2 * 24 + 1 + 1) f (spLaw K) := by
  refine fnG_any (ps := ["script"]) F sc_law (fun _ _ _ _ _ _ us hl => match us, hl with | [_], _ => rfl) (fun vs H Q E ⟨a, ns, e, _⟩ => by subst e; rfl) fun cdv A0 outer s H vs Q E E' hr1 ⟨a, ns, e, hS, k⟩ => ?_
  subst e
  have hr : RoomG (2 * 24) (A0.deeper (envOfC "law" (defScope st_law) s.heap.objs.size f cdv)) := hr1.mono (Nat.le_succ _)
  have hu := hr.rm.units
  have hu1 := hu_of hr.rm
  have hN := sc_law.nd
  refine ⟨_, pss_cons (ps_set (i := 1) sc_law.nd rfl (Or.inl rfl) (pe_callG gD FD.kp (ok_draws (cls := cls) FD T.b_list) (hr.mono (by decide)) (pa_cons (pv 0) pa_nil)))
    (pss_cons (ps_for PassesOwn.never rfl (pi_range1 (by rfl) T.b_range (pa_cons pe_int pa_nil)) (pg_name (i := 2) sc_law.nd rfl (Or.inl rfl))
      (pss_cons (show PS _ _ (semS K cls (lp0 T24)) from (xsAsg (xMake A.f_Scene hr1 (xaCons (xTup xaNil) (xaCons (xTup (xaCons (xStrL k_p) (xaCons (xStrL k_q) (xaCons (xStrL k_r) xaNil)))) xaNil))) (xgN 3 hN)))
      (pss_cons (show PS _ _ (semS K cls (lp1 T24)) from (xsAsg (xTup (xaCons (xCall A.f_law_draw hr (xaCons (xVar 1) (xaCons xInt xaNil))) (xaCons (xCall A.f_law_draw hr (xaCons (xVar 1) (xaCons xInt xaNil))) (xaCons (xCall A.f_law_draw hr (xaCons (xVar 1) (xaCons xInt xaNil))) xaNil)))) (xgT rfl (xgsCons (xgN 4 hN) (xgsCons (xgN 5 hN) (xgsCons (xgN 6 hN) xgsNil))))))
      (pss_cons (show PS _ _ (semS K cls (lp2 T24)) from (xsPar3 7 8 9 rfl hN (xaCons (xCall A.f_row hr (xaCons (xBin op_gMulA (xLst (xaCons (xTup (xaCons (xStrL k_step) (xaCons (xStrL k_p) xaNil))) xaNil)) (xVar 4)) xaNil)) (xaCons (xCall A.f_row hr (xaCons (xBin op_gMulA (xLst (xaCons (xTup (xaCons (xStrL k_step) (xaCons (xStrL k_q) xaNil))) xaNil)) (xVar 5)) xaNil)) (xaCons (xCall A.f_row hr (xaCons (xBin op_gMulA (xLst (xaCons (xTup (xaCons (xStrL k_step) (xaCons (xStrL k_r) xaNil))) xaNil)) (xVar 6)) xaNil)) xaNil)))))
      (pss_cons (show PS _ _ (semS K cls (lp3 T24)) from (xsAsg (xCall A.f_side_by_side hr (xaCons (xVar 3) (xaCons (xVar 7) (xaCons (xVar 8) (xaCons (xTup xaNil) xaNil))))) (xgN 10 hN)))
      (pss_cons (show PS _ _ (semS K cls (lp4 T24)) from (xsAsg (xBin op_gMulA (xLst (xaCons xInt xaNil)) (xBin op_gAdd (xBin op_gAdd (xVar 4) (xVar 5)) xInt)) (xgN 11 hN)))
      (pss_cons (show PS _ _ (semS K cls (lp5 T24)) from (xsPut hu1 (xVar 11) (xBin op_gAdd (xVar 4) (xVar 5)) (xCall A.f_law_choose hr (xaCons (xBin op_gAdd (xVar 4) (xVar 5)) (xaCons (xVar 4) xaNil)))))
      (pss_cons (show PS _ _ (semS K cls (lp6 T24)) from (xsIf (PW.pt (xOrW (xNotT (xTru (xCall A.f_law_same hr (xaCons (xCall A.f_count_words hr (xaCons (xVar 10) (xaCons (xBin op_gAdd (xVar 4) (xVar 5)) xaNil))) (xaCons (xCallTy c_tup T.b_tuple (by rfl) (xaCons (xVar 11) xaNil)) xaNil))))) (xOr1 (xCmpT (op_gNeF hu) (xFldL k_size T.a_size (xCall A.f_least hr (xaCons (xVar 10) xaNil))) (xBin op_gMulA (xBin op_gAdd (xVar 4) xInt) (xBin op_gAdd (xVar 5) xInt)))))) (xssOne (xsRet xBl)) xssNil))
      (pss_cons (show PS _ _ (semS K cls (lp7 T24)) from (xsAsg (xCall A.f_all_side_by_side hr (xaCons (xVar 3) (xaCons (xLst (xaCons (xVar 7) (xaCons (xVar 8) (xaCons (xVar 9) xaNil)))) xaNil))) (xgN 12 hN)))
      (pss_cons (show PS _ _ (semS K cls (lp8 T24)) from (xsIf (xCmpT (op_gNeF hu) (xIx hu (xCall A.f_count_words hr (xaCons (xVar 12) (xaCons (xBin op_gAdd (xBin op_gAdd (xVar 4) (xVar 5)) (xVar 6)) xaNil))) (xNeg xInt)) (xBin op_gMulA (xCall A.f_law_choose hr (xaCons (xBin op_gAdd (xBin op_gAdd (xVar 4) (xVar 5)) (xVar 6)) (xaCons (xVar 4) xaNil))) (xCall A.f_law_choose hr (xaCons (xBin op_gAdd (xVar 5) (xVar 6)) (xaCons (xVar 5) xaNil))))) (xssOne (xsRet xBl)) xssNil))
      (pss_cons (show PS _ _ (semS K cls (lp9 T24)) from (xsAsg (xCall A.f_side_by_side hr (xaCons (xVar 3) (xaCons (xTup (xaCons (xStrL k_loop) (xaCons (xTup (xaCons (xStrL k_step) (xaCons (xStrL k_r) xaNil))) xaNil))) (xaCons (xVar 7) (xaCons (xTup xaNil) xaNil))))) (xgN 13 hN)))
      (pss_cons (show PS _ _ (semS K cls (lp10 T24)) from (xsAsg (xCall A.f_count_words hr (xaCons (xVar 13) (xaCons (xBin op_gAdd (xVar 4) xInt) xaNil))) (xgN 14 hN)))
      (pss_cons (show PS _ _ (semS K cls (lp11 T24)) from (xsIf (PW.pt (xOrW (xCmpT (op_gNeF hu) (xSl (xVar 14) xpNone (xpSome (xVar 4))) (xBin op_gMulA (xTup (xaCons xInt xaNil)) (xVar 4))) (xOr1 (xCmpT (op_gNeF hu) (xLc 64 rfl hN (xiRng1 T.b_range (xaCons xInt xaNil)) (blkOk_by (own := [("j", 16)]) (by kernel_rfl)) ctN (fun _ _ _ _ _ => (pg_name (i := 16) hN rfl (by first | exact Or.inl rfl | exact Or.inr rfl))) (fun _ _ _ _ _ => xtsNil) (fun _ _ _ _ _ => (xIx hu (xVar 14) (xBin op_gAdd (xVar 4) (xVar 16))))) (xLc 64 rfl hN (xiRng1 T.b_range (xaCons xInt xaNil)) (blkOk_by (own := [("j", 16)]) (by kernel_rfl)) ctN (fun _ _ _ _ _ => (pg_name (i := 16) hN rfl (by first | exact Or.inl rfl | exact Or.inr rfl))) (fun _ _ _ _ _ => xtsNil) (fun _ _ _ _ _ => (xCall A.f_law_choose hr (xaCons (xBin op_gAdd (xVar 4) (xVar 16)) (xaCons (xVar 16) xaNil))))))))) (xssOne (xsRet xBl)) xssNil))
      (pss_cons (show PS _ _ (semS K cls (lp12 T24)) from (xsAsg (xCall A.f_side_by_side hr (xaCons (xVar 3) (xaCons (xCall A.f_row hr (xaCons (xBin op_gAdd (xBin op_gMulA (xLst (xaCons (xTup (xaCons (xStrL k_step) (xaCons (xStrL k_p) xaNil))) xaNil)) (xVar 4)) (xBin op_gMulA (xLst (xaCons (xTup (xaCons (xStrL k_step) (xaCons (xStrL k_q) xaNil))) xaNil)) (xVar 5))) xaNil)) (xaCons (xCall A.f_row hr (xaCons (xBin op_gAdd (xBin op_gMulA (xLst (xaCons (xTup (xaCons (xStrL k_step) (xaCons (xStrL k_p) xaNil))) xaNil)) (xVar 6)) (xLst (xaCons (xTup (xaCons (xStrL k_step) (xaCons (xStrL k_r) xaNil))) xaNil))) xaNil)) (xaCons (xTup (xaCons (xStrL k_p) xaNil)) xaNil))))) (xgN 15 hN)))
      (pss_cons (show PS _ _ (semS K cls (lp13 T24)) from (xsIf (xCmpT (op_gNeF hu) (xCmp (op_gGt) (xCallB (c_sumA rfl) T.b_sum (by rfl) (xaCons (xCall A.f_count_words hr (xaCons (xVar 15) (xaCons xInt xaNil))) xaNil)) xInt) (xCmp (op_gEqF hu) (xVar 4) (xVar 6))) (xssOne (xsRet xBl)) xssNil))
      (pss_one (show PS _ _ (semS K cls (lp14 T24)) from (xsIf (PW.pt (xAndW (xCmpT (op_gEqF hu) (xVar 4) (xVar 6)) (xAnd1 (xCmpT (op_gNeF hu) (xIx hu (xCall A.f_count_words hr (xaCons (xVar 15) (xaCons (xBin op_gAdd (xBin op_gAdd (xVar 4) (xVar 5)) xInt) xaNil))) (xNeg xInt)) (xCall A.f_law_choose hr (xaCons (xBin op_gAdd (xVar 5) xInt) (xaCons xInt xaNil))))))) (xssOne (xsRet xBl)) xssNil))))))))))))))))))
    (pss_one (ps_ret pe_bl))), ?_⟩
  refine ⟨_, rfl, a, ns, rfl, hS, fun p1 p2 H1 R1 => ?_⟩
  have r0 : RelS K [p1, p2] H1 sv1 ((L2.start ["script", "draws", "turn", "told", "m", "n", "k", "one", "two", "three", "both", "due", "every", "loop", "counts", "same", "j"] [V.ref a]).set 1 (some (.ref p2))) :=
    RelS.set (sa := List.replicate 17 none) 1 (.obj (i := 1) rfl) ⟨rfl, fun i d e => by rw [List.getElem?_replicate] at e; split at e <;> cases e⟩
  refine ⟨3, rfl, by decide, by decide, for_range (fun i σ H2 => ∃ ρ x y z, 0 ≤ x ∧ RelH K cls ρ (hp2 (scr ns) (drw x y z)) H2 ∧ RelS K ρ H2 sv1 σ) ⟨[p1, p2], 0, 0, 1, by decide, R1, r0⟩ ?_ ?_⟩
  · rintro i σ H2 hi ⟨ρ, x, y, z, hx, R2, r2⟩
    exact turn_run (d := some (.int (0 + i))) R2 hx (r2.set 2 (.int _)) fun ρ' σ' H' a' b' c' ha' R' r' => ⟨ρ', a', b', c', ha', R', r'⟩
  · rintro σ H2 ⟨ρ, x, y, z, hx, R2, r2⟩
    exact k H2
end
end K68
set_option Elab.async false
set_option linter.all false
set_option maxRecDepth 100000
set_option maxHeartbeats 4000000
/-! k68: what the top has made, and the theorem (printed by gen4.py). -/
namespace K68
open PySem PyProof.Rows Gw L2
theorem all_mk {l : PySem.W.OpenLaw} {w : World} {K : PySem.W.Frag} {h : Heap} {mg : Str → Option Value} {fa : Addr} (X : K.In h) (G : h.Ns mainGlobals mg) (hfa : mg "law" = some (.ref fa))
    {f_is_integer : Addr} {od_is_integer an_is_integer : Option Addr} {sl_is_integer : Array (Option Value)} {oc_is_integer kV_is_integer dc_is_integer pm_is_integer cd_is_integer ct_is_integer : Value} {f_is_name : Addr} {od_is_name an_is_name : Option Addr} {sl_is_name : Array (Option Value)} {oc_is_name kV_is_name dc_is_name pm_is_name cd_is_name ct_is_name : Value} {f_is_names : Addr} {od_is_names an_is_names : Option Addr} {sl_is_names : Array (Option Value)} {oc_is_names kV_is_names dc_is_names pm_is_names cd_is_names ct_is_names : Value} {f_is_test : Addr} {od_is_test an_is_test : Option Addr} {sl_is_test : Array (Option Value)} {oc_is_test kV_is_test dc_is_test pm_is_test cd_is_test ct_is_test : Value} {T_is_test : Addr} {oT_is_test : Obj} {tk_is_test : Tok} {m_is_test : Nat} {f_names_in : Addr} {od_names_in an_names_in : Option Addr} {sl_names_in : Array (Option Value)} {oc_names_in kV_names_in dc_names_in pm_names_in cd_names_in ct_names_in : Value} {f_has : Addr} {od_has an_has : Option Addr} {sl_has : Array (Option Value)} {oc_has kV_has dc_has pm_has cd_has ct_has : Value} {f_holds : Addr} {od_holds an_holds : Option Addr} {sl_holds : Array (Option Value)} {oc_holds kV_holds dc_holds pm_holds cd_holds ct_holds : Value} {f_is_program : Addr} {od_is_program an_is_program : Option Addr} {sl_is_program : Array (Option Value)} {oc_is_program kV_is_program dc_is_program pm_is_program cd_is_program ct_is_program : Value} {T_is_program : Addr} {oT_is_program : Obj} {tk_is_program : Tok} {m_is_program : Nat} {f_key_of : Addr} {od_key_of an_key_of : Option Addr} {sl_key_of : Array (Option Value)} {oc_key_of kV_key_of dc_key_of pm_key_of cd_key_of ct_key_of : Value} {f_distinct : Addr} {od_distinct an_distinct : Option Addr} {sl_distinct : Array (Option Value)} {oc_distinct kV_distinct dc_distinct pm_distinct cd_distinct ct_distinct : Value} {f_parts_of : Addr} {od_parts_of an_parts_of : Option Addr} {sl_parts_of : Array (Option Value)} {oc_parts_of kV_parts_of dc_parts_of pm_parts_of cd_parts_of ct_parts_of : Value} {f_within : Addr} {od_within an_within : Option Addr} {sl_within : Array (Option Value)} {oc_within kV_within dc_within pm_within cd_within ct_within : Value} {f_steps_in : Addr} {od_steps_in an_steps_in : Option Addr} {sl_steps_in : Array (Option Value)} {oc_steps_in kV_steps_in dc_steps_in pm_steps_in cd_steps_in ct_steps_in : Value} {f_tests_in : Addr} {od_tests_in an_tests_in : Option Addr} {sl_tests_in : Array (Option Value)} {oc_tests_in kV_tests_in dc_tests_in pm_tests_in cd_tests_in ct_tests_in : Value} {f_fits : Addr} {od_fits an_fits : Option Addr} {sl_fits : Array (Option Value)} {oc_fits kV_fits dc_fits pm_fits cd_fits ct_fits : Value} {f_look_at : Addr} {od_look_at an_look_at : Option Addr} {sl_look_at : Array (Option Value)} {oc_look_at kV_look_at dc_look_at pm_look_at cd_look_at ct_look_at : Value} {f_row : Addr} {od_row an_row : Option Addr} {sl_row : Array (Option Value)} {oc_row kV_row dc_row pm_row cd_row ct_row : Value} {f_may_end : Addr} {od_may_end an_may_end : Option Addr} {sl_may_end : Array (Option Value)} {oc_may_end kV_may_end dc_may_end pm_may_end cd_may_end ct_may_end : Value} {f_then : Addr} {od_then an_then : Option Addr} {sl_then : Array (Option Value)} {oc_then kV_then dc_then pm_then cd_then ct_then : Value} {f_rests : Addr} {od_rests an_rests : Option Addr} {sl_rests : Array (Option Value)} {oc_rests kV_rests dc_rests pm_rests cd_rests ct_rests : Value} {f_behind : Addr} {od_behind an_behind : Option Addr} {sl_behind : Array (Option Value)} {oc_behind kV_behind dc_behind pm_behind cd_behind ct_behind : Value} {f_is_ends : Addr} {od_is_ends an_is_ends : Option Addr} {sl_is_ends : Array (Option Value)} {oc_is_ends kV_is_ends dc_is_ends pm_is_ends cd_is_ends ct_is_ends : Value} {f_is_ways : Addr} {od_is_ways an_is_ways : Option Addr} {sl_is_ways : Array (Option Value)} {oc_is_ways kV_is_ways dc_is_ways pm_is_ways cd_is_ways ct_is_ways : Value} {f_look_at_agreed : Addr} {od_look_at_agreed an_look_at_agreed : Option Addr} {sl_look_at_agreed : Array (Option Value)} {oc_look_at_agreed kV_look_at_agreed dc_look_at_agreed pm_look_at_agreed cd_look_at_agreed ct_look_at_agreed : Value} {f_pairs_behind : Addr} {od_pairs_behind an_pairs_behind : Option Addr} {sl_pairs_behind : Array (Option Value)} {oc_pairs_behind kV_pairs_behind dc_pairs_behind pm_pairs_behind cd_pairs_behind ct_pairs_behind : Value} {f_side_by_side : Addr} {od_side_by_side an_side_by_side : Option Addr} {sl_side_by_side : Array (Option Value)} {oc_side_by_side kV_side_by_side dc_side_by_side pm_side_by_side cd_side_by_side ct_side_by_side : Value} {f_ends_at : Addr} {od_ends_at an_ends_at : Option Addr} {sl_ends_at : Array (Option Value)} {oc_ends_at kV_ends_at dc_ends_at pm_ends_at cd_ends_at ct_ends_at : Value} {f_all_side_by_side : Addr} {od_all_side_by_side an_all_side_by_side : Option Addr} {sl_all_side_by_side : Array (Option Value)} {oc_all_side_by_side kV_all_side_by_side dc_all_side_by_side pm_all_side_by_side cd_all_side_by_side ct_all_side_by_side : Value} {f_rows_behind : Addr} {od_rows_behind an_rows_behind : Option Addr} {sl_rows_behind : Array (Option Value)} {oc_rows_behind kV_rows_behind dc_rows_behind pm_rows_behind cd_rows_behind ct_rows_behind : Value} {f_live_states : Addr} {od_live_states an_live_states : Option Addr} {sl_live_states : Array (Option Value)} {oc_live_states kV_live_states dc_live_states pm_live_states cd_live_states ct_live_states : Value} {f_blocks_of : Addr} {od_blocks_of an_blocks_of : Option Addr} {sl_blocks_of : Array (Option Value)} {oc_blocks_of kV_blocks_of dc_blocks_of pm_blocks_of cd_blocks_of ct_blocks_of : Value} {f_least : Addr} {od_least an_least : Option Addr} {sl_least : Array (Option Value)} {oc_least kV_least dc_least pm_least cd_least ct_least : Value} {f_count_words : Addr} {od_count_words an_count_words : Option Addr} {sl_count_words : Array (Option Value)} {oc_count_words kV_count_words dc_count_words pm_count_words cd_count_words ct_count_words : Value} {f_law_draw : Addr} {od_law_draw an_law_draw : Option Addr} {sl_law_draw : Array (Option Value)} {oc_law_draw kV_law_draw dc_law_draw pm_law_draw cd_law_draw ct_law_draw : Value} {f_law_same : Addr} {od_law_same an_law_same : Option Addr} {sl_law_same : Array (Option Value)} {oc_law_same kV_law_same dc_law_same pm_law_same cd_law_same ct_law_same : Value} {f_law_choose : Addr} {od_law_choose an_law_choose : Option Addr} {sl_law_choose : Array (Option Value)} {oc_law_choose kV_law_choose dc_law_choose pm_law_choose cd_law_choose ct_law_choose : Value} {C_Scene : Addr} {f_Scene : Addr} {od_Scene an_Scene : Option Addr} {sl_Scene : Array (Option Value)} {oc_Scene kV_Scene dc_Scene pm_Scene cd_Scene ct_Scene : Value} {C_Machine : Addr} {f_Machine : Addr} {od_Machine an_Machine : Option Addr} {sl_Machine : Array (Option Value)} {oc_Machine kV_Machine dc_Machine pm_Machine cd_Machine ct_Machine : Value} {f_law_draws : Addr} {od_law_draws an_law_draws : Option Addr} {sl_law_draws : Array (Option Value)} {oc_law_draws kV_law_draws dc_law_draws pm_law_draws cd_law_draws ct_law_draws : Value} {f_law : Addr} {od_law an_law : Option Addr} {sl_law : Array (Option Value)} {oc_law kV_law dc_law pm_law cd_law ct_law : Value} {tp_FAIL tq_FAIL : Addr} {op_FAIL oq_FAIL : Obj} {u_FAIL v_FAIL : Tok} {x_FAIL y_FAIL : Nat} {tg_LETTERS : Tok} {tg_MOST_NAMES : Tok} {tg_MOST_STATES : Tok} {tg_MOST_STEPS : Tok} {tp_SKIP tq_SKIP : Addr} {op_SKIP oq_SKIP : Obj} {u_SKIP v_SKIP : Tok} {x_SKIP y_SKIP : Nat}
    (a_is_integer : PySem.W.nsIn K mainGlobals "is_integer" = some (some (.ref f_is_integer)))
    (l_is_integer : K.lookup f_is_integer = some ⟨oc_is_integer, od_is_integer, .func (PySem.W.fnOf "is_integer" "is_integer" (defArgs st_is_integer) (defBody st_is_integer) (defScope st_is_integer) .none kV_is_integer dc_is_integer pm_is_integer an_is_integer cd_is_integer ct_is_integer), sl_is_integer⟩)
    (c_is_integer : PySem.W.codeIn K cd_is_integer "is_integer" = true)
    (k_is_integer : PySem.W.keepIn K (.ref f_is_integer) = true)
    (a_is_name : PySem.W.nsIn K mainGlobals "is_name" = some (some (.ref f_is_name)))
    (l_is_name : K.lookup f_is_name = some ⟨oc_is_name, od_is_name, .func (PySem.W.fnOf "is_name" "is_name" (defArgs st_is_name) (defBody st_is_name) (defScope st_is_name) .none kV_is_name dc_is_name pm_is_name an_is_name cd_is_name ct_is_name), sl_is_name⟩)
    (c_is_name : PySem.W.codeIn K cd_is_name "is_name" = true)
    (k_is_name : PySem.W.keepIn K (.ref f_is_name) = true)
    (a_is_names : PySem.W.nsIn K mainGlobals "is_names" = some (some (.ref f_is_names)))
    (l_is_names : K.lookup f_is_names = some ⟨oc_is_names, od_is_names, .func (PySem.W.fnOf "is_names" "is_names" (defArgs st_is_names) (defBody st_is_names) (defScope st_is_names) .none kV_is_names dc_is_names pm_is_names an_is_names cd_is_names ct_is_names), sl_is_names⟩)
    (c_is_names : PySem.W.codeIn K cd_is_names "is_names" = true)
    (k_is_names : PySem.W.keepIn K (.ref f_is_names) = true)
    (a_is_test : PySem.W.nsIn K mainGlobals "is_test" = some (some (.ref f_is_test)))
    (l_is_test : K.lookup f_is_test = some ⟨oc_is_test, od_is_test, .func (PySem.W.fnOf "is_test" "is_test" (defArgs st_is_test) (defBody st_is_test) (defScope st_is_test) (.ref T_is_test) kV_is_test dc_is_test pm_is_test an_is_test cd_is_test ct_is_test), sl_is_test⟩)
    (c_is_test : PySem.W.codeIn K cd_is_test "is_test" = true)
    (k_is_test : PySem.W.keepIn K (.ref f_is_test) = true)
    (t_is_test : K.lookup T_is_test = some oT_is_test)
    (d_is_test : oT_is_test.data = .seq #[.int 40 tk_is_test] m_is_test)
    (a_names_in : PySem.W.nsIn K mainGlobals "names_in" = some (some (.ref f_names_in)))
    (l_names_in : K.lookup f_names_in = some ⟨oc_names_in, od_names_in, .func (PySem.W.fnOf "names_in" "names_in" (defArgs st_names_in) (defBody st_names_in) (defScope st_names_in) .none kV_names_in dc_names_in pm_names_in an_names_in cd_names_in ct_names_in), sl_names_in⟩)
    (c_names_in : PySem.W.codeIn K cd_names_in "names_in" = true)
    (k_names_in : PySem.W.keepIn K (.ref f_names_in) = true)
    (a_has : PySem.W.nsIn K mainGlobals "has" = some (some (.ref f_has)))
    (l_has : K.lookup f_has = some ⟨oc_has, od_has, .func (PySem.W.fnOf "has" "has" (defArgs st_has) (defBody st_has) (defScope st_has) .none kV_has dc_has pm_has an_has cd_has ct_has), sl_has⟩)
    (c_has : PySem.W.codeIn K cd_has "has" = true)
    (k_has : PySem.W.keepIn K (.ref f_has) = true)
    (a_holds : PySem.W.nsIn K mainGlobals "holds" = some (some (.ref f_holds)))
    (l_holds : K.lookup f_holds = some ⟨oc_holds, od_holds, .func (PySem.W.fnOf "holds" "holds" (defArgs st_holds) (defBody st_holds) (defScope st_holds) .none kV_holds dc_holds pm_holds an_holds cd_holds ct_holds), sl_holds⟩)
    (c_holds : PySem.W.codeIn K cd_holds "holds" = true)
    (k_holds : PySem.W.keepIn K (.ref f_holds) = true)
    (a_is_program : PySem.W.nsIn K mainGlobals "is_program" = some (some (.ref f_is_program)))
    (l_is_program : K.lookup f_is_program = some ⟨oc_is_program, od_is_program, .func (PySem.W.fnOf "is_program" "is_program" (defArgs st_is_program) (defBody st_is_program) (defScope st_is_program) (.ref T_is_program) kV_is_program dc_is_program pm_is_program an_is_program cd_is_program ct_is_program), sl_is_program⟩)
    (c_is_program : PySem.W.codeIn K cd_is_program "is_program" = true)
    (k_is_program : PySem.W.keepIn K (.ref f_is_program) = true)
    (t_is_program : K.lookup T_is_program = some oT_is_program)
    (d_is_program : oT_is_program.data = .seq #[.int 60 tk_is_program] m_is_program)
    (a_key_of : PySem.W.nsIn K mainGlobals "key_of" = some (some (.ref f_key_of)))
    (l_key_of : K.lookup f_key_of = some ⟨oc_key_of, od_key_of, .func (PySem.W.fnOf "key_of" "key_of" (defArgs st_key_of) (defBody st_key_of) (defScope st_key_of) .none kV_key_of dc_key_of pm_key_of an_key_of cd_key_of ct_key_of), sl_key_of⟩)
    (c_key_of : PySem.W.codeIn K cd_key_of "key_of" = true)
    (k_key_of : PySem.W.keepIn K (.ref f_key_of) = true)
    (a_distinct : PySem.W.nsIn K mainGlobals "distinct" = some (some (.ref f_distinct)))
    (l_distinct : K.lookup f_distinct = some ⟨oc_distinct, od_distinct, .func (PySem.W.fnOf "distinct" "distinct" (defArgs st_distinct) (defBody st_distinct) (defScope st_distinct) .none kV_distinct dc_distinct pm_distinct an_distinct cd_distinct ct_distinct), sl_distinct⟩)
    (c_distinct : PySem.W.codeIn K cd_distinct "distinct" = true)
    (k_distinct : PySem.W.keepIn K (.ref f_distinct) = true)
    (a_parts_of : PySem.W.nsIn K mainGlobals "parts_of" = some (some (.ref f_parts_of)))
    (l_parts_of : K.lookup f_parts_of = some ⟨oc_parts_of, od_parts_of, .func (PySem.W.fnOf "parts_of" "parts_of" (defArgs st_parts_of) (defBody st_parts_of) (defScope st_parts_of) .none kV_parts_of dc_parts_of pm_parts_of an_parts_of cd_parts_of ct_parts_of), sl_parts_of⟩)
    (c_parts_of : PySem.W.codeIn K cd_parts_of "parts_of" = true)
    (k_parts_of : PySem.W.keepIn K (.ref f_parts_of) = true)
    (a_within : PySem.W.nsIn K mainGlobals "within" = some (some (.ref f_within)))
    (l_within : K.lookup f_within = some ⟨oc_within, od_within, .func (PySem.W.fnOf "within" "within" (defArgs st_within) (defBody st_within) (defScope st_within) .none kV_within dc_within pm_within an_within cd_within ct_within), sl_within⟩)
    (c_within : PySem.W.codeIn K cd_within "within" = true)
    (k_within : PySem.W.keepIn K (.ref f_within) = true)
    (a_steps_in : PySem.W.nsIn K mainGlobals "steps_in" = some (some (.ref f_steps_in)))
    (l_steps_in : K.lookup f_steps_in = some ⟨oc_steps_in, od_steps_in, .func (PySem.W.fnOf "steps_in" "steps_in" (defArgs st_steps_in) (defBody st_steps_in) (defScope st_steps_in) .none kV_steps_in dc_steps_in pm_steps_in an_steps_in cd_steps_in ct_steps_in), sl_steps_in⟩)
    (c_steps_in : PySem.W.codeIn K cd_steps_in "steps_in" = true)
    (k_steps_in : PySem.W.keepIn K (.ref f_steps_in) = true)
    (a_tests_in : PySem.W.nsIn K mainGlobals "tests_in" = some (some (.ref f_tests_in)))
    (l_tests_in : K.lookup f_tests_in = some ⟨oc_tests_in, od_tests_in, .func (PySem.W.fnOf "tests_in" "tests_in" (defArgs st_tests_in) (defBody st_tests_in) (defScope st_tests_in) .none kV_tests_in dc_tests_in pm_tests_in an_tests_in cd_tests_in ct_tests_in), sl_tests_in⟩)
    (c_tests_in : PySem.W.codeIn K cd_tests_in "tests_in" = true)
    (k_tests_in : PySem.W.keepIn K (.ref f_tests_in) = true)
    (a_fits : PySem.W.nsIn K mainGlobals "fits" = some (some (.ref f_fits)))
    (l_fits : K.lookup f_fits = some ⟨oc_fits, od_fits, .func (PySem.W.fnOf "fits" "fits" (defArgs st_fits) (defBody st_fits) (defScope st_fits) .none kV_fits dc_fits pm_fits an_fits cd_fits ct_fits), sl_fits⟩)
    (c_fits : PySem.W.codeIn K cd_fits "fits" = true)
    (k_fits : PySem.W.keepIn K (.ref f_fits) = true)
    (a_look_at : PySem.W.nsIn K mainGlobals "look_at" = some (some (.ref f_look_at)))
    (l_look_at : K.lookup f_look_at = some ⟨oc_look_at, od_look_at, .func (PySem.W.fnOf "look_at" "look_at" (defArgs st_look_at) (defBody st_look_at) (defScope st_look_at) .none kV_look_at dc_look_at pm_look_at an_look_at cd_look_at ct_look_at), sl_look_at⟩)
    (c_look_at : PySem.W.codeIn K cd_look_at "look_at" = true)
    (k_look_at : PySem.W.keepIn K (.ref f_look_at) = true)
    (a_row : PySem.W.nsIn K mainGlobals "row" = some (some (.ref f_row)))
    (l_row : K.lookup f_row = some ⟨oc_row, od_row, .func (PySem.W.fnOf "row" "row" (defArgs st_row) (defBody st_row) (defScope st_row) .none kV_row dc_row pm_row an_row cd_row ct_row), sl_row⟩)
    (c_row : PySem.W.codeIn K cd_row "row" = true)
    (k_row : PySem.W.keepIn K (.ref f_row) = true)
    (a_may_end : PySem.W.nsIn K mainGlobals "may_end" = some (some (.ref f_may_end)))
    (l_may_end : K.lookup f_may_end = some ⟨oc_may_end, od_may_end, .func (PySem.W.fnOf "may_end" "may_end" (defArgs st_may_end) (defBody st_may_end) (defScope st_may_end) .none kV_may_end dc_may_end pm_may_end an_may_end cd_may_end ct_may_end), sl_may_end⟩)
    (c_may_end : PySem.W.codeIn K cd_may_end "may_end" = true)
    (k_may_end : PySem.W.keepIn K (.ref f_may_end) = true)
    (a_then : PySem.W.nsIn K mainGlobals "then" = some (some (.ref f_then)))
    (l_then : K.lookup f_then = some ⟨oc_then, od_then, .func (PySem.W.fnOf "then" "then" (defArgs st_then) (defBody st_then) (defScope st_then) .none kV_then dc_then pm_then an_then cd_then ct_then), sl_then⟩)
    (c_then : PySem.W.codeIn K cd_then "then" = true)
    (k_then : PySem.W.keepIn K (.ref f_then) = true)
    (a_rests : PySem.W.nsIn K mainGlobals "rests" = some (some (.ref f_rests)))
    (l_rests : K.lookup f_rests = some ⟨oc_rests, od_rests, .func (PySem.W.fnOf "rests" "rests" (defArgs st_rests) (defBody st_rests) (defScope st_rests) .none kV_rests dc_rests pm_rests an_rests cd_rests ct_rests), sl_rests⟩)
    (c_rests : PySem.W.codeIn K cd_rests "rests" = true)
    (k_rests : PySem.W.keepIn K (.ref f_rests) = true)
    (a_behind : PySem.W.nsIn K mainGlobals "behind" = some (some (.ref f_behind)))
    (l_behind : K.lookup f_behind = some ⟨oc_behind, od_behind, .func (PySem.W.fnOf "behind" "behind" (defArgs st_behind) (defBody st_behind) (defScope st_behind) .none kV_behind dc_behind pm_behind an_behind cd_behind ct_behind), sl_behind⟩)
    (c_behind : PySem.W.codeIn K cd_behind "behind" = true)
    (k_behind : PySem.W.keepIn K (.ref f_behind) = true)
    (a_is_ends : PySem.W.nsIn K mainGlobals "is_ends" = some (some (.ref f_is_ends)))
    (l_is_ends : K.lookup f_is_ends = some ⟨oc_is_ends, od_is_ends, .func (PySem.W.fnOf "is_ends" "is_ends" (defArgs st_is_ends) (defBody st_is_ends) (defScope st_is_ends) .none kV_is_ends dc_is_ends pm_is_ends an_is_ends cd_is_ends ct_is_ends), sl_is_ends⟩)
    (c_is_ends : PySem.W.codeIn K cd_is_ends "is_ends" = true)
    (k_is_ends : PySem.W.keepIn K (.ref f_is_ends) = true)
    (a_is_ways : PySem.W.nsIn K mainGlobals "is_ways" = some (some (.ref f_is_ways)))
    (l_is_ways : K.lookup f_is_ways = some ⟨oc_is_ways, od_is_ways, .func (PySem.W.fnOf "is_ways" "is_ways" (defArgs st_is_ways) (defBody st_is_ways) (defScope st_is_ways) .none kV_is_ways dc_is_ways pm_is_ways an_is_ways cd_is_ways ct_is_ways), sl_is_ways⟩)
    (c_is_ways : PySem.W.codeIn K cd_is_ways "is_ways" = true)
    (k_is_ways : PySem.W.keepIn K (.ref f_is_ways) = true)
    (a_look_at_agreed : PySem.W.nsIn K mainGlobals "look_at_agreed" = some (some (.ref f_look_at_agreed)))
    (l_look_at_agreed : K.lookup f_look_at_agreed = some ⟨oc_look_at_agreed, od_look_at_agreed, .func (PySem.W.fnOf "look_at_agreed" "look_at_agreed" (defArgs st_look_at_agreed) (defBody st_look_at_agreed) (defScope st_look_at_agreed) .none kV_look_at_agreed dc_look_at_agreed pm_look_at_agreed an_look_at_agreed cd_look_at_agreed ct_look_at_agreed), sl_look_at_agreed⟩)
    (c_look_at_agreed : PySem.W.codeIn K cd_look_at_agreed "look_at_agreed" = true)
    (k_look_at_agreed : PySem.W.keepIn K (.ref f_look_at_agreed) = true)
    (a_pairs_behind : PySem.W.nsIn K mainGlobals "pairs_behind" = some (some (.ref f_pairs_behind)))
    (l_pairs_behind : K.lookup f_pairs_behind = some ⟨oc_pairs_behind, od_pairs_behind, .func (PySem.W.fnOf "pairs_behind" "pairs_behind" (defArgs st_pairs_behind) (defBody st_pairs_behind) (defScope st_pairs_behind) .none kV_pairs_behind dc_pairs_behind pm_pairs_behind an_pairs_behind cd_pairs_behind ct_pairs_behind), sl_pairs_behind⟩)
    (c_pairs_behind : PySem.W.codeIn K cd_pairs_behind "pairs_behind" = true)
    (k_pairs_behind : PySem.W.keepIn K (.ref f_pairs_behind) = true)
    (a_side_by_side : PySem.W.nsIn K mainGlobals "side_by_side" = some (some (.ref f_side_by_side)))
    (l_side_by_side : K.lookup f_side_by_side = some ⟨oc_side_by_side, od_side_by_side, .func (PySem.W.fnOf "side_by_side" "side_by_side" (defArgs st_side_by_side) (defBody st_side_by_side) (defScope st_side_by_side) .none kV_side_by_side dc_side_by_side pm_side_by_side an_side_by_side cd_side_by_side ct_side_by_side), sl_side_by_side⟩)
    (c_side_by_side : PySem.W.codeIn K cd_side_by_side "side_by_side" = true)
    (k_side_by_side : PySem.W.keepIn K (.ref f_side_by_side) = true)
    (a_ends_at : PySem.W.nsIn K mainGlobals "ends_at" = some (some (.ref f_ends_at)))
    (l_ends_at : K.lookup f_ends_at = some ⟨oc_ends_at, od_ends_at, .func (PySem.W.fnOf "ends_at" "ends_at" (defArgs st_ends_at) (defBody st_ends_at) (defScope st_ends_at) .none kV_ends_at dc_ends_at pm_ends_at an_ends_at cd_ends_at ct_ends_at), sl_ends_at⟩)
    (c_ends_at : PySem.W.codeIn K cd_ends_at "ends_at" = true)
    (k_ends_at : PySem.W.keepIn K (.ref f_ends_at) = true)
    (a_all_side_by_side : PySem.W.nsIn K mainGlobals "all_side_by_side" = some (some (.ref f_all_side_by_side)))
    (l_all_side_by_side : K.lookup f_all_side_by_side = some ⟨oc_all_side_by_side, od_all_side_by_side, .func (PySem.W.fnOf "all_side_by_side" "all_side_by_side" (defArgs st_all_side_by_side) (defBody st_all_side_by_side) (defScope st_all_side_by_side) .none kV_all_side_by_side dc_all_side_by_side pm_all_side_by_side an_all_side_by_side cd_all_side_by_side ct_all_side_by_side), sl_all_side_by_side⟩)
    (c_all_side_by_side : PySem.W.codeIn K cd_all_side_by_side "all_side_by_side" = true)
    (k_all_side_by_side : PySem.W.keepIn K (.ref f_all_side_by_side) = true)
    (a_rows_behind : PySem.W.nsIn K mainGlobals "rows_behind" = some (some (.ref f_rows_behind)))
    (l_rows_behind : K.lookup f_rows_behind = some ⟨oc_rows_behind, od_rows_behind, .func (PySem.W.fnOf "rows_behind" "rows_behind" (defArgs st_rows_behind) (defBody st_rows_behind) (defScope st_rows_behind) .none kV_rows_behind dc_rows_behind pm_rows_behind an_rows_behind cd_rows_behind ct_rows_behind), sl_rows_behind⟩)
    (c_rows_behind : PySem.W.codeIn K cd_rows_behind "rows_behind" = true)
    (k_rows_behind : PySem.W.keepIn K (.ref f_rows_behind) = true)
    (a_live_states : PySem.W.nsIn K mainGlobals "live_states" = some (some (.ref f_live_states)))
    (l_live_states : K.lookup f_live_states = some ⟨oc_live_states, od_live_states, .func (PySem.W.fnOf "live_states" "live_states" (defArgs st_live_states) (defBody st_live_states) (defScope st_live_states) .none kV_live_states dc_live_states pm_live_states an_live_states cd_live_states ct_live_states), sl_live_states⟩)
    (c_live_states : PySem.W.codeIn K cd_live_states "live_states" = true)
    (k_live_states : PySem.W.keepIn K (.ref f_live_states) = true)
    (a_blocks_of : PySem.W.nsIn K mainGlobals "blocks_of" = some (some (.ref f_blocks_of)))
    (l_blocks_of : K.lookup f_blocks_of = some ⟨oc_blocks_of, od_blocks_of, .func (PySem.W.fnOf "blocks_of" "blocks_of" (defArgs st_blocks_of) (defBody st_blocks_of) (defScope st_blocks_of) .none kV_blocks_of dc_blocks_of pm_blocks_of an_blocks_of cd_blocks_of ct_blocks_of), sl_blocks_of⟩)
    (c_blocks_of : PySem.W.codeIn K cd_blocks_of "blocks_of" = true)
    (k_blocks_of : PySem.W.keepIn K (.ref f_blocks_of) = true)
    (a_least : PySem.W.nsIn K mainGlobals "least" = some (some (.ref f_least)))
    (l_least : K.lookup f_least = some ⟨oc_least, od_least, .func (PySem.W.fnOf "least" "least" (defArgs st_least) (defBody st_least) (defScope st_least) .none kV_least dc_least pm_least an_least cd_least ct_least), sl_least⟩)
    (c_least : PySem.W.codeIn K cd_least "least" = true)
    (k_least : PySem.W.keepIn K (.ref f_least) = true)
    (a_count_words : PySem.W.nsIn K mainGlobals "count_words" = some (some (.ref f_count_words)))
    (l_count_words : K.lookup f_count_words = some ⟨oc_count_words, od_count_words, .func (PySem.W.fnOf "count_words" "count_words" (defArgs st_count_words) (defBody st_count_words) (defScope st_count_words) .none kV_count_words dc_count_words pm_count_words an_count_words cd_count_words ct_count_words), sl_count_words⟩)
    (c_count_words : PySem.W.codeIn K cd_count_words "count_words" = true)
    (k_count_words : PySem.W.keepIn K (.ref f_count_words) = true)
    (a_law_draw : PySem.W.nsIn K mainGlobals "_law_draw" = some (some (.ref f_law_draw)))
    (l_law_draw : K.lookup f_law_draw = some ⟨oc_law_draw, od_law_draw, .func (PySem.W.fnOf "_law_draw" "_law_draw" (defArgs st_law_draw) (defBody st_law_draw) (defScope st_law_draw) .none kV_law_draw dc_law_draw pm_law_draw an_law_draw cd_law_draw ct_law_draw), sl_law_draw⟩)
    (c_law_draw : PySem.W.codeIn K cd_law_draw "_law_draw" = true)
    (k_law_draw : PySem.W.keepIn K (.ref f_law_draw) = true)
    (a_law_same : PySem.W.nsIn K mainGlobals "_law_same" = some (some (.ref f_law_same)))
    (l_law_same : K.lookup f_law_same = some ⟨oc_law_same, od_law_same, .func (PySem.W.fnOf "_law_same" "_law_same" (defArgs st_law_same) (defBody st_law_same) (defScope st_law_same) .none kV_law_same dc_law_same pm_law_same an_law_same cd_law_same ct_law_same), sl_law_same⟩)
    (c_law_same : PySem.W.codeIn K cd_law_same "_law_same" = true)
    (k_law_same : PySem.W.keepIn K (.ref f_law_same) = true)
    (a_law_choose : PySem.W.nsIn K mainGlobals "_law_choose" = some (some (.ref f_law_choose)))
    (l_law_choose : K.lookup f_law_choose = some ⟨oc_law_choose, od_law_choose, .func (PySem.W.fnOf "_law_choose" "_law_choose" (defArgs st_law_choose) (defBody st_law_choose) (defScope st_law_choose) .none kV_law_choose dc_law_choose pm_law_choose an_law_choose cd_law_choose ct_law_choose), sl_law_choose⟩)
    (c_law_choose : PySem.W.codeIn K cd_law_choose "_law_choose" = true)
    (k_law_choose : PySem.W.keepIn K (.ref f_law_choose) = true)
    (a_Scene : PySem.W.nsIn K mainGlobals "Scene" = some (some (.ref C_Scene)))
    (ai_Scene : PySem.W.findIn K (.ref C_Scene) "__init__" = some (some (.ref f_Scene)))
    (ii_Scene : PySem.W.isFn K (.ref f_Scene) = true)
    (l_Scene : K.lookup f_Scene = some ⟨oc_Scene, od_Scene, .func (PySem.W.fnOf "__init__" "Scene.__init__" (defArgs st_Scene) (defBody st_Scene) (defScope st_Scene) .none kV_Scene dc_Scene pm_Scene an_Scene cd_Scene ct_Scene), sl_Scene⟩)
    (c_Scene : PySem.W.codeIn K cd_Scene "Scene.__init__" = true)
    (k_Scene : PySem.W.keepIn K (.ref f_Scene) = true)
    (pg_Scene : PySem.W.plainGet K C_Scene Str.empty = true)
    (hd_Scene : PySem.W.hasDictIn K C_Scene = true)
    (po_Scene : PySem.W.plainOver K C_Scene = true)
    (sa_Scene : PySem.W.findIn K (.ref C_Scene) "__setattr__" = some (some (.builtin "object.__setattr__")))
    (mk_Scene : PySem.W.makesIn K C_Scene = true)
    (kc_Scene : PySem.W.keepIn K (.ref C_Scene) = true)
    (n_Scene_atoms : PySem.W.findIn K (.ref C_Scene) "atoms" = some none)
    (n_Scene_ends : PySem.W.findIn K (.ref C_Scene) "ends" = some none)
    (n_Scene_names : PySem.W.findIn K (.ref C_Scene) "names" = some none)
    (n_Scene_scene : PySem.W.findIn K (.ref C_Scene) "scene" = some none)
    (n_Scene_size : PySem.W.findIn K (.ref C_Scene) "size" = some none)
    (n_Scene_steps : PySem.W.findIn K (.ref C_Scene) "steps" = some none)
    (n_Scene_ways : PySem.W.findIn K (.ref C_Scene) "ways" = some none)
    (a_Machine : PySem.W.nsIn K mainGlobals "Machine" = some (some (.ref C_Machine)))
    (ai_Machine : PySem.W.findIn K (.ref C_Machine) "__init__" = some (some (.ref f_Machine)))
    (ii_Machine : PySem.W.isFn K (.ref f_Machine) = true)
    (l_Machine : K.lookup f_Machine = some ⟨oc_Machine, od_Machine, .func (PySem.W.fnOf "__init__" "Machine.__init__" (defArgs st_Machine) (defBody st_Machine) (defScope st_Machine) .none kV_Machine dc_Machine pm_Machine an_Machine cd_Machine ct_Machine), sl_Machine⟩)
    (c_Machine : PySem.W.codeIn K cd_Machine "Machine.__init__" = true)
    (k_Machine : PySem.W.keepIn K (.ref f_Machine) = true)
    (pg_Machine : PySem.W.plainGet K C_Machine Str.empty = true)
    (hd_Machine : PySem.W.hasDictIn K C_Machine = true)
    (po_Machine : PySem.W.plainOver K C_Machine = true)
    (sa_Machine : PySem.W.findIn K (.ref C_Machine) "__setattr__" = some (some (.builtin "object.__setattr__")))
    (mk_Machine : PySem.W.makesIn K C_Machine = true)
    (kc_Machine : PySem.W.keepIn K (.ref C_Machine) = true)
    (n_Machine_atoms : PySem.W.findIn K (.ref C_Machine) "atoms" = some none)
    (n_Machine_ends : PySem.W.findIn K (.ref C_Machine) "ends" = some none)
    (n_Machine_names : PySem.W.findIn K (.ref C_Machine) "names" = some none)
    (n_Machine_scene : PySem.W.findIn K (.ref C_Machine) "scene" = some none)
    (n_Machine_size : PySem.W.findIn K (.ref C_Machine) "size" = some none)
    (n_Machine_steps : PySem.W.findIn K (.ref C_Machine) "steps" = some none)
    (n_Machine_ways : PySem.W.findIn K (.ref C_Machine) "ways" = some none)
    (a_law_draws : PySem.W.nsIn K mainGlobals "_law_draws" = some (some (.ref f_law_draws)))
    (l_law_draws : K.lookup f_law_draws = some ⟨oc_law_draws, od_law_draws, .func (PySem.W.fnOf "_law_draws" "_law_draws" (defArgs st_draws) (defBody st_draws) (defScope st_draws) .none kV_law_draws dc_law_draws pm_law_draws an_law_draws cd_law_draws ct_law_draws), sl_law_draws⟩)
    (c_law_draws : PySem.W.codeIn K cd_law_draws "_law_draws" = true)
    (k_law_draws : PySem.W.keepIn K (.ref f_law_draws) = true)
    (a_law : PySem.W.nsIn K mainGlobals "law" = some (some (.ref f_law)))
    (l_law : K.lookup f_law = some ⟨oc_law, od_law, .func (PySem.W.fnOf "law" "law" (defArgs st_law) (defBody st_law) (defScope st_law) .none kV_law dc_law pm_law an_law cd_law ct_law), sl_law⟩)
    (c_law : PySem.W.codeIn K cd_law "law" = true)
    (k_law : PySem.W.keepIn K (.ref f_law) = true)
    (z_all : PySem.W.nsIn K mainGlobals "all" = some none)
    (z_any : PySem.W.nsIn K mainGlobals "any" = some none)
    (z_bool : PySem.W.nsIn K mainGlobals "bool" = some none)
    (z_enumerate : PySem.W.nsIn K mainGlobals "enumerate" = some none)
    (z_int : PySem.W.nsIn K mainGlobals "int" = some none)
    (z_isinstance : PySem.W.nsIn K mainGlobals "isinstance" = some none)
    (z_len : PySem.W.nsIn K mainGlobals "len" = some none)
    (z_list : PySem.W.nsIn K mainGlobals "list" = some none)
    (z_range : PySem.W.nsIn K mainGlobals "range" = some none)
    (z_repr : PySem.W.nsIn K mainGlobals "repr" = some none)
    (z_reversed : PySem.W.nsIn K mainGlobals "reversed" = some none)
    (z_sorted : PySem.W.nsIn K mainGlobals "sorted" = some none)
    (z_str : PySem.W.nsIn K mainGlobals "str" = some none)
    (z_sum : PySem.W.nsIn K mainGlobals "sum" = some none)
    (z_tuple : PySem.W.nsIn K mainGlobals "tuple" = some none)
    (z_zip : PySem.W.nsIn K mainGlobals "zip" = some none)
    (g_FAIL : PySem.W.nsIn K mainGlobals "FAIL" = some (some (.ref tp_FAIL)))
    (gl_FAIL : K.lookup tp_FAIL = some op_FAIL)
    (gc_FAIL : op_FAIL.cls = .type "tuple")
    (gd_FAIL : op_FAIL.data = .seq #[.str (Str.ofString "test") u_FAIL, .ref tq_FAIL] x_FAIL)
    (hl_FAIL : K.lookup tq_FAIL = some oq_FAIL)
    (hc_FAIL : oq_FAIL.cls = .type "tuple")
    (hd_FAIL : oq_FAIL.data = .seq #[.str (Str.ofString "no") v_FAIL] y_FAIL)
    (g_LETTERS : PySem.W.nsIn K mainGlobals "LETTERS" = some (some (.str (Str.ofString "abcdefghijklmnopqrstuvwxyz") tg_LETTERS)))
    (g_MOST_NAMES : PySem.W.nsIn K mainGlobals "MOST_NAMES" = some (some (.int 5 tg_MOST_NAMES)))
    (g_MOST_STATES : PySem.W.nsIn K mainGlobals "MOST_STATES" = some (some (.int 8000 tg_MOST_STATES)))
    (g_MOST_STEPS : PySem.W.nsIn K mainGlobals "MOST_STEPS" = some (some (.int 6 tg_MOST_STEPS)))
    (g_SKIP : PySem.W.nsIn K mainGlobals "SKIP" = some (some (.ref tp_SKIP)))
    (gl_SKIP : K.lookup tp_SKIP = some op_SKIP)
    (gc_SKIP : op_SKIP.cls = .type "tuple")
    (gd_SKIP : op_SKIP.data = .seq #[.str (Str.ofString "test") u_SKIP, .ref tq_SKIP] x_SKIP)
    (hl_SKIP : K.lookup tq_SKIP = some oq_SKIP)
    (hc_SKIP : oq_SKIP.cls = .type "tuple")
    (hd_SKIP : oq_SKIP.data = .seq #[.str (Str.ofString "yes") v_SKIP] y_SKIP)
    : ∀ base : Heap, K.In base → base.Ns mainGlobals mg → FnG l.prog w K mg base (2 * 24 + 1 + 1) fa (spLaw K) := by
  intro base _ _
  have e := hfa.symm.trans (PySem.W.mg_of X G a_law)
  cases e
  let cls : Gw.Cl := ⟨fun c => match c with | 0 => some C_Scene | 1 => some C_Machine | _ => none, l.prog, w⟩
  have T : Txt K mg cls := {
      b_all := PySem.W.mg_none_of X G z_all,
      b_any := PySem.W.mg_none_of X G z_any,
      b_bool := PySem.W.mg_none_of X G z_bool,
      b_enumerate := PySem.W.mg_none_of X G z_enumerate,
      b_int := PySem.W.mg_none_of X G z_int,
      b_isinstance := PySem.W.mg_none_of X G z_isinstance,
      b_len := PySem.W.mg_none_of X G z_len,
      b_list := PySem.W.mg_none_of X G z_list,
      b_range := PySem.W.mg_none_of X G z_range,
      b_repr := PySem.W.mg_none_of X G z_repr,
      b_reversed := PySem.W.mg_none_of X G z_reversed,
      b_sorted := PySem.W.mg_none_of X G z_sorted,
      b_str := PySem.W.mg_none_of X G z_str,
      b_sum := PySem.W.mg_none_of X G z_sum,
      b_tuple := PySem.W.mg_none_of X G z_tuple,
      b_zip := PySem.W.mg_none_of X G z_zip,
      g_FAIL := ⟨.ref tp_FAIL, .ref tp_FAIL, PySem.W.mg_of X G g_FAIL, rfl, fun _ _ => .tup (vs := [.str x_test, .ref tq_FAIL]) (.inr ⟨op_FAIL, _, _, gl_FAIL, gc_FAIL, gd_FAIL, (by show 2 ≤ sizeLine; decide), .cons ⟨u_FAIL, by rw [k_test]⟩ (.cons rfl .nil)⟩) (.cons (.str _) (.cons (.tup (vs := [.str x_no]) (.inr ⟨oq_FAIL, _, _, hl_FAIL, hc_FAIL, hd_FAIL, (by show 1 ≤ sizeLine; decide), .cons ⟨v_FAIL, by rw [k_no]⟩ .nil⟩) (.cons (.str _) .nil)) .nil))⟩,
      g_LETTERS := ⟨.str x_abcdefghijklmnopqrstuvwxyz tg_LETTERS, .str x_abcdefghijklmnopqrstuvwxyz, by rw [← k_abcdefghijklmnopqrstuvwxyz]; exact PySem.W.mg_of X G g_LETTERS, ⟨_, rfl⟩, fun _ _ => .str _⟩,
      g_MOST_NAMES := ⟨.int 5 tg_MOST_NAMES, .int 5, PySem.W.mg_of X G g_MOST_NAMES, ⟨_, rfl⟩, fun _ _ => .int _⟩,
      g_MOST_STATES := ⟨.int 8000 tg_MOST_STATES, .int 8000, PySem.W.mg_of X G g_MOST_STATES, ⟨_, rfl⟩, fun _ _ => .int _⟩,
      g_MOST_STEPS := ⟨.int 6 tg_MOST_STEPS, .int 6, PySem.W.mg_of X G g_MOST_STEPS, ⟨_, rfl⟩, fun _ _ => .int _⟩,
      g_SKIP := ⟨.ref tp_SKIP, .ref tp_SKIP, PySem.W.mg_of X G g_SKIP, rfl, fun _ _ => .tup (vs := [.str x_test, .ref tq_SKIP]) (.inr ⟨op_SKIP, _, _, gl_SKIP, gc_SKIP, gd_SKIP, (by show 2 ≤ sizeLine; decide), .cons ⟨u_SKIP, by rw [k_test]⟩ (.cons rfl .nil)⟩) (.cons (.str _) (.cons (.tup (vs := [.str x_yes]) (.inr ⟨oq_SKIP, _, _, hl_SKIP, hc_SKIP, hd_SKIP, (by show 1 ≤ sizeLine; decide), .cons ⟨v_SKIP, by rw [k_yes]⟩ .nil⟩) (.cons (.str _) .nil)) .nil))⟩,
      a_atoms := (fun c C e => match c, e with | 0, e => (by cases e; exact ⟨⟨pg_Scene, hd_Scene, po_Scene, sa_Scene⟩, n_Scene_atoms⟩) | 1, e => (by cases e; exact ⟨⟨pg_Machine, hd_Machine, po_Machine, sa_Machine⟩, n_Machine_atoms⟩) | n + 2, e => (by cases e)),
      a_ends := (fun c C e => match c, e with | 0, e => (by cases e; exact ⟨⟨pg_Scene, hd_Scene, po_Scene, sa_Scene⟩, n_Scene_ends⟩) | 1, e => (by cases e; exact ⟨⟨pg_Machine, hd_Machine, po_Machine, sa_Machine⟩, n_Machine_ends⟩) | n + 2, e => (by cases e)),
      a_names := (fun c C e => match c, e with | 0, e => (by cases e; exact ⟨⟨pg_Scene, hd_Scene, po_Scene, sa_Scene⟩, n_Scene_names⟩) | 1, e => (by cases e; exact ⟨⟨pg_Machine, hd_Machine, po_Machine, sa_Machine⟩, n_Machine_names⟩) | n + 2, e => (by cases e)),
      a_scene := (fun c C e => match c, e with | 0, e => (by cases e; exact ⟨⟨pg_Scene, hd_Scene, po_Scene, sa_Scene⟩, n_Scene_scene⟩) | 1, e => (by cases e; exact ⟨⟨pg_Machine, hd_Machine, po_Machine, sa_Machine⟩, n_Machine_scene⟩) | n + 2, e => (by cases e)),
      a_size := (fun c C e => match c, e with | 0, e => (by cases e; exact ⟨⟨pg_Scene, hd_Scene, po_Scene, sa_Scene⟩, n_Scene_size⟩) | 1, e => (by cases e; exact ⟨⟨pg_Machine, hd_Machine, po_Machine, sa_Machine⟩, n_Machine_size⟩) | n + 2, e => (by cases e)),
      a_steps := (fun c C e => match c, e with | 0, e => (by cases e; exact ⟨⟨pg_Scene, hd_Scene, po_Scene, sa_Scene⟩, n_Scene_steps⟩) | 1, e => (by cases e; exact ⟨⟨pg_Machine, hd_Machine, po_Machine, sa_Machine⟩, n_Machine_steps⟩) | n + 2, e => (by cases e)),
      a_ways := (fun c C e => match c, e with | 0, e => (by cases e; exact ⟨⟨pg_Scene, hd_Scene, po_Scene, sa_Scene⟩, n_Scene_ways⟩) | 1, e => (by cases e; exact ⟨⟨pg_Machine, hd_Machine, po_Machine, sa_Machine⟩, n_Machine_ways⟩) | n + 2, e => (by cases e)) }
  have Fc : Facts K mg cls := {
      F_is_integer := ⟨f_is_integer, _, PySem.W.mg_of X G a_is_integer, fun_mk (st := st_is_integer) l_is_integer c_is_integer k_is_integer⟩,
      F_is_name := ⟨f_is_name, _, PySem.W.mg_of X G a_is_name, fun_mk (st := st_is_name) l_is_name c_is_name k_is_name⟩,
      F_is_names := ⟨f_is_names, _, PySem.W.mg_of X G a_is_names, fun_mk (st := st_is_names) l_is_names c_is_names k_is_names⟩,
      F_is_test := ⟨f_is_test, T_is_test, oT_is_test, tk_is_test, m_is_test, oc_is_test, od_is_test, kV_is_test, dc_is_test, pm_is_test, an_is_test, cd_is_test, ct_is_test, sl_is_test, PySem.W.mg_of X G a_is_test, l_is_test, c_is_test, k_is_test, t_is_test, d_is_test⟩,
      F_names_in := ⟨f_names_in, _, PySem.W.mg_of X G a_names_in, fun_mk (st := st_names_in) l_names_in c_names_in k_names_in⟩,
      F_has := ⟨f_has, _, PySem.W.mg_of X G a_has, fun_mk (st := st_has) l_has c_has k_has⟩,
      F_holds := ⟨f_holds, _, PySem.W.mg_of X G a_holds, fun_mk (st := st_holds) l_holds c_holds k_holds⟩,
      F_is_program := ⟨f_is_program, T_is_program, oT_is_program, tk_is_program, m_is_program, oc_is_program, od_is_program, kV_is_program, dc_is_program, pm_is_program, an_is_program, cd_is_program, ct_is_program, sl_is_program, PySem.W.mg_of X G a_is_program, l_is_program, c_is_program, k_is_program, t_is_program, d_is_program⟩,
      F_key_of := ⟨f_key_of, _, PySem.W.mg_of X G a_key_of, fun_mk (st := st_key_of) l_key_of c_key_of k_key_of⟩,
      F_distinct := ⟨f_distinct, _, PySem.W.mg_of X G a_distinct, fun_mk (st := st_distinct) l_distinct c_distinct k_distinct⟩,
      F_parts_of := ⟨f_parts_of, _, PySem.W.mg_of X G a_parts_of, fun_mk (st := st_parts_of) l_parts_of c_parts_of k_parts_of⟩,
      F_within := ⟨f_within, _, PySem.W.mg_of X G a_within, fun_mk (st := st_within) l_within c_within k_within⟩,
      F_steps_in := ⟨f_steps_in, _, PySem.W.mg_of X G a_steps_in, fun_mk (st := st_steps_in) l_steps_in c_steps_in k_steps_in⟩,
      F_tests_in := ⟨f_tests_in, _, PySem.W.mg_of X G a_tests_in, fun_mk (st := st_tests_in) l_tests_in c_tests_in k_tests_in⟩,
      F_fits := ⟨f_fits, _, PySem.W.mg_of X G a_fits, fun_mk (st := st_fits) l_fits c_fits k_fits⟩,
      F_look_at := ⟨f_look_at, _, PySem.W.mg_of X G a_look_at, fun_mk (st := st_look_at) l_look_at c_look_at k_look_at⟩,
      F_row := ⟨f_row, _, PySem.W.mg_of X G a_row, fun_mk (st := st_row) l_row c_row k_row⟩,
      F_may_end := ⟨f_may_end, _, PySem.W.mg_of X G a_may_end, fun_mk (st := st_may_end) l_may_end c_may_end k_may_end⟩,
      F_then := ⟨f_then, _, PySem.W.mg_of X G a_then, fun_mk (st := st_then) l_then c_then k_then⟩,
      F_rests := ⟨f_rests, _, PySem.W.mg_of X G a_rests, fun_mk (st := st_rests) l_rests c_rests k_rests⟩,
      F_behind := ⟨f_behind, _, PySem.W.mg_of X G a_behind, fun_mk (st := st_behind) l_behind c_behind k_behind⟩,
      F_is_ends := ⟨f_is_ends, _, PySem.W.mg_of X G a_is_ends, fun_mk (st := st_is_ends) l_is_ends c_is_ends k_is_ends⟩,
      F_is_ways := ⟨f_is_ways, _, PySem.W.mg_of X G a_is_ways, fun_mk (st := st_is_ways) l_is_ways c_is_ways k_is_ways⟩,
      F_look_at_agreed := ⟨f_look_at_agreed, _, PySem.W.mg_of X G a_look_at_agreed, fun_mk (st := st_look_at_agreed) l_look_at_agreed c_look_at_agreed k_look_at_agreed⟩,
      F_pairs_behind := ⟨f_pairs_behind, _, PySem.W.mg_of X G a_pairs_behind, fun_mk (st := st_pairs_behind) l_pairs_behind c_pairs_behind k_pairs_behind⟩,
      F_side_by_side := ⟨f_side_by_side, _, PySem.W.mg_of X G a_side_by_side, fun_mk (st := st_side_by_side) l_side_by_side c_side_by_side k_side_by_side⟩,
      F_ends_at := ⟨f_ends_at, _, PySem.W.mg_of X G a_ends_at, fun_mk (st := st_ends_at) l_ends_at c_ends_at k_ends_at⟩,
      F_all_side_by_side := ⟨f_all_side_by_side, _, PySem.W.mg_of X G a_all_side_by_side, fun_mk (st := st_all_side_by_side) l_all_side_by_side c_all_side_by_side k_all_side_by_side⟩,
      F_rows_behind := ⟨f_rows_behind, _, PySem.W.mg_of X G a_rows_behind, fun_mk (st := st_rows_behind) l_rows_behind c_rows_behind k_rows_behind⟩,
      F_live_states := ⟨f_live_states, _, PySem.W.mg_of X G a_live_states, fun_mk (st := st_live_states) l_live_states c_live_states k_live_states⟩,
      F_blocks_of := ⟨f_blocks_of, _, PySem.W.mg_of X G a_blocks_of, fun_mk (st := st_blocks_of) l_blocks_of c_blocks_of k_blocks_of⟩,
      F_least := ⟨f_least, _, PySem.W.mg_of X G a_least, fun_mk (st := st_least) l_least c_least k_least⟩,
      F_count_words := ⟨f_count_words, _, PySem.W.mg_of X G a_count_words, fun_mk (st := st_count_words) l_count_words c_count_words k_count_words⟩,
      F_law_draw := ⟨f_law_draw, _, PySem.W.mg_of X G a_law_draw, fun_mk (st := st_law_draw) l_law_draw c_law_draw k_law_draw⟩,
      F_law_same := ⟨f_law_same, _, PySem.W.mg_of X G a_law_same, fun_mk (st := st_law_same) l_law_same c_law_same k_law_same⟩,
      F_law_choose := ⟨f_law_choose, _, PySem.W.mg_of X G a_law_choose, fun_mk (st := st_law_choose) l_law_choose c_law_choose k_law_choose⟩,
      F_Scene := ⟨C_Scene, f_Scene, _, PySem.W.mg_of X G a_Scene, rfl, ⟨mk_Scene, ai_Scene, ii_Scene, kc_Scene⟩, fun_mk (st := st_Scene) l_Scene c_Scene k_Scene⟩,
      F_Machine := ⟨C_Machine, f_Machine, _, PySem.W.mg_of X G a_Machine, rfl, ⟨mk_Machine, ai_Machine, ii_Machine, kc_Machine⟩, fun_mk (st := st_Machine) l_Machine c_Machine k_Machine⟩ }
  exact ok_law (cls := cls) T (ok_all Fc T rfl rfl 24) rfl rfl (PySem.W.mg_of X G a_law_draws) (fun_mk (st := st_draws) l_law_draws c_law_draws k_law_draws) (fun_mk (st := st_law) l_law c_law k_law)
end K68
set_option Elab.async false
set_option linter.all false
set_option maxRecDepth 100000
set_option maxHeartbeats 4000000
open PySem PySem.W PyProof.Rows
set_option maxRecDepth 100000 in
set_option maxHeartbeats 0 in
theorem PySem.Challenge.cw_guardedways_k68_whole_side_by_side_count_holds : PySem.Challenge.rw_guardedways_k68_whole_side_by_side_count.Holds := by
  w_on; o_law; k_head; (case hw => w_witness2)
  k_fill
  refine Gw.walkG (l := PySem.Challenge.rw_guardedways_k68_whole_side_by_side_count) (n := 63) (k := 50) (sp := fun w => K68.spLaw _) rfl (by decide) rfl (Gw.room_caller ⟨rfl, by decide, by decide⟩) (fun w h Y => PySem.W.kIn_of Y) ?F (fun _ _ a ns hl _ hS => ⟨a, ns, rfl, hS, fun _ => rfl⟩)
  case F =>
    intro w mg fa h KX G hmg
    refine' K68.all_mk KX G hmg ?a_is_integer ?l_is_integer ?c_is_integer ?k_is_integer ?a_is_name ?l_is_name ?c_is_name ?k_is_name ?a_is_names ?l_is_names ?c_is_names ?k_is_names ?a_is_test ?l_is_test ?c_is_test ?k_is_test ?t_is_test ?d_is_test ?a_names_in ?l_names_in ?c_names_in ?k_names_in ?a_has ?l_has ?c_has ?k_has ?a_holds ?l_holds ?c_holds ?k_holds ?a_is_program ?l_is_program ?c_is_program ?k_is_program ?t_is_program ?d_is_program ?a_key_of ?l_key_of ?c_key_of ?k_key_of ?a_distinct ?l_distinct ?c_distinct ?k_distinct ?a_parts_of ?l_parts_of ?c_parts_of ?k_parts_of ?a_within ?l_within ?c_within ?k_within ?a_steps_in ?l_steps_in ?c_steps_in ?k_steps_in ?a_tests_in ?l_tests_in ?c_tests_in ?k_tests_in ?a_fits ?l_fits ?c_fits ?k_fits ?a_look_at ?l_look_at ?c_look_at ?k_look_at ?a_row ?l_row ?c_row ?k_row ?a_may_end ?l_may_end ?c_may_end ?k_may_end ?a_then ?l_then ?c_then ?k_then ?a_rests ?l_rests ?c_rests ?k_rests ?a_behind ?l_behind ?c_behind ?k_behind ?a_is_ends ?l_is_ends ?c_is_ends ?k_is_ends ?a_is_ways ?l_is_ways ?c_is_ways ?k_is_ways ?a_look_at_agreed ?l_look_at_agreed ?c_look_at_agreed ?k_look_at_agreed ?a_pairs_behind ?l_pairs_behind ?c_pairs_behind ?k_pairs_behind ?a_side_by_side ?l_side_by_side ?c_side_by_side ?k_side_by_side ?a_ends_at ?l_ends_at ?c_ends_at ?k_ends_at ?a_all_side_by_side ?l_all_side_by_side ?c_all_side_by_side ?k_all_side_by_side ?a_rows_behind ?l_rows_behind ?c_rows_behind ?k_rows_behind ?a_live_states ?l_live_states ?c_live_states ?k_live_states ?a_blocks_of ?l_blocks_of ?c_blocks_of ?k_blocks_of ?a_least ?l_least ?c_least ?k_least ?a_count_words ?l_count_words ?c_count_words ?k_count_words ?a_law_draw ?l_law_draw ?c_law_draw ?k_law_draw ?a_law_same ?l_law_same ?c_law_same ?k_law_same ?a_law_choose ?l_law_choose ?c_law_choose ?k_law_choose ?a_Scene ?ai_Scene ?ii_Scene ?l_Scene ?c_Scene ?k_Scene ?pg_Scene ?hd_Scene ?po_Scene ?sa_Scene ?mk_Scene ?kc_Scene ?n_Scene_atoms ?n_Scene_ends ?n_Scene_names ?n_Scene_scene ?n_Scene_size ?n_Scene_steps ?n_Scene_ways ?a_Machine ?ai_Machine ?ii_Machine ?l_Machine ?c_Machine ?k_Machine ?pg_Machine ?hd_Machine ?po_Machine ?sa_Machine ?mk_Machine ?kc_Machine ?n_Machine_atoms ?n_Machine_ends ?n_Machine_names ?n_Machine_scene ?n_Machine_size ?n_Machine_steps ?n_Machine_ways ?a_law_draws ?l_law_draws ?c_law_draws ?k_law_draws ?a_law ?l_law ?c_law ?k_law ?z_all ?z_any ?z_bool ?z_enumerate ?z_int ?z_isinstance ?z_len ?z_list ?z_range ?z_repr ?z_reversed ?z_sorted ?z_str ?z_sum ?z_tuple ?z_zip ?g_FAIL ?gl_FAIL ?gc_FAIL ?gd_FAIL ?hl_FAIL ?hc_FAIL ?hd_FAIL ?g_LETTERS ?g_MOST_NAMES ?g_MOST_STATES ?g_MOST_STEPS ?g_SKIP ?gl_SKIP ?gc_SKIP ?gd_SKIP ?hl_SKIP ?hc_SKIP ?hd_SKIP
    (case a_is_integer => k_is); (case l_is_integer => k_is); (case c_is_integer => k_is); (case k_is_integer => k_is); (case a_is_name => k_is); (case l_is_name => k_is)
    (case c_is_name => k_is); (case k_is_name => k_is); (case a_is_names => k_is); (case l_is_names => k_is); (case c_is_names => k_is); (case k_is_names => k_is)
    (case a_is_test => k_is); (case l_is_test => k_is); (case c_is_test => k_is); (case k_is_test => k_is); (case t_is_test => k_is); (case d_is_test => rfl)
    (case a_names_in => k_is); (case l_names_in => k_is); (case c_names_in => k_is); (case k_names_in => k_is); (case a_has => k_is); (case l_has => k_is)
    (case c_has => k_is); (case k_has => k_is); (case a_holds => k_is); (case l_holds => k_is); (case c_holds => k_is); (case k_holds => k_is)
    (case a_is_program => k_is); (case l_is_program => k_is); (case c_is_program => k_is); (case k_is_program => k_is); (case t_is_program => k_is); (case d_is_program => rfl)
    (case a_key_of => k_is); (case l_key_of => k_is); (case c_key_of => k_is); (case k_key_of => k_is); (case a_distinct => k_is); (case l_distinct => k_is)
    (case c_distinct => k_is); (case k_distinct => k_is); (case a_parts_of => k_is); (case l_parts_of => k_is); (case c_parts_of => k_is); (case k_parts_of => k_is)
    (case a_within => k_is); (case l_within => k_is); (case c_within => k_is); (case k_within => k_is); (case a_steps_in => k_is); (case l_steps_in => k_is)
    (case c_steps_in => k_is); (case k_steps_in => k_is); (case a_tests_in => k_is); (case l_tests_in => k_is); (case c_tests_in => k_is); (case k_tests_in => k_is)
    (case a_fits => k_is); (case l_fits => k_is); (case c_fits => k_is); (case k_fits => k_is); (case a_look_at => k_is); (case l_look_at => k_is)
    (case c_look_at => k_is); (case k_look_at => k_is); (case a_row => k_is); (case l_row => k_is); (case c_row => k_is); (case k_row => k_is)
    (case a_may_end => k_is); (case l_may_end => k_is); (case c_may_end => k_is); (case k_may_end => k_is); (case a_then => k_is); (case l_then => k_is)
    (case c_then => k_is); (case k_then => k_is); (case a_rests => k_is); (case l_rests => k_is); (case c_rests => k_is); (case k_rests => k_is)
    (case a_behind => k_is); (case l_behind => k_is); (case c_behind => k_is); (case k_behind => k_is); (case a_is_ends => k_is); (case l_is_ends => k_is)
    (case c_is_ends => k_is); (case k_is_ends => k_is); (case a_is_ways => k_is); (case l_is_ways => k_is); (case c_is_ways => k_is); (case k_is_ways => k_is)
    (case a_look_at_agreed => k_is); (case l_look_at_agreed => k_is); (case c_look_at_agreed => k_is); (case k_look_at_agreed => k_is); (case a_pairs_behind => k_is); (case l_pairs_behind => k_is)
    (case c_pairs_behind => k_is); (case k_pairs_behind => k_is); (case a_side_by_side => k_is); (case l_side_by_side => k_is); (case c_side_by_side => k_is); (case k_side_by_side => k_is)
    (case a_ends_at => k_is); (case l_ends_at => k_is); (case c_ends_at => k_is); (case k_ends_at => k_is); (case a_all_side_by_side => k_is); (case l_all_side_by_side => k_is)
    (case c_all_side_by_side => k_is); (case k_all_side_by_side => k_is); (case a_rows_behind => k_is); (case l_rows_behind => k_is); (case c_rows_behind => k_is); (case k_rows_behind => k_is)
    (case a_live_states => k_is); (case l_live_states => k_is); (case c_live_states => k_is); (case k_live_states => k_is); (case a_blocks_of => k_is); (case l_blocks_of => k_is)
    (case c_blocks_of => k_is); (case k_blocks_of => k_is); (case a_least => k_is); (case l_least => k_is); (case c_least => k_is); (case k_least => k_is)
    (case a_count_words => k_is); (case l_count_words => k_is); (case c_count_words => k_is); (case k_count_words => k_is); (case a_law_draw => k_is); (case l_law_draw => k_is)
    (case c_law_draw => k_is); (case k_law_draw => k_is); (case a_law_same => k_is); (case l_law_same => k_is); (case c_law_same => k_is); (case k_law_same => k_is)
    (case a_law_choose => k_is); (case l_law_choose => k_is); (case c_law_choose => k_is); (case k_law_choose => k_is); (case a_Scene => k_is); (case ai_Scene => k_is)
    (case ii_Scene => k_is); (case l_Scene => k_is); (case c_Scene => k_is); (case k_Scene => k_is); (case pg_Scene => k_is); (case hd_Scene => k_is)
    (case po_Scene => k_is); (case sa_Scene => k_is); (case mk_Scene => k_is); (case kc_Scene => k_is); (case n_Scene_atoms => k_is); (case n_Scene_ends => k_is)
    (case n_Scene_names => k_is); (case n_Scene_scene => k_is); (case n_Scene_size => k_is); (case n_Scene_steps => k_is); (case n_Scene_ways => k_is); (case a_Machine => k_is)
    (case ai_Machine => k_is); (case ii_Machine => k_is); (case l_Machine => k_is); (case c_Machine => k_is); (case k_Machine => k_is); (case pg_Machine => k_is)
    (case hd_Machine => k_is); (case po_Machine => k_is); (case sa_Machine => k_is); (case mk_Machine => k_is); (case kc_Machine => k_is); (case n_Machine_atoms => k_is)
    (case n_Machine_ends => k_is); (case n_Machine_names => k_is); (case n_Machine_scene => k_is); (case n_Machine_size => k_is); (case n_Machine_steps => k_is); (case n_Machine_ways => k_is)
    (case a_law_draws => k_is); (case l_law_draws => k_is); (case c_law_draws => k_is); (case k_law_draws => k_is); (case a_law => k_is); (case l_law => k_is)
    (case c_law => k_is); (case k_law => k_is); (case z_all => k_is); (case z_any => k_is); (case z_bool => k_is); (case z_enumerate => k_is)
    (case z_int => k_is); (case z_isinstance => k_is); (case z_len => k_is); (case z_list => k_is); (case z_range => k_is); (case z_repr => k_is)
    (case z_reversed => k_is); (case z_sorted => k_is); (case z_str => k_is); (case z_sum => k_is); (case z_tuple => k_is); (case z_zip => k_is)
    (case g_FAIL => k_is); (case gl_FAIL => k_is); (case gc_FAIL => rfl); (case gd_FAIL => rfl); (case hl_FAIL => k_is); (case hc_FAIL => rfl)
    (case hd_FAIL => rfl); (case g_LETTERS => k_is); (case g_MOST_NAMES => k_is); (case g_MOST_STATES => k_is); (case g_MOST_STEPS => k_is); (case g_SKIP => k_is)
    (case gl_SKIP => k_is); (case gc_SKIP => rfl); (case gd_SKIP => rfl); (case hl_SKIP => k_is); (case hc_SKIP => rfl); (case hd_SKIP => rfl)
#print axioms PySem.Challenge.cw_guardedways_k68_whole_side_by_side_count_holds
