import PyProof.Rows.All
import Wide.All
import OpenK.AllK
import Wide.FinOn
import PySem.Challenge.RW_surenumbers_k31_forged_tables
import HandS.List
import HandS.Comp
import HandS.Iter
import HandS.Dict
import HandS.Words
import PyProof.NeData
import PyProof.P3In
import PyProof.EqLayable
import HandS.DictEq
import HandS.Wide
import HandS.Style
import HandS.IsInst
import HandS.Deep
import HandS.Text
import HandS.TupAny
import HandS.TupMul
import PyProof.Rows.IntBool
import HandS.RaiseMore
import PyProof.ReprRoads
import PyProof.ReprBulk
import HandS.WordsDict
import HandS.WideBits
import HandS.SortInts
import HandS.More
import HandS.Flow
import PyProof.CollectIter
import PyProof.WalksMore
import HandS.Zip
import HandS.Rev
import PyProof.EnumMake
import PyProof.Draws
import KE.GoesMore
import PyProof.Rows.SeqMore3
import HandS.Conv
import PyProof.ListIndex
import HandS.Ends
import PyProof.ReprLen
import PyProof.Rows.StrIntSpec
set_option Elab.async false
set_option linter.all false
set_option maxRecDepth 100000
set_option maxHeartbeats 4000000
/-! Law k31: what the places' products make of powers. -/
namespace K31
/-- the product of the differences to the others -/
def pr (x : Int) : List Int → Int
  | [] => 1
  | y :: ys => (if y = x then 1 else x - y) * pr x ys
def su (k : Nat) (c : Int → Int) : List Int → Int
  | [] => 0
  | x :: xs => x ^ k * c x + su k c xs
theorem su_shift (k : Nat) (c : Int → Int) (y : Int) : ∀ xs : List Int, su k (fun x => (x - y) * c x) xs = su (k + 1) c xs - y * su k c xs
  | [] => by simp [su]
  | x :: xs => by
    rw [su, su, su, su_shift k c y xs, Int.pow_succ, Int.mul_add]
    have e1 : x ^ k * ((x - y) * c x) = x ^ k * x * c x - y * (x ^ k * c x) := by
      rw [Int.sub_mul, Int.mul_sub, ← Int.mul_assoc, ← Int.mul_assoc, ← Int.mul_assoc, Int.mul_comm y (x ^ k)]
    rw [e1]
    omega
theorem pr_ne {x y : Int} (h : y ≠ x) (ys : List Int) : pr x (y :: ys) = (x - y) * pr x ys := by
  rw [pr, if_neg h]
theorem su_zero : ∀ (n : Nat) (xs : List Int), xs.length = n → xs.Nodup → ∀ (c : Int → Int) (C : Int), (∀ x ∈ xs, c x * pr x xs = C) → ∀ k, k + 1 < n → su k c xs = 0 := by
  intro n
  induction n with
  | zero => intro xs _ _ c C _ k hk; omega
  | succ n ih =>
    intro xs hl nd c C hc k hk
    match xs, hl with
    | [x], hl => simp at hl; omega
    | y :: z :: ws, hl =>
      have nd1 := List.nodup_cons.mp nd
      have nd2 := List.nodup_cons.mp nd1.2
      have yz : y ≠ z := fun e => nd1.1 (by simp [e])
      have hl1 : (z :: ws).length = n := by simpa using hl
      have hl2 : (y :: ws).length = n := by simpa using hl
      have ndy : (y :: ws).Nodup := List.nodup_cons.mpr ⟨fun e => nd1.1 (by simp [e]), nd2.2⟩
      -- without y
      have a1 : ∀ j, j + 1 < n → su (j + 1) c (y :: z :: ws) = y * su j c (y :: z :: ws) := by
        intro j hj
        have s0 := ih (z :: ws) hl1 nd1.2 (fun x => (x - y) * c x) C (fun x hx => by
          have xy : y ≠ x := fun e => nd1.1 (e ▸ hx)
          have := hc x (by simp [hx] : x ∈ y :: z :: ws)
          rw [pr_ne xy] at this
          rw [← this, Int.mul_comm (x - y), Int.mul_assoc]) j hj
        have s1 := su_shift j c y (y :: z :: ws)
        have s2 : su j (fun x => (x - y) * c x) (y :: z :: ws) = su j (fun x => (x - y) * c x) (z :: ws) := by
          rw [su]
          simp
        rw [s2, s0] at s1
        omega
      -- without z
      have a2 : ∀ j, j + 1 < n → su (j + 1) c (y :: z :: ws) = z * su j c (y :: z :: ws) := by
        intro j hj
        have s0 := ih (y :: ws) hl2 ndy (fun x => (x - z) * c x) C (fun x hx => by
          have xz : z ≠ x := fun e => by
            rcases List.mem_cons.mp hx with h | h
            · exact yz (h.symm.trans e.symm)
            · exact nd2.1 (e ▸ h)
          have := hc x (by rcases List.mem_cons.mp hx with h | h <;> simp [h])
          rw [pr, pr, if_neg xz] at this
          rw [pr, ← this, Int.mul_comm (x - z), Int.mul_assoc, Int.mul_left_comm (x - z)]) j hj
        have s1 := su_shift j c z (y :: z :: ws)
        have s2 : su j (fun x => (x - z) * c x) (y :: z :: ws) = su j (fun x => (x - z) * c x) (y :: ws) := by
          rw [su, su, su]
          simp
        rw [s2, s0] at s1
        omega
      have z0 : ∀ j, j + 1 < n → su j c (y :: z :: ws) = 0 := by
        intro j hj
        have e := (a1 j hj).symm.trans (a2 j hj)
        have e2 : (y - z) * su j c (y :: z :: ws) = 0 := by rw [Int.sub_mul]; omega
        rcases Int.mul_eq_zero.mp e2 with h | h
        · exact absurd (by omega) yz
        · exact h
      rcases Nat.lt_or_ge (k + 1) n with h | h
      · exact z0 k h
      · cases k with
        | zero =>
          -- two places
          have : ws = [] := by
            cases ws with
            | nil => rfl
            | cons _ _ => simp at hl; omega
          subst this
          have h1 := hc y (by simp)
          have h2 := hc z (by simp)
          rw [pr, if_pos rfl, pr, if_neg yz.symm, pr] at h1
          rw [pr, if_neg yz, pr, if_pos rfl, pr] at h2
          simp only [Int.one_mul, Int.mul_one] at h1 h2
          simp only [su, Int.pow_zero, Int.one_mul, Int.add_zero]
          have e2 : (y - z) * (c y + c z) = 0 := by
            rw [Int.mul_add, Int.mul_comm (y - z), h1, ← h2, Int.mul_comm (c z), ← Int.add_mul, show z - y + (y - z) = 0 by omega, Int.zero_mul]
          rcases Int.mul_eq_zero.mp e2 with h | h
          · exact absurd (by omega) yz
          · exact h
        | succ j =>
          rw [a1 j (by omega), z0 j (by omega), Int.mul_zero]
theorem pr_nz {x : Int} : ∀ xs : List Int, pr x xs ≠ 0
  | [] => by simp [pr]
  | y :: ys => by
    rw [pr]
    refine Int.mul_ne_zero ?_ (pr_nz ys)
    split
    · decide
    · omega
end K31

/-! Values without addresses, worlds, what a value stands for. -/
namespace G
open PySem PySem.Spec PyProof.Rows L2

/-- built-in classes as values -/
inductive Ty where
  | int | bool | str | tuple | list | dict
  deriving DecidableEq
def Ty.name : Ty → String
  | .int => "int"
  | .bool => "bool"
  | .str => "str"
  | .tuple => "tuple"
  | .list => "list"
  | .dict => "dict"

/-- a value: tuples and finished lists by what they hold; dic: a finished dict; ref: a list or dict that may still change; deck: the law's deck; scr: the script -/
inductive D where
  | non | bl (b : Bool) | int (i : Int) | str (x : Str) | tup (ds : List D) | lst (ds : List D) | ref (n : Nat) | deck | scr | ty (t : Ty) | dic (ks : List Key) (ds : List D)

inductive Cell where
  | lst (ds : List D)
  | dK (kvs : List (Key × D))

abbrev Hd := Nat → Option Cell
def Hd.set (h : Hd) (n : Nat) (c : Cell) : Hd := fun k => if k = n then some c else h k
theorem Hd.set_same {h : Hd} {n : Nat} {c : Cell} : h.set n c n = some c := if_pos rfl
theorem Hd.set_ne {h : Hd} {n k : Nat} {c : Cell} (e : k ≠ n) : h.set n c k = h k := if_neg e
theorem Hd.set_set {h : Hd} {n : Nat} {c d : Cell} : (h.set n c).set n d = h.set n d := by
  funext k
  unfold Hd.set
  split <;> rfl

structure Wd where
  m : Nat → Option Addr
  fz : Nat → Prop
  H : Hp
  dk : Addr × Addr → Prop

/-- what may still change -/
def Wd.mut (w : Wd) (a : Addr) : Prop := (∃ n, w.m n = some a ∧ ¬ w.fz n) ∨ ∃ p, w.dk p ∧ (a = p.1 ∨ a = p.2)

def KTup (K : PySem.W.Frag) (a : Addr) (xs : List V) : Prop := ∃ (o : Obj) (its : Array Value) (n : Nat), K.lookup a = some o ∧ o.cls = .type "tuple" ∧ o.data = .seq its n ∧ its.size ≤ sizeLine ∧ Vals xs its.toList
def STup (K : PySem.W.Frag) (w : Wd) (a : Addr) (xs : List V) : Prop := (¬ w.mut a ∧ w.H a = some (.tup xs)) ∨ KTup K a xs
theorem STup.sq {K : PySem.W.Frag} {w : Wd} {a : Addr} {xs : List V} (h : STup K w a xs) : SqT K w.H a xs := by
  rcases h with ⟨_, h⟩ | h
  · exact .inl (.inl h)
  · exact .inr h

mutual
inductive RD (K : PySem.W.Frag) (w : Wd) : D → V → Prop where
  | non : RD K w .non .non
  | bl (b : Bool) : RD K w (.bl b) (.bl b)
  | int (i : Int) : RD K w (.int i) (.int i)
  | str (x : Str) : RD K w (.str x) (.str x)
  | ty (t : Ty) : RD K w (.ty t) (.ty t.name)
  | tup {a : Addr} {ds : List D} {xs : List V} (s : STup K w a xs) (l : ds.length ≤ sizeLine) (r : RDs K w ds xs) : RD K w (.tup ds) (.ref a)
  | lst {a : Addr} {ds : List D} {xs : List V} (s : ¬ w.mut a ∧ w.H a = some (.lst xs)) (l : ds.length ≤ sizeLine) (r : RDs K w ds xs) : RD K w (.lst ds) (.ref a)
  | ref {n : Nat} {a : Addr} (e : w.m n = some a) : RD K w (.ref n) (.ref a)
  | deck {p : Addr × Addr} (e : w.dk p) : RD K w .deck (.ref p.1)
  | dic {a : Addr} {ks : List Key} {ds : List D} {xs : List V} (s : ¬ w.mut a ∧ w.H a = some (.dK (ks.zip xs))) (l : ks.length = ds.length) (r : RDs K w ds xs) : RD K w (.dic ks ds) (.ref a)
  | scr {a : Addr} {ns : List Int} (s : SqL K w.H a (ns.map V.int)) (l : ns.length ≤ 63) (n : ¬ w.mut a ∨ ∃ o its n, K.lookup a = some o ∧ o.cls = .type "list" ∧ o.dict = none ∧ o.data = .seq its n ∧ its.size ≤ sizeLine ∧ Vals (ns.map V.int) its.toList) : RD K w .scr (.ref a)
inductive RDs (K : PySem.W.Frag) (w : Wd) : List D → List V → Prop where
  | nil : RDs K w [] []
  | cons {d : D} {ds : List D} {x : V} {xs : List V} (r : RD K w d x) (rs : RDs K w ds xs) : RDs K w (d :: ds) (x :: xs)
end

def RC (K : PySem.W.Frag) (w : Wd) (c : Cell) (a : Addr) : Prop := match c with
  | .lst ds => ∃ xs, w.H a = some (.lst xs) ∧ RDs K w ds xs ∧ ds.length ≤ sizeLine
  | .dK kvs => ∃ xs, w.H a = some (.dK xs) ∧ xs.map (·.1) = kvs.map (·.1) ∧ RDs K w (kvs.map (·.2)) (xs.map (·.2))

def DeckAt (H : Hp) (p : Addr × Addr) : Prop := p.1 ≠ p.2 ∧ ∃ (ns : List Int) (s t : Int), H p.1 = some (.lst [.ref p.2, .int s, .int t]) ∧ H p.2 = some (.lst (ns.map V.int)) ∧ ns.length ≤ 63

structure RelW (K : PySem.W.Frag) (w : Wd) (h : Hd) : Prop where
  inj : ∀ n k a, w.m n = some a → w.m k = some a → ¬ w.fz n → ¬ w.fz k → n = k
  has : ∀ n c, h n = some c → ∃ a, w.m n = some a ∧ RC K w c a
  live : ∀ n c, h n = some c → ¬ w.fz n
  there : ∀ n a, w.m n = some a → w.H a ≠ none
  fin : ∃ B, ∀ n, B ≤ n → w.m n = none
  deck : ∀ p, w.dk p → DeckAt w.H p ∧ ∀ n, ¬ w.fz n → w.m n ≠ some p.1 ∧ w.m n ≠ some p.2
  dks : ∀ p q, w.dk p → w.dk q → (p.1 = q.1 ∨ p.1 = q.2 ∨ p.2 = q.2) → p = q

structure Ext (w w' : Wd) (h h' : Hd) : Prop where
  m : ∀ n a, w.m n = some a → w'.m n = some a
  dk : ∀ p, w.dk p → w'.dk p
  keep : ∀ a o, ¬ w.mut a → w.H a = some o → w'.H a = some o
  new : ∀ a, w'.mut a → w.mut a ∨ w.H a = none
  dead : ∀ n a, w.m n = some a → h n = none → ¬ w.fz n → h' n = none ∧ w'.H a = w.H a ∧ ¬ w'.fz n

theorem Ext.refl (w : Wd) (h : Hd) : Ext w w h h := ⟨fun _ _ e => e, fun _ e => e, fun _ _ _ e => e, fun _ e => .inl e, fun _ _ _ e f => ⟨e, rfl, f⟩⟩
theorem Ext.nmut {w w' : Wd} {h h' : Hd} (x : Ext w w' h h') {a : Addr} {o : HO} (n : ¬ w.mut a) (e : w.H a = some o) : ¬ w'.mut a := fun q => by
  rcases x.new a q with z | z
  · exact n z
  · rw [e] at z; cases z
theorem Ext.trans {w w1 w2 : Wd} {h h1 h2 : Hd} (x : Ext w w1 h h1) (y : Ext w1 w2 h1 h2) : Ext w w2 h h2 where
  m := fun n a e => y.m n a (x.m n a e)
  dk := fun p e => y.dk p (x.dk p e)
  keep := fun a o n e => y.keep a o (x.nmut n e) (x.keep a o n e)
  new := fun a q => by
    rcases y.new a q with z | z
    · exact x.new a z
    · by_cases hm : w.mut a
      · exact .inl hm
      · cases e : w.H a with
        | none => exact .inr rfl
        | some o => rw [x.keep a o hm e] at z; cases z
  dead := fun n a e q f =>
    let ⟨p1, p2, p5⟩ := x.dead n a e q f
    let ⟨p3, p4, p6⟩ := y.dead n a (x.m n a e) p1 p5
    ⟨p3, p4.trans p2, p6⟩

theorem STup.mono {K : PySem.W.Frag} {w w' : Wd} {h h' : Hd} (x : Ext w w' h h') {a : Addr} {xs : List V} (s : STup K w a xs) : STup K w' a xs := by
  rcases s with ⟨n, e⟩ | s
  · exact .inl ⟨x.nmut n e, x.keep a _ n e⟩
  · exact .inr s
mutual
theorem RD.mono {K : PySem.W.Frag} {w w' : Wd} {h h' : Hd} (x : Ext w w' h h') : ∀ {d : D} {v : V}, RD K w d v → RD K w' d v
  | _, _, .non => .non
  | _, _, .bl b => .bl b
  | _, _, .int i => .int i
  | _, _, .str y => .str y
  | _, _, .ty n => .ty n
  | _, _, .tup s l r => .tup (s.mono x) l (RDs.mono x r)
  | _, _, .lst s l r => .lst ⟨x.nmut s.1 s.2, x.keep _ _ s.1 s.2⟩ l (RDs.mono x r)
  | _, _, .ref e => .ref (x.m _ _ e)
  | _, _, .deck e => .deck (x.dk _ e)
  | _, _, .dic s l r => .dic ⟨x.nmut s.1 s.2, x.keep _ _ s.1 s.2⟩ l (RDs.mono x r)
  | _, _, .scr s l n => by
    rcases n with n | n
    · rcases s with (s | ⟨o, s⟩) | s
      · exact .scr (.inl (.inl (x.keep _ _ n s))) l (.inl (x.nmut n s))
      · exact .scr (.inl (.inr ⟨o, x.keep _ _ n s⟩)) l (.inl (x.nmut n s))
      · exact .scr (.inr s) l (.inr s)
    · exact .scr (.inr n) l (.inr n)
theorem RDs.mono {K : PySem.W.Frag} {w w' : Wd} {h h' : Hd} (x : Ext w w' h h') : ∀ {ds : List D} {vs : List V}, RDs K w ds vs → RDs K w' ds vs
  | _, _, .nil => .nil
  | _, _, .cons r rs => .cons (RD.mono x r) (RDs.mono x rs)
end
theorem RDs.length {K : PySem.W.Frag} {w : Wd} : ∀ {ds : List D} {vs : List V}, RDs K w ds vs → ds.length = vs.length
  | _, _, .nil => rfl
  | _, _, .cons _ rs => by rw [List.length_cons, List.length_cons, RDs.length rs]
theorem RDs.get {K : PySem.W.Frag} {w : Wd} : ∀ {ds : List D} {vs : List V} {i : Nat} {d : D}, RDs K w ds vs → ds[i]? = some d → ∃ v, vs[i]? = some v ∧ RD K w d v
  | _, _, _, _, .nil, e => by simp at e
  | _, _, 0, _, .cons r _, e => by simp at e; subst e; exact ⟨_, rfl, r⟩
  | _, _, i + 1, _, .cons _ rs, e => by
    obtain ⟨v, e1, e2⟩ := RDs.get (i := i) rs (by simpa using e)
    exact ⟨v, by simpa using e1, e2⟩
theorem RDs.append {K : PySem.W.Frag} {w : Wd} : ∀ {ds es : List D} {vs us : List V}, RDs K w ds vs → RDs K w es us → RDs K w (ds ++ es) (vs ++ us)
  | _, _, _, _, .nil, s => s
  | _, _, _, _, .cons r rs, s => .cons r (RDs.append rs s)
theorem RDs.take {K : PySem.W.Frag} {w : Wd} : ∀ {ds : List D} {vs : List V} (n : Nat), RDs K w ds vs → RDs K w (ds.take n) (vs.take n)
  | _, _, 0, _ => .nil
  | _, _, _ + 1, .nil => .nil
  | _, _, n + 1, .cons r t => .cons r (RDs.take n t)
theorem RDs.drop {K : PySem.W.Frag} {w : Wd} : ∀ {ds : List D} {vs : List V} (n : Nat), RDs K w ds vs → RDs K w (ds.drop n) (vs.drop n)
  | _, _, 0, r => r
  | _, _, _ + 1, .nil => .nil
  | _, _, n + 1, .cons _ t => RDs.drop n t
theorem RDs.reverse {K : PySem.W.Frag} {w : Wd} : ∀ {ds : List D} {vs : List V}, RDs K w ds vs → RDs K w ds.reverse vs.reverse
  | _, _, .nil => .nil
  | _, _, .cons r t => by
    rw [List.reverse_cons, List.reverse_cons]
    exact (RDs.reverse t).append (.cons r .nil)
theorem RDs.set {K : PySem.W.Frag} {w : Wd} {d : D} {v : V} (q : RD K w d v) : ∀ {ds : List D} {vs : List V} (i : Nat), RDs K w ds vs → RDs K w (ds.set i d) (vs.set i v)
  | _, _, _, .nil => .nil
  | _, _, 0, .cons _ t => .cons q t
  | _, _, i + 1, .cons r t => .cons r (RDs.set q i t)
theorem RDs.eraseIdx {K : PySem.W.Frag} {w : Wd} : ∀ {ds : List D} {vs : List V} (i : Nat), RDs K w ds vs → RDs K w (ds.eraseIdx i) (vs.eraseIdx i)
  | _, _, _, .nil => .nil
  | _, _, 0, .cons _ t => t
  | _, _, i + 1, .cons r t => .cons r (RDs.eraseIdx i t)

/-- slots -/
abbrev Sl := List (Option D)
structure RSl (K : PySem.W.Frag) (w : Wd) (σd : Sl) (σ : L2.St) : Prop where
  len : σd.length = σ.length
  at_ : ∀ (i : Nat) (d : D), σd[i]? = some (some d) → ∃ v, σ[i]? = some (some v) ∧ RD K w d v
theorem RSl.mono {K : PySem.W.Frag} {w w' : Wd} {h h' : Hd} {σd : Sl} {σ : L2.St} (x : Ext w w' h h') (r : RSl K w σd σ) : RSl K w' σd σ :=
  ⟨r.len, fun i d e => let ⟨v, e1, e2⟩ := r.at_ i d e; ⟨v, e1, e2.mono x⟩⟩
theorem RSl.set {K : PySem.W.Frag} {w : Wd} {σd : Sl} {σ : L2.St} {d : D} {v : V} (r : RSl K w σd σ) (q : RD K w d v) (i : Nat) : RSl K w (σd.set i (some d)) (σ.set i (some v)) := by
  refine ⟨by simpa using r.len, fun j e hj => ?_⟩
  by_cases hi : i = j
  · subst hi
    by_cases hl : i < σd.length
    · rw [List.getElem?_set_self hl] at hj
      cases hj
      exact ⟨v, List.getElem?_set_self (by rw [← r.len]; exact hl), q⟩
    · rw [List.getElem?_eq_none (by simpa using hl)] at hj
      cases hj
  · rw [List.getElem?_set_ne hi] at hj
    rw [List.getElem?_set_ne hi]
    exact r.at_ j e hj
end G

/-! Readings over worlds; new things, changed things. -/
namespace G
open PySem PySem.Spec PyProof.Rows L2

abbrev Pq := D → Hd → Prop
abbrev WE := Sl → Hd → Pq → Prop
abbrev WT := Sl → Hd → (Bool → Hd → Prop) → Prop
abbrev WA := Sl → Hd → (List D → Hd → Prop) → Prop

def Post (K : PySem.W.Frag) (w : Wd) (h : Hd) (QD : Pq) (Q : VK) : Prop := ∀ w' h' d v, Ext w w' h h' → RelW K w' h' → RD K w' d v → QD d h' → Q v w'.H
def PostT (K : PySem.W.Frag) (w : Wd) (h : Hd) (QD : Bool → Hd → Prop) (Q : Bool → Hp → Prop) : Prop := ∀ w' h' b, Ext w w' h h' → RelW K w' h' → QD b h' → Q b w'.H
def PostA (K : PySem.W.Frag) (n : Nat) (w : Wd) (h : Hd) (QD : List D → Hd → Prop) (Q : List V → Hp → Prop) : Prop := ∀ w' h' ds vs, Ext w w' h h' → RelW K w' h' → RDs K w' ds vs → ds.length = n → QD ds h' → Q vs w'.H
theorem Post.ext {K : PySem.W.Frag} {w w1 : Wd} {h h1 : Hd} {QD : Pq} {Q : VK} (p : Post K w h QD Q) (x : Ext w w1 h h1) : Post K w1 h1 QD Q := fun w' h' d v y => p w' h' d v (x.trans y)
theorem PostT.ext {K : PySem.W.Frag} {w w1 : Wd} {h h1 : Hd} {QD : Bool → Hd → Prop} {Q : Bool → Hp → Prop} (p : PostT K w h QD Q) (x : Ext w w1 h h1) : PostT K w1 h1 QD Q := fun w' h' b y => p w' h' b (x.trans y)

def liftE (K : PySem.W.Frag) (wp : WE) : TE := fun σ H Q => ∃ w σd h QD, w.H = H ∧ RelW K w h ∧ RSl K w σd σ ∧ wp σd h QD ∧ Post K w h QD Q
def liftT (K : PySem.W.Frag) (wp : WT) : TT := fun σ H Q => ∃ w σd h QD, w.H = H ∧ RelW K w h ∧ RSl K w σd σ ∧ wp σd h QD ∧ PostT K w h QD Q
def liftA (K : PySem.W.Frag) (n : Nat) (wp : WA) : TA := fun σ H Q => ∃ w σd h QD, w.H = H ∧ RelW K w h ∧ RSl K w σd σ ∧ wp σd h QD ∧ PostA K n w h QD Q

theorem pe_imp {X : Cx} {e : Expr} {t t' : TE} (p : PE X e t) (i : ∀ σ H Q, t' σ H Q → t σ H Q) : PE X e t' := ⟨fun pins s σ H Q I h => p.run pins s σ H Q I (i σ H Q h)⟩
theorem pt_imp {X : Cx} {e : Expr} {t t' : TT} (p : PT X e t) (i : ∀ σ H Q, t' σ H Q → t σ H Q) : PT X e t' := ⟨fun pins s σ H Q I h => p.run pins s σ H Q I (i σ H Q h)⟩
theorem pw_imp {X : Cx} {e : Expr} {t t' : TT} (p : PW X e t) (i : ∀ σ H Q, t' σ H Q → t σ H Q) : PW X e t' := ⟨fun wh pins s σ H Q I h => p.run wh pins s σ H Q I (i σ H Q h)⟩
theorem pa_imp {X : Cx} {es : List Expr} {t t' : TA} (p : PA X es t) (i : ∀ σ H Q, t' σ H Q → t σ H Q) : PA X es t' := ⟨fun pos pins s σ H Q I h => p.run pos pins s σ H Q I (i σ H Q h)⟩
theorem pk_imp {X : Cx} {es : List Keyword} {t t' : TA} (p : PK X es t) (i : ∀ σ H Q, t' σ H Q → t σ H Q) : PK X es t' := ⟨fun pos pins s σ H Q I h => p.run pos pins s σ H Q I (i σ H Q h)⟩
theorem ps_imp {X : Cx} {e : Stmt} {t t' : TS} (p : PS X e t) (i : ∀ D σ H, t' D σ H → t D σ H) : PS X e t' := ⟨fun pins s σ H D I h => p.run pins s σ H D I (i D σ H h)⟩
theorem pss_imp {X : Cx} {e : List Stmt} {t t' : TS} (p : PSs X e t) (i : ∀ D σ H, t' D σ H → t D σ H) : PSs X e t' := ⟨fun pins s σ H D I h => p.run pins s σ H D I (i D σ H h)⟩

/-! ### new things -/
def Wd.put (w : Wd) (p : Addr) (o : HO) : Wd := { w with H := upd w.H p o }
theorem put_mut {w : Wd} {p a : Addr} {o : HO} : (w.put p o).mut a ↔ w.mut a := Iff.rfl
section
variable {K : PySem.W.Frag} {w : Wd} {h : Hd} {p : Addr} {o : HO}
theorem RelW.thereD (rel : RelW K w h) {q : Addr × Addr} (e : w.dk q) : w.H q.1 ≠ none ∧ w.H q.2 ≠ none := by
  obtain ⟨⟨_, ns, s, t, e1, e2, _⟩, _⟩ := rel.deck q e
  exact ⟨by rw [e1]; simp, by rw [e2]; simp⟩
theorem RelW.nmut (rel : RelW K w h) (hp : w.H p = none) : ¬ w.mut p := fun q => by
  rcases q with ⟨n, e, _⟩ | ⟨q, e, z⟩
  · exact rel.there n p e hp
  · rcases z with z | z
    · exact (rel.thereD e).1 (z ▸ hp)
    · exact (rel.thereD e).2 (z ▸ hp)
theorem ext_put (rel : RelW K w h) (hp : w.H p = none) : Ext w (w.put p o) h h :=
  ⟨fun _ _ e => e, fun _ e => e, fun a u n e => by
    show upd w.H p o a = some u
    rw [upd_ne (ne_of_none e hp)]; exact e, fun _ q => .inl q, fun n a e q f => ⟨q, upd_ne fun z => rel.there n a e (z ▸ hp), f⟩⟩
theorem rel_put (rel : RelW K w h) (hp : w.H p = none) : RelW K (w.put p o) h := by
  have x : Ext w (w.put p o) h h := ext_put rel hp
  have at_ : ∀ a, w.H a ≠ none → upd w.H p o a = w.H a := fun a q => upd_ne (fun e => q (e ▸ hp))
  refine ⟨rel.inj, fun n c e => ?_, rel.live, fun n a q => ?_, rel.fin, fun q e => ?_, rel.dks⟩
  · obtain ⟨a, e1, r⟩ := rel.has n c e
    refine ⟨a, e1, ?_⟩
    have ha : w.H a ≠ none := rel.there n a e1
    cases c with
    | lst ds =>
      obtain ⟨xs, e2, r, l⟩ := r
      exact ⟨xs, (at_ a ha).trans e2, r.mono x, l⟩
    | dK kvs =>
      obtain ⟨xs, e2, e3, r⟩ := r
      exact ⟨xs, (at_ a ha).trans e2, e3, r.mono x⟩
  · show upd w.H p o a ≠ none
    rw [at_ a (rel.there n a q)]
    exact rel.there n a q
  · obtain ⟨⟨ne, ns, s, t, e1, e2, l⟩, z⟩ := rel.deck q e
    refine ⟨⟨ne, ns, s, t, ?_, ?_, l⟩, z⟩
    · show upd w.H p o q.1 = _
      rw [at_ q.1 (by rw [e1]; simp)]; exact e1
    · show upd w.H p o q.2 = _
      rw [at_ q.2 (by rw [e2]; simp)]; exact e2
/-- a new tuple -/
theorem post_tup {QD : Pq} {Q : VK} {ds : List D} {xs : List V} (rel : RelW K w h) (hp : w.H p = none) (r : RDs K w ds xs) (l : ds.length ≤ sizeLine) (q : QD (.tup ds) h) (post : Post K w h QD Q) : Q (.ref p) (upd w.H p (.tup xs)) :=
  post (w.put p (.tup xs)) h (.tup ds) (.ref p) (ext_put rel hp) (rel_put rel hp) (.tup (.inl ⟨rel.nmut hp, upd_same⟩) l (r.mono (ext_put rel hp))) q
/-- a new list that stays as it is -/
theorem post_lst {QD : Pq} {Q : VK} {ds : List D} {xs : List V} (rel : RelW K w h) (hp : w.H p = none) (r : RDs K w ds xs) (l : ds.length ≤ sizeLine) (q : QD (.lst ds) h) (post : Post K w h QD Q) : Q (.ref p) (upd w.H p (.lst xs)) :=
  post (w.put p (.lst xs)) h (.lst ds) (.ref p) (ext_put rel hp) (rel_put rel hp) (.lst ⟨rel.nmut hp, upd_same⟩ l (r.mono (ext_put rel hp))) q
/-- a new thing that may change -/
def Wd.own (w : Wd) (n : Nat) (p : Addr) (o : HO) : Wd := { m := fun k => if k = n then some p else w.m k, fz := fun k => k ≠ n ∧ w.fz k, H := upd w.H p o, dk := w.dk }
theorem RelW.fresh (rel : RelW K w h) : ∃ n, w.m n = none ∧ h n = none := by
  obtain ⟨B, hB⟩ := rel.fin
  refine ⟨B, hB B (Nat.le_refl _), ?_⟩
  cases e : h B with
  | none => rfl
  | some c =>
    obtain ⟨a, e1, _⟩ := rel.has B c e
    rw [hB B (Nat.le_refl _)] at e1; cases e1
theorem ext_own {n : Nat} {c : Cell} (rel : RelW K w h) (hm : w.m n = none) (hp : w.H p = none) : Ext w (w.own n p o) h (h.set n c) := by
  refine ⟨fun k a e => ?_, fun _ e => e, fun a u _ e => ?_, fun a q => ?_, fun k a e q f => ?_⟩
  · show (if k = n then some p else w.m k) = some a
    rw [if_neg (fun z => by rw [z, hm] at e; cases e)]; exact e
  · show upd w.H p o a = some u
    rw [upd_ne (ne_of_none e hp)]; exact e
  · rcases q with ⟨k, e, nf⟩ | q
    · by_cases hk : k = n
      · have e' : some p = some a := by rw [← e]; show some p = if k = n then some p else w.m k; rw [if_pos hk]
        cases e'
        exact .inr hp
      · have e' : w.m k = some a := by rw [← e]; show _ = if k = n then some p else w.m k; rw [if_neg hk]
        exact .inl (.inl ⟨k, e', fun z => nf ⟨hk, z⟩⟩)
    · exact .inl (.inr q)
  · have hk : k ≠ n := fun z => by rw [z, hm] at e; cases e
    rw [Hd.set_ne hk]; exact ⟨q, upd_ne fun z => rel.there k a e (z ▸ hp), fun z => f z.2⟩
theorem rel_own {n : Nat} {c : Cell} (rel : RelW K w h) (hm : w.m n = none) (hp : w.H p = none) (r : RC K (w.own n p o) c p) : RelW K (w.own n p o) (h.set n c) := by
  have x : Ext w (w.own n p o) h (h.set n c) := ext_own rel hm hp
  have at_ : ∀ a, w.H a ≠ none → upd w.H p o a = w.H a := fun a q => upd_ne (fun e => q (e ▸ hp))
  have mk : ∀ k, k ≠ n → (w.own n p o).m k = w.m k := fun k hk => if_neg hk
  have mn : (w.own n p o).m n = some p := if_pos rfl
  have np : ∀ k a, w.m k = some a → a ≠ p := fun k a e z => rel.there k a e (z ▸ hp)
  refine ⟨fun k j a e1 e2 f1 f2 => ?_, fun k c' e => ?_, fun k c' e => ?_, fun k a q => ?_, ?_, fun q e => ?_, rel.dks⟩
  · by_cases hk : k = n
    · by_cases hj : j = n
      · rw [hk, hj]
      · rw [mk j hj] at e2
        rw [hk, mn] at e1; cases e1
        exact absurd rfl (np j p e2)
    · by_cases hj : j = n
      · rw [mk k hk] at e1
        rw [hj, mn] at e2; cases e2
        exact absurd rfl (np k p e1)
      · rw [mk k hk] at e1
        rw [mk j hj] at e2
        exact rel.inj k j a e1 e2 (fun z => f1 ⟨hk, z⟩) fun z => f2 ⟨hj, z⟩
  · by_cases hk : k = n
    · subst hk
      rw [Hd.set_same] at e; cases e
      exact ⟨p, mn, r⟩
    · rw [Hd.set_ne hk] at e
      obtain ⟨a, e1, r⟩ := rel.has k c' e
      have ha : w.H a ≠ none := rel.there k a e1
      refine ⟨a, (mk k hk).trans e1, ?_⟩
      cases c' with
      | lst ds =>
        obtain ⟨xs, e2, r, l⟩ := r
        exact ⟨xs, (at_ a ha).trans e2, r.mono x, l⟩
      | dK kvs =>
        obtain ⟨xs, e2, e3, r⟩ := r
        exact ⟨xs, (at_ a ha).trans e2, e3, r.mono x⟩
  · by_cases hk : k = n
    · exact fun z => z.1 hk
    · rw [Hd.set_ne hk] at e
      exact fun z => rel.live k c' e z.2
  · by_cases hk : k = n
    · rw [hk, mn] at q; cases q
      show upd w.H p o p ≠ none
      rw [upd_same]; simp
    · rw [mk k hk] at q
      show upd w.H p o a ≠ none
      rw [at_ a (rel.there k a q)]; exact rel.there k a q
  · obtain ⟨B, hB⟩ := rel.fin
    refine ⟨max B (n + 1), fun k hk => ?_⟩
    rw [mk k (by omega)]
    exact hB k (by omega)
  · obtain ⟨⟨ne, ns, s, t, e1, e2, l⟩, z⟩ := rel.deck q e
    have h1 : upd w.H p o q.1 = w.H q.1 := at_ q.1 (by rw [e1]; simp)
    have h2 : upd w.H p o q.2 = w.H q.2 := at_ q.2 (by rw [e2]; simp)
    refine ⟨⟨ne, ns, s, t, h1.trans e1, h2.trans e2, l⟩, fun k f => ?_⟩
    by_cases hk : k = n
    · rw [hk, mn]
      refine ⟨fun z' => ?_, fun z' => ?_⟩
      · cases z'; rw [hp] at e1; cases e1
      · cases z'; rw [hp] at e2; cases e2
    · rw [mk k hk]; exact z k fun y => f ⟨hk, y⟩
theorem post_new {QD : Pq} {Q : VK} {ds : List D} {xs : List V} (rel : RelW K w h) (hp : w.H p = none) (r : RDs K w ds xs) (l : ds.length ≤ sizeLine) (q : ∀ n, h n = none → QD (.ref n) (h.set n (.lst ds))) (post : Post K w h QD Q) : Q (.ref p) (upd w.H p (.lst xs)) := by
  obtain ⟨n, hm, hn⟩ := rel.fresh
  have x : Ext w (w.own n p (.lst xs)) h (h.set n (.lst ds)) := ext_own rel hm hp
  exact post (w.own n p (.lst xs)) (h.set n (.lst ds)) (.ref n) (.ref p) x (rel_own rel hm hp ⟨xs, upd_same, r.mono x, l⟩) (.ref (if_pos rfl)) (q n hn)
/-! ### changed things -/
theorem ext_chg {n : Nat} {a : Addr} {c c' : Cell} (rel : RelW K w h) (e : w.m n = some a) (hn : h n = some c) : Ext w (w.put a o) h (h.set n c') := by
  refine ⟨fun _ _ e => e, fun _ e => e, fun b u q z => ?_, fun _ q => .inl q, fun k b e1 q f => ?_⟩
  · show upd w.H a o b = some u
    rw [upd_ne (fun z' : b = a => q (.inl ⟨n, by rw [z']; exact e, rel.live n c hn⟩))]; exact z
  · have hk : k ≠ n := fun z => by rw [z, hn] at q; cases q
    rw [Hd.set_ne hk]; exact ⟨q, upd_ne fun z : b = a => hk (rel.inj k n a (z ▸ e1) e f (rel.live n c hn)), f⟩
theorem rel_chg {n : Nat} {a : Addr} {c c' : Cell} (rel : RelW K w h) (e : w.m n = some a) (hn : h n = some c) (r : RC K (w.put a o) c' a) : RelW K (w.put a o) (h.set n c') := by
  have x : Ext w (w.put a o) h (h.set n c') := ext_chg rel e hn
  refine ⟨rel.inj, fun k d ek => ?_, fun k d ek => ?_, fun k b q => ?_, rel.fin, fun q eq => ?_, rel.dks⟩
  · by_cases hk : k = n
    · subst hk
      rw [Hd.set_same] at ek; cases ek
      exact ⟨a, e, r⟩
    · rw [Hd.set_ne hk] at ek
      obtain ⟨b, e1, r⟩ := rel.has k d ek
      have hb : b ≠ a := fun z => hk (rel.inj k n a (z ▸ e1) e (rel.live k d ek) (rel.live n c hn))
      refine ⟨b, e1, ?_⟩
      cases d with
      | lst ds =>
        obtain ⟨xs, e2, r, l⟩ := r
        exact ⟨xs, (upd_ne hb).trans e2, r.mono x, l⟩
      | dK kvs =>
        obtain ⟨xs, e2, e3, r⟩ := r
        exact ⟨xs, (upd_ne hb).trans e2, e3, r.mono x⟩
  · by_cases hk : k = n
    · subst hk
      exact rel.live k c hn
    · rw [Hd.set_ne hk] at ek
      exact rel.live k d ek
  · show upd w.H a o b ≠ none
    by_cases hb : b = a
    · rw [hb, upd_same]; simp
    · rw [upd_ne hb]; exact rel.there k b q
  · obtain ⟨⟨ne, ns, s, t, e1, e2, l⟩, z⟩ := rel.deck q eq
    have h1 : q.1 ≠ a := fun z' => (z n (rel.live n c hn)).1 (z' ▸ e)
    have h2 : q.2 ≠ a := fun z' => (z n (rel.live n c hn)).2 (z' ▸ e)
    exact ⟨⟨ne, ns, s, t, (upd_ne h1).trans e1, (upd_ne h2).trans e2, l⟩, z⟩
/-- the list at n has become ds'; the answer d -/
theorem post_chg {n : Nat} {a : Addr} {QD : Pq} {Q : VK} {ds' : List D} {xs' : List V} {c : Cell} {d : D} {v : V} (rel : RelW K w h) (e : w.m n = some a) (hn : h n = some c) (r : RDs K w ds' xs') (l : ds'.length ≤ sizeLine) (rv : RD K w d v) (q : QD d (h.set n (.lst ds')))
    (post : Post K w h QD Q) : Q v (upd w.H a (.lst xs')) := by
  have x : Ext w (w.put a (.lst xs')) h (h.set n (.lst ds')) := ext_chg rel e hn
  exact post (w.put a (.lst xs')) (h.set n (.lst ds')) d v x (rel_chg rel e hn ⟨xs', upd_same, r.mono x, l⟩) (rv.mono x) q
theorem post_chgK {n : Nat} {a : Addr} {QD : Pq} {Q : VK} {ds' : List (Key × D)} {xs' : List (Key × V)} {c : Cell} {d : D} {v : V} (rel : RelW K w h) (e : w.m n = some a) (hn : h n = some c) (hk : xs'.map (·.1) = ds'.map (·.1)) (r : RDs K w (ds'.map (·.2)) (xs'.map (·.2))) (rv : RD K w d v) (q : QD d (h.set n (.dK ds')))
    (post : Post K w h QD Q) : Q v (upd w.H a (.dK xs')) := by
  have x : Ext w (w.put a (.dK xs')) h (h.set n (.dK ds')) := ext_chg rel e hn
  exact post (w.put a (.dK xs')) (h.set n (.dK ds')) d v x (rel_chg rel e hn ⟨xs', upd_same, hk, r.mono x⟩) (rv.mono x) q
/-- nothing is new -/
theorem Post.now {QD : Pq} {Q : VK} {d : D} {v : V} (post : Post K w h QD Q) (rel : RelW K w h) (r : RD K w d v) (q : QD d h) : Q v w.H := post w h d v (Ext.refl w h) rel r q
end

/-! ### reading lists -/
/-- what a value is to look at: a list that may change, as it is now -/
def view (h : Hd) : D → D
  | .ref n => match h n with
    | some (.lst ds) => .lst ds
    | _ => .ref n
  | d => d
theorem view_lst {K : PySem.W.Frag} {w : Wd} {h : Hd} {d : D} {ds : List D} {v : V} (rel : RelW K w h) (r : RD K w d v) (e : view h d = .lst ds) : ∃ a xs, v = .ref a ∧ w.H a = some (.lst xs) ∧ RDs K w ds xs ∧ ds.length ≤ sizeLine := by
  cases r with
  | ref q =>
    rename_i n a
    simp only [view] at e
    split at e
    · rename_i ds' hn
      cases e
      obtain ⟨b, e1, xs, e2, rs, l⟩ := rel.has n _ hn
      rw [q] at e1; cases e1
      exact ⟨a, xs, rfl, e2, rs, l⟩
    · cases e
  | lst s l rs =>
    cases e
    exact ⟨_, _, rfl, s.2, rs, l⟩
  | _ => cases e
theorem view_tup {K : PySem.W.Frag} {w : Wd} {h : Hd} {d : D} {ds : List D} {v : V} (r : RD K w d v) (e : view h d = .tup ds) : ∃ a xs, v = .ref a ∧ STup K w a xs ∧ RDs K w ds xs ∧ ds.length ≤ sizeLine := by
  cases r with
  | ref q =>
    simp only [view] at e
    split at e <;> cases e
  | tup s l rs =>
    cases e
    exact ⟨_, _, rfl, s, rs, l⟩
  | _ => cases e
theorem view_int {K : PySem.W.Frag} {w : Wd} {h : Hd} {d : D} {i : Int} {v : V} (r : RD K w d v) (e : view h d = .int i) : v = .int i := by
  cases r with
  | ref q =>
    simp only [view] at e
    split at e <;> cases e
  | int j => cases e; rfl
  | _ => cases e
theorem view_str {K : PySem.W.Frag} {w : Wd} {h : Hd} {d : D} {i : Str} {v : V} (r : RD K w d v) (e : view h d = .str i) : v = .str i := by
  cases r with
  | ref q =>
    simp only [view] at e
    split at e <;> cases e
  | str j => cases e; rfl
  | _ => cases e
theorem view_bl {K : PySem.W.Frag} {w : Wd} {h : Hd} {d : D} {i : Bool} {v : V} (r : RD K w d v) (e : view h d = .bl i) : v = .bl i := by
  cases r with
  | ref q =>
    simp only [view] at e
    split at e <;> cases e
  | bl j => cases e; rfl
  | _ => cases e
theorem view_non {K : PySem.W.Frag} {w : Wd} {h : Hd} {d : D} {v : V} (r : RD K w d v) (e : view h d = .non) : v = .non := by
  cases r with
  | ref q =>
    simp only [view] at e
    split at e <;> cases e
  | non => rfl
  | _ => cases e

/-! ### as data -/
def keyP : Key → PyData
  | .inl i => .int i
  | .inr x => .str x
mutual
def D.py : D → PyData
  | .bl b => .bool b
  | .int i => .int i
  | .str x => .str x
  | .tup ds => .tuple (D.pys ds)
  | .lst ds => .list (D.pys ds)
  | .dic ks ds => .dict ((ks.map keyP).zip (D.pys ds))
  | _ => .none
def D.pys : List D → List PyData
  | [] => []
  | d :: ds => D.py d :: D.pys ds
end
mutual
def D.isD : D → Bool
  | .non => true
  | .bl _ => true
  | .int _ => true
  | .str _ => true
  | .tup ds => D.areD ds
  | .lst ds => D.areD ds
  | _ => false
def D.areD : List D → Bool
  | [] => true
  | d :: ds => D.isD d && D.areD ds
end
mutual
theorem RD.dp {K : PySem.W.Frag} {w : Wd} : ∀ {d : D} {v : V}, RD K w d v → d.isD = true → Dp K w.H v d.py
  | _, _, .non, _ => by simp only [D.py]; exact .non
  | _, _, .bl b, _ => by simp only [D.py]; exact .bl b
  | _, _, .int i, _ => by simp only [D.py]; exact .int i
  | _, _, .str y, _ => by simp only [D.py]; exact .str y
  | _, _, .ty n, h => by simp [D.isD] at h
  | _, _, .tup s l r, h => by simp only [D.py]; exact .tup s.sq (RDs.dps r (by simpa [D.isD] using h))
  | _, _, .lst s l r, h => by simp only [D.py]; exact .lst (.inl (.inl s.2)) (RDs.dps r (by simpa [D.isD] using h))
  | _, _, .ref e, h => by simp [D.isD] at h
  | _, _, .deck e, h => by simp [D.isD] at h
  | _, _, .dic s l r, h => by simp [D.isD] at h
  | _, _, .scr s l n, h => by simp [D.isD] at h
theorem RDs.dps {K : PySem.W.Frag} {w : Wd} : ∀ {ds : List D} {vs : List V}, RDs K w ds vs → D.areD ds = true → DpAll K w.H vs (D.pys ds)
  | _, _, .nil, _ => by simp only [D.pys]; exact .nil
  | _, _, .cons r rs, h => by
    simp only [D.areD, Bool.and_eq_true] at h
    simp only [D.pys]
    exact .cons (RD.dp r h.1) (RDs.dps rs h.2)
end
theorem view_dp {K : PySem.W.Frag} {w : Wd} {h : Hd} {d : D} {v : V} (rel : RelW K w h) (r : RD K w d v) (i : (view h d).isD = true) : Dp K w.H v (view h d).py := by
  cases e : view h d with
  | lst ds =>
    obtain ⟨a, xs, rfl, e2, rs, _⟩ := view_lst rel r e
    rw [e] at i
    simp only [D.py]
    exact .lst (.inl (.inl e2)) (rs.dps (by simpa [D.isD] using i))
  | tup ds =>
    obtain ⟨a, xs, rfl, e2, rs, _⟩ := view_tup r e
    rw [e] at i
    simp only [D.py]
    exact .tup e2.sq (rs.dps (by simpa [D.isD] using i))
  | int j => rw [view_int r e]; simp only [D.py]; exact .int j
  | str j => rw [view_str r e]; simp only [D.py]; exact .str j
  | bl j => rw [view_bl r e]; simp only [D.py]; exact .bl j
  | non => rw [view_non r e]; simp only [D.py]; exact .non
  | ref n => rw [e] at i; simp [D.isD] at i
  | deck => rw [e] at i; simp [D.isD] at i
  | scr => rw [e] at i; simp [D.isD] at i
  | ty n => rw [e] at i; simp [D.isD] at i
  | dic ks ds => rw [e] at i; simp [D.isD] at i

/-! ### data with finished dicts in them -/
mutual
def D.isF : D → Bool
  | .non => true
  | .bl _ => true
  | .int _ => true
  | .str _ => true
  | .tup ds => D.areF ds
  | .lst ds => D.areF ds
  | .dic _ ds => D.areF ds
  | _ => false
def D.areF : List D → Bool
  | [] => true
  | d :: ds => D.isF d && D.areF ds
end
mutual
theorem isF_of : ∀ d : D, d.isD = true → d.isF = true
  | .non, _ => by simp only [D.isF]
  | .bl _, _ => by simp only [D.isF]
  | .int _, _ => by simp only [D.isF]
  | .str _, _ => by simp only [D.isF]
  | .tup ds, h => by simp only [D.isF]; exact areF_of ds (by simpa only [D.isD] using h)
  | .lst ds, h => by simp only [D.isF]; exact areF_of ds (by simpa only [D.isD] using h)
  | .ref _, h => by simp [D.isD] at h
  | .deck, h => by simp [D.isD] at h
  | .scr, h => by simp [D.isD] at h
  | .ty _, h => by simp [D.isD] at h
  | .dic _ _, h => by simp [D.isD] at h
theorem areF_of : ∀ ds : List D, D.areD ds = true → D.areF ds = true
  | [], _ => by simp only [D.areF]
  | d :: ds, h => by
    simp only [D.areD, Bool.and_eq_true] at h
    simp only [D.areF, isF_of d h.1, areF_of ds h.2, Bool.and_self]
end
section
variable {X : Cx} {pins : List (Addr × Obj)} {σ : L2.St} {s : Shared} {w : Wd}
/-- no list or dict of ours is the table of modules -/
theorem tracked_ne (I : Inv X pins σ w.H s) (hs : ∃ o, X.base.get? sysModules = some o) {a : Addr} {o : HO} (e : w.H a = some o) : a ≠ sysModules := fun z => by
  obtain ⟨u, hu⟩ := hs
  have := (I.bs _ _ hu).2
  rw [← z, e] at this
  cases this
theorem keys_read {h : Heap} {P : Program} {W : World} : ∀ {ks : List Key} {xs : List V} {vs : List (Key × Value)} {es : List DictEntry}, ks.length = xs.length → KV (ks.zip xs) vs → Pairs (mixKind P W) es vs →
    ReadsAll h (es.map (·.key)) (ks.map keyP) [] ∧ Vals xs (es.map (·.val))
  | [], [], _, _, _, .nil, .nil => ⟨.nil, .nil⟩
  | [], _ :: _, _, _, l, _, _ => by simp at l
  | _ :: _, [], _, _, l, _, _ => by simp at l
  | k :: ks, x :: xs, _, _, l, .cons ⟨e1, e2⟩ rs, .cons p1 p2 ps => by
    obtain ⟨a, b⟩ := keys_read (P := P) (W := W) (h := h) (by simpa using l) rs ps
    have c : ∀ {u : Value}, keyIs k u = true → Reads h u (keyP k) [] := fun {u} hk => by
      rcases keyIs_shape hk with ⟨i, t, rfl, rfl⟩ | ⟨y, t, rfl, rfl⟩
      · exact .int i t
      · exact .str y t
    simp only at e1
    subst e1
    refine ⟨ReadsAll.cons (as := []) (bs := []) (c p1) a, .cons ?_ b⟩
    dsimp only
    rw [p2]
    exact e2
theorem nin_append {α : Type} {x : α} {as bs : List α} (h1 : x ∉ as) (h2 : x ∉ bs) : x ∉ as ++ bs := fun h => (List.mem_append.mp h).elim h1 h2
theorem nin_cons {α : Type} {x a : α} {as : List α} (h1 : a ≠ x) (h2 : x ∉ as) : x ∉ a :: as := fun h => (List.mem_cons.mp h).elim (fun e => h1 e.symm) h2
theorem zip_fst_snd {α β : Type} : ∀ {as : List α} {bs : List β}, as.length = bs.length → (as.zip bs).map (·.1) = as ∧ (as.zip bs).map (·.2) = bs
  | [], [], _ => ⟨rfl, rfl⟩
  | [], _ :: _, h => by simp at h
  | _ :: _, [], h => by simp at h
  | a :: as, b :: bs, h => by
    obtain ⟨h1, h2⟩ := zip_fst_snd (as := as) (bs := bs) (by simpa using h)
    simp only [List.zip_cons_cons, List.map_cons, h1, h2]
    exact ⟨trivial, trivial⟩
theorem pys_len : ∀ ds : List D, (D.pys ds).length = ds.length
  | [] => by simp only [D.pys, List.length_nil]
  | d :: ds => by simp only [D.pys, List.length_cons, pys_len ds]
mutual
theorem RD.reads (I : Inv X pins σ w.H s) (hs : ∃ o, X.base.get? sysModules = some o) : ∀ {d : D} {v : V} {u : Value}, RD X.K w d v → RelV v u → d.isF = true → ∃ as, Reads s.heap u d.py as ∧ sysModules ∉ as
  | _, _, _, .non, r, _ => by cases r; simp only [D.py]; exact ⟨_, Reads.none, List.not_mem_nil⟩
  | _, _, _, .bl b, r, _ => by cases r; simp only [D.py]; exact ⟨_, Reads.bool b, List.not_mem_nil⟩
  | _, _, _, .int i, r, _ => by obtain ⟨t, rfl⟩ := r; simp only [D.py]; exact ⟨_, Reads.int i t, List.not_mem_nil⟩
  | _, _, _, .str y, r, _ => by obtain ⟨t, rfl⟩ := r; simp only [D.py]; exact ⟨_, Reads.str y t, List.not_mem_nil⟩
  | _, _, _, .ty n, _, h => by simp [D.isF] at h
  | _, _, _, .ref e, _, h => by simp [D.isF] at h
  | _, _, _, .deck e, _, h => by simp [D.isF] at h
  | _, _, _, .scr _ _ _, _, h => by simp [D.isF] at h
  | _, _, _, .tup st l rs, r, h => by
    cases r
    obtain ⟨its, rv, ⟨o, ho, hc, n, hd⟩, _⟩ := I.tuple st.sq
    obtain ⟨as, hr, hn⟩ := RDs.reads I hs rs rv (by simpa only [D.isF] using h)
    simp only [D.py]
    exact ⟨_, Reads.tuple ho hc hd hr, hn⟩
  | _, _, _, .lst st l rs, r, h => by
    cases r
    obtain ⟨its, rv, ⟨o, n, ho, hc, _, hd⟩, _⟩ := I.list (.inl (.inl st.2))
    obtain ⟨as, hr, hn⟩ := RDs.reads I hs rs rv (by simpa only [D.isF] using h)
    simp only [D.py]
    exact ⟨_, Reads.list ho hc hd hr, nin_cons (tracked_ne I hs st.2) hn⟩
  | _, _, _, .dic st l rs, r, h => by
    cases r
    obtain ⟨_, _, vs, kv, o, es, ep, ho, hc, hd, _, ps, _⟩ := dk_of I.hok st.2
    obtain ⟨rk, rv⟩ := keys_read (h := s.heap) (l.trans rs.length) kv ps
    obtain ⟨bs, hr, hn⟩ := RDs.reads I hs rs rv (by simpa only [D.isF] using h)
    simp only [D.py]
    have z := zip_fst_snd (as := (_ : List Key).map keyP) (bs := D.pys _) (by rw [List.length_map, pys_len]; exact l)
    refine ⟨_, Reads.dict (as := []) (bs := bs) ho hc.1 hd (by rw [z.1]; exact rk) (by rw [z.2]; exact hr), ?_⟩
    exact nin_append (nin_cons (tracked_ne I hs st.2) List.not_mem_nil) hn
theorem RDs.reads (I : Inv X pins σ w.H s) (hs : ∃ o, X.base.get? sysModules = some o) : ∀ {ds : List D} {vs : List V} {us : List Value}, RDs X.K w ds vs → Vals vs us → D.areF ds = true → ∃ as, ReadsAll s.heap us (D.pys ds) as ∧ sysModules ∉ as
  | _, _, _, .nil, r, _ => by cases r; simp only [D.pys]; exact ⟨_, ReadsAll.nil, List.not_mem_nil⟩
  | _, _, _, .cons r rs, rv, h => by
    simp only [D.areF, Bool.and_eq_true] at h
    cases rv with
    | cons r1 r2 =>
      obtain ⟨as, q1, n1⟩ := RD.reads I hs r r1 h.1
      obtain ⟨bs, q2, n2⟩ := RDs.reads I hs rs r2 h.2
      simp only [D.pys]
      exact ⟨_, ReadsAll.cons q1 q2, nin_append n1 n2⟩
end
mutual
theorem RD.reads0 (I : Inv X pins σ w.H s) : ∀ {d : D} {v : V} {u : Value}, RD X.K w d v → RelV v u → d.isF = true → ∃ as, Reads s.heap u d.py as
  | _, _, _, .non, r, _ => by cases r; simp only [D.py]; exact ⟨_, Reads.none⟩
  | _, _, _, .bl b, r, _ => by cases r; simp only [D.py]; exact ⟨_, Reads.bool b⟩
  | _, _, _, .int i, r, _ => by obtain ⟨t, rfl⟩ := r; simp only [D.py]; exact ⟨_, Reads.int i t⟩
  | _, _, _, .str y, r, _ => by obtain ⟨t, rfl⟩ := r; simp only [D.py]; exact ⟨_, Reads.str y t⟩
  | _, _, _, .ty n, _, h => by simp [D.isF] at h
  | _, _, _, .ref e, _, h => by simp [D.isF] at h
  | _, _, _, .deck e, _, h => by simp [D.isF] at h
  | _, _, _, .scr _ _ _, _, h => by simp [D.isF] at h
  | _, _, _, .tup st l rs, r, h => by
    cases r
    obtain ⟨its, rv, ⟨o, ho, hc, n, hd⟩, _⟩ := I.tuple st.sq
    obtain ⟨as, hr⟩ := RDs.reads0 I rs rv (by simpa only [D.isF] using h)
    simp only [D.py]
    exact ⟨_, Reads.tuple ho hc hd hr⟩
  | _, _, _, .lst st l rs, r, h => by
    cases r
    obtain ⟨its, rv, ⟨o, n, ho, hc, _, hd⟩, _⟩ := I.list (.inl (.inl st.2))
    obtain ⟨as, hr⟩ := RDs.reads0 I rs rv (by simpa only [D.isF] using h)
    simp only [D.py]
    exact ⟨_, Reads.list ho hc hd hr⟩
  | _, _, _, .dic st l rs, r, h => by
    cases r
    obtain ⟨_, _, vs, kv, o, es, ep, ho, hc, hd, _, ps, _⟩ := dk_of I.hok st.2
    obtain ⟨rk, rv⟩ := keys_read (h := s.heap) (l.trans rs.length) kv ps
    obtain ⟨bs, hr⟩ := RDs.reads0 I rs rv (by simpa only [D.isF] using h)
    simp only [D.py]
    have z := zip_fst_snd (as := (_ : List Key).map keyP) (bs := D.pys _) (by rw [List.length_map, pys_len]; exact l)
    exact ⟨_, Reads.dict (as := []) (bs := bs) ho hc.1 hd (by rw [z.1]; exact rk) (by rw [z.2]; exact hr)⟩
theorem RDs.reads0 (I : Inv X pins σ w.H s) : ∀ {ds : List D} {vs : List V} {us : List Value}, RDs X.K w ds vs → Vals vs us → D.areF ds = true → ∃ as, ReadsAll s.heap us (D.pys ds) as
  | _, _, _, .nil, r, _ => by cases r; simp only [D.pys]; exact ⟨_, ReadsAll.nil⟩
  | _, _, _, .cons r rs, rv, h => by
    simp only [D.areF, Bool.and_eq_true] at h
    cases rv with
    | cons r1 r2 =>
      obtain ⟨as, q1⟩ := RD.reads0 I r r1 h.1
      obtain ⟨bs, q2⟩ := RDs.reads0 I rs r2 h.2
      simp only [D.pys]
      exact ⟨_, ReadsAll.cons q1 q2⟩
end
theorem view_reads {h : Hd} {d : D} {v : V} {u : Value} (I : Inv X pins σ w.H s) (hs : ∃ o, X.base.get? sysModules = some o) (rel : RelW X.K w h) (r : RD X.K w d v) (ru : RelV v u) (i : (view h d).isF = true) : ∃ as, Reads s.heap u (view h d).py as ∧ sysModules ∉ as := by
  cases d with
  | ref n =>
    cases e : view h (.ref n) with
    | lst ds =>
      obtain ⟨a, xs, rfl, e2, rs, _⟩ := view_lst rel r e
      rw [e] at i
      cases ru
      obtain ⟨its, rv, ⟨o, n, ho, hc, _, hd⟩, _⟩ := I.list (.inl (.inl e2))
      obtain ⟨as, hr, hn⟩ := RDs.reads I hs rs rv (by simpa only [D.isF] using i)
      simp only [D.py]
      exact ⟨_, Reads.list ho hc hd hr, nin_cons (tracked_ne I hs e2) hn⟩
    | _ =>
      exfalso
      have : view h (.ref n) = .ref n := by
        simp only [view] at e ⊢
        split at e <;> first | (cases e; done) | rfl
      rw [this] at i
      simp [D.isF] at i
  | non => exact RD.reads I hs r ru i
  | bl _ => exact RD.reads I hs r ru i
  | int _ => exact RD.reads I hs r ru i
  | str _ => exact RD.reads I hs r ru i
  | tup _ => exact RD.reads I hs r ru i
  | lst _ => exact RD.reads I hs r ru i
  | deck => exact RD.reads I hs r ru i
  | scr => exact RD.reads I hs r ru i
  | ty _ => exact RD.reads I hs r ru i
  | dic _ _ => exact RD.reads I hs r ru i
theorem view_reads0 {h : Hd} {d : D} {v : V} {u : Value} (I : Inv X pins σ w.H s) (rel : RelW X.K w h) (r : RD X.K w d v) (ru : RelV v u) (i : (view h d).isF = true) : ∃ as, Reads s.heap u (view h d).py as := by
  cases d with
  | ref n =>
    cases e : view h (.ref n) with
    | lst ds =>
      obtain ⟨a, xs, rfl, e2, rs, _⟩ := view_lst rel r e
      rw [e] at i
      cases ru
      obtain ⟨its, rv, ⟨o, n, ho, hc, _, hd⟩, _⟩ := I.list (.inl (.inl e2))
      obtain ⟨as, hr⟩ := RDs.reads0 I rs rv (by simpa only [D.isF] using i)
      simp only [D.py]
      exact ⟨_, Reads.list ho hc hd hr⟩
    | _ =>
      exfalso
      have : view h (.ref n) = .ref n := by
        simp only [view] at e ⊢
        split at e <;> first | (cases e; done) | rfl
      rw [this] at i
      simp [D.isF] at i
  | non => exact RD.reads0 I r ru i
  | bl _ => exact RD.reads0 I r ru i
  | int _ => exact RD.reads0 I r ru i
  | str _ => exact RD.reads0 I r ru i
  | tup _ => exact RD.reads0 I r ru i
  | lst _ => exact RD.reads0 I r ru i
  | deck => exact RD.reads0 I r ru i
  | scr => exact RD.reads0 I r ru i
  | ty _ => exact RD.reads0 I r ru i
  | dic _ _ => exact RD.reads0 I r ru i
end
end G

/-! == and != where one side has no dict in it. -/
namespace G
open PySem PySem.SeqAt PySem.MeetsSeq
open PySem.AutoSeq1 (wpAny_loadPart')

section
variable {M : Model} {A : Around} {E : Value → Shared → Prop} {s : Shared}
def IsDic (h : Heap) (l : Addr) : Prop := ∃ o es n, h.get? l = some o ∧ o.cls = .type "dict" ∧ o.data = .dict es n
theorem IsDic.ty {l : Addr} (h : IsDic s.heap l) : s.TypeIs (.ref l) "dict" := by
  obtain ⟨o, es, n, ho, hc, _⟩ := h
  exact ⟨o, ho, hc⟩
theorem dict_eq_declines {l : Addr} {x : Value} {T : String} {Q : Value → Shared → Prop} {prog : Program} {w : World} {f : String} (sl : Slot "dict" f "dict.__eq__") (hl : IsDic s.heap l) (hx : s.TypeIs x T) (hsub : isSubtype (.type T) (.type "dict") = pure false) (h : Q .notImplemented s) : wpAny (model prog w) A (call (.builtin "dict.__eq__") [.ref l, x]) Q E s := by
  refine wpAny_call_entry sl hl.ty PySem.F.entry_dict_eq ?_ (PySem.F.args_dict_eq_2 _ _)
  show wpAny _ _ (Builtin.Dict.dictSlotArgs "__eq__" ⟨[.ref l, x], []⟩ >>= _) _ _ s
  refine wpAny_bind ?_
  unfold Builtin.Dict.dictSlotArgs
  refine wpAny_bind (wpAny_notOrdered_dict hl.ty ?_)
  show wpAny _ _ (pure (Value.ref l, x)) _ _ s
  refine wpAny_pure ?_
  refine wpAny_bind (wpAny_isInstance (T := T) hx hsub ?_)
  simp only [Bool.not_false, if_true]
  refine wpAny_bind (wpAny_rule ?_)
  exact wpAny_bind (wpAny_pure (wpAny_pure ⟨_, rfl, h⟩))
theorem int_eq_dict_bool (b : Bool) (l : Addr) (es : Array DictEntry) (n : Nat) (dd : Option Addr) (sl : Array (Option Value)) :
    Meets (Builtin.«int.__eq__» ⟨[.bool b, .ref l], []⟩) (fun _ R s => s.heap.get? l = some { cls := .type "dict", dict := dd, data := .dict es n, slots := sl } ∧ R (.ok (.ret .notImplemented)) s) :=
  .of_wp fun prog w A R s h => by obtain ⟨hp, g, d, tk, os⟩ := s; obtain ⟨hl, h⟩ := h; wp_walk using wpAny_loadPart' hl, wpAny_load hl; exact ⟨_, rfl, h⟩
theorem int_eq_dict_int (b : Int) (u : Tok) (l : Addr) (es : Array DictEntry) (n : Nat) (dd : Option Addr) (sl : Array (Option Value)) :
    Meets (Builtin.«int.__eq__» ⟨[.int b u, .ref l], []⟩) (fun _ R s => s.heap.get? l = some { cls := .type "dict", dict := dd, data := .dict es n, slots := sl } ∧ R (.ok (.ret .notImplemented)) s) :=
  .of_wp fun prog w A R s h => by obtain ⟨hp, g, d, tk, os⟩ := s; obtain ⟨hl, h⟩ := h; wp_walk using wpAny_loadPart' hl, wpAny_load hl; exact ⟨_, rfl, h⟩
theorem str_eq_dict_str (b : Str) (u : Tok) (l : Addr) (es : Array DictEntry) (n : Nat) (dd : Option Addr) (sl : Array (Option Value)) :
    Meets (Builtin.«str.__eq__» ⟨[.str b u, .ref l], []⟩) (fun _ R s => s.heap.get? l = some { cls := .type "dict", dict := dd, data := .dict es n, slots := sl } ∧ R (.ok (.ret .notImplemented)) s) :=
  .of_wp fun prog w A R s h => by obtain ⟨hp, g, d, tk, os⟩ := s; obtain ⟨hl, h⟩ := h; wp_walk using wpAny_loadPart' hl, wpAny_load hl; exact ⟨_, rfl, h⟩
theorem list_eq_dict (a l : Addr) (items : Array Value) (n2 : Nat) (dd2 : Option Addr) (sl2 : Array (Option Value)) (es : Array DictEntry) (n : Nat) (dd : Option Addr) (sl : Array (Option Value)) :
    Meets (Builtin.«list.__eq__» ⟨[.ref a, .ref l], []⟩) (fun _ R s => s.heap.get? a = some { cls := .type "list", dict := dd2, data := .seq items n2, slots := sl2 } ∧ s.heap.get? l = some { cls := .type "dict", dict := dd, data := .dict es n, slots := sl } ∧ R (.ok (.ret .notImplemented)) s) :=
  .of_wp fun prog w A R s h => by obtain ⟨hp, g, d, tk, os⟩ := s; obtain ⟨ha, hl, h⟩ := h; have f1 := F.sub_dict_list; wp_walk using wpAny_loadPart' ha, wpAny_loadPart' hl; exact ⟨_, rfl, h⟩
theorem tuple_eq_dict (a l : Addr) (items : Array Value) (n2 : Nat) (dd2 : Option Addr) (sl2 : Array (Option Value)) (es : Array DictEntry) (n : Nat) (dd : Option Addr) (sl : Array (Option Value)) :
    Meets (Builtin.«tuple.__eq__» ⟨[.ref a, .ref l], []⟩) (fun _ R s => s.heap.get? a = some { cls := .type "tuple", dict := dd2, data := .seq items n2, slots := sl2 } ∧ s.heap.get? l = some { cls := .type "dict", dict := dd, data := .dict es n, slots := sl } ∧ R (.ok (.ret .notImplemented)) s) :=
  .of_wp fun prog w A R s h => by obtain ⟨hp, g, d, tk, os⟩ := s; obtain ⟨ha, hl, h⟩ := h; have f1 := F.sub_dict_tuple; wp_walk using wpAny_loadPart' ha, wpAny_loadPart' hl; exact ⟨_, rfl, h⟩
theorem RcAt_dict_none {l : Addr}  (hl : IsDic s.heap l) (hu : A.units < cLine) : RcAt A s (.ref l) .none false := fun prog w E Q h => by
  obtain ⟨⟨cls, dd, data, sl⟩, es, n, ho, hc, hd⟩ := id hl
  simp only at hc hd
  subst hc hd
  exact rc_eq_decline_or (k := false) hl.ty rfl (by decide) F.sub_NoneType_dict F.slot_dict_eq F.slot_NoneType_eq_refl
    (fun _ hq => dict_eq_declines F.slot_dict_eq hl rfl F.sub_NoneType_dict hq)
    (fun _ hq => call_gives F.slot_NoneType_eq_refl rfl F.entry_NoneType_eq (F.args_NoneType_eq_2 _ _) (NoneType___eq___none_ref_0 l) hq)
    (fun _ hq => wpAny_of_eq (rfl : isSame (.ref l) .none = pure false) hq) (.inr hu) h
theorem RcAt_none_dict {l : Addr}  (hl : IsDic s.heap l) (hu : A.units < cLine) : RcAt A s .none (.ref l) false := fun prog w E Q h => by
  obtain ⟨⟨cls, dd, data, sl⟩, es, n, ho, hc, hd⟩ := id hl
  simp only at hc hd
  subst hc hd
  exact rc_eq_decline_or (k := false) rfl hl.ty (by decide) F.sub_dict_NoneType F.slot_NoneType_eq F.slot_dict_eq_refl
    (fun _ hq => call_gives F.slot_NoneType_eq rfl F.entry_NoneType_eq (F.args_NoneType_eq_2 _ _) (NoneType___eq___none_ref_0 l) hq)
    (fun _ hq => dict_eq_declines F.slot_dict_eq_refl hl rfl F.sub_NoneType_dict hq)
    (fun _ hq => wpAny_of_eq (rfl : isSame .none (.ref l) = pure false) hq) (.inr hu) h
theorem EqAt_dict_none {l : Addr}  (hl : IsDic s.heap l) (hu : A.units < cLine) : EqAt A s (.ref l) .none false := fun prog w E Q h => by
  unfold eqBool
  refine wpAny_holding ?_
  refine wpAny_ite_split (fun hab => absurd (eq_of_beq hab) nofun) (fun _ => ?_)
  exact wpAny_bind (RcAt_dict_none  hl hu prog w E _ (wpAny_truthy_bool h))
theorem EqAt_none_dict {l : Addr}  (hl : IsDic s.heap l) (hu : A.units < cLine) : EqAt A s .none (.ref l) false := fun prog w E Q h => by
  unfold eqBool
  refine wpAny_holding ?_
  refine wpAny_ite_split (fun hab => absurd (eq_of_beq hab) nofun) (fun _ => ?_)
  exact wpAny_bind (RcAt_none_dict  hl hu prog w E _ (wpAny_truthy_bool h))
theorem RcAt_dict_bool {l : Addr} (b : Bool) (hl : IsDic s.heap l) (hu : A.units < cLine) : RcAt A s (.ref l) (.bool b) false := fun prog w E Q h => by
  obtain ⟨⟨cls, dd, data, sl⟩, es, n, ho, hc, hd⟩ := id hl
  simp only at hc hd
  subst hc hd
  exact rc_eq_decline_or (k := false) hl.ty rfl (by decide) F.sub_bool_dict F.slot_dict_eq F.slot_bool_eq_refl
    (fun _ hq => dict_eq_declines F.slot_dict_eq hl rfl F.sub_bool_dict hq)
    (fun _ hq => call_meets F.slot_bool_eq_refl rfl F.entry_int_eq (F.args_int_eq_2 _ _) (int_eq_dict_bool b l es n dd sl) ⟨ho, hq⟩)
    (fun _ hq => wpAny_of_eq (rfl : isSame (.ref l) (.bool b) = pure false) hq) (.inr hu) h
theorem RcAt_bool_dict {l : Addr} (b : Bool) (hl : IsDic s.heap l) (hu : A.units < cLine) : RcAt A s (.bool b) (.ref l) false := fun prog w E Q h => by
  obtain ⟨⟨cls, dd, data, sl⟩, es, n, ho, hc, hd⟩ := id hl
  simp only at hc hd
  subst hc hd
  exact rc_eq_decline_or (k := false) rfl hl.ty (by decide) F.sub_dict_bool F.slot_bool_eq F.slot_dict_eq_refl
    (fun _ hq => call_meets F.slot_bool_eq rfl F.entry_int_eq (F.args_int_eq_2 _ _) (int_eq_dict_bool b l es n dd sl) ⟨ho, hq⟩)
    (fun _ hq => dict_eq_declines F.slot_dict_eq_refl hl rfl F.sub_bool_dict hq)
    (fun _ hq => wpAny_of_eq (rfl : isSame (.bool b) (.ref l) = pure false) hq) (.inr hu) h
theorem EqAt_dict_bool {l : Addr} (b : Bool) (hl : IsDic s.heap l) (hu : A.units < cLine) : EqAt A s (.ref l) (.bool b) false := fun prog w E Q h => by
  unfold eqBool
  refine wpAny_holding ?_
  refine wpAny_ite_split (fun hab => absurd (eq_of_beq hab) nofun) (fun _ => ?_)
  exact wpAny_bind (RcAt_dict_bool b hl hu prog w E _ (wpAny_truthy_bool h))
theorem EqAt_bool_dict {l : Addr} (b : Bool) (hl : IsDic s.heap l) (hu : A.units < cLine) : EqAt A s (.bool b) (.ref l) false := fun prog w E Q h => by
  unfold eqBool
  refine wpAny_holding ?_
  refine wpAny_ite_split (fun hab => absurd (eq_of_beq hab) nofun) (fun _ => ?_)
  exact wpAny_bind (RcAt_bool_dict b hl hu prog w E _ (wpAny_truthy_bool h))
theorem RcAt_dict_int {l : Addr} (b : Int) (u : Tok) (hl : IsDic s.heap l) (hu : A.units < cLine) : RcAt A s (.ref l) (.int b u) false := fun prog w E Q h => by
  obtain ⟨⟨cls, dd, data, sl⟩, es, n, ho, hc, hd⟩ := id hl
  simp only at hc hd
  subst hc hd
  exact rc_eq_decline_or (k := false) hl.ty (typeIs_int s b u) (by decide) F.sub_int_dict F.slot_dict_eq F.slot_int_eq_refl
    (fun _ hq => dict_eq_declines F.slot_dict_eq hl (typeIs_int s b u) F.sub_int_dict hq)
    (fun _ hq => call_meets F.slot_int_eq_refl (typeIs_int s b u) F.entry_int_eq (F.args_int_eq_2 _ _) (int_eq_dict_int b u l es n dd sl) ⟨ho, hq⟩)
    (fun _ hq => wpAny_of_eq (rfl : isSame (.ref l) (.int b u) = pure false) hq) (.inr hu) h
theorem RcAt_int_dict {l : Addr} (b : Int) (u : Tok) (hl : IsDic s.heap l) (hu : A.units < cLine) : RcAt A s (.int b u) (.ref l) false := fun prog w E Q h => by
  obtain ⟨⟨cls, dd, data, sl⟩, es, n, ho, hc, hd⟩ := id hl
  simp only at hc hd
  subst hc hd
  exact rc_eq_decline_or (k := false) (typeIs_int s b u) hl.ty (by decide) F.sub_dict_int F.slot_int_eq F.slot_dict_eq_refl
    (fun _ hq => call_meets F.slot_int_eq (typeIs_int s b u) F.entry_int_eq (F.args_int_eq_2 _ _) (int_eq_dict_int b u l es n dd sl) ⟨ho, hq⟩)
    (fun _ hq => dict_eq_declines F.slot_dict_eq_refl hl (typeIs_int s b u) F.sub_int_dict hq)
    (fun _ hq => wpAny_of_eq (rfl : isSame (.int b u) (.ref l) = pure false) hq) (.inr hu) h
theorem EqAt_dict_int {l : Addr} (b : Int) (u : Tok) (hl : IsDic s.heap l) (hu : A.units < cLine) : EqAt A s (.ref l) (.int b u) false := fun prog w E Q h => by
  unfold eqBool
  refine wpAny_holding ?_
  refine wpAny_ite_split (fun hab => absurd (eq_of_beq hab) nofun) (fun _ => ?_)
  exact wpAny_bind (RcAt_dict_int b u hl hu prog w E _ (wpAny_truthy_bool h))
theorem EqAt_int_dict {l : Addr} (b : Int) (u : Tok) (hl : IsDic s.heap l) (hu : A.units < cLine) : EqAt A s (.int b u) (.ref l) false := fun prog w E Q h => by
  unfold eqBool
  refine wpAny_holding ?_
  refine wpAny_ite_split (fun hab => absurd (eq_of_beq hab) nofun) (fun _ => ?_)
  exact wpAny_bind (RcAt_int_dict b u hl hu prog w E _ (wpAny_truthy_bool h))
theorem RcAt_dict_str {l : Addr} (b : Str) (u : Tok) (hl : IsDic s.heap l) (hu : A.units < cLine) : RcAt A s (.ref l) (.str b u) false := fun prog w E Q h => by
  obtain ⟨⟨cls, dd, data, sl⟩, es, n, ho, hc, hd⟩ := id hl
  simp only at hc hd
  subst hc hd
  exact rc_eq_decline_or (k := false) hl.ty (typeIs_str s b u) (by decide) F.sub_str_dict F.slot_dict_eq F.slot_str_eq_refl
    (fun _ hq => dict_eq_declines F.slot_dict_eq hl (typeIs_str s b u) F.sub_str_dict hq)
    (fun _ hq => call_meets F.slot_str_eq_refl (typeIs_str s b u) F.entry_str_eq (F.args_str_eq_2 _ _) (str_eq_dict_str b u l es n dd sl) ⟨ho, hq⟩)
    (fun _ hq => wpAny_of_eq (rfl : isSame (.ref l) (.str b u) = pure false) hq) (.inr hu) h
theorem RcAt_str_dict {l : Addr} (b : Str) (u : Tok) (hl : IsDic s.heap l) (hu : A.units < cLine) : RcAt A s (.str b u) (.ref l) false := fun prog w E Q h => by
  obtain ⟨⟨cls, dd, data, sl⟩, es, n, ho, hc, hd⟩ := id hl
  simp only at hc hd
  subst hc hd
  exact rc_eq_decline_or (k := false) (typeIs_str s b u) hl.ty (by decide) F.sub_dict_str F.slot_str_eq F.slot_dict_eq_refl
    (fun _ hq => call_meets F.slot_str_eq (typeIs_str s b u) F.entry_str_eq (F.args_str_eq_2 _ _) (str_eq_dict_str b u l es n dd sl) ⟨ho, hq⟩)
    (fun _ hq => dict_eq_declines F.slot_dict_eq_refl hl (typeIs_str s b u) F.sub_str_dict hq)
    (fun _ hq => wpAny_of_eq (rfl : isSame (.str b u) (.ref l) = pure false) hq) (.inr hu) h
theorem EqAt_dict_str {l : Addr} (b : Str) (u : Tok) (hl : IsDic s.heap l) (hu : A.units < cLine) : EqAt A s (.ref l) (.str b u) false := fun prog w E Q h => by
  unfold eqBool
  refine wpAny_holding ?_
  refine wpAny_ite_split (fun hab => absurd (eq_of_beq hab) nofun) (fun _ => ?_)
  exact wpAny_bind (RcAt_dict_str b u hl hu prog w E _ (wpAny_truthy_bool h))
theorem EqAt_str_dict {l : Addr} (b : Str) (u : Tok) (hl : IsDic s.heap l) (hu : A.units < cLine) : EqAt A s (.str b u) (.ref l) false := fun prog w E Q h => by
  unfold eqBool
  refine wpAny_holding ?_
  refine wpAny_ite_split (fun hab => absurd (eq_of_beq hab) nofun) (fun _ => ?_)
  exact wpAny_bind (RcAt_str_dict b u hl hu prog w E _ (wpAny_truthy_bool h))
theorem ne_list_dict {a l : Addr} {items : Array Value} (ha : s.heap.IsList a items) (hl : IsDic s.heap l) : a ≠ l := fun e => by
  subst e
  obtain ⟨o, ho, hc, _⟩ := ha
  obtain ⟨o2, es, n, ho2, hc2, _⟩ := hl
  rw [ho] at ho2
  cases ho2
  rw [hc] at hc2
  exact absurd hc2 (by simp)
theorem RcAt_list_dict {a l : Addr} {items : Array Value} (ha : s.heap.IsList a items) (hl : IsDic s.heap l) (hu : A.units < cLine) : RcAt A s (.ref a) (.ref l) false := fun prog w E Q h => by
  have hne := ne_list_dict ha hl
  obtain ⟨⟨cls, dd, data, sl⟩, es, n, ho, hc, hd⟩ := id hl
  obtain ⟨⟨cls2, dd2, data2, sl2⟩, ho2, hc2, n2, hd2⟩ := id ha
  simp only at hc hd hc2 hd2
  subst hc hd hc2 hd2
  exact rc_eq_decline_or (k := false) ⟨_, ho2, rfl⟩ hl.ty (by decide) F.sub_dict_list F.slot_list_eq F.slot_dict_eq_refl
    (fun _ hq => call_meets F.slot_list_eq ⟨_, ho2, rfl⟩ F.entry_list_eq (F.args_list_eq_2 _ _) (list_eq_dict a l items n2 dd2 sl2 es n dd sl) ⟨ho2, ho, hq⟩)
    (fun _ hq => dict_eq_declines F.slot_dict_eq_refl hl ⟨_, ho2, rfl⟩ F.sub_list_dict hq)
    (fun _ hq => wpAny_isSame_ref_other' hne ho2 ho (by simp) hq) (.inr hu) h
theorem RcAt_dict_list {a l : Addr} {items : Array Value} (hl : IsDic s.heap l) (ha : s.heap.IsList a items) (hu : A.units < cLine) : RcAt A s (.ref l) (.ref a) false := fun prog w E Q h => by
  have hne := ne_list_dict ha hl
  obtain ⟨⟨cls, dd, data, sl⟩, es, n, ho, hc, hd⟩ := id hl
  obtain ⟨⟨cls2, dd2, data2, sl2⟩, ho2, hc2, n2, hd2⟩ := id ha
  simp only at hc hd hc2 hd2
  subst hc hd hc2 hd2
  exact rc_eq_decline_or (k := false) hl.ty ⟨_, ho2, rfl⟩ (by decide) F.sub_list_dict F.slot_dict_eq F.slot_list_eq_refl
    (fun _ hq => dict_eq_declines F.slot_dict_eq hl ⟨_, ho2, rfl⟩ F.sub_list_dict hq)
    (fun _ hq => call_meets F.slot_list_eq_refl ⟨_, ho2, rfl⟩ F.entry_list_eq (F.args_list_eq_2 _ _) (list_eq_dict a l items n2 dd2 sl2 es n dd sl) ⟨ho2, ho, hq⟩)
    (fun _ hq => wpAny_isSame_ref_other hne.symm ho ho2 (by simp) hq) (.inr hu) h
theorem EqAt_list_dict {a l : Addr} {items : Array Value} (ha : s.heap.IsList a items) (hl : IsDic s.heap l) (hu : A.units < cLine) : EqAt A s (.ref a) (.ref l) false := .of_refs (ne_list_dict ha hl) (RcAt_list_dict ha hl hu)
theorem EqAt_dict_list {a l : Addr} {items : Array Value} (hl : IsDic s.heap l) (ha : s.heap.IsList a items) (hu : A.units < cLine) : EqAt A s (.ref l) (.ref a) false := .of_refs (ne_list_dict ha hl).symm (RcAt_dict_list hl ha hu)
theorem ne_tuple_dict {a l : Addr} {items : Array Value} (ha : s.heap.IsTuple a items) (hl : IsDic s.heap l) : a ≠ l := fun e => by
  subst e
  obtain ⟨o, ho, hc, _⟩ := ha
  obtain ⟨o2, es, n, ho2, hc2, _⟩ := hl
  rw [ho] at ho2
  cases ho2
  rw [hc] at hc2
  exact absurd hc2 (by simp)
theorem RcAt_tuple_dict {a l : Addr} {items : Array Value} (ha : s.heap.IsTuple a items) (hl : IsDic s.heap l) (hu : A.units < cLine) : RcAt A s (.ref a) (.ref l) false := fun prog w E Q h => by
  have hne := ne_tuple_dict ha hl
  obtain ⟨⟨cls, dd, data, sl⟩, es, n, ho, hc, hd⟩ := id hl
  obtain ⟨⟨cls2, dd2, data2, sl2⟩, ho2, hc2, n2, hd2⟩ := id ha
  simp only at hc hd hc2 hd2
  subst hc hd hc2 hd2
  exact rc_eq_decline_or (k := false) ⟨_, ho2, rfl⟩ hl.ty (by decide) F.sub_dict_tuple F.slot_tuple_eq F.slot_dict_eq_refl
    (fun _ hq => call_meets F.slot_tuple_eq ⟨_, ho2, rfl⟩ F.entry_tuple_eq (F.args_tuple_eq_2 _ _) (tuple_eq_dict a l items n2 dd2 sl2 es n dd sl) ⟨ho2, ho, hq⟩)
    (fun _ hq => dict_eq_declines F.slot_dict_eq_refl hl ⟨_, ho2, rfl⟩ F.sub_tuple_dict hq)
    (fun _ hq => wpAny_isSame_ref_other' hne ho2 ho (by simp) hq) (.inr hu) h
theorem RcAt_dict_tuple {a l : Addr} {items : Array Value} (hl : IsDic s.heap l) (ha : s.heap.IsTuple a items) (hu : A.units < cLine) : RcAt A s (.ref l) (.ref a) false := fun prog w E Q h => by
  have hne := ne_tuple_dict ha hl
  obtain ⟨⟨cls, dd, data, sl⟩, es, n, ho, hc, hd⟩ := id hl
  obtain ⟨⟨cls2, dd2, data2, sl2⟩, ho2, hc2, n2, hd2⟩ := id ha
  simp only at hc hd hc2 hd2
  subst hc hd hc2 hd2
  exact rc_eq_decline_or (k := false) hl.ty ⟨_, ho2, rfl⟩ (by decide) F.sub_tuple_dict F.slot_dict_eq F.slot_tuple_eq_refl
    (fun _ hq => dict_eq_declines F.slot_dict_eq hl ⟨_, ho2, rfl⟩ F.sub_tuple_dict hq)
    (fun _ hq => call_meets F.slot_tuple_eq_refl ⟨_, ho2, rfl⟩ F.entry_tuple_eq (F.args_tuple_eq_2 _ _) (tuple_eq_dict a l items n2 dd2 sl2 es n dd sl) ⟨ho2, ho, hq⟩)
    (fun _ hq => wpAny_isSame_ref_other hne.symm ho ho2 (by simp) hq) (.inr hu) h
theorem EqAt_tuple_dict {a l : Addr} {items : Array Value} (ha : s.heap.IsTuple a items) (hl : IsDic s.heap l) (hu : A.units < cLine) : EqAt A s (.ref a) (.ref l) false := .of_refs (ne_tuple_dict ha hl) (RcAt_tuple_dict ha hl hu)
theorem EqAt_dict_tuple {a l : Addr} {items : Array Value} (hl : IsDic s.heap l) (ha : s.heap.IsTuple a items) (hu : A.units < cLine) : EqAt A s (.ref l) (.ref a) false := .of_refs (ne_tuple_dict ha hl).symm (RcAt_dict_tuple hl ha hu)
theorem dict_ne_declines {l : Addr} {x : Value} {T : String} {Q : Value → Shared → Prop} {prog : Program} {w : World} {f : String} (sl : Slot "dict" f "dict.__ne__") (hl : IsDic s.heap l) (hx : s.TypeIs x T) (hsub : isSubtype (.type T) (.type "dict") = pure false) (h : Q .notImplemented s) : wpAny (model prog w) A (call (.builtin "dict.__ne__") [.ref l, x]) Q E s := by
  refine wpAny_call_entry sl hl.ty PySem.F.entry_dict_ne ?_ (PySem.F.args_dict_ne_2 _ _)
  show wpAny _ _ (Builtin.Dict.dictSlotArgs "__ne__" ⟨[.ref l, x], []⟩ >>= _) _ _ s
  refine wpAny_bind ?_
  unfold Builtin.Dict.dictSlotArgs
  refine wpAny_bind (wpAny_notOrdered_dict hl.ty ?_)
  show wpAny _ _ (pure (Value.ref l, x)) _ _ s
  refine wpAny_pure ?_
  refine wpAny_bind (wpAny_isInstance (T := T) hx hsub ?_)
  simp only [Bool.not_false, if_true]
  refine wpAny_bind (wpAny_rule ?_)
  exact wpAny_bind (wpAny_pure (wpAny_pure ⟨_, rfl, h⟩))
theorem int_ne_dict_bool (b : Bool) (l : Addr) (es : Array DictEntry) (n : Nat) (dd : Option Addr) (sl : Array (Option Value)) :
    Meets (Builtin.«int.__ne__» ⟨[.bool b, .ref l], []⟩) (fun _ R s => s.heap.get? l = some { cls := .type "dict", dict := dd, data := .dict es n, slots := sl } ∧ R (.ok (.ret .notImplemented)) s) :=
  .of_wp fun prog w A R s h => by obtain ⟨hp, g, d, tk, os⟩ := s; obtain ⟨hl, h⟩ := h; wp_walk using wpAny_loadPart' hl, wpAny_load hl; exact ⟨_, rfl, h⟩
theorem int_ne_dict_int (b : Int) (u : Tok) (l : Addr) (es : Array DictEntry) (n : Nat) (dd : Option Addr) (sl : Array (Option Value)) :
    Meets (Builtin.«int.__ne__» ⟨[.int b u, .ref l], []⟩) (fun _ R s => s.heap.get? l = some { cls := .type "dict", dict := dd, data := .dict es n, slots := sl } ∧ R (.ok (.ret .notImplemented)) s) :=
  .of_wp fun prog w A R s h => by obtain ⟨hp, g, d, tk, os⟩ := s; obtain ⟨hl, h⟩ := h; wp_walk using wpAny_loadPart' hl, wpAny_load hl; exact ⟨_, rfl, h⟩
theorem str_ne_dict_str (b : Str) (u : Tok) (l : Addr) (es : Array DictEntry) (n : Nat) (dd : Option Addr) (sl : Array (Option Value)) :
    Meets (Builtin.«str.__ne__» ⟨[.str b u, .ref l], []⟩) (fun _ R s => s.heap.get? l = some { cls := .type "dict", dict := dd, data := .dict es n, slots := sl } ∧ R (.ok (.ret .notImplemented)) s) :=
  .of_wp fun prog w A R s h => by obtain ⟨hp, g, d, tk, os⟩ := s; obtain ⟨hl, h⟩ := h; wp_walk using wpAny_loadPart' hl, wpAny_load hl; exact ⟨_, rfl, h⟩
theorem list_ne_dict (a l : Addr) (items : Array Value) (n2 : Nat) (dd2 : Option Addr) (sl2 : Array (Option Value)) (es : Array DictEntry) (n : Nat) (dd : Option Addr) (sl : Array (Option Value)) :
    Meets (Builtin.«list.__ne__» ⟨[.ref a, .ref l], []⟩) (fun _ R s => s.heap.get? a = some { cls := .type "list", dict := dd2, data := .seq items n2, slots := sl2 } ∧ s.heap.get? l = some { cls := .type "dict", dict := dd, data := .dict es n, slots := sl } ∧ R (.ok (.ret .notImplemented)) s) :=
  .of_wp fun prog w A R s h => by obtain ⟨hp, g, d, tk, os⟩ := s; obtain ⟨ha, hl, h⟩ := h; have f1 := F.sub_dict_list; wp_walk using wpAny_loadPart' ha, wpAny_loadPart' hl; exact ⟨_, rfl, h⟩
theorem tuple_ne_dict (a l : Addr) (items : Array Value) (n2 : Nat) (dd2 : Option Addr) (sl2 : Array (Option Value)) (es : Array DictEntry) (n : Nat) (dd : Option Addr) (sl : Array (Option Value)) :
    Meets (Builtin.«tuple.__ne__» ⟨[.ref a, .ref l], []⟩) (fun _ R s => s.heap.get? a = some { cls := .type "tuple", dict := dd2, data := .seq items n2, slots := sl2 } ∧ s.heap.get? l = some { cls := .type "dict", dict := dd, data := .dict es n, slots := sl } ∧ R (.ok (.ret .notImplemented)) s) :=
  .of_wp fun prog w A R s h => by obtain ⟨hp, g, d, tk, os⟩ := s; obtain ⟨ha, hl, h⟩ := h; have f1 := F.sub_dict_tuple; wp_walk using wpAny_loadPart' ha, wpAny_loadPart' hl; exact ⟨_, rfl, h⟩
theorem RcNeAt_dict_none {l : Addr}  (hl : IsDic s.heap l) (hu : A.units < cLine) : RcNeAt A s (.ref l) .none true := fun prog w E Q h => by
  obtain ⟨⟨cls, dd, data, sl⟩, es, n, ho, hc, hd⟩ := id hl
  simp only at hc hd
  subst hc hd
  exact rc_ne_decline_or (k := false) hl.ty rfl (by decide) F.sub_NoneType_dict F.slot_dict_ne F.slot_NoneType_ne_refl
    (fun _ hq => dict_ne_declines F.slot_dict_ne hl rfl F.sub_NoneType_dict hq)
    (fun _ hq => call_gives F.slot_NoneType_ne_refl rfl F.entry_NoneType_ne (F.args_NoneType_ne_2 _ _) (NoneType___ne___none_ref_0 l) hq)
    (fun _ hq => wpAny_of_eq (rfl : isSame (.ref l) .none = pure false) hq) (.inr hu) h
theorem RcNeAt_none_dict {l : Addr}  (hl : IsDic s.heap l) (hu : A.units < cLine) : RcNeAt A s .none (.ref l) true := fun prog w E Q h => by
  obtain ⟨⟨cls, dd, data, sl⟩, es, n, ho, hc, hd⟩ := id hl
  simp only at hc hd
  subst hc hd
  exact rc_ne_decline_or (k := false) rfl hl.ty (by decide) F.sub_dict_NoneType F.slot_NoneType_ne F.slot_dict_ne_refl
    (fun _ hq => call_gives F.slot_NoneType_ne rfl F.entry_NoneType_ne (F.args_NoneType_ne_2 _ _) (NoneType___ne___none_ref_0 l) hq)
    (fun _ hq => dict_ne_declines F.slot_dict_ne_refl hl rfl F.sub_NoneType_dict hq)
    (fun _ hq => wpAny_of_eq (rfl : isSame .none (.ref l) = pure false) hq) (.inr hu) h
theorem RcNeAt_dict_bool {l : Addr} (b : Bool) (hl : IsDic s.heap l) (hu : A.units < cLine) : RcNeAt A s (.ref l) (.bool b) true := fun prog w E Q h => by
  obtain ⟨⟨cls, dd, data, sl⟩, es, n, ho, hc, hd⟩ := id hl
  simp only at hc hd
  subst hc hd
  exact rc_ne_decline_or (k := false) hl.ty rfl (by decide) F.sub_bool_dict F.slot_dict_ne F.slot_bool_ne_refl
    (fun _ hq => dict_ne_declines F.slot_dict_ne hl rfl F.sub_bool_dict hq)
    (fun _ hq => call_meets F.slot_bool_ne_refl rfl F.entry_int_ne (F.args_int_ne_2 _ _) (int_ne_dict_bool b l es n dd sl) ⟨ho, hq⟩)
    (fun _ hq => wpAny_of_eq (rfl : isSame (.ref l) (.bool b) = pure false) hq) (.inr hu) h
theorem RcNeAt_bool_dict {l : Addr} (b : Bool) (hl : IsDic s.heap l) (hu : A.units < cLine) : RcNeAt A s (.bool b) (.ref l) true := fun prog w E Q h => by
  obtain ⟨⟨cls, dd, data, sl⟩, es, n, ho, hc, hd⟩ := id hl
  simp only at hc hd
  subst hc hd
  exact rc_ne_decline_or (k := false) rfl hl.ty (by decide) F.sub_dict_bool F.slot_bool_ne F.slot_dict_ne_refl
    (fun _ hq => call_meets F.slot_bool_ne rfl F.entry_int_ne (F.args_int_ne_2 _ _) (int_ne_dict_bool b l es n dd sl) ⟨ho, hq⟩)
    (fun _ hq => dict_ne_declines F.slot_dict_ne_refl hl rfl F.sub_bool_dict hq)
    (fun _ hq => wpAny_of_eq (rfl : isSame (.bool b) (.ref l) = pure false) hq) (.inr hu) h
theorem RcNeAt_dict_int {l : Addr} (b : Int) (u : Tok) (hl : IsDic s.heap l) (hu : A.units < cLine) : RcNeAt A s (.ref l) (.int b u) true := fun prog w E Q h => by
  obtain ⟨⟨cls, dd, data, sl⟩, es, n, ho, hc, hd⟩ := id hl
  simp only at hc hd
  subst hc hd
  exact rc_ne_decline_or (k := false) hl.ty (typeIs_int s b u) (by decide) F.sub_int_dict F.slot_dict_ne F.slot_int_ne_refl
    (fun _ hq => dict_ne_declines F.slot_dict_ne hl (typeIs_int s b u) F.sub_int_dict hq)
    (fun _ hq => call_meets F.slot_int_ne_refl (typeIs_int s b u) F.entry_int_ne (F.args_int_ne_2 _ _) (int_ne_dict_int b u l es n dd sl) ⟨ho, hq⟩)
    (fun _ hq => wpAny_of_eq (rfl : isSame (.ref l) (.int b u) = pure false) hq) (.inr hu) h
theorem RcNeAt_int_dict {l : Addr} (b : Int) (u : Tok) (hl : IsDic s.heap l) (hu : A.units < cLine) : RcNeAt A s (.int b u) (.ref l) true := fun prog w E Q h => by
  obtain ⟨⟨cls, dd, data, sl⟩, es, n, ho, hc, hd⟩ := id hl
  simp only at hc hd
  subst hc hd
  exact rc_ne_decline_or (k := false) (typeIs_int s b u) hl.ty (by decide) F.sub_dict_int F.slot_int_ne F.slot_dict_ne_refl
    (fun _ hq => call_meets F.slot_int_ne (typeIs_int s b u) F.entry_int_ne (F.args_int_ne_2 _ _) (int_ne_dict_int b u l es n dd sl) ⟨ho, hq⟩)
    (fun _ hq => dict_ne_declines F.slot_dict_ne_refl hl (typeIs_int s b u) F.sub_int_dict hq)
    (fun _ hq => wpAny_of_eq (rfl : isSame (.int b u) (.ref l) = pure false) hq) (.inr hu) h
theorem RcNeAt_dict_str {l : Addr} (b : Str) (u : Tok) (hl : IsDic s.heap l) (hu : A.units < cLine) : RcNeAt A s (.ref l) (.str b u) true := fun prog w E Q h => by
  obtain ⟨⟨cls, dd, data, sl⟩, es, n, ho, hc, hd⟩ := id hl
  simp only at hc hd
  subst hc hd
  exact rc_ne_decline_or (k := false) hl.ty (typeIs_str s b u) (by decide) F.sub_str_dict F.slot_dict_ne F.slot_str_ne_refl
    (fun _ hq => dict_ne_declines F.slot_dict_ne hl (typeIs_str s b u) F.sub_str_dict hq)
    (fun _ hq => call_meets F.slot_str_ne_refl (typeIs_str s b u) F.entry_str_ne (F.args_str_ne_2 _ _) (str_ne_dict_str b u l es n dd sl) ⟨ho, hq⟩)
    (fun _ hq => wpAny_of_eq (rfl : isSame (.ref l) (.str b u) = pure false) hq) (.inr hu) h
theorem RcNeAt_str_dict {l : Addr} (b : Str) (u : Tok) (hl : IsDic s.heap l) (hu : A.units < cLine) : RcNeAt A s (.str b u) (.ref l) true := fun prog w E Q h => by
  obtain ⟨⟨cls, dd, data, sl⟩, es, n, ho, hc, hd⟩ := id hl
  simp only at hc hd
  subst hc hd
  exact rc_ne_decline_or (k := false) (typeIs_str s b u) hl.ty (by decide) F.sub_dict_str F.slot_str_ne F.slot_dict_ne_refl
    (fun _ hq => call_meets F.slot_str_ne (typeIs_str s b u) F.entry_str_ne (F.args_str_ne_2 _ _) (str_ne_dict_str b u l es n dd sl) ⟨ho, hq⟩)
    (fun _ hq => dict_ne_declines F.slot_dict_ne_refl hl (typeIs_str s b u) F.sub_str_dict hq)
    (fun _ hq => wpAny_of_eq (rfl : isSame (.str b u) (.ref l) = pure false) hq) (.inr hu) h
theorem RcNeAt_list_dict {a l : Addr} {items : Array Value} (ha : s.heap.IsList a items) (hl : IsDic s.heap l) (hu : A.units < cLine) : RcNeAt A s (.ref a) (.ref l) true := fun prog w E Q h => by
  have hne := ne_list_dict ha hl
  obtain ⟨⟨cls, dd, data, sl⟩, es, n, ho, hc, hd⟩ := id hl
  obtain ⟨⟨cls2, dd2, data2, sl2⟩, ho2, hc2, n2, hd2⟩ := id ha
  simp only at hc hd hc2 hd2
  subst hc hd hc2 hd2
  exact rc_ne_decline_or (k := false) ⟨_, ho2, rfl⟩ hl.ty (by decide) F.sub_dict_list F.slot_list_ne F.slot_dict_ne_refl
    (fun _ hq => call_meets F.slot_list_ne ⟨_, ho2, rfl⟩ F.entry_list_ne (F.args_list_ne_2 _ _) (list_ne_dict a l items n2 dd2 sl2 es n dd sl) ⟨ho2, ho, hq⟩)
    (fun _ hq => dict_ne_declines F.slot_dict_ne_refl hl ⟨_, ho2, rfl⟩ F.sub_list_dict hq)
    (fun _ hq => wpAny_isSame_ref_other' hne ho2 ho (by simp) hq) (.inr hu) h
theorem RcNeAt_dict_list {a l : Addr} {items : Array Value} (hl : IsDic s.heap l) (ha : s.heap.IsList a items) (hu : A.units < cLine) : RcNeAt A s (.ref l) (.ref a) true := fun prog w E Q h => by
  have hne := ne_list_dict ha hl
  obtain ⟨⟨cls, dd, data, sl⟩, es, n, ho, hc, hd⟩ := id hl
  obtain ⟨⟨cls2, dd2, data2, sl2⟩, ho2, hc2, n2, hd2⟩ := id ha
  simp only at hc hd hc2 hd2
  subst hc hd hc2 hd2
  exact rc_ne_decline_or (k := false) hl.ty ⟨_, ho2, rfl⟩ (by decide) F.sub_list_dict F.slot_dict_ne F.slot_list_ne_refl
    (fun _ hq => dict_ne_declines F.slot_dict_ne hl ⟨_, ho2, rfl⟩ F.sub_list_dict hq)
    (fun _ hq => call_meets F.slot_list_ne_refl ⟨_, ho2, rfl⟩ F.entry_list_ne (F.args_list_ne_2 _ _) (list_ne_dict a l items n2 dd2 sl2 es n dd sl) ⟨ho2, ho, hq⟩)
    (fun _ hq => wpAny_isSame_ref_other hne.symm ho ho2 (by simp) hq) (.inr hu) h
theorem RcNeAt_tuple_dict {a l : Addr} {items : Array Value} (ha : s.heap.IsTuple a items) (hl : IsDic s.heap l) (hu : A.units < cLine) : RcNeAt A s (.ref a) (.ref l) true := fun prog w E Q h => by
  have hne := ne_tuple_dict ha hl
  obtain ⟨⟨cls, dd, data, sl⟩, es, n, ho, hc, hd⟩ := id hl
  obtain ⟨⟨cls2, dd2, data2, sl2⟩, ho2, hc2, n2, hd2⟩ := id ha
  simp only at hc hd hc2 hd2
  subst hc hd hc2 hd2
  exact rc_ne_decline_or (k := false) ⟨_, ho2, rfl⟩ hl.ty (by decide) F.sub_dict_tuple F.slot_tuple_ne F.slot_dict_ne_refl
    (fun _ hq => call_meets F.slot_tuple_ne ⟨_, ho2, rfl⟩ F.entry_tuple_ne (F.args_tuple_ne_2 _ _) (tuple_ne_dict a l items n2 dd2 sl2 es n dd sl) ⟨ho2, ho, hq⟩)
    (fun _ hq => dict_ne_declines F.slot_dict_ne_refl hl ⟨_, ho2, rfl⟩ F.sub_tuple_dict hq)
    (fun _ hq => wpAny_isSame_ref_other' hne ho2 ho (by simp) hq) (.inr hu) h
theorem RcNeAt_dict_tuple {a l : Addr} {items : Array Value} (hl : IsDic s.heap l) (ha : s.heap.IsTuple a items) (hu : A.units < cLine) : RcNeAt A s (.ref l) (.ref a) true := fun prog w E Q h => by
  have hne := ne_tuple_dict ha hl
  obtain ⟨⟨cls, dd, data, sl⟩, es, n, ho, hc, hd⟩ := id hl
  obtain ⟨⟨cls2, dd2, data2, sl2⟩, ho2, hc2, n2, hd2⟩ := id ha
  simp only at hc hd hc2 hd2
  subst hc hd hc2 hd2
  exact rc_ne_decline_or (k := false) hl.ty ⟨_, ho2, rfl⟩ (by decide) F.sub_tuple_dict F.slot_dict_ne F.slot_tuple_ne_refl
    (fun _ hq => dict_ne_declines F.slot_dict_ne hl ⟨_, ho2, rfl⟩ F.sub_tuple_dict hq)
    (fun _ hq => call_meets F.slot_tuple_ne_refl ⟨_, ho2, rfl⟩ F.entry_tuple_ne (F.args_tuple_ne_2 _ _) (tuple_ne_dict a l items n2 dd2 sl2 es n dd sl) ⟨ho2, ho, hq⟩)
    (fun _ hq => wpAny_isSame_ref_other hne.symm ho ho2 (by simp) hq) (.inr hu) h
end

theorem lay_or {x : PyData} {xs : List PyData} {y : PyData} {ys : List PyData} (h : PyData.canLayAll0 (x :: xs) = true ∨ PyData.canLayAll0 (y :: ys) = true) : (x.canLay0 = true ∨ y.canLay0 = true) ∧ (PyData.canLayAll0 xs = true ∨ PyData.canLayAll0 ys = true) := by
  rcases h with h | h
  · have : x.canLay0 = true ∧ PyData.canLayAll0 xs = true := by simpa [PyData.canLayAll0] using h
    exact ⟨.inl this.1, .inl this.2⟩
  · have : y.canLay0 = true ∧ PyData.canLayAll0 ys = true := by simpa [PyData.canLayAll0] using h
    exact ⟨.inr this.1, .inr this.2⟩
mutual
theorem eqAt_readsX : ∀ (da db : PyData) (A : Around) (s : Shared) (a b : Value) (as bs : List Addr), Reads s.heap a da as → Reads s.heap b db bs → (da.canLay0 = true ∨ db.canLay0 = true) →
    A.units + min da.depth db.depth < cLine → EqAt A s a b (PyData.eqv da db)
  | .none, _, A, s, _, _, _, _, ra, rb, hc, hu => by
    cases ra
    cases rb with
    | none => exact EqAt.same _
    | bool y => exact EqAt.none_bool y
    | int y u => exact EqAt.none_int y u
    | str y u => exact EqAt.none_str y u
    | list k1 k2 k3 k4 => exact EqAt.none_list ⟨_, k1, k2, _, k3⟩ (room_here hu)
    | tuple k1 k2 k3 k4 => exact EqAt.none_tuple ⟨_, k1, k2, _, k3⟩ (room_here hu)
    | dict k1 k2 k3 k4 k5 => exact EqAt_none_dict ⟨_, _, _, k1, k2, k3⟩ (room_here hu)
  | .bool x, _, A, s, _, _, _, _, ra, rb, hc, hu => by
    cases ra
    cases rb with
    | none => exact EqAt.bool_none x
    | bool y => exact EqAt.bool_bool x y
    | int y u => exact EqAt.bool_int x y u
    | str y u => exact EqAt.bool_str x y u
    | list k1 k2 k3 k4 => exact EqAt.bool_list x ⟨_, k1, k2, _, k3⟩ (room_here hu)
    | tuple k1 k2 k3 k4 => exact EqAt.bool_tuple x ⟨_, k1, k2, _, k3⟩ (room_here hu)
    | dict k1 k2 k3 k4 k5 => exact EqAt_bool_dict x ⟨_, _, _, k1, k2, k3⟩ (room_here hu)
  | .int x, _, A, s, _, _, _, _, ra, rb, hc, hu => by
    cases ra with
    | int _ t =>
      cases rb with
      | none => exact EqAt.int_none x t
      | bool y => exact EqAt.int_bool x t y
      | int y u => exact EqAt.int_int x t y u
      | str y u => exact EqAt.int_str x t y u
      | list k1 k2 k3 k4 => exact EqAt.int_list x t ⟨_, k1, k2, _, k3⟩ (room_here hu)
      | tuple k1 k2 k3 k4 => exact EqAt.int_tuple x t ⟨_, k1, k2, _, k3⟩ (room_here hu)
      | dict k1 k2 k3 k4 k5 => exact EqAt_int_dict x t ⟨_, _, _, k1, k2, k3⟩ (room_here hu)
  | .str x, _, A, s, _, _, _, _, ra, rb, hc, hu => by
    cases ra with
    | str _ t =>
      cases rb with
      | none => exact EqAt.str_none x t
      | bool y => exact EqAt.str_bool x t y
      | int y u => exact EqAt.str_int x t y u
      | str y u => exact EqAt.str_str x t y u
      | list k1 k2 k3 k4 => exact EqAt.str_list x t ⟨_, k1, k2, _, k3⟩ (room_here hu)
      | tuple k1 k2 k3 k4 => exact EqAt.str_tuple x t ⟨_, k1, k2, _, k3⟩ (room_here hu)
      | dict k1 k2 k3 k4 k5 => exact EqAt_str_dict x t ⟨_, _, _, k1, k2, k3⟩ (room_here hu)
  | .list xs, db, A, s, _, _, _, _, ra, rb, hc, hu => by
    cases ra with
    | @list l o vs n _ as₁ h1 h2 h3 h4 =>
      have hl : s.heap.IsList l vs := ⟨_, h1, h2, _, h3⟩
      cases rb with
      | none => exact EqAt.list_none hl (room_here hu)
      | bool y => exact EqAt.list_bool y hl (room_here hu)
      | int y u => exact EqAt.list_int y u hl (room_here hu)
      | str y u => exact EqAt.list_str y u hl (room_here hu)
      | tuple k1 k2 k3 k4 => exact EqAt.list_tuple hl ⟨_, k1, k2, _, k3⟩ (room_here hu)
      | dict k1 k2 k3 k4 k5 => exact EqAt_list_dict hl ⟨_, _, _, k1, k2, k3⟩ (room_here hu)
      | @list l' o' vs' n' ys bs₁ k1 k2 k3 k4 =>
        have hl' : s.heap.IsList l' vs' := ⟨_, k1, k2, _, k3⟩
        have n1 : vs.size = xs.length := by simpa using ReadsAll.length _ _ _ h4
        have n2 : vs'.size = ys.length := by simpa using ReadsAll.length _ _ _ k4
        show EqAt A s (.ref l) (.ref l') (PyData.eqvAll xs ys)
        by_cases hll : l = l'
        · subst hll
          have e : PyData.list xs = PyData.list ys := by
            rcases hc with ha | ha
            · exact Reads.unique (.list xs) (.list ys) _ _ _ ha (.list h1 h2 h3 h4) (.list k1 k2 k3 k4)
            · exact (Reads.unique (.list ys) (.list xs) _ _ _ ha (.list k1 k2 k3 k4) (.list h1 h2 h3 h4)).symm
          injection e with e
          subst e
          rw [eqvAll_refl xs (hc.elim id id)]
          exact EqAt.same _
        · by_cases hsz : vs.size = vs'.size
          · rw [← eqvAll_same_length (by omega : xs.length = ys.length), ← n1]
            refine EqAt.of_refs hll (RcAt.lists hl hl' hsz (room_here hu) fun j j1 j2 => ?_)
            have := eqAt_readsAllX xs ys A.in1 s vs.toList vs'.toList _ _ h4 k4 hc (room_in hu) j (by simpa using j1) (by simpa using j2)
            simpa using this
          · rw [eqvAll_other_length (by omega : xs.length ≠ ys.length)]
            exact EqAt.of_refs hll (RcAt.lists_lengths hl hl' (by simpa using hsz) (room_here hu))
  | .tuple xs, db, A, s, _, _, _, _, ra, rb, hc, hu => by
    cases ra with
    | @tuple l o vs n _ as₁ h1 h2 h3 h4 =>
      have hl : s.heap.IsTuple l vs := ⟨_, h1, h2, _, h3⟩
      cases rb with
      | none => exact EqAt.tuple_none hl (room_here hu)
      | bool y => exact EqAt.tuple_bool y hl (room_here hu)
      | int y u => exact EqAt.tuple_int y u hl (room_here hu)
      | str y u => exact EqAt.tuple_str y u hl (room_here hu)
      | list k1 k2 k3 k4 => exact EqAt.tuple_list hl ⟨_, k1, k2, _, k3⟩ (room_here hu)
      | dict k1 k2 k3 k4 k5 => exact EqAt_tuple_dict hl ⟨_, _, _, k1, k2, k3⟩ (room_here hu)
      | @tuple l' o' vs' n' ys bs₁ k1 k2 k3 k4 =>
        have hl' : s.heap.IsTuple l' vs' := ⟨_, k1, k2, _, k3⟩
        have n1 : vs.size = xs.length := by simpa using ReadsAll.length _ _ _ h4
        have n2 : vs'.size = ys.length := by simpa using ReadsAll.length _ _ _ k4
        show EqAt A s (.ref l) (.ref l') (PyData.eqvAll xs ys)
        by_cases hll : l = l'
        · subst hll
          have e : PyData.tuple xs = PyData.tuple ys := by
            rcases hc with ha | ha
            · exact Reads.unique (.tuple xs) (.tuple ys) _ _ _ ha (.tuple h1 h2 h3 h4) (.tuple k1 k2 k3 k4)
            · exact (Reads.unique (.tuple ys) (.tuple xs) _ _ _ ha (.tuple k1 k2 k3 k4) (.tuple h1 h2 h3 h4)).symm
          injection e with e
          subst e
          rw [eqvAll_refl xs (hc.elim id id)]
          exact EqAt.same _
        · rw [← eqvAll_eq xs ys, ← n1, ← n2]
          refine EqAt.of_refs hll (RcAt.tuples hl hl' (room_here hu) fun j j1 j2 => ?_)
          have := eqAt_readsAllX xs ys A.in1 s vs.toList vs'.toList _ _ h4 k4 hc (room_in hu) j (by simpa using j1) (by simpa using j2)
          simpa using this
  | .dict kvs, db, A, s, _, _, _, _, ra, rb, hc, hu => by
    cases ra with
    | dict h1 h2 h3 h4 h5 =>
      have hl : IsDic s.heap _ := ⟨_, _, _, h1, h2, h3⟩
      cases rb with
      | none => exact EqAt_dict_none hl (room_here hu)
      | bool y => exact EqAt_dict_bool y hl (room_here hu)
      | int y u => exact EqAt_dict_int y u hl (room_here hu)
      | str y u => exact EqAt_dict_str y u hl (room_here hu)
      | list k1 k2 k3 k4 => exact EqAt_dict_list hl ⟨_, k1, k2, _, k3⟩ (room_here hu)
      | tuple k1 k2 k3 k4 => exact EqAt_dict_tuple hl ⟨_, k1, k2, _, k3⟩ (room_here hu)
      | dict => exact hc.elim (fun z => nomatch z) (fun z => nomatch z)
theorem eqAt_readsAllX : ∀ (xs ys : List PyData) (A : Around) (s : Shared) (vs ws : List Value) (as bs : List Addr), ReadsAll s.heap vs xs as → ReadsAll s.heap ws ys bs → (PyData.canLayAll0 xs = true ∨ PyData.canLayAll0 ys = true) →
    A.units + min (PyData.depthAll xs) (PyData.depthAll ys) < cLine → ∀ j (h1 : j < vs.length) (h2 : j < ws.length), EqAt A s vs[j] ws[j] (pairEq xs ys j)
  | [], _, _, _, _, _, _, _, ra, _, _, _, j, h1, _ => by cases ra; exact absurd h1 (Nat.not_lt_zero _)
  | _ :: _, [], _, _, _, _, _, _, _, rb, _, _, j, _, h2 => by cases rb; exact absurd h2 (Nat.not_lt_zero _)
  | x :: xs, y :: ys, A, s, _, _, _, _, ra, rb, hc, hu, j, h1, h2 => by
    have hc' := lay_or hc
    cases ra with
    | cons r rs =>
      cases rb with
      | cons r' rs' =>
        cases j with
        | zero => exact eqAt_readsX x y A s _ _ _ _ r r' hc'.1 (room_head hu)
        | succ j => exact eqAt_readsAllX xs ys A s _ _ _ _ rs rs' hc'.2 (room_tail hu) j (Nat.lt_of_succ_lt_succ h1) (Nat.lt_of_succ_lt_succ h2)
end

theorem rcAt_readsX {da db : PyData} {A : Around} {s : Shared} {a b : Value} {as bs : List Addr} (ra : Reads s.heap a da as) (rb : Reads s.heap b db bs) (hc : da.canLay0 = true ∨ db.canLay0 = true)
    (hu : A.units + min da.depth db.depth < cLine) : RcAt A s a b (PyData.eqv da db) := by
  cases ra with
  | none =>
    cases rb with
    | none => exact RcAt.none_none
    | bool y => exact RcAt.none_bool y
    | int y u => exact RcAt.none_int y u
    | str y u => exact RcAt.none_str y u
    | list k1 k2 k3 k4 => exact RcAt.none_list ⟨_, k1, k2, _, k3⟩ (room_here hu)
    | tuple k1 k2 k3 k4 => exact RcAt.none_tuple ⟨_, k1, k2, _, k3⟩ (room_here hu)
    | dict k1 k2 k3 k4 k5 => exact RcAt_none_dict ⟨_, _, _, k1, k2, k3⟩ (room_here hu)
  | bool x =>
    cases rb with
    | none => exact RcAt.bool_none x
    | bool y => exact RcAt.bool_bool x y
    | int y u => exact RcAt.bool_int x y u
    | str y u => exact RcAt.bool_str x y u
    | list k1 k2 k3 k4 => exact RcAt.bool_list x ⟨_, k1, k2, _, k3⟩ (room_here hu)
    | tuple k1 k2 k3 k4 => exact RcAt.bool_tuple x ⟨_, k1, k2, _, k3⟩ (room_here hu)
    | dict k1 k2 k3 k4 k5 => exact RcAt_bool_dict x ⟨_, _, _, k1, k2, k3⟩ (room_here hu)
  | int x t =>
    cases rb with
    | none => exact RcAt.int_none x t
    | bool y => exact RcAt.int_bool x t y
    | int y u => exact RcAt.int_int x t y u
    | str y u => exact RcAt.int_str x t y u
    | list k1 k2 k3 k4 => exact RcAt.int_list x t ⟨_, k1, k2, _, k3⟩ (room_here hu)
    | tuple k1 k2 k3 k4 => exact RcAt.int_tuple x t ⟨_, k1, k2, _, k3⟩ (room_here hu)
    | dict k1 k2 k3 k4 k5 => exact RcAt_int_dict x t ⟨_, _, _, k1, k2, k3⟩ (room_here hu)
  | str x t =>
    cases rb with
    | none => exact RcAt.str_none x t
    | bool y => exact RcAt.str_bool x t y
    | int y u => exact RcAt.str_int x t y u
    | str y u => exact RcAt.str_str x t y u
    | list k1 k2 k3 k4 => exact RcAt.str_list x t ⟨_, k1, k2, _, k3⟩ (room_here hu)
    | tuple k1 k2 k3 k4 => exact RcAt.str_tuple x t ⟨_, k1, k2, _, k3⟩ (room_here hu)
    | dict k1 k2 k3 k4 k5 => exact RcAt_str_dict x t ⟨_, _, _, k1, k2, k3⟩ (room_here hu)
  | @list l o vs n xs as₁ h1 h2 h3 h4 =>
    have hl : s.heap.IsList l vs := ⟨_, h1, h2, _, h3⟩
    cases rb with
    | none => exact RcAt.list_none hl (room_here hu)
    | bool y => exact RcAt.list_bool y hl (room_here hu)
    | int y u => exact RcAt.list_int y u hl (room_here hu)
    | str y u => exact RcAt.list_str y u hl (room_here hu)
    | tuple k1 k2 k3 k4 => exact RcAt.list_tuple hl ⟨_, k1, k2, _, k3⟩ (room_here hu)
    | dict k1 k2 k3 k4 k5 => exact RcAt_list_dict hl ⟨_, _, _, k1, k2, k3⟩ (room_here hu)
    | @list l' o' vs' n' ys bs₁ k1 k2 k3 k4 =>
      have hl' : s.heap.IsList l' vs' := ⟨_, k1, k2, _, k3⟩
      have n1 : vs.size = xs.length := by simpa using ReadsAll.length _ _ _ h4
      have n2 : vs'.size = ys.length := by simpa using ReadsAll.length _ _ _ k4
      have he : ∀ j (j1 : j < vs.size) (j2 : j < vs'.size), EqAt A.in1 s vs[j] vs'[j] (pairEq xs ys j) := fun j j1 j2 => by
        have := eqAt_readsAllX xs ys A.in1 s vs.toList vs'.toList _ _ h4 k4 hc (room_in hu) j (by simpa using j1) (by simpa using j2)
        simpa using this
      show RcAt A s (.ref l) (.ref l') (PyData.eqvAll xs ys)
      by_cases hsz : vs.size = vs'.size
      · rw [← eqvAll_same_length (by omega : xs.length = ys.length), ← n1]
        exact RcAt.lists hl hl' hsz (room_here hu) he
      · rw [eqvAll_other_length (by omega : xs.length ≠ ys.length)]
        exact RcAt.lists_lengths hl hl' (by simpa using hsz) (room_here hu)
  | @tuple l o vs n xs as₁ h1 h2 h3 h4 =>
    have hl : s.heap.IsTuple l vs := ⟨_, h1, h2, _, h3⟩
    cases rb with
    | none => exact RcAt.tuple_none hl (room_here hu)
    | bool y => exact RcAt.tuple_bool y hl (room_here hu)
    | int y u => exact RcAt.tuple_int y u hl (room_here hu)
    | str y u => exact RcAt.tuple_str y u hl (room_here hu)
    | list k1 k2 k3 k4 => exact RcAt.tuple_list hl ⟨_, k1, k2, _, k3⟩ (room_here hu)
    | dict k1 k2 k3 k4 k5 => exact RcAt_tuple_dict hl ⟨_, _, _, k1, k2, k3⟩ (room_here hu)
    | @tuple l' o' vs' n' ys bs₁ k1 k2 k3 k4 =>
      have hl' : s.heap.IsTuple l' vs' := ⟨_, k1, k2, _, k3⟩
      have n1 : vs.size = xs.length := by simpa using ReadsAll.length _ _ _ h4
      have n2 : vs'.size = ys.length := by simpa using ReadsAll.length _ _ _ k4
      have he : ∀ j (j1 : j < vs.size) (j2 : j < vs'.size), EqAt A.in1 s vs[j] vs'[j] (pairEq xs ys j) := fun j j1 j2 => by
        have := eqAt_readsAllX xs ys A.in1 s vs.toList vs'.toList _ _ h4 k4 hc (room_in hu) j (by simpa using j1) (by simpa using j2)
        simpa using this
      show RcAt A s (.ref l) (.ref l') (PyData.eqvAll xs ys)
      rw [← eqvAll_eq xs ys, ← n1, ← n2]
      exact RcAt.tuples hl hl' (room_here hu) he
  | dict h1 h2 h3 h4 h5 =>
    have hl : IsDic s.heap _ := ⟨_, _, _, h1, h2, h3⟩
    cases rb with
    | none => exact RcAt_dict_none hl (room_here hu)
    | bool y => exact RcAt_dict_bool y hl (room_here hu)
    | int y u => exact RcAt_dict_int y u hl (room_here hu)
    | str y u => exact RcAt_dict_str y u hl (room_here hu)
    | list k1 k2 k3 k4 => exact RcAt_dict_list hl ⟨_, k1, k2, _, k3⟩ (room_here hu)
    | tuple k1 k2 k3 k4 => exact RcAt_dict_tuple hl ⟨_, k1, k2, _, k3⟩ (room_here hu)
    | dict => exact hc.elim (fun z => nomatch z) (fun z => nomatch z)
theorem rcNeAt_readsX {da db : PyData} {A : Around} {s : Shared} {a b : Value} {as bs : List Addr} (ra : Reads s.heap a da as) (rb : Reads s.heap b db bs) (hc : da.canLay0 = true ∨ db.canLay0 = true)
    (hu : A.units + min da.depth db.depth < cLine) : RcNeAt A s a b (!PyData.eqv da db) := by
  cases ra with
  | none =>
    cases rb with
    | none => exact RcNeAt.none_none
    | bool y => exact RcNeAt.none_bool y
    | int y u => exact RcNeAt.none_int y u
    | str y u => exact RcNeAt.none_str y u
    | list k1 k2 k3 k4 => exact RcNeAt.none_list ⟨_, k1, k2, _, k3⟩ (room_here hu)
    | tuple k1 k2 k3 k4 => exact RcNeAt.none_tuple ⟨_, k1, k2, _, k3⟩ (room_here hu)
    | dict k1 k2 k3 k4 k5 => exact RcNeAt_none_dict ⟨_, _, _, k1, k2, k3⟩ (room_here hu)
  | bool x =>
    cases rb with
    | none => exact RcNeAt.bool_none x
    | bool y => exact RcNeAt.bool_bool x y
    | int y u => exact RcNeAt.bool_int x y u
    | str y u => exact RcNeAt.bool_str x y u
    | list k1 k2 k3 k4 => exact RcNeAt.bool_list x ⟨_, k1, k2, _, k3⟩ (room_here hu)
    | tuple k1 k2 k3 k4 => exact RcNeAt.bool_tuple x ⟨_, k1, k2, _, k3⟩ (room_here hu)
    | dict k1 k2 k3 k4 k5 => exact RcNeAt_bool_dict x ⟨_, _, _, k1, k2, k3⟩ (room_here hu)
  | int x t =>
    cases rb with
    | none => exact RcNeAt.int_none x t
    | bool y => exact RcNeAt.int_bool x t y
    | int y u => exact RcNeAt.int_int x t y u
    | str y u => exact RcNeAt.int_str x t y u
    | list k1 k2 k3 k4 => exact RcNeAt.int_list x t ⟨_, k1, k2, _, k3⟩ (room_here hu)
    | tuple k1 k2 k3 k4 => exact RcNeAt.int_tuple x t ⟨_, k1, k2, _, k3⟩ (room_here hu)
    | dict k1 k2 k3 k4 k5 => exact RcNeAt_int_dict x t ⟨_, _, _, k1, k2, k3⟩ (room_here hu)
  | str x t =>
    cases rb with
    | none => exact RcNeAt.str_none x t
    | bool y => exact RcNeAt.str_bool x t y
    | int y u => exact RcNeAt.str_int x t y u
    | str y u => exact RcNeAt.str_str x t y u
    | list k1 k2 k3 k4 => exact RcNeAt.str_list x t ⟨_, k1, k2, _, k3⟩ (room_here hu)
    | tuple k1 k2 k3 k4 => exact RcNeAt.str_tuple x t ⟨_, k1, k2, _, k3⟩ (room_here hu)
    | dict k1 k2 k3 k4 k5 => exact RcNeAt_str_dict x t ⟨_, _, _, k1, k2, k3⟩ (room_here hu)
  | @list l o vs n xs as₁ h1 h2 h3 h4 =>
    have hl : s.heap.IsList l vs := ⟨_, h1, h2, _, h3⟩
    cases rb with
    | none => exact RcNeAt.list_none hl (room_here hu)
    | bool y => exact RcNeAt.list_bool y hl (room_here hu)
    | int y u => exact RcNeAt.list_int y u hl (room_here hu)
    | str y u => exact RcNeAt.list_str y u hl (room_here hu)
    | tuple k1 k2 k3 k4 => exact RcNeAt.list_tuple hl ⟨_, k1, k2, _, k3⟩ (room_here hu)
    | dict k1 k2 k3 k4 k5 => exact RcNeAt_list_dict hl ⟨_, _, _, k1, k2, k3⟩ (room_here hu)
    | @list l' o' vs' n' ys bs₁ k1 k2 k3 k4 =>
      have hl' : s.heap.IsList l' vs' := ⟨_, k1, k2, _, k3⟩
      have n1 : vs.size = xs.length := by simpa using ReadsAll.length _ _ _ h4
      have n2 : vs'.size = ys.length := by simpa using ReadsAll.length _ _ _ k4
      have he : ∀ j (j1 : j < vs.size) (j2 : j < vs'.size), EqAt A.in1 s vs[j] vs'[j] (pairEq xs ys j) := fun j j1 j2 => by
        have := eqAt_readsAllX xs ys A.in1 s vs.toList vs'.toList _ _ h4 k4 hc (room_in hu) j (by simpa using j1) (by simpa using j2)
        simpa using this
      show RcNeAt A s (.ref l) (.ref l') (!PyData.eqvAll xs ys)
      by_cases hsz : vs.size = vs'.size
      · rw [← eqvAll_same_length (by omega : xs.length = ys.length), ← n1]
        exact RcNeAt.lists hl hl' hsz (room_here hu) he
      · rw [eqvAll_other_length (by omega : xs.length ≠ ys.length)]
        exact RcNeAt.lists_lengths hl hl' (by simpa using hsz) (room_here hu)
  | @tuple l o vs n xs as₁ h1 h2 h3 h4 =>
    have hl : s.heap.IsTuple l vs := ⟨_, h1, h2, _, h3⟩
    cases rb with
    | none => exact RcNeAt.tuple_none hl (room_here hu)
    | bool y => exact RcNeAt.tuple_bool y hl (room_here hu)
    | int y u => exact RcNeAt.tuple_int y u hl (room_here hu)
    | str y u => exact RcNeAt.tuple_str y u hl (room_here hu)
    | list k1 k2 k3 k4 => exact RcNeAt.tuple_list hl ⟨_, k1, k2, _, k3⟩ (room_here hu)
    | dict k1 k2 k3 k4 k5 => exact RcNeAt_tuple_dict hl ⟨_, _, _, k1, k2, k3⟩ (room_here hu)
    | @tuple l' o' vs' n' ys bs₁ k1 k2 k3 k4 =>
      have hl' : s.heap.IsTuple l' vs' := ⟨_, k1, k2, _, k3⟩
      have n1 : vs.size = xs.length := by simpa using ReadsAll.length _ _ _ h4
      have n2 : vs'.size = ys.length := by simpa using ReadsAll.length _ _ _ k4
      have he : ∀ j (j1 : j < vs.size) (j2 : j < vs'.size), EqAt A.in1 s vs[j] vs'[j] (pairEq xs ys j) := fun j j1 j2 => by
        have := eqAt_readsAllX xs ys A.in1 s vs.toList vs'.toList _ _ h4 k4 hc (room_in hu) j (by simpa using j1) (by simpa using j2)
        simpa using this
      show RcNeAt A s (.ref l) (.ref l') (!PyData.eqvAll xs ys)
      rw [← eqvAll_eq xs ys, ← n1, ← n2]
      exact RcNeAt.tuples hl hl' (room_here hu) he
  | dict h1 h2 h3 h4 h5 =>
    have hl : IsDic s.heap _ := ⟨_, _, _, h1, h2, h3⟩
    cases rb with
    | none => exact RcNeAt_dict_none hl (room_here hu)
    | bool y => exact RcNeAt_dict_bool y hl (room_here hu)
    | int y u => exact RcNeAt_dict_int y u hl (room_here hu)
    | str y u => exact RcNeAt_dict_str y u hl (room_here hu)
    | list k1 k2 k3 k4 => exact RcNeAt_dict_list hl ⟨_, k1, k2, _, k3⟩ (room_here hu)
    | tuple k1 k2 k3 k4 => exact RcNeAt_dict_tuple hl ⟨_, k1, k2, _, k3⟩ (room_here hu)
    | dict => exact hc.elim (fun z => nomatch z) (fun z => nomatch z)

section
variable {prog : Program} {w : World} {A : Around} {E : Value → Shared → Prop} {s : Shared}
theorem items_eqX {vs : Array Value} {xs : List PyData} {as bs : List Addr} {x : Value} {d : PyData} (rs : ReadsAll s.heap vs.toList xs as) (rx : Reads s.heap x d bs) (hxs : PyData.canLayAll0 xs = true)
    (hu : A.units + 1 + min (PyData.depthAll xs) d.depth < cLine) : ∀ y, y ∈ vs → EqAt A.in1 s y x (PyData.eqv (readOf s.heap y) d) := fun y hy => by
  obtain ⟨dy, cs, ry, hcy, hle⟩ := readsAll_mem xs _ _ hxs rs y (by simpa using hy)
  rw [readOf_eq hcy ry]
  refine eqAt_readsX dy d A.in1 s y x _ _ ry rx (.inl hcy) ?_
  have h1 : min dy.depth d.depth ≤ min (PyData.depthAll xs) d.depth := Nat.le_min.mpr ⟨Nat.le_trans (Nat.min_le_left _ _) hle, Nat.min_le_right _ _⟩
  show A.units + 1 + min dy.depth d.depth < cLine
  omega
theorem in_tupleX {c x : Value} {xs : List PyData} {d : PyData} {as bs : List Addr} {Q : Value → Shared → Prop} (rc : Reads s.heap c (.tuple xs) as) (rx : Reads s.heap x d bs) (hxs : PyData.canLayAll0 xs = true)
    (hu : A.units + 1 + min (PyData.depthAll xs) d.depth < cLine) (h : Q (.bool (xs.any fun y => PyData.eqv y d)) s) : wpAny (model prog w) A (compareOp .In x c) Q E s := by
  cases rc with
  | tuple h1 h2 h3 h4 => exact in_tupleAt _ ⟨_, h1, h2, _, h3⟩ (items_eqX h4 rx hxs hu) (by rw [any_by_data h4 hxs]; exact h)
theorem notIn_tupleX {c x : Value} {xs : List PyData} {d : PyData} {as bs : List Addr} {Q : Value → Shared → Prop} (rc : Reads s.heap c (.tuple xs) as) (rx : Reads s.heap x d bs) (hxs : PyData.canLayAll0 xs = true)
    (hu : A.units + 1 + min (PyData.depthAll xs) d.depth < cLine) (h : Q (.bool (!xs.any fun y => PyData.eqv y d)) s) : wpAny (model prog w) A (compareOp .NotIn x c) Q E s := by
  cases rc with
  | tuple h1 h2 h3 h4 => exact notIn_tupleAt _ ⟨_, h1, h2, _, h3⟩ (items_eqX h4 rx hxs hu) (by rw [any_by_data h4 hxs]; exact h)
end
end G

/-! Operations on values. -/
namespace G
open PySem PySem.Spec PyProof.Rows L2

abbrev D1 := D → Hd → Pq → Prop
abbrev D2 := D → D → Hd → Pq → Prop
abbrev DN := List D → Hd → Pq → Prop
abbrev DM := D → List D → Hd → Pq → Prop
def R1of (K : PySem.W.Frag) (o : D1) : V → Hp → VK → Prop := fun x H Q => ∃ w h a QD, w.H = H ∧ RelW K w h ∧ RD K w a x ∧ o a h QD ∧ Post K w h QD Q
def R2of (K : PySem.W.Frag) (o : D2) : R2 := fun x y H Q => ∃ w h a b QD, w.H = H ∧ RelW K w h ∧ RD K w a x ∧ RD K w b y ∧ o a b h QD ∧ Post K w h QD Q
def RNof (K : PySem.W.Frag) (o : DN) : List V → Hp → VK → Prop := fun xs H Q => ∃ w h ds QD, w.H = H ∧ RelW K w h ∧ RDs K w ds xs ∧ o ds h QD ∧ Post K w h QD Q
def RMof (K : PySem.W.Frag) (o : DM) : V → List V → Hp → VK → Prop := fun x xs H Q => ∃ w h d ds QD, w.H = H ∧ RelW K w h ∧ RD K w d x ∧ RDs K w ds xs ∧ o d ds h QD ∧ Post K w h QD Q

section
variable {X : Cx}
/-! ### numbers, texts, lists, tuples joined -/
/-- a factor that is small, or both of few bits -/
def MulOk (i j : Int) : Prop := i.natAbs < 4611686018427387904 ∨ j.natAbs < 4611686018427387904 ∨ i.natAbs.log2 + j.natAbs.log2 < 1000000
def DivOk (j : Int) : Prop := 0 < j ∧ (j < 4611686018427387904 ∨ j.natAbs.log2 < 9000)
theorem log2_small {n : Nat} (h : n < 4611686018427387904) : n.log2 < 62 := by
  by_cases h0 : n = 0
  · subst h0; decide
  · exact (Nat.log2_lt h0).mpr h

def addD : D2 := fun a b h Q => match view h a, view h b with
  | .int i, .int j => Q (.int (i + j)) h
  | .str x, .str y => x.length + y.length ≤ sizeLine ∧ Q (.str (x ++ y)) h
  | .lst x, .lst y => x.length + y.length ≤ sizeLine ∧ Q (.lst (x ++ y)) h
  | .tup x, .tup y => x.length + y.length ≤ sizeLine ∧ Q (.tup (x ++ y)) h
  | .bl p, .int j => Q (.int ((if p = true then 1 else 0) + j)) h
  | .int i, .bl p => Q (.int (i + if p = true then 1 else 0)) h
  | _, _ => False
theorem o_add : OpR X (binaryOp .Add) (R2of X.K addD) := by
  intro pins s σ H x y v u Q I rx ry hq
  obtain ⟨w, h, a, b, QD, rfl, rel, ra, rb, o, post⟩ := hq
  unfold addD at o
  split at o
  · rename_i i j e1 e2
    cases view_int ra e1
    cases view_int rb e2
    exact op_add pins s σ _ _ _ v u Q I rx ry ⟨i, j, rfl, rfl, post.now rel (.int _) o⟩
  · rename_i i j e1 e2
    cases view_str ra e1
    cases view_str rb e2
    exact op_add_str pins s σ _ _ _ v u Q I rx ry ⟨i, j, rfl, rfl, o.1, post.now rel (.str _) o.2⟩
  · rename_i i j e1 e2
    obtain ⟨p, xs, rfl, hp, rs, l1⟩ := view_lst rel ra e1
    obtain ⟨q, ys, rfl, hq, ss, l2⟩ := view_lst rel rb e2
    exact op_cat pins s σ _ _ _ v u Q I rx ry ⟨p, q, xs, ys, rfl, rfl, hp, hq, by rw [← rs.length, ← ss.length]; exact o.1, fun l hl => post_lst rel hl (rs.append ss) (by rw [List.length_append]; exact o.1) o.2 post⟩
  · rename_i i j e1 e2
    obtain ⟨p, xs, rfl, hp, rs, l1⟩ := view_tup ra e1
    obtain ⟨q, ys, rfl, hq, ss, l2⟩ := view_tup rb e2
    refine op_catA pins s σ _ _ _ v u Q I rx ry ⟨p, q, xs, ys, rfl, rfl, hp.sq, hq.sq, by rw [← rs.length, ← ss.length]; exact o.1, fun hz => ?_, fun _ hz => ?_, fun _ _ l hl => post_tup rel hl (rs.append ss) (by rw [List.length_append]; exact o.1) o.2 post⟩
    · subst hz
      have ei : i = [] := List.length_eq_zero_iff.mp rs.length
      subst ei
      exact post.now rel (.tup hq l2 ss) o.2
    · subst hz
      have ej : j = [] := List.length_eq_zero_iff.mp ss.length
      subst ej
      rw [List.append_nil] at o
      exact post.now rel (.tup hp l1 rs) o.2
  · rename_i p j e1 e2
    cases view_bl ra e1
    cases view_int rb e2
    cases rx
    obtain ⟨t', rfl⟩ := ry
    exact IntBool.add_bool_int ⟨.int _, w.H, I.tok _, ⟨_, rfl⟩, post.now rel (.int _) o⟩
  · rename_i i p e1 e2
    cases view_int ra e1
    cases view_bl rb e2
    cases ry
    obtain ⟨t, rfl⟩ := rx
    exact add_int_bool ⟨.int _, w.H, I.tok _, ⟨_, rfl⟩, post.now rel (.int _) o⟩
  · exact o.elim
def subD : D2 := fun a b h Q => match a, b with
  | .int i, .int j => Q (.int (i - j)) h
  | .bl p, .int j => Q (.int ((if p = true then 1 else 0) - j)) h
  | .int i, .bl p => Q (.int (i - if p = true then 1 else 0)) h
  | _, _ => False
theorem o_sub : OpR X (binaryOp .Sub) (R2of X.K subD) := by
  intro pins s σ H x y v u Q I rx ry hq
  obtain ⟨w, h, a, b, QD, rfl, rel, ra, rb, o, post⟩ := hq
  unfold subD at o
  split at o
  · rename_i i j
    cases ra
    cases rb
    exact op_sub pins s σ _ _ _ v u Q I rx ry ⟨i, j, rfl, rfl, post.now rel (.int _) o⟩
  · cases ra
    cases rb
    cases rx
    obtain ⟨t', rfl⟩ := ry
    exact IntBool.sub_bool_int ⟨.int _, w.H, I.tok _, ⟨_, rfl⟩, post.now rel (.int _) o⟩
  · cases ra
    cases rb
    cases ry
    obtain ⟨t, rfl⟩ := rx
    exact IntBool.sub_int_bool ⟨.int _, w.H, I.tok _, ⟨_, rfl⟩, post.now rel (.int _) o⟩
  · exact o.elim
def repL (ds : List D) : Nat → List D
  | 0 => []
  | k + 1 => ds ++ repL ds k
def mulD : D2 := fun a b h Q => match view h a, b with
  | .int i, .int j => MulOk i j ∧ Q (.int (i * j)) h
  | .lst ds, .int j => (-(9223372036854775808) ≤ j ∧ j < 9223372036854775808 ∧ ds.length * j.toNat ≤ sizeLine) ∧ Q (.lst (List.replicate j.toNat ds).flatten) h
  | .int i, .bl p => Q (.int (i * if p = true then 1 else 0)) h
  | .tup ds, .int j => (ds ≠ [] ∧ 1 ≤ j ∧ j ≤ 1000 ∧ ds.length ≤ 1000) ∧ Q (.tup (List.replicate j.toNat ds).flatten) h
  | _, _ => False
/-- a tuple once: itself -/
theorem tuple_mul1 (l : Addr) (items : Array Value) (n : Nat) (dd : Option Addr) (sl : Array (Option Value)) (u : Tok) :
    Meets (Builtin.«tuple.__mul__» ⟨[.ref l, .int 1 u], []⟩) (fun _ R s => s.heap.get? l = some { cls := .type "tuple", dict := dd, data := .seq items n, slots := sl } ∧ R (.ok (.ret (Value.ref l))) s) :=
  .of_wp fun prog w A R s h => by
    obtain ⟨hp, g, d, tk, os⟩ := s
    obtain ⟨hl, h⟩ := h
    have f1 := AutoSeq1.idx_int
    have c1 : (items.isEmpty || (1 : Int) == 1) = true := by rw [Bool.or_eq_true]; exact .inr rfl
    wp_walk using wpAny_loadPart' hl
    repeat (first
      | (refine wpAny_ite_false (decide_eq_false (by decide)) ?_; wp_walk using wpAny_loadPart' hl)
      | (refine wpAny_ite_true (decide_eq_true c1) ?_; wp_walk using wpAny_loadPart' hl))
    exact ⟨_, rfl, h⟩
theorem op_rep1 : OpR X (binaryOp .Mult) (fun x y H Q => ∃ l xs, x = .ref l ∧ y = .int 1 ∧ SqT X.K H l xs ∧ Q (.ref l) H) := by
  intro pins s σ H x y v u Q I rx ry h
  obtain ⟨l, xs, rfl, rfl, hT, q⟩ := h
  cases rx
  obtain ⟨t, rfl⟩ := ry
  obtain ⟨its, r, ⟨⟨cls, dd, data, sl⟩, ho, hc, n, hd⟩, hs⟩ := I.tuple hT
  simp only at hc hd
  subst hc hd
  exact wpAny_binaryOp_repeat_ref (T := "tuple") (U := "int") (by decide) ⟨_, ho, rfl⟩ (fun s' => typeIs_int s' 1 t) noFill_tuple_mul F.fills_int_mul F.slot_int_rmul repeat_tuple F.slot_int_index.lookup
    (call_meets F.slot_int_rmul (typeIs_int s 1 t) F.entry_int_rmul (F.args_int_rmul_2 _ _) (int_rmul_tuple 1 t l its.toArray n dd sl)
      ⟨ho, rfl, ⟨_, ho, rfl⟩, call_meets F.slot_tuple_mul ⟨_, ho, rfl⟩ F.entry_tuple_mul (F.args_tuple_mul_2 _ _) (tuple_mul1 l its.toArray n dd sl t) ⟨ho, .ref l, H, I, rfl, q⟩⟩)
theorem MulOk.ok {i j : Int} (h : MulOk i j) : IntMulOk i j := by
  rcases h with h | h | h
  · exact .of_left (intBits_le_64 (by omega) (by omega))
  · exact .of_right (intBits_le_64 (by omega) (by omega))
  · exact CMulW.ok h
theorem RDs.rep {K : PySem.W.Frag} {w : Wd} {ds : List D} {vs : List V} (r : RDs K w ds vs) : ∀ k : Nat, RDs K w (List.replicate k ds).flatten (List.replicate k vs).flatten
  | 0 => .nil
  | k + 1 => by
    rw [List.replicate_succ, List.replicate_succ, List.flatten_cons, List.flatten_cons]
    exact r.append (RDs.rep r k)
theorem o_mul : OpR X (binaryOp .Mult) (R2of X.K mulD) := by
  intro pins s σ H x y v u Q I rx ry hq
  obtain ⟨w, h, a, b, QD, rfl, rel, ra, rb, o, post⟩ := hq
  unfold mulD at o
  split at o
  · rename_i i j e1
    cases view_int ra e1
    cases rb
    obtain ⟨t, rfl⟩ := rx
    obtain ⟨t', rfl⟩ := ry
    exact mul_int ⟨.int (i * j), w.H, I.tok _, ⟨_, rfl⟩, post.now rel (.int _) o.2⟩ o.1.ok
  · rename_i ds j e1
    obtain ⟨p, xs, rfl, hp, rs, l1⟩ := view_lst rel ra e1
    cases rb
    exact op_rep pins s σ _ _ _ v u Q I rx ry ⟨p, j, xs, rfl, rfl, hp, o.1.1, o.1.2.1, by rw [← rs.length]; exact o.1.2.2, fun l hl => post_lst rel hl (rs.rep _) (by rw [List.length_flatten, List.map_replicate, List.sum_replicate_nat, Nat.mul_comm]; exact o.1.2.2) o.2 post⟩
  · rename_i i p e1
    cases view_int ra e1
    cases rb
    cases ry
    obtain ⟨t, rfl⟩ := rx
    exact IntBool.mul_int_bool ⟨.int _, w.H, I.tok _, ⟨_, rfl⟩, post.now rel (.int _) o⟩
  · rename_i ds j e1
    obtain ⟨⟨ne, j1, j2, l1⟩, o⟩ := o
    obtain ⟨a, xs, rfl, hp, rs, l2⟩ := view_tup ra e1
    cases rb
    by_cases e : j = 1
    · subst e
      refine op_rep1 pins s σ _ _ _ v u Q I rx ry ⟨a, xs, rfl, rfl, hp.sq, post.now rel (.tup hp l2 rs) ?_⟩
      simpa using o
    · refine op_repT pins s σ _ _ _ v u Q I rx ry ⟨a, j, xs, rfl, rfl, hp.sq, fun z => ne ?_, by omega, j2, by rw [← rs.length]; exact l1, fun p hn => post_tup rel hn (rs.rep _) ?_ o post⟩
      · subst z
        cases rs
        rfl
      · rw [List.length_flatten, List.map_replicate, List.sum_replicate_nat, sizeLine_eq]
        have a1 : j.toNat * ds.length ≤ 1000 * 1000 := Nat.mul_le_mul (by omega) l1
        omega
  · exact o.elim
def fdivD : D2 := fun a b h Q => match a, b with
  | .int i, .int j => DivOk j ∧ Q (.int (i / j)) h
  | _, _ => False
theorem DivOk.ok {i j : Int} (h : DivOk j) : CDivW i j := by
  refine ⟨h.1, ?_⟩
  rcases h.2 with q | q
  · have := h.1
    exact Nat.lt_trans (log2_small (n := j.natAbs) (by omega)) (by decide)
  · exact q
theorem o_fdiv : OpR X (binaryOp .FloorDiv) (R2of X.K fdivD) := by
  intro pins s σ H x y v u Q I rx ry hq
  obtain ⟨w, h, a, b, QD, rfl, rel, ra, rb, o, post⟩ := hq
  unfold fdivD at o
  split at o
  · rename_i i j
    cases ra
    cases rb
    exact op_fdivW pins s σ _ _ _ v u Q I rx ry ⟨i, j, rfl, rfl, o.1.ok, post.now rel (.int _) o.2⟩
  · exact o.elim
def modD : D2 := fun a b h Q => match a, b with
  | .int i, .int j => 0 < j ∧ Q (.int (i % j)) h
  | _, _ => False
theorem o_mod : OpR X (binaryOp .Mod) (R2of X.K modD) := by
  intro pins s σ H x y v u Q I rx ry hq
  obtain ⟨w, h, a, b, QD, rfl, rel, ra, rb, o, post⟩ := hq
  unfold modD at o
  split at o
  · rename_i i j
    cases ra
    cases rb
    exact op_mod pins s σ _ _ _ v u Q I rx ry ⟨i, j, rfl, rfl, o.1, post.now rel (.int _) o.2⟩
  · exact o.elim
def powD : D2 := fun a b h Q => match a, b with
  | .int i, .int j => (0 ≤ j ∧ j ≤ 1000000 ∧ i.natAbs < 18446744073709551616) ∧ Q (.int (i ^ j.toNat)) h
  | _, _ => False
theorem o_pow : OpR X (binaryOp .Pow) (R2of X.K powD) := by
  intro pins s σ H x y v u Q I rx ry hq
  obtain ⟨w, h, a, b, QD, rfl, rel, ra, rb, o, post⟩ := hq
  unfold powD at o
  split at o
  · rename_i i j
    cases ra
    cases rb
    exact op_pow pins s σ _ _ _ v u Q I rx ry ⟨i, j, rfl, rfl, o.1, post.now rel (.int _) o.2⟩
  · exact o.elim
def binD : Operator → D2
  | .Add => addD
  | .Sub => subD
  | .Mult => mulD
  | .FloorDiv => fdivD
  | .Mod => modD
  | .Pow => powD
  | _ => fun _ _ _ _ => False
theorem OpR.of_false {f : Value → Value → Sem Value} : OpR X f (R2of X.K fun _ _ _ _ => False) := by
  intro pins s σ H x y v u Q I rx ry hq
  obtain ⟨_, _, _, _, _, _, _, _, _, o, _⟩ := hq
  exact o.elim
theorem o_bin (op : Operator) : OpR X (binaryOp op) (R2of X.K (binD op)) := by
  cases op <;> first | exact o_add | exact o_sub | exact o_mul | exact o_fdiv | exact o_mod | exact o_pow | exact OpR.of_false
/-! in place: numbers; a list grows by another way -/
def iaddD : D2 := fun a b h Q => match a, b with
  | .int i, .int j => Q (.int (i + j)) h
  | .str x, .str y => x.length + y.length ≤ sizeLine ∧ Q (.str (x ++ y)) h
  | _, _ => False
def imulD : D2 := fun a b h Q => match a, b with
  | .int i, .int j => MulOk i j ∧ Q (.int (i * j)) h
  | _, _ => False
def augD : Operator → D2
  | .Add => iaddD
  | .Sub => subD
  | .Mult => imulD
  | .FloorDiv => fdivD
  | .Mod => modD
  | _ => fun _ _ _ _ => False
theorem o_aug (op : Operator) : OpR X (inplaceOp op) (R2of X.K (augD op)) := by
  cases op <;> try exact OpR.of_false
  · intro pins s σ H x y v u Q I rx ry hq
    obtain ⟨w, h, a, b, QD, rfl, rel, ra, rb, o, post⟩ := hq
    replace o : iaddD a b h QD := o
    unfold iaddD at o
    split at o
    · rename_i i j
      cases ra
      cases rb
      exact iop_add pins s σ _ _ _ v u Q I rx ry ⟨i, j, rfl, rfl, post.now rel (.int _) o⟩
    · rename_i i j
      cases ra
      cases rb
      exact iop_add_str pins s σ _ _ _ v u Q I rx ry ⟨i, j, rfl, rfl, o.1, post.now rel (.str _) o.2⟩
    · exact o.elim
  · intro pins s σ H x y v u Q I rx ry hq
    obtain ⟨w, h, a, b, QD, rfl, rel, ra, rb, o, post⟩ := hq
    replace o : subD a b h QD := o
    unfold subD at o
    split at o
    · rename_i i j
      cases ra
      cases rb
      exact iop_sub pins s σ _ _ _ v u Q I rx ry ⟨i, j, rfl, rfl, post.now rel (.int _) o⟩
    · cases ra
      cases rb
      cases rx
      obtain ⟨t', rfl⟩ := ry
      exact IntBool.isub_bool_int ⟨.int _, w.H, I.tok _, ⟨_, rfl⟩, post.now rel (.int _) o⟩
    · cases ra
      cases rb
      cases ry
      obtain ⟨t, rfl⟩ := rx
      exact IntBool.isub_int_bool ⟨.int _, w.H, I.tok _, ⟨_, rfl⟩, post.now rel (.int _) o⟩
    · exact o.elim
  · intro pins s σ H x y v u Q I rx ry hq
    obtain ⟨w, h, a, b, QD, rfl, rel, ra, rb, o, post⟩ := hq
    replace o : imulD a b h QD := o
    unfold imulD at o
    split at o
    · rename_i i j
      cases ra
      cases rb
      obtain ⟨t, rfl⟩ := rx
      obtain ⟨t', rfl⟩ := ry
      exact imul_int ⟨.int (i * j), w.H, I.tok _, ⟨_, rfl⟩, post.now rel (.int _) o.2⟩ o.1.ok
    · exact o.elim
  · intro pins s σ H x y v u Q I rx ry hq
    obtain ⟨w, h, a, b, QD, rfl, rel, ra, rb, o, post⟩ := hq
    replace o : modD a b h QD := o
    unfold modD at o
    split at o
    · rename_i i j
      cases ra
      cases rb
      exact iop_mod pins s σ _ _ _ v u Q I rx ry ⟨i, j, rfl, rfl, o.1, post.now rel (.int _) o.2⟩
    · exact o.elim
  · intro pins s σ H x y v u Q I rx ry hq
    obtain ⟨w, h, a, b, QD, rfl, rel, ra, rb, o, post⟩ := hq
    replace o : fdivD a b h QD := o
    unfold fdivD at o
    split at o
    · rename_i i j
      cases ra
      cases rb
      obtain ⟨t, rfl⟩ := rx
      obtain ⟨t', rfl⟩ := ry
      have h1 : (0 : Int) < j := o.1.1
      exact ifloordiv_int (by omega) (by rw [Int.fdiv_eq_ediv_of_nonneg i (by omega)]; exact ⟨.int (i / j), w.H, I.tok _, ⟨_, rfl⟩, post.now rel (.int _) o.2⟩) (.inl (PyProof.noPylong_of_log2 (DivOk.ok (i := i) o.1).2))
    · exact o.elim
def negD : D1 := fun a h Q => match a with
  | .int i => Q (.int (-i)) h
  | _ => False
theorem o_neg : UnR X (unaryOp .USub) (R1of X.K negD) := by
  intro pins s σ H x v Q I rx hq
  obtain ⟨w, h, a, QD, rfl, rel, ra, o, post⟩ := hq
  unfold negD at o
  split at o
  · rename_i i
    cases ra
    exact un_neg pins s σ _ _ v Q I rx ⟨i, rfl, post.now rel (.int _) o⟩
  · exact o.elim

/-! ### comparisons -/
def ordD (pi : Int → Int → Bool) (ps : List Nat → List Nat → Bool) : D2 := fun a b h Q => match a, b with
  | .int i, .int j => Q (.bl (pi i j)) h
  | .str x, .str y => Q (.bl (ps x.cps.toList y.cps.toList)) h
  | _, _ => False
theorem o_ord {op : CmpOp} {pi : Int → Int → Bool} {ps : List Nat → List Nat → Bool} (hi : OpR X (compareOp op) (rI0 fun i j => .bl (pi i j)))
    (hs : OpR X (compareOp op) (fun x y H Q => ∃ i j, x = .str i ∧ y = .str j ∧ Q (.bl (ps i.cps.toList j.cps.toList)) H)) : OpR X (compareOp op) (R2of X.K (ordD pi ps)) := by
  intro pins s σ H x y v u Q I rx ry hq
  obtain ⟨w, h, a, b, QD, rfl, rel, ra, rb, o, post⟩ := hq
  unfold ordD at o
  split at o
  · rename_i i j
    cases ra
    cases rb
    exact hi pins s σ _ _ _ v u Q I rx ry ⟨i, j, rfl, rfl, post.now rel (.bl _) o⟩
  · rename_i i j
    cases ra
    cases rb
    exact hs pins s σ _ _ _ v u Q I rx ry ⟨i, j, rfl, rfl, post.now rel (.bl _) o⟩
  · exact o.elim
/-- data of which one has no dict within -/
def EqOk (x y : D) : Prop := x.isF = true ∧ y.isF = true ∧ (SeqAt.shaped x.py = true ∨ SeqAt.shaped y.py = true)
theorem EqOk.of {x y : D} (h : x.isD = true ∧ y.isD = true ∧ SeqAt.shaped x.py = true ∧ SeqAt.shaped y.py = true) : EqOk x y := ⟨isF_of _ h.1, isF_of _ h.2.1, .inl h.2.2.1⟩
theorem EqOk.lay {x y : D} (h : EqOk x y) {u : Nat} (hu : u + 64 < cLine) : (x.py.canLay0 = true ∨ y.py.canLay0 = true) ∧ u + min x.py.depth y.py.depth < cLine := by
  rcases h.2.2 with k | k
  · refine ⟨.inl (SeqAt.canLay_of_shaped k), ?_⟩
    unfold SeqAt.shaped at k
    rw [Bool.and_eq_true, decide_eq_true_eq] at k
    have := Nat.min_le_left x.py.depth y.py.depth
    omega
  · refine ⟨.inr (SeqAt.canLay_of_shaped k), ?_⟩
    unfold SeqAt.shaped at k
    rw [Bool.and_eq_true, decide_eq_true_eq] at k
    have := Nat.min_le_right x.py.depth y.py.depth
    omega
def eqD (neg : Bool) : D2 := fun a b h Q => match view h a, view h b with
  | .int i, .int j => Q (.bl (if neg then !decide (i = j) else decide (i = j))) h
  | .str i, .str j => Q (.bl (if neg then !decide (i = j) else decide (i = j))) h
  | x, y => EqOk x y ∧ Q (.bl (if neg then !PyData.eqv x.py y.py else PyData.eqv x.py y.py)) h
theorem o_eq (hu : X.A.units + 64 < cLine) : OpR X (compareOp .Eq) (R2of X.K (eqD false)) := by
  intro pins s σ H x y v u Q I rx ry hq
  obtain ⟨w, h, a, b, QD, rfl, rel, ra, rb, o, post⟩ := hq
  unfold eqD at o
  split at o
  · rename_i i j e1 e2
    cases view_int ra e1
    cases view_int rb e2
    refine op_eq pins s σ _ _ _ v u Q I rx ry ⟨rfl, post.now rel (.bl _) ?_⟩
    have e : decide (V.int i = V.int j) = decide (i = j) := by rw [dec_int, Bool.eq_iff_iff]; simp
    rw [e]
    exact o
  · rename_i i j e1 e2
    cases view_str ra e1
    cases view_str rb e2
    refine op_eq pins s σ _ _ _ v u Q I rx ry ⟨rfl, post.now rel (.bl _) ?_⟩
    have e : decide (V.str i = V.str j) = decide (i = j) := by rw [dec_str, Bool.eq_iff_iff]; simp
    rw [e]
    exact o
  · obtain ⟨ok, o⟩ := o
    obtain ⟨as, r1⟩ := view_reads0 I rel ra rx ok.1
    obtain ⟨bs, r2⟩ := view_reads0 I rel rb ry ok.2.1
    obtain ⟨c, d⟩ := ok.lay hu
    exact rcAt_readsX r1 r2 c d _ _ _ _ ⟨.bl _, w.H, I, rfl, post.now rel (.bl _) o⟩
theorem o_ne (hu : X.A.units + 64 < cLine) : OpR X (compareOp .NotEq) (R2of X.K (eqD true)) := by
  intro pins s σ H x y v u Q I rx ry hq
  obtain ⟨w, h, a, b, QD, rfl, rel, ra, rb, o, post⟩ := hq
  unfold eqD at o
  split at o
  · rename_i i j e1 e2
    cases view_int ra e1
    cases view_int rb e2
    refine op_ne pins s σ _ _ _ v u Q I rx ry ⟨rfl, post.now rel (.bl _) ?_⟩
    have e : decide (V.int i = V.int j) = decide (i = j) := by rw [dec_int, Bool.eq_iff_iff]; simp
    rw [e]
    exact o
  · rename_i i j e1 e2
    cases view_str ra e1
    cases view_str rb e2
    refine op_ne pins s σ _ _ _ v u Q I rx ry ⟨rfl, post.now rel (.bl _) ?_⟩
    have e : decide (V.str i = V.str j) = decide (i = j) := by rw [dec_str, Bool.eq_iff_iff]; simp
    rw [e]
    exact o
  · obtain ⟨ok, o⟩ := o
    obtain ⟨as, r1⟩ := view_reads0 I rel ra rx ok.1
    obtain ⟨bs, r2⟩ := view_reads0 I rel rb ry ok.2.1
    obtain ⟨c, d⟩ := ok.lay hu
    exact rcNeAt_readsX r1 r2 c d _ _ _ _ ⟨.bl _, w.H, I, rfl, post.now rel (.bl _) o⟩
/-- is: None, a truth -/
def isNon : D → Bool
  | .non => true
  | _ => false
def isD2 (neg : Bool) : D2 := fun a b h Q => match b with
  | .non => Q (.bl (if neg then !isNon a else isNon a)) h
  | .bl c => match a with
    | .bl d => Q (.bl (if neg then !decide (d = c) else decide (d = c))) h
    | _ => False
  | _ => False
theorem isNon_of {K : PySem.W.Frag} {w : Wd} {a : D} {x : V} (r : RD K w a x) : decide (x = V.non) = isNon a := by
  cases r <;> simp [isNon]
theorem o_is : OpR X (compareOp .Is) (R2of X.K (isD2 false)) := by
  intro pins s σ H x y v u Q I rx ry hq
  obtain ⟨w, h, a, b, QD, rfl, rel, ra, rb, o, post⟩ := hq
  unfold isD2 at o
  split at o
  · cases rb
    refine op_isN pins s σ _ _ _ v u Q I rx ry ⟨rfl, post.now rel (.bl _) ?_⟩
    rw [isNon_of ra]
    exact o
  · cases rb
    split at o
    · cases ra
      exact op_isBl pins s σ _ _ _ v u Q I rx ry ⟨_, _, rfl, rfl, post.now rel (.bl _) o⟩
    · exact o.elim
  · exact o.elim
theorem o_isnot : OpR X (compareOp .IsNot) (R2of X.K (isD2 true)) := by
  intro pins s σ H x y v u Q I rx ry hq
  obtain ⟨w, h, a, b, QD, rfl, rel, ra, rb, o, post⟩ := hq
  unfold isD2 at o
  split at o
  · cases rb
    refine op_notN pins s σ _ _ _ v u Q I rx ry ⟨rfl, post.now rel (.bl _) ?_⟩
    rw [isNon_of ra]
    exact o
  · cases rb
    split at o
    · cases ra
      exact op_notBl pins s σ _ _ _ v u Q I rx ry ⟨_, _, rfl, rfl, post.now rel (.bl _) o⟩
    · exact o.elim
  · exact o.elim
end
end G

/-! Operations on values, further. -/
namespace G
open PySem PySem.Spec PyProof.Rows L2
section
variable {X : Cx}

/-! ### a list or a tuple -/
theorem view_seq {K : PySem.W.Frag} {w : Wd} {h : Hd} {d : D} {ds : List D} {v : V} (rel : RelW K w h) (r : RD K w d v) (e : view h d = .lst ds ∨ view h d = .tup ds) : ∃ a xs, v = .ref a ∧ (SqL K w.H a xs ∨ SqT K w.H a xs) ∧ RDs K w ds xs ∧ ds.length ≤ sizeLine := by
  rcases e with e | e
  · obtain ⟨a, xs, e1, e2, rs, l⟩ := view_lst rel r e
    exact ⟨a, xs, e1, .inl (.inl (.inl e2)), rs, l⟩
  · obtain ⟨a, xs, e1, e2, rs, l⟩ := view_tup r e
    exact ⟨a, xs, e1, .inr e2.sq, rs, l⟩
def seqD (h : Hd) (d : D) : Option (List D) := match view h d with
  | .lst ds => some ds
  | .tup ds => some ds
  | _ => none
theorem seqD_of {h : Hd} {d : D} {ds : List D} (e : seqD h d = some ds) : view h d = .lst ds ∨ view h d = .tup ds := by
  unfold seqD at e
  split at e
  · rename_i q; cases e; exact .inl q
  · rename_i q; cases e; exact .inr q
  · cases e

/-! ### in -/
def D.flat : D → Bool
  | .non => true
  | .bl _ => true
  | .int _ => true
  | .str _ => true
  | _ => false
theorem RD.flat {K : PySem.W.Frag} {w : Wd} {d : D} {v : V} (r : RD K w d v) (f : d.flat = true) : flatV v = true := by
  cases r <;> first | rfl | (simp [D.flat] at f)
theorem RD.eqV {K : PySem.W.Frag} {w : Wd} {d e : D} {v u : V} (r : RD K w d v) (s : RD K w e u) (f : d.flat = true) (g : e.flat = true) : eqV v u = PyData.eqv d.py e.py := by
  cases r <;> first | (simp [D.flat] at f; done) | (cases s <;> first | (simp [D.flat] at g; done) | simp [L2.eqV, D.py, PyData.eqv])
theorem RDs.anyEq {K : PySem.W.Frag} {w : Wd} {e : D} {u : V} (s : RD K w e u) (g : e.flat = true) : ∀ {ds : List D} {vs : List V}, RDs K w ds vs → ds.all D.flat = true → vs.all flatV = true ∧ inV u vs = ds.any fun z => PyData.eqv z.py e.py
  | _, _, .nil, _ => ⟨rfl, rfl⟩
  | _, _, .cons r rs, f => by
    rw [List.all_cons, Bool.and_eq_true] at f
    obtain ⟨h1, h2⟩ := RDs.anyEq s g rs f.2
    refine ⟨by rw [List.all_cons, r.flat f.1, h1]; rfl, ?_⟩
    rw [List.any_cons, ← h2, ← r.eqV s f.1 g]
    rfl
theorem pys_any (e : PyData) : ∀ ds : List D, ((D.pys ds).any fun z => PyData.eqv z e) = ds.any fun z => PyData.eqv z.py e
  | [] => by simp [D.pys]
  | d :: ds => by simp only [D.pys, List.any_cons, pys_any e ds]
def keyD : D → Option Key
  | .int i => some (.inl i)
  | .str x => some (.inr x)
  | _ => none
def lookK {α : Type} (kvs : List (Key × α)) (k : Key) : Option α := (kvs.find? fun kv => decide (kv.1 = k)).map (·.2)
def putKD (kvs : List (Key × D)) (k : Key) (v : D) : List (Key × D) :=
  if (kvs.any fun kv => decide (kv.1 = k)) = true then kvs.map (fun kv => if kv.1 = k then (kv.1, v) else kv) else kvs ++ [(k, v)]
theorem keyD_of {K : PySem.W.Frag} {w : Wd} {d : D} {v : V} {k : Key} (r : RD K w d v) (e : keyD d = some k) : v = kV k := by
  cases r <;> first | (simp [keyD] at e; done) | (simp only [keyD, Option.some.injEq] at e; subst e; rfl)
theorem lookK_rel {K : PySem.W.Frag} {w : Wd} (k : Key) : ∀ {kvs : List (Key × D)} {xs : List (Key × V)}, xs.map (·.1) = kvs.map (·.1) → RDs K w (kvs.map (·.2)) (xs.map (·.2)) →
    (lookK kvs k = none ∧ valV xs k = none) ∨ ∃ d v, lookK kvs k = some d ∧ valV xs k = some v ∧ RD K w d v
  | [], [], _, _ => .inl ⟨rfl, rfl⟩
  | [], _ :: _, e, _ => by simp at e
  | _ :: _, [], e, _ => by simp at e
  | (k1, d) :: kvs, (k2, v) :: xs, e, r => by
    simp only [List.map_cons, List.cons.injEq] at e
    obtain ⟨e1, e2⟩ := e
    subst e1
    simp only [List.map_cons] at r
    cases r with
    | cons r rs =>
      by_cases hk : k2 = k
      · exact .inr ⟨d, v, by simp [lookK, List.find?_cons, hk], valV_pos hk, r⟩
      · have h1 : lookK ((k2, d) :: kvs) k = lookK kvs k := by simp [lookK, List.find?_cons, hk]
        have h2 : valV ((k2, v) :: xs) k = valV xs k := valV_neg hk
        rw [h1, h2]
        exact lookK_rel k e2 rs
def inD (neg : Bool) : D2 := fun a b h Q => match b with
  | .ref n => match h n with
    | some (.lst ds) => (a.isD = true ∧ D.areD ds = true ∧ SeqAt.shaped a.py = true ∧ SeqAt.shaped (.list (D.pys ds)) = true) ∧ Q (.bl (if neg then !ds.any fun z => PyData.eqv z.py a.py else ds.any fun z => PyData.eqv z.py a.py)) h
    | some (.dK kvs) => match keyD a with
      | some k => Q (.bl (if neg then !(lookK kvs k).isSome else (lookK kvs k).isSome)) h
      | none => False
    | none => False
  | .lst ds => (a.isD = true ∧ D.areD ds = true ∧ SeqAt.shaped a.py = true ∧ SeqAt.shaped (.list (D.pys ds)) = true) ∧ Q (.bl (if neg then !ds.any fun z => PyData.eqv z.py a.py else ds.any fun z => PyData.eqv z.py a.py)) h
  | .tup ds => ((a.flat = true ∧ ds.all D.flat = true) ∨ (a.isF = true ∧ D.areD ds = true ∧ SeqAt.shaped (.tuple (D.pys ds)) = true)) ∧ Q (.bl (if neg then !ds.any fun z => PyData.eqv z.py a.py else ds.any fun z => PyData.eqv z.py a.py)) h
  | .str y => match a with
    | .str x => match x.cps.toList with
      | [c] => Q (.bl (if neg then !decide (c ∈ y.cps.toList) else decide (c ∈ y.cps.toList))) h
      | _ => False
    | _ => False
  | _ => False
theorem one_sign {x : Str} {c : Nat} (e : x.cps.toList = [c]) : x = ⟨#[c]⟩ := by
  obtain ⟨a⟩ := x
  have : a = #[c] := by
    apply Array.ext'
    simpa using e
  rw [this]
theorem o_in (hu : X.A.units + 65 < cLine) (neg : Bool) : OpR X (compareOp (if neg then .NotIn else .In)) (R2of X.K (inD neg)) := by
  intro pins s σ H x y v u Q I rx ry hq
  obtain ⟨w, h, a, b, QD, rfl, rel, ra, rb, o, post⟩ := hq
  unfold inD at o
  have lst : ∀ ds, (a.isD = true ∧ D.areD ds = true ∧ SeqAt.shaped a.py = true ∧ SeqAt.shaped (.list (D.pys ds)) = true) ∧ QD (.bl (if neg then !ds.any fun z => PyData.eqv z.py a.py else ds.any fun z => PyData.eqv z.py a.py)) h →
      (∃ p xs, y = .ref p ∧ w.H p = some (.lst xs) ∧ RDs X.K w ds xs) → wpAny (model X.prog X.w) X.A (compareOp (if neg then .NotIn else .In) v u) (EP X pins σ Q) X.xe s := by
    rintro ds ⟨⟨h1, h2, h3, h4⟩, o⟩ ⟨p, xs, rfl, e, rs⟩
    have dp : Dp X.K w.H (.ref p) (.list (D.pys ds)) := .lst (.inl (.inl e)) (rs.dps h2)
    rw [← pys_any] at o
    cases neg with
    | false => exact op_inD hu pins s σ _ _ _ v u Q I rx ry ⟨_, _, ra.dp h1, dp, h3, h4, post.now rel (.bl _) o⟩
    | true => exact op_notInD hu pins s σ _ _ _ v u Q I rx ry ⟨_, _, ra.dp h1, dp, h3, h4, post.now rel (.bl _) o⟩
  split at o
  · rename_i n
    split at o
    · rename_i ds e
      obtain ⟨p, xs, e1, e2, rs, ll⟩ := view_lst (d := .ref n) (ds := ds) rel rb (by simp [view, e])
      exact lst ds o ⟨p, xs, e1, e2, rs⟩
    · rename_i kvs e
      obtain ⟨p, e1, xs, e2, e3, rs⟩ := rel.has n _ e
      cases rb with
      | ref q =>
        rw [q] at e1; cases e1
        split at o
        · rename_i k ek
          cases keyD_of ra ek
          cases ry
          have g : DGet w.H p (kV k) (valV xs k) := DGet.k e2
          have eo : (valV xs k).isSome = (lookK kvs k).isSome := by
            rcases lookK_rel k e3 rs with ⟨a1, a2⟩ | ⟨d, v', a1, a2, _⟩ <;> rw [a1, a2] <;> rfl
          cases neg with
          | false => exact d_in (by omega) I g rx fun s' I' => ⟨.bl (valV xs k).isSome, w.H, I', rfl, by rw [eo]; exact post.now rel (.bl _) o⟩
          | true => exact d_notIn (by omega) I g rx fun s' I' => ⟨.bl (!(valV xs k).isSome), w.H, I', rfl, by rw [eo]; exact post.now rel (.bl _) o⟩
        · exact o.elim
    · exact o.elim
  · rename_i ds
    obtain ⟨p, xs, e1, e2, rs, ll⟩ := view_lst (h := h) (d := .lst ds) (ds := ds) rel rb rfl
    exact lst ds o ⟨p, xs, e1, e2, rs⟩
  · rename_i ds
    obtain ⟨⟨h1, h2⟩ | ⟨h1, h2, h4⟩, o⟩ := o
    case inr =>
      cases rb with
      | tup st ll rs =>
        have dp : Dp X.K w.H _ (.tuple (D.pys ds)) := .tup st.sq (rs.dps h2)
        rw [← pys_any] at o
        obtain ⟨as, r1⟩ := RD.reads0 I ra rx h1
        obtain ⟨bs, r2⟩ := Dp.reads I _ _ _ dp ry
        have c1 := SeqAt.canLay_of_shaped h4
        simp only [PyData.canLay0] at c1
        have dl : PyData.depthAll (D.pys ds) ≤ 63 := by
          have := h4
          unfold SeqAt.shaped at this
          rw [Bool.and_eq_true, decide_eq_true_eq] at this
          have := this.2
          simp only [PyData.depth] at this
          omega
        have um : X.A.units + 1 + min (PyData.depthAll (D.pys ds)) a.py.depth < cLine := by
          have := Nat.min_le_left (PyData.depthAll (D.pys ds)) a.py.depth
          omega
        cases neg with
        | false => exact in_tupleX r2 r1 c1 um ⟨.bl _, w.H, I, rfl, post.now rel (.bl _) o⟩
        | true => exact notIn_tupleX r2 r1 c1 um ⟨.bl _, w.H, I, rfl, post.now rel (.bl _) o⟩
    case inl =>
    cases rb with
    | tup st ll rs =>
      obtain ⟨g1, g2⟩ := RDs.anyEq ra h1 rs h2
      rw [← g2] at o
      cases neg with
      | false => exact op_in_seq pins s σ _ _ _ v u Q I rx ry ⟨_, _, rfl, .inr st.sq, ra.flat h1, g1, post.now rel (.bl _) o⟩
      | true => exact op_notIn_seq pins s σ _ _ _ v u Q I rx ry ⟨_, _, rfl, .inr st.sq, ra.flat h1, g1, post.now rel (.bl _) o⟩
  · rename_i z
    cases rb
    split at o
    · rename_i x'
      cases ra
      split at o
      · rename_i c e
        cases one_sign e
        cases neg with
        | false => exact op_in_sign pins s σ _ _ _ v u Q I rx ry ⟨c, z, rfl, rfl, post.now rel (.bl _) o⟩
        | true => exact op_notIn_sign pins s σ _ _ _ v u Q I rx ry ⟨c, z, rfl, rfl, post.now rel (.bl _) o⟩
      · exact o.elim
    · exact o.elim
  · exact o.elim
def cmpD : CmpOp → D2
  | .Eq => eqD false
  | .NotEq => eqD true
  | .Lt => ordD (fun i j => decide (i < j)) (fun x y => decide (x < y))
  | .LtE => ordD (fun i j => decide (i ≤ j)) (fun x y => !decide (y < x))
  | .Gt => ordD (fun i j => decide (j < i)) (fun x y => decide (y < x))
  | .GtE => ordD (fun i j => decide (j ≤ i)) (fun x y => !decide (x < y))
  | .Is => isD2 false
  | .IsNot => isD2 true
  | .In => inD false
  | .NotIn => inD true
theorem o_cmp (hu : X.A.units + 65 < cLine) (op : CmpOp) : OpR X (compareOp op) (R2of X.K (cmpD op)) := by
  cases op with
  | Eq => exact o_eq (by omega)
  | NotEq => exact o_ne (by omega)
  | Lt => exact o_ord (ps := fun x y => decide (x < y)) op_lt op_lt_str
  | LtE => exact o_ord (ps := fun x y => !decide (y < x)) op_le op_le_str
  | Gt => exact o_ord (ps := fun x y => decide (y < x)) op_gt op_gt_str
  | GtE => exact o_ord (ps := fun x y => !decide (x < y)) op_ge op_ge_str
  | Is => exact o_is
  | IsNot => exact o_isnot
  | In => exact o_in hu false
  | NotIn => exact o_in hu true

/-! ### truth -/
def truthD (d : D) (h : Hd) (Q : Bool → Prop) : Prop := match view h d with
  | .bl b => Q b
  | .int i => Q (i != 0)
  | .non => Q false
  | .str x => x.length ≤ sizeLine ∧ Q ((x.length : Int) != 0)
  | .lst ds => Q (!ds.isEmpty)
  | .tup ds => Q (!ds.isEmpty)
  | _ => False
theorem RDs.isEmpty {K : PySem.W.Frag} {w : Wd} {ds : List D} {vs : List V} (r : RDs K w ds vs) : vs.isEmpty = ds.isEmpty := by cases r <;> rfl
theorem truth_of {K : PySem.W.Frag} {w : Wd} {h : Hd} {d : D} {v : V} {Q : Bool → Prop} (rel : RelW K w h) (r : RD K w d v) (q : truthD d h Q) : ∃ k, TruV K v w.H k ∧ Q k := by
  unfold truthD at q
  split at q
  · rename_i b e; cases view_bl r e; exact ⟨_, rfl, q⟩
  · rename_i b e; cases view_int r e; exact ⟨_, rfl, q⟩
  · rename_i e; cases view_non r e; exact ⟨_, rfl, q⟩
  · rename_i b e; cases view_str r e; exact ⟨_, ⟨q.1, rfl⟩, q.2⟩
  · rename_i ds e
    obtain ⟨a, xs, rfl, e2, rs, ll⟩ := view_lst rel r e
    exact ⟨_, .inl ⟨xs, .inl (.inl e2), rfl⟩, by rw [rs.isEmpty]; exact q⟩
  · rename_i ds e
    obtain ⟨a, xs, rfl, e2, rs, ll⟩ := view_tup r e
    exact ⟨_, .inr (.inl ⟨xs, e2.sq, rfl⟩), by rw [rs.isEmpty]; exact q⟩
  · exact q.elim

/-! ### items, slices -/
theorem RDs.atI {K : PySem.W.Frag} {w : Wd} {ds : List D} {vs : List V} {i : Int} {d : D} (r : RDs K w ds vs) (e : atI ds i = some d) : ∃ v, L2.atI vs i = some v ∧ RD K w d v := by
  unfold L2.atI at e ⊢
  rw [← r.length]
  cases q : ixN ds.length i with
  | none => rw [q] at e; cases e
  | some j =>
    rw [q] at e
    exact r.get e
def cutD (ds : List D) (lo hi : Option Int) : List D := (ds.drop (HT.sIx ds.length 0 lo)).take (HT.sIx ds.length ds.length hi - HT.sIx ds.length 0 lo)
theorem cutD_length (ds : List D) (lo hi : Option Int) : (cutD ds lo hi).length ≤ ds.length := by
  unfold cutD
  rw [List.length_take, List.length_drop]
  omega
theorem RDs.cut {K : PySem.W.Frag} {w : Wd} {ds : List D} {vs : List V} (r : RDs K w ds vs) (lo hi : Option Int) : RDs K w (cutD ds lo hi) (cutV vs lo hi) := by
  unfold cutD cutV
  rw [r.length]
  exact (r.drop _).take _
def subsD : D2 := fun a b h Q => match a with
  | .ref n => match h n with
    | some (.lst ds) => match b with
      | .int i => match atI ds i with
        | some d => Q d h
        | none => False
      | _ => False
    | some (.dK kvs) => match keyD b with
      | some k => match lookK kvs k with
        | some d => Q d h
        | none => False
      | none => False
    | none => False
  | .lst ds => match b with
      | .int i => match atI ds i with
        | some d => Q d h
        | none => False
      | _ => False
  | .tup ds => match b with
      | .int i => match atI ds i with
        | some d => Q d h
        | none => False
      | _ => False
  | .str x => match b with
      | .int i => x.length ≤ sizeLine ∧ match atI x.cps.toList i with
        | some c => Q (.str ⟨#[c]⟩) h
        | none => False
      | _ => False
  | _ => False
theorem ix_dict (hu : X.A.units + 1 < cLine) : IxR X (fun x y H Q => ∃ a v, x = .ref a ∧ DGet H a y (some v) ∧ Q v H) := by
  intro value slice pins s σ H x y v u Q I rx ry h hs
  obtain ⟨a, z, rfl, g, q⟩ := h
  cases rx
  exact tail_any (dict_typeIs I g) PySem.F.slot_dict_getitem.lookup (d_getItem hu I g ry fun w' s' I' r' => ⟨z, H, I', r', q⟩) hs
theorem o_subs (hu : X.A.units + 1 < cLine) : IxR X (R2of X.K subsD) := by
  intro value slice pins s σ H x y v u Q I rx ry hq hs
  obtain ⟨w, h, a, b, QD, rfl, rel, ra, rb, o, post⟩ := hq
  have lst : ∀ (ds : List D) (i : Int), y = .int i → (match L2.atI ds i with | some d => QD d h | none => False) → (∃ p xs, x = .ref p ∧ w.H p = some (.lst xs) ∧ RDs X.K w ds xs) →
      wpAny (model X.prog X.w) X.A (subscriptTail value slice v u) (EP X pins σ Q) X.xe s := by
    rintro ds i rfl o ⟨p, xs, rfl, e, rs⟩
    split at o
    · rename_i d ed
      obtain ⟨z, ez, rz⟩ := rs.atI ed
      exact ix_list value slice pins s σ _ _ _ v u Q I rx ry ⟨p, xs, i, z, rfl, rfl, .inl (.inl e), ez, post.now rel rz o⟩ hs
    · exact o.elim
  unfold subsD at o
  split at o
  · rename_i n
    split at o
    · rename_i ds e
      obtain ⟨p, xs, e1, e2, rs, ll⟩ := view_lst (d := .ref n) (ds := ds) rel ra (by simp [view, e])
      split at o
      · cases rb
        exact lst ds _ rfl o ⟨p, xs, e1, e2, rs⟩
      · exact o.elim
    · rename_i kvs e
      obtain ⟨p, e1, xs, e2, e3, rs⟩ := rel.has n _ e
      cases ra with
      | ref q =>
        rw [q] at e1; cases e1
        split at o
        · rename_i k ek
          cases keyD_of rb ek
          split at o
          · rename_i d ed
            rcases lookK_rel k e3 rs with ⟨a1, a2⟩ | ⟨d', v', a1, a2, rd⟩
            · rw [a1] at ed; cases ed
            · rw [a1] at ed; cases ed
              exact ix_dict hu value slice pins s σ _ _ _ v u Q I rx ry ⟨p, v', rfl, by rw [← a2]; exact DGet.k e2, post.now rel rd o⟩ hs
          · exact o.elim
        · exact o.elim
    · exact o.elim
  · rename_i ds
    obtain ⟨p, xs, e1, e2, rs, ll⟩ := view_lst (h := h) (d := .lst ds) (ds := ds) rel ra rfl
    split at o
    · cases rb
      exact lst ds _ rfl o ⟨p, xs, e1, e2, rs⟩
    · exact o.elim
  · rename_i ds
    cases ra with
    | tup st ll rs =>
      split at o
      · rename_i i
        cases rb
        split at o
        · rename_i d ed
          obtain ⟨z, ez, rz⟩ := rs.atI ed
          exact ix_tup value slice pins s σ _ _ _ v u Q I rx ry ⟨_, _, i, z, rfl, rfl, st.sq, ez, post.now rel rz o⟩ hs
        · exact o.elim
      · exact o.elim
  · rename_i z
    cases ra
    split at o
    · rename_i i
      cases rb
      obtain ⟨hz, o⟩ := o
      split at o
      · rename_i c ec
        exact ix_str value slice pins s σ _ _ _ v u Q I rx ry ⟨z, i, c, rfl, rfl, hz, ec, post.now rel (.str _) o⟩ hs
      · exact o.elim
    · exact o.elim
  · exact o.elim
def sliceD (a : D) (lo hi : Option Int) : Hd → Pq → Prop := fun h Q => match view h a with
  | .lst ds => Q (.lst (cutD ds lo hi)) h
  | .tup ds => Q (.tup (cutD ds lo hi)) h
  | .str x => x.length ≤ sizeLine ∧ Q (.str (cutS x lo hi)) h
  | .scr => ∀ ns : List Int, ns.length ≤ 63 → Q (.lst (cutD (ns.map D.int) lo hi)) h
  | _ => False
theorem intsR {K : PySem.W.Frag} {w : Wd} : ∀ (ns : List Int), RDs K w (ns.map D.int) (ns.map V.int)
  | [] => .nil
  | n :: ns => .cons (.int n) (intsR ns)
theorem view_scr {h : Hd} {d : D} (e : view h d = .scr) : d = .scr := by
  cases d <;> first | (simp only [view] at e; first | (split at e <;> cases e; done) | cases e; done) | rfl
theorem cut_whole {ds : List D} {lo hi : Option Int} (h : HT.sIx ds.length 0 lo = 0 ∧ HT.sIx ds.length ds.length hi = ds.length) : cutD ds lo hi = ds := by
  unfold cutD
  rw [h.1, h.2]
  simp
def RSof (K : PySem.W.Frag) : V → Option Int → Option Int → Hp → VK → Prop := fun x lo hi H Q => ∃ w h a QD, w.H = H ∧ RelW K w h ∧ RD K w a x ∧ sliceD a lo hi h QD ∧ Post K w h QD Q
theorem o_slice : SlR X (RSof X.K) := by
  intro pins s σ H x v vl vu lo hi sl Q I rx hs pl pu hq
  obtain ⟨w, h, a, QD, rfl, rel, ra, o, post⟩ := hq
  unfold sliceD at o
  split at o
  · rename_i ds e
    obtain ⟨p, xs, rfl, e2, rs, ll⟩ := view_lst rel ra e
    exact sl_list pins s σ _ _ v vl vu lo hi sl Q I rx hs pl pu ⟨p, xs, rfl, .inl (.inl e2), fun l hl => post_lst rel hl (rs.cut lo hi) (Nat.le_trans (cutD_length ds lo hi) ll) o post⟩
  · rename_i ds e
    obtain ⟨p, xs, rfl, e2, rs, ll⟩ := view_tup ra e
    refine sl_tupA pins s σ _ _ v vl vu lo hi sl Q I rx hs pl pu ⟨p, xs, rfl, e2.sq, fun hw => ?_, fun _ l hl => post_tup rel hl (rs.cut lo hi) (Nat.le_trans (cutD_length ds lo hi) ll) o post⟩
    rw [← rs.length] at hw
    rw [cut_whole hw] at o
    exact post.now rel (.tup e2 ll rs) o
  · rename_i z e
    cases view_str ra e
    exact sl_str pins s σ _ _ v vl vu lo hi sl Q I rx hs pl pu ⟨z, rfl, o.1, post.now rel (.str _) o.2⟩
  · rename_i e
    cases view_scr e
    cases ra with
    | @scr p ns e2 l n => exact sl_list pins s σ _ _ v vl vu lo hi sl Q I rx hs pl pu ⟨p, _, rfl, e2, fun y hy => post_lst rel hy ((intsR ns).cut lo hi) (Nat.le_trans (cutD_length _ lo hi) (by rw [List.length_map]; exact Nat.le_trans l (by decide))) (o ns l) post⟩
  · exact o.elim
end
end G

/-! Built-ins and methods on values. -/
namespace G
open PySem PySem.Spec PyProof.Rows L2

inductive Bl where
  | len | sum | all | any | tuple | list | listN | min | max | abs | int | isinst | repr | str | divmod | sorted
  deriving DecidableEq
def Bl.name : Bl → Str
  | .len => "len"
  | .sum => "sum"
  | .all => "all"
  | .any => "any"
  | .tuple => "tuple"
  | .list => "list"
  | .listN => "list"
  | .min => "min"
  | .max => "max"
  | .abs => "abs"
  | .int => "int"
  | .isinst => "isinstance"
  | .repr => "repr"
  | .str => "str"
  | .divmod => "divmod"
  | .sorted => "sorted"
def Bl.val : Bl → Value
  | .len => .builtin "len"
  | .sum => .builtin "sum"
  | .all => .builtin "all"
  | .any => .builtin "any"
  | .tuple => .type "tuple"
  | .list => .type "list"
  | .listN => .type "list"
  | .min => .builtin "min"
  | .max => .builtin "max"
  | .abs => .builtin "abs"
  | .int => .type "int"
  | .isinst => .builtin "isinstance"
  | .repr => .builtin "repr"
  | .str => .type "str"
  | .divmod => .builtin "divmod"
  | .sorted => .builtin "sorted"
theorem Bl.boot (b : Bl) : bootBuiltins b.name = some b.val := by cases b <;> decide +kernel
theorem Bl.nn (b : Bl) : b.name ≠ "__name__" := by cases b <;> decide
theorem Bl.nd (b : Bl) : (b.name == ("__debug__" : Str)) = false := by cases b <;> decide

def intsOf : List D → Option (List Int)
  | [] => some []
  | .int i :: ds => (intsOf ds).map (i :: ·)
  | _ :: _ => none
def isPairD : D → Bool
  | .tup [.int _, .int _] => true
  | _ => false
def blsOf : List D → Option (List Bool)
  | [] => some []
  | .bl b :: ds => (blsOf ds).map (b :: ·)
  | _ :: _ => none
theorem intsOf_rel {K : PySem.W.Frag} {w : Wd} : ∀ {ds : List D} {vs : List V} {ns : List Int}, RDs K w ds vs → intsOf ds = some ns → vs = ns.map V.int
  | _, _, _, .nil, e => by simp [intsOf] at e; subst e; rfl
  | d :: ds, v :: vs, ns, .cons r rs, e => by
    cases r <;> simp only [intsOf] at e <;> first | (cases e; done) | skip
    obtain ⟨ms, e1, e2⟩ := Option.map_eq_some_iff.mp e
    subst e2
    rw [intsOf_rel rs e1]
    rfl
theorem blsOf_rel {K : PySem.W.Frag} {w : Wd} : ∀ {ds : List D} {vs : List V} {ns : List Bool}, RDs K w ds vs → blsOf ds = some ns → vs = ns.map V.bl
  | _, _, _, .nil, e => by simp [blsOf] at e; subst e; rfl
  | d :: ds, v :: vs, ns, .cons r rs, e => by
    cases r <;> simp only [blsOf] at e <;> first | (cases e; done) | skip
    obtain ⟨ms, e1, e2⟩ := Option.map_eq_some_iff.mp e
    subst e2
    rw [blsOf_rel rs e1]
    rfl
theorem intsOf_map (ns : List Int) : intsOf (ns.map D.int) = some ns := by
  induction ns with
  | nil => rfl
  | cons n ns ih => simp [intsOf, ih]
theorem blsOf_map (ns : List Bool) : blsOf (ns.map D.bl) = some ns := by
  induction ns with
  | nil => rfl
  | cons n ns ih => simp [blsOf, ih]

/-- the class of a value, as isinstance asks -/
def isTy (h : Hd) (d : D) (t : Ty) : Option Bool := match d with
  | .non => some false
  | .bl _ => some (t == .bool || t == .int)
  | .int _ => some (t == .int)
  | .str _ => some (t == .str)
  | .tup _ => some (t == .tuple)
  | .lst _ => some (t == .list)
  | .dic _ _ => some (t == .dict)
  | .ref n => match h n with
    | some (.lst _) => some (t == .list)
    | some (.dK _) => some (t == .dict)
    | none => none
  | .ty _ => none
  | .deck => none
  | .scr => none
def tyS (h : Hd) (d : D) : Option String := match d with
  | .non => some "NoneType"
  | .bl _ => some "bool"
  | .int _ => some "int"
  | .str _ => some "str"
  | .tup _ => some "tuple"
  | .lst _ => some "list"
  | .dic _ _ => some "dict"
  | .ref n => match h n with
    | some (.lst _) => some "list"
    | some (.dK _) => some "dict"
    | none => none
  | .ty _ => none
  | .deck => none
  | .scr => none
theorem isTy_kit {K : PySem.W.Frag} {w : Wd} {h : Hd} {d : D} {v : V} {t : Ty} {b : Bool} (rel : RelW K w h) (r : RD K w d v) (e : isTy h d t = some b) : ∃ s, TyX K w.H v (.type s) ∧ kitB s t.name = some b := by
  cases r with
  | non => refine ⟨_, .base .non, ?_⟩; simp only [isTy, Option.some.injEq] at e; subst e; cases t <;> decide +kernel
  | bl c => refine ⟨_, .base (.bl c), ?_⟩; simp only [isTy, Option.some.injEq] at e; subst e; cases t <;> decide +kernel
  | int i => refine ⟨_, .base (.int i), ?_⟩; simp only [isTy, Option.some.injEq] at e; subst e; cases t <;> decide +kernel
  | str x => refine ⟨_, .base (.str x), ?_⟩; simp only [isTy, Option.some.injEq] at e; subst e; cases t <;> decide +kernel
  | ty n => cases e
  | deck q => cases e
  | scr s l n => cases e
  | tup st ll rs =>
    simp only [isTy, Option.some.injEq] at e
    subst e
    refine ⟨"tuple", ?_, by cases t <;> decide +kernel⟩
    rcases st with ⟨_, st⟩ | ⟨o, its, n, h1, h2, _⟩
    · exact .base (.tup st)
    · exact .kTuple h1 h2
  | lst st ll rs =>
    simp only [isTy, Option.some.injEq] at e
    subst e
    exact ⟨"list", .base (.lst st.2), by cases t <;> decide +kernel⟩
  | dic st ll rs =>
    simp only [isTy, Option.some.injEq] at e
    subst e
    exact ⟨"dict", .base (.dK st.2), by cases t <;> decide +kernel⟩
  | ref q =>
    rename_i n a
    simp only [isTy] at e
    split at e
    · rename_i ds en
      simp only [Option.some.injEq] at e
      subst e
      obtain ⟨p, e1, xs, e2, _⟩ := rel.has n _ en
      rw [q] at e1; cases e1
      exact ⟨"list", .base (.lst e2), by cases t <;> decide +kernel⟩
    · rename_i ds en
      simp only [Option.some.injEq] at e
      subst e
      obtain ⟨p, e1, xs, e2, _⟩ := rel.has n _ en
      rw [q] at e1; cases e1
      exact ⟨"dict", .base (.dK e2), by cases t <;> decide +kernel⟩
    · cases e

/-- the keys of a dict, all whole numbers -/
def keyInts : List (Key × D) → Option (List Int)
  | [] => some []
  | (.inl i, _) :: r => (keyInts r).map (i :: ·)
  | (.inr _, _) :: _ => none
theorem keyInts_map : ∀ {kvs : List (Key × D)} {ns : List Int}, keyInts kvs = some ns → kvs.map (·.1) = ns.map Sum.inl
  | [], ns, e => by simp only [keyInts, Option.some.injEq] at e; subst e; rfl
  | (.inl i, d) :: r, ns, e => by
    simp only [keyInts, Option.map_eq_some_iff] at e
    obtain ⟨ms, e1, rfl⟩ := e
    simp only [List.map_cons, keyInts_map e1]
  | (.inr _, _) :: _, _, e => by cases e
/-- repr is told: data, numbers of at most some 570 figures, a text that fits, not too deep -/
def Shows (d : D) : Prop := d.isF = true ∧ d.py.showable = true ∧ d.py.depth ≤ 64 ∧ d.py.shown.length ≤ sizeLine
def bltD : Bl → DN
  | .len => fun ds h Q => match ds with
    | [.ref n] => (match h n with
      | some (.lst xs) => Q (.int xs.length) h
      | some (.dK kvs) => Q (.int kvs.length) h
      | none => False)
    | [.lst xs] => Q (.int xs.length) h
    | [.tup xs] => Q (.int xs.length) h
    | [.str x] => x.length ≤ sizeLine ∧ Q (.int x.length) h
    | _ => False
  | .sum => fun ds h Q => match ds with
    | [d] => (match view h d with
      | .lst xs => (match intsOf xs with
        | some ns => Q (.int ns.sum) h
        | none => False)
      | _ => False)
    | _ => False
  | .all => fun ds h Q => match ds with
    | [d] => (match view h d with
      | .lst xs => (match blsOf xs with
        | some ns => Q (.bl (ns.all id)) h
        | none => False)
      | _ => False)
    | _ => False
  | .any => fun ds h Q => match ds with
    | [d] => (match view h d with
      | .lst xs => (match blsOf xs with
        | some ns => Q (.bl (ns.any id)) h
        | none => False)
      | _ => False)
    | _ => False
  | .tuple => fun ds h Q => match ds with
    | [d] => (match view h d with
      | .lst xs => Q (.tup xs) h
      | .tup xs => Q (.tup xs) h
      | _ => False)
    | _ => False
  | .list => fun ds h Q => match ds with
    | [d] => (match seqD h d with
      | some xs => Q (.lst xs) h
      | _ => False)
    | _ => False
  | .listN => fun ds h Q => match ds with
    | [d] => (match seqD h d with
      | some xs => ∀ n, h n = none → Q (.ref n) (h.set n (.lst xs))
      | _ => False)
    | _ => False
  | .min => fun ds h Q => match ds with
    | [.int i, .int j] => Q (.int (if j < i then j else i)) h
    | _ => False
  | .max => fun ds h Q => match ds with
    | [.int i, .int j] => Q (.int (if j > i then j else i)) h
    | _ => False
  | .abs => fun ds h Q => match ds with
    | [.int i] => Q (.int (if i < 0 then -i else i)) h
    | _ => False
  | .int => fun ds h Q => match ds with
    | [.int i] => Q (.int i) h
    | [.bl b] => Q (.int (if b then 1 else 0)) h
    | _ => False
  | .divmod => fun ds h Q => match ds with
    | [.int i, .int j] => DivOk j ∧ Q (.tup [.int (i / j), .int (i % j)]) h
    | _ => False
  | .sorted => fun ds h Q => match ds with
    | [d] => (match view h d with
      | .lst xs => (match intsOf xs with
        | some ns => ∀ ns' : List Int, ns'.Perm ns → ns'.Pairwise (· ≤ ·) → Q (.lst (ns'.map D.int)) h
        | none => xs.all isPairD = true ∧ ∀ ys : List D, ys.Perm xs → Q (.lst ys) h)
      | .tup xs => (match intsOf xs with
        | some ns => ∀ ns' : List Int, ns'.Perm ns → ns'.Pairwise (· ≤ ·) → Q (.lst (ns'.map D.int)) h
        | none => xs.all isPairD = true ∧ ∀ ys : List D, ys.Perm xs → Q (.lst ys) h)
      | .ref n => (match h n with
        | some (.dK kvs) => (match keyInts kvs with
          | some ns => ∀ ns' : List Int, ns'.Perm ns → ns'.Pairwise (· ≤ ·) → Q (.lst (ns'.map D.int)) h
          | none => False)
        | _ => False)
      | _ => False)
    | _ => False
  | .isinst => fun ds h Q => match ds with
    | [d, .ty t] => (match isTy h d t with
      | some b => Q (.bl b) h
      | none => False)
    | _ => False
  | .repr => fun ds h Q => match ds with
    | [d] => Shows (view h d) ∧ Q (.str (view h d).py.shown) h
    | _ => False
  | .str => fun ds h Q => match ds with
    | [.int i] => i.natAbs.log2 < 1920 ∧ Q (.str (toString i)) h
    | [.str x] => Q (.str x) h
    | [d] => Shows (view h d) ∧ Q (.str (view h d).py.shown) h
    | _ => False
section
variable {X : Cx}
theorem rds1 {K : PySem.W.Frag} {w : Wd} {d : D} {vs : List V} (r : RDs K w [d] vs) : ∃ v, vs = [v] ∧ RD K w d v := by
  cases r with
  | cons r rs => cases rs; exact ⟨_, rfl, r⟩
theorem rds2 {K : PySem.W.Frag} {w : Wd} {d e : D} {vs : List V} (r : RDs K w [d, e] vs) : ∃ v u, vs = [v, u] ∧ RD K w d v ∧ RD K w e u := by
  cases r with
  | cons r rs =>
    obtain ⟨u, rfl, s⟩ := rds1 rs
    exact ⟨_, _, rfl, r, s⟩
theorem rds0 {K : PySem.W.Frag} {w : Wd} {vs : List V} (r : RDs K w [] vs) : vs = [] := by cases r; rfl
theorem b_len : CallR X (.builtin "len") (RNof X.K (bltD .len)) := by
  intro pins s σ H xs us Q I rs hq
  obtain ⟨w, h, ds, QD, rfl, rel, rd, o, post⟩ := hq
  simp only [bltD] at o
  split at o
  · rename_i n
    obtain ⟨v, rfl, r⟩ := rds1 rd
    split at o
    · rename_i ds en
      obtain ⟨p, ys, rfl, e2, rs', ll⟩ := view_lst (d := .ref n) (ds := ds) rel r (by simp [view, en])
      exact L2.call_len_seq pins s σ _ _ us Q I rs ⟨p, ys, rfl, .inl (.inl (.inl e2)), by rw [← rs'.length]; exact post.now rel (.int _) o⟩
    · rename_i kvs en
      obtain ⟨p, e1, ys, e2, e3, rs'⟩ := rel.has n _ en
      cases r with
      | ref q =>
        rw [q] at e1; cases e1
        refine L2.call_lenD pins s σ _ _ us Q I rs ⟨p, ys, rfl, e2, ?_⟩
        have hl : kvs.length = ys.length := by
          have := congrArg List.length e3
          simpa using this.symm
        rw [← hl]
        exact post.now rel (.int _) o
    · exact o.elim
  · rename_i ds
    obtain ⟨v, rfl, r⟩ := rds1 rd
    obtain ⟨p, ys, rfl, e2, rs', ll⟩ := view_lst (h := h) (d := .lst ds) (ds := ds) rel r rfl
    exact L2.call_len_seq pins s σ _ _ us Q I rs ⟨p, ys, rfl, .inl (.inl (.inl e2)), by rw [← rs'.length]; exact post.now rel (.int _) o⟩
  · rename_i ds
    obtain ⟨v, rfl, r⟩ := rds1 rd
    cases r with
    | tup st ll rs' => exact L2.call_len_seq pins s σ _ _ us Q I rs ⟨_, _, rfl, .inr st.sq, by rw [← rs'.length]; exact post.now rel (.int _) o⟩
  · rename_i x
    obtain ⟨v, rfl, r⟩ := rds1 rd
    cases r
    exact L2.call_len_str pins s σ _ _ us Q I rs ⟨x, rfl, o.1, post.now rel (.int _) o.2⟩
  · exact o.elim
theorem b_sum (hc : X.calm = true) : CallR X (.builtin "sum") (RNof X.K (bltD .sum)) := by
  intro pins s σ H xs us Q I rs hq
  obtain ⟨w, h, ds, QD, rfl, rel, rd, o, post⟩ := hq
  simp only [bltD] at o
  split at o
  · obtain ⟨v, rfl, r⟩ := rds1 rd
    split at o
    · rename_i ds e
      split at o
      · rename_i ns en
        obtain ⟨p, ys, rfl, e2, rs', ll⟩ := view_lst rel r e
        exact cr_sum hc pins s σ _ _ us Q I rs ⟨p, ns, rfl, by rw [← intsOf_rel rs' en]; exact .inl (.inl e2), post.now rel (.int _) o⟩
      · exact o.elim
    · exact o.elim
  · exact o.elim
theorem b_all (hc : X.calm = true) : CallR X (.builtin "all") (RNof X.K (bltD .all)) := by
  intro pins s σ H xs us Q I rs hq
  obtain ⟨w, h, ds, QD, rfl, rel, rd, o, post⟩ := hq
  simp only [bltD] at o
  split at o
  · obtain ⟨v, rfl, r⟩ := rds1 rd
    split at o
    · rename_i ds e
      split at o
      · rename_i ns en
        obtain ⟨p, ys, rfl, e2, rs', ll⟩ := view_lst rel r e
        exact cr_all hc pins s σ _ _ us Q I rs ⟨p, ns, rfl, by rw [← blsOf_rel rs' en]; exact .inl (.inl e2), post.now rel (.bl _) o⟩
      · exact o.elim
    · exact o.elim
  · exact o.elim
theorem b_any (hc : X.calm = true) : CallR X (.builtin "any") (RNof X.K (bltD .any)) := by
  intro pins s σ H xs us Q I rs hq
  obtain ⟨w, h, ds, QD, rfl, rel, rd, o, post⟩ := hq
  simp only [bltD] at o
  split at o
  · obtain ⟨v, rfl, r⟩ := rds1 rd
    split at o
    · rename_i ds e
      split at o
      · rename_i ns en
        obtain ⟨p, ys, rfl, e2, rs', ll⟩ := view_lst rel r e
        exact cr_any hc pins s σ _ _ us Q I rs ⟨p, ns, rfl, by rw [← blsOf_rel rs' en]; exact .inl (.inl e2), post.now rel (.bl _) o⟩
      · exact o.elim
    · exact o.elim
  · exact o.elim
theorem b_tuple : CallR X (.type "tuple") (RNof X.K (bltD .tuple)) := by
  intro pins s σ H xs us Q I rs hq
  obtain ⟨w, h, ds, QD, rfl, rel, rd, o, post⟩ := hq
  simp only [bltD] at o
  split at o
  · obtain ⟨v, rfl, r⟩ := rds1 rd
    split at o
    · rename_i ds e
      obtain ⟨p, ys, rfl, e2, rs', ll⟩ := view_lst rel r e
      exact call_tuple_of pins s σ _ _ us Q I rs ⟨p, ys, rfl, .inl ⟨.inl (.inl e2), fun l hl => post_tup rel hl rs' ll o post⟩⟩
    · rename_i ds e
      obtain ⟨p, ys, rfl, e2, rs', ll⟩ := view_tup r e
      exact call_tuple_of pins s σ _ _ us Q I rs ⟨p, ys, rfl, .inr ⟨e2.sq, post.now rel (.tup e2 ll rs') o⟩⟩
    · exact o.elim
  · exact o.elim
theorem b_list : CallR X (.type "list") (RNof X.K (bltD .list)) := by
  intro pins s σ H xs us Q I rs hq
  obtain ⟨w, h, ds, QD, rfl, rel, rd, o, post⟩ := hq
  simp only [bltD] at o
  split at o
  · obtain ⟨v, rfl, r⟩ := rds1 rd
    split at o
    · rename_i ds e
      obtain ⟨p, ys, rfl, e2, rs', ll⟩ := view_seq rel r (seqD_of e)
      exact call_list_of pins s σ _ _ us Q I rs ⟨p, ys, rfl, e2, fun l hl => post_lst rel hl rs' ll o post⟩
    · exact o.elim
  · exact o.elim
theorem b_listN : CallR X (.type "list") (RNof X.K (bltD .listN)) := by
  intro pins s σ H xs us Q I rs hq
  obtain ⟨w, h, ds, QD, rfl, rel, rd, o, post⟩ := hq
  simp only [bltD] at o
  split at o
  · obtain ⟨v, rfl, r⟩ := rds1 rd
    split at o
    · rename_i ds e
      obtain ⟨p, ys, rfl, e2, rs', ll⟩ := view_seq rel r (seqD_of e)
      exact call_list_of pins s σ _ _ us Q I rs ⟨p, ys, rfl, e2, fun l hl => post_new rel hl rs' ll o post⟩
    · exact o.elim
  · exact o.elim
theorem b_min (hc : X.calm = true) : CallR X (.builtin "min") (RNof X.K (bltD .min)) := by
  intro pins s σ H xs us Q I rs hq
  obtain ⟨w, h, ds, QD, rfl, rel, rd, o, post⟩ := hq
  simp only [bltD] at o
  split at o
  · obtain ⟨v, u, rfl, r1, r2⟩ := rds2 rd
    cases r1
    cases r2
    exact call_min2 hc pins s σ _ _ us Q I rs ⟨_, _, rfl, post.now rel (.int _) o⟩
  · exact o.elim
theorem b_max (hc : X.calm = true) : CallR X (.builtin "max") (RNof X.K (bltD .max)) := by
  intro pins s σ H xs us Q I rs hq
  obtain ⟨w, h, ds, QD, rfl, rel, rd, o, post⟩ := hq
  simp only [bltD] at o
  split at o
  · obtain ⟨v, u, rfl, r1, r2⟩ := rds2 rd
    cases r1
    cases r2
    exact call_max2 hc pins s σ _ _ us Q I rs ⟨_, _, rfl, post.now rel (.int _) o⟩
  · exact o.elim
theorem b_abs : CallR X (.builtin "abs") (RNof X.K (bltD .abs)) := by
  intro pins s σ H xs us Q I rs hq
  obtain ⟨w, h, ds, QD, rfl, rel, rd, o, post⟩ := hq
  simp only [bltD] at o
  split at o
  · obtain ⟨v, rfl, r1⟩ := rds1 rd
    cases r1
    exact call_abs pins s σ _ _ us Q I rs ⟨_, rfl, post.now rel (.int _) o⟩
  · exact o.elim
theorem b_int : CallR X (.type "int") (RNof X.K (bltD .int)) := by
  intro pins s σ H xs us Q I rs hq
  obtain ⟨w, h, ds, QD, rfl, rel, rd, o, post⟩ := hq
  simp only [bltD] at o
  split at o
  · obtain ⟨v, rfl, r1⟩ := rds1 rd
    cases r1
    exact call_int1 pins s σ _ _ us Q I rs (.inl ⟨_, rfl, post.now rel (.int _) o⟩)
  · obtain ⟨v, rfl, r1⟩ := rds1 rd
    cases r1
    exact call_int1 pins s σ _ _ us Q I rs (.inr ⟨_, rfl, post.now rel (.int _) o⟩)
  · exact o.elim
theorem b_isinst : CallR X (.builtin "isinstance") (RNof X.K (bltD .isinst)) := by
  intro pins s σ H xs us Q I rs hq
  obtain ⟨w, h, ds, QD, rfl, rel, rd, o, post⟩ := hq
  simp only [bltD] at o
  split at o
  · obtain ⟨v, u, rfl, r1, r2⟩ := rds2 rd
    cases r2
    split at o
    · rename_i b e
      obtain ⟨s', ty, k⟩ := isTy_kit rel r1 e
      exact call_isi pins s σ _ _ us Q I rs ⟨v, _, _, _, b, rfl, .ty _, ty, kit_ty k, post.now rel (.bl _) o⟩
    · exact o.elim
  · exact o.elim
theorem b_repr (hs : ∃ o, X.base.get? sysModules = some o) (hg : X.A.guards = some []) (hu : X.A.units + 70 < cLine) : CallR X (.builtin "repr") (RNof X.K (bltD .repr)) := by
  intro pins s σ H xs us Q I rs hq
  obtain ⟨w, h, ds, QD, rfl, rel, rd, o, post⟩ := hq
  simp only [bltD] at o
  split at o
  · rename_i d
    obtain ⟨v, rfl, r⟩ := rds1 rd
    obtain ⟨⟨h1, h2, h3, h4⟩, o⟩ := o
    obtain ⟨u, rfl, rv⟩ := vals1 rs
    obtain ⟨as, rr, nd⟩ := view_reads I hs rel r rv h1
    generalize (view h d).py = q at h2 h3 h4 o rr
    have fin : ∀ h' u tk, (∀ b o, s.heap.get? b = some o → h'.get? b = some o) → EP X pins σ Q (.str q.shown u) { s with heap := h', toks := tk } := fun h' u tk hk =>
      ⟨.str _, w.H, I.kept hk, ⟨_, rfl⟩, post.now rel (.str _) o⟩
    cases rr with
    | none => simp only [PyData.shown] at fin; exact PySem.P.repr_of_none (fin s.heap _ _ fun _ _ e => e)
    | bool b => simp only [PyData.shown] at fin; exact PySem.P.repr_of_bool (fin s.heap _ _ fun _ _ e => e)
    | int i t => simp only [PyData.shown] at fin; exact PySem.P.repr_of_int (by simpa [PyData.showable] using h2) (fin s.heap _ _ fun _ _ e => e)
    | str x t => simp only [PyData.shown] at fin h4; exact PySem.P.repr_of_str (fin s.heap _ _ fun _ _ e => e) h4
    | list q1 q2 q3 q4 => exact repr_of_reads' (.list q1 q2 q3 q4) h2 (fun _ => nd) hg (by omega) (fun _ _ e => e) fin h4
    | tuple q1 q2 q3 q4 => exact repr_of_reads' (.tuple q1 q2 q3 q4) h2 (fun _ => nd) hg (by omega) (fun _ _ e => e) fin h4
    | dict q1 q2 q3 q4 q5 => exact repr_of_reads' (.dict q1 q2 q3 q4 q5) h2 (fun _ => nd) hg (by omega) (fun _ _ e => e) fin h4
  · exact o.elim
theorem b_str (hs : ∃ o, X.base.get? sysModules = some o) (hg : X.A.guards = some []) (hu : X.A.units + 70 < cLine) : CallR X (.type "str") (RNof X.K (bltD .str)) := by
  intro pins s σ H xs us Q I rs hq
  obtain ⟨w, h, ds, QD, rfl, rel, rd, o, post⟩ := hq
  simp only [bltD] at o
  split at o
  · obtain ⟨v, rfl, r1⟩ := rds1 rd
    cases r1
    exact call_str_int pins s σ _ _ us Q I rs ⟨_, rfl, o.1, post.now rel (.str _) o.2⟩
  · obtain ⟨v, rfl, r1⟩ := rds1 rd
    cases r1
    exact SkE.call_str_str pins s σ _ _ us Q I rs ⟨_, rfl, post.now rel (.str _) o⟩
  · rename_i d ni ns
    obtain ⟨v, rfl, r⟩ := rds1 rd
    obtain ⟨⟨h1, h2, h3, h4⟩, o⟩ := o
    obtain ⟨u, rfl, rv⟩ := vals1 rs
    obtain ⟨as, rr, nd⟩ := view_reads I hs rel r rv h1
    have hnot : (∀ i, v ≠ .int i) ∧ ∀ x, v ≠ .str x := by
      cases r with
      | int i => exact absurd rfl (ni i)
      | str x => exact absurd rfl (ns x)
      | _ => exact ⟨fun _ => nofun, fun _ => nofun⟩
    generalize (view h d).py = q at h2 h3 h4 o rr
    have fin : ∀ h' u tk, (∀ b o, s.heap.get? b = some o → h'.get? b = some o) → EP X pins σ Q (.str q.shown u) { s with heap := h', toks := tk } := fun h' u tk hk =>
      ⟨.str _, w.H, I.kept hk, ⟨_, rfl⟩, post.now rel (.str _) o⟩
    cases rr with
    | none => simp only [PyData.shown] at fin; exact PySem.P.str_of_none (fin s.heap _ _ fun _ _ e => e)
    | bool b => simp only [PyData.shown] at fin; exact PySem.P.str_of_bool (fin s.heap _ _ fun _ _ e => e)
    | int i t => cases v <;> first | exact absurd rfl (hnot.1 _) | (obtain ⟨_, z⟩ := rv; cases z; done) | (cases rv; done)
    | str x t => cases v <;> first | exact absurd rfl (hnot.2 _) | (obtain ⟨_, z⟩ := rv; cases z; done) | (cases rv; done)
    | list q1 q2 q3 q4 => exact PySem.str_of_reads (.list q1 q2 q3 q4) h2 (fun _ => nd) hg (by omega) (fun _ _ e => e) fin h4
    | tuple q1 q2 q3 q4 => exact PySem.str_of_reads (.tuple q1 q2 q3 q4) h2 (fun _ => nd) hg (by omega) (fun _ _ e => e) fin h4
    | dict q1 q2 q3 q4 q5 => exact PySem.str_of_reads (.dict q1 q2 q3 q4 q5) h2 (fun _ => nd) hg (by omega) (fun _ _ e => e) fin h4
  · exact o.elim
theorem b_divmod : CallR X (.builtin "divmod") (RNof X.K (bltD .divmod)) := by
  intro pins s σ H xs us Q I rs hq
  obtain ⟨w, h, ds, QD, rfl, rel, rd, o, post⟩ := hq
  simp only [bltD] at o
  split at o
  · rename_i i j
    obtain ⟨v, u, rfl, r1, r2⟩ := rds2 rd
    cases r1
    cases r2
    obtain ⟨c1, c2⟩ := DivOk.ok (i := i) o.1
    exact call_divmodW pins s σ _ _ us Q I rs ⟨i, j, rfl, ⟨c1, PyProof.noPylong_of_log2 c2⟩, fun p hp => post_tup (ds := [.int (i / j), .int (i % j)]) rel hp (.cons (.int _) (.cons (.int _) .nil)) (by show 2 ≤ sizeLine; decide) o.2 post⟩
  · exact o.elim
theorem rds_intsOf {K : PySem.W.Frag} {w : Wd} (ns : List Int) : RDs K w (ns.map D.int) (ns.map V.int) := by
  induction ns with
  | nil => exact .nil
  | cons n ns ih => exact .cons (.int n) ih
theorem each_int {vs : List (Key × Value)} {ks : List Int} {acc : Array Value} (hk : vs.map (·.1) = ks.map Sum.inl) (hl : acc.toList.length = ks.length) (ha : ∀ (j : Nat) (v : Value), acc[j]? = some v → ∃ (k : Key) (x : Value), vs[j]? = some (k, x) ∧ keyIs k v = true) : IntsAre acc.toList ks :=
  ints_each hl fun j v e => by
    obtain ⟨k, x, e1, e2⟩ := ha j v (by rw [← Array.getElem?_toList]; exact e)
    have e3 : (vs.map (·.1))[j]? = some k := by simp only [List.getElem?_map, e1, Option.map_some]
    rw [hk, List.getElem?_map, Option.map_eq_some_iff] at e3
    obtain ⟨y, e4, e5⟩ := e3
    rw [← e5] at e2
    rcases keyIs_shape e2 with ⟨i, t, z, rfl⟩ | ⟨i, t, z, _⟩
    · injection z with z
      exact ⟨i, t, by rw [e4, z], rfl⟩
    · cases z
/-- sorted(d), the keys being whole numbers, any number of them -/
theorem srtD_any (hc : X.calm = true) : CallR X (.builtin "sorted") (fun xs H Q => ∃ (a : Addr) (kvs : List (Key × V)) (ks : List Int), xs = [.ref a] ∧ H a = some (.dK kvs) ∧ kvs.map (·.1) = ks.map Sum.inl ∧
    ∀ (ys : List Int) (p : Addr), ys.Perm ks → ys.Pairwise (· ≤ ·) → H p = none → Q (.ref p) (upd H p (.lst (ys.map V.int)))) := by
  rintro pins s σ H xs us Q I r ⟨a, kvs, ks, rfl, hd, hks, q⟩
  obtain ⟨u, rfl, rx⟩ := vals1 r
  cases rx
  obtain ⟨lz, lo, vs, kv, dd⟩ := dk_of I.hok hd
  obtain ⟨ep, hat⟩ := dd.dictAt
  have hkey : vs.map (·.1) = ks.map Sum.inl := kv.keys.symm.trans hks
  have l1 : vs.length = ks.length := by simpa using congrArg List.length hkey
  have l2 : kvs.length = ks.length := by simpa using congrArg List.length hks
  refine Calls.call_function_entry kind_sorted plain_sorted entry_sorted (args_sorted1 _) ?_
  unfold Builtin.«sorted»
  refine wpAny_bind (m := checkCount "sorted" 1 1 _) (wpAny_pure (wpAny_bind (PySem.W.kdu_collect (A := X.A.in1) (PySem.W.kdl_dict (knd := mixKind X.prog X.w) (kvs := vs) (ep := ep) lo) (I.ok.hd hc) hat (by omega) fun h2 t2 acc hk2 ha2 => ?_)))
  have al : acc.toList.length = ks.length := by rw [Array.length_toList, ha2.1, l1]
  have hI : IntsAre acc.toList ks := each_int hkey al ha2.2
  have I2 : Inv X pins σ H { s with heap := h2, toks := t2 } := I.kept hk2
  refine wpAny_bind (wpAny_newList ?_ (by omega))
  have ob : (h2.push (seqObj "list" acc.toList.toArray 0)).get? h2.objs.size = some (seqObj "list" acc.toList.toArray 0) := Heap.get?_push_size _ rfl
  show wpAny _ _ _ _ _ { s with heap := h2.push (seqObj "list" acc.toList.toArray 0), toks := t2 }
  refine wpAny_bind (wpAny_holding (wpAny_call_entry slot_list_sort ⟨_, ob, rfl⟩ entry_list_sort
    (SrtO.list_sort_ord (s := { s with heap := h2.push (seqObj "list" acc.toList.toArray 0), toks := t2 }) SrtO.swo_int ob (by omega) (fun two => SrtO.ints_sortable hI two) fun out g1 g2 => ⟨_, rfl, ?_⟩) (args_list_sort _)))
  obtain ⟨k1, k2, k3⟩ := SrtO.ints_out hI g1 g2
  obtain ⟨e2, he2⟩ := sortedHeap_at (vs := acc.toList) (out := out.toArray) ob
  have ll : ((out.map SrtO.iv).map V.int).length ≤ sizeLine := by rw [List.length_map, k2.length_eq]; omega
  refine wpAny_pure ⟨_, rfl, .ref h2.objs.size, upd H h2.objs.size (.lst ((out.map SrtO.iv).map V.int)), I2.laid (t' := t2) (fun b o e => ?_) (Nat.le_refl _) ⟨ll, out, e2, vals_of_ints k1, he2⟩, rfl, q _ _ k2 k3 (I2.hok.fresh (Nat.le_refl _))⟩
  have bl : b < h2.objs.size := Heap.lt_size e
  rw [sortedHeap_old (Nat.ne_of_lt bl) (size_push' _ _ ▸ Nat.lt_succ_of_lt bl)]
  exact Heap.get?_push_of_some _ e
/-- sorted(t), whole numbers in a tuple -/
theorem srtT_any : CallR X (.builtin "sorted") (fun xs H Q => ∃ (a : Addr) (ns : List Int), xs = [.ref a] ∧ SqT X.K H a (ns.map V.int) ∧
    ∀ (ys : List Int) (p : Addr), ys.Perm ns → ys.Pairwise (· ≤ ·) → H p = none → Q (.ref p) (upd H p (.lst (ys.map V.int)))) := by
  rintro pins s σ H xs us Q I r ⟨a, ns, rfl, ht, q⟩
  obtain ⟨u, rfl, rx⟩ := vals1 r
  cases rx
  obtain ⟨its, rv, ⟨o, ho, hc, n, hd⟩, hz⟩ := I.tuple ht
  have hI := rv.ints
  have lz : its.length ≤ sizeLine := by rw [← rv.length]; exact hz
  have ln : its.length = ns.length := by rw [← rv.length, List.length_map]
  refine Calls.call_function_entry kind_sorted plain_sorted entry_sorted (args_sorted1 _) ?_
  unfold Builtin.«sorted»
  refine wpAny_bind (m := checkCount "sorted" 1 1 _) (wpAny_pure (wpAny_bind (wpAny_collect_seq a (.inr rfl) ho hc hd (fun h2 hk2 => ?_) (by simpa using lz))))
  have I2 : Inv X pins σ H { s with heap := h2, toks := s.toks } := I.kept hk2
  refine wpAny_bind (wpAny_newList ?_ (by simpa using lz))
  have ob : (h2.push (seqObj "list" its.toArray.toList.toArray 0)).get? h2.objs.size = some (seqObj "list" its.toArray.toList.toArray 0) := Heap.get?_push_size _ rfl
  show wpAny _ _ _ _ _ { s with heap := h2.push (seqObj "list" its.toArray.toList.toArray 0), toks := s.toks }
  have hI : IntsAre its.toArray.toList ns := by simpa using hI
  refine wpAny_bind (wpAny_holding (wpAny_call_entry slot_list_sort ⟨_, ob, rfl⟩ entry_list_sort
    (SrtO.list_sort_ord (s := { s with heap := h2.push (seqObj "list" its.toArray.toList.toArray 0), toks := s.toks }) SrtO.swo_int ob (by simpa using lz) (fun two => SrtO.ints_sortable hI two) fun out g1 g2 => ⟨_, rfl, ?_⟩) (args_list_sort _)))
  obtain ⟨k1, k2, k3⟩ := SrtO.ints_out hI g1 g2
  obtain ⟨e2, he2⟩ := sortedHeap_at (vs := its.toArray.toList) (out := out.toArray) ob
  have ll : ((out.map SrtO.iv).map V.int).length ≤ sizeLine := by rw [List.length_map, k2.length_eq, ← ln]; exact lz
  refine wpAny_pure ⟨_, rfl, .ref h2.objs.size, upd H h2.objs.size (.lst ((out.map SrtO.iv).map V.int)), I2.laid (t' := s.toks) (fun b o e => ?_) (Nat.le_refl _) ⟨ll, out, e2, vals_of_ints k1, he2⟩, rfl, q _ _ k2 k3 (I2.hok.fresh (Nat.le_refl _))⟩
  have bl : b < h2.objs.size := Heap.lt_size e
  rw [sortedHeap_old (Nat.ne_of_lt bl) (size_push' _ _ ▸ Nat.lt_succ_of_lt bl)]
  exact Heap.get?_push_of_some _ e
/-- sorted(l) of pairs of whole numbers: the same pairs in some order -/
theorem cr_sortedQ : CallR X (.builtin "sorted") (fun vs H Q => ∃ a xs, vs = [V.ref a] ∧ SqL X.K H a xs ∧ (∀ x ∈ xs, ∃ t i j, x = V.ref t ∧ SqT X.K H t [.int i, .int j]) ∧ ∀ ys p, ys.Perm xs → H p = none → Q (.ref p) (upd H p (.lst ys))) := by
  intro pins s σ H vs us Q I r h
  obtain ⟨a, xs, rfl, hs, hx, q⟩ := h
  obtain ⟨its, rv, hl, hz⟩ := I.list hs
  obtain ⟨u, rfl, ru⟩ := vals1 r
  obtain rfl : u = Value.ref a := ru
  obtain ⟨e1, e2⟩ := refs_back rv fun x m => by
    obtain ⟨t, _, _, e, _⟩ := hx x m
    exact ⟨t, e⟩
  refine Srt.sorted_pairs hl.isList (by rw [← rv.length]; exact hz) (fun v hv => ?_) fun h' d out hp k hd hn => ?_
  · obtain ⟨t, rfl⟩ := e2 v hv
    have hm : V.ref t ∈ xs := by rw [e1]; exact List.mem_map.mpr ⟨_, hv, rfl⟩
    obtain ⟨t', i, j, e, ht⟩ := hx _ hm
    cases e
    obtain ⟨its2, r2, ⟨o, ho, hc, n, hd⟩, _⟩ := I.tuple ht
    obtain ⟨u1, u2, rfl, ri, rj⟩ := vals2 r2
    obtain ⟨t1, rfl⟩ := ri
    obtain ⟨t2, rfl⟩ := rj
    exact ⟨i, j, t, o, t1, t2, n, rfl, ho, hc, hd⟩
  · have h3 : ∀ u ∈ out, ∃ a, u = Value.ref a := fun u hu => e2 u (hp.mem_iff.mp hu)
    obtain ⟨n, hn⟩ := hn
    refine ⟨.ref d, upd H d (.lst (out.map backV)), I.laid (t' := s.toks) k hd ⟨?_, out, n, vals_back h3, hn⟩, rfl, q _ d ?_ (I.hok.fresh hd)⟩
    · rw [List.length_map, hp.length_eq, ← rv.length]; exact hz
    · rw [e1]; exact hp.map backV
/-- sorted(t) of pairs of whole numbers -/
theorem cr_sortedTQ : CallR X (.builtin "sorted") (fun vs H Q => ∃ a xs, vs = [V.ref a] ∧ SqT X.K H a xs ∧ (∀ x ∈ xs, ∃ t i j, x = V.ref t ∧ SqT X.K H t [.int i, .int j]) ∧ ∀ ys p, ys.Perm xs → H p = none → Q (.ref p) (upd H p (.lst ys))) := by
  rintro pins s σ H vs us Q I r ⟨a, xs, rfl, ht, hx, q⟩
  obtain ⟨u, rfl, rx⟩ := vals1 r
  cases rx
  obtain ⟨its, rv, ⟨o, ho, hc, n, hd⟩, hz⟩ := I.tuple ht
  have lz : its.length ≤ sizeLine := by rw [← rv.length]; exact hz
  obtain ⟨e1, e2⟩ := refs_back rv fun x m => by
    obtain ⟨t, _, _, e, _⟩ := hx x m
    exact ⟨t, e⟩
  refine Calls.call_function_entry kind_sorted plain_sorted entry_sorted (args_sorted1 _) ?_
  unfold Builtin.«sorted»
  refine wpAny_bind (m := checkCount "sorted" 1 1 _) (wpAny_pure (wpAny_bind (wpAny_collect_seq a (.inr rfl) ho hc hd (fun h2 hk2 => ?_) (by simpa using lz))))
  have I2 : Inv X pins σ H { s with heap := h2, toks := s.toks } := I.kept hk2
  refine wpAny_bind (wpAny_newList ?_ (by simpa using lz))
  have ob : (h2.push (seqObj "list" its.toArray.toList.toArray 0)).get? h2.objs.size = some (seqObj "list" its.toArray.toList.toArray 0) := Heap.get?_push_size _ rfl
  show wpAny _ _ _ _ _ { s with heap := h2.push (seqObj "list" its.toArray.toList.toArray 0), toks := s.toks }
  have hpr : ∀ v ∈ its.toArray.toList, ∃ x y, Srt.IsPair (h2.push (seqObj "list" its.toArray.toList.toArray 0)) v x y := fun v hv => by
    have hv : v ∈ its := by simpa using hv
    obtain ⟨t, rfl⟩ := e2 v hv
    have hm : V.ref t ∈ xs := by rw [e1]; exact List.mem_map.mpr ⟨_, hv, rfl⟩
    obtain ⟨t', i, j, e, ht'⟩ := hx _ hm
    cases e
    obtain ⟨its2, r2, ⟨o2, ho2, hc2, n2, hd2⟩, _⟩ := I2.tuple ht'
    obtain ⟨u1, u2, rfl, ri, rj⟩ := vals2 r2
    obtain ⟨t1, rfl⟩ := ri
    obtain ⟨t2, rfl⟩ := rj
    exact ⟨i, j, t, o2, t1, t2, n2, rfl, Heap.get?_push_of_some _ ho2, hc2, hd2⟩
  refine wpAny_bind (wpAny_holding (wpAny_call_entry slot_list_sort ⟨_, ob, rfl⟩ entry_list_sort
    (Srt.list_sort_any (s := { s with heap := h2.push (seqObj "list" its.toArray.toList.toArray 0), toks := s.toks }) ob (by simpa using lz) (fun two => Srt.pairs_sortable (s := { s with heap := h2.push (seqObj "list" its.toArray.toList.toArray 0), toks := s.toks }) (by omega) hpr fun o e => ?_) fun out hp => ⟨_, rfl, ?_⟩) (args_list_sort _)))
  · have e' : some o = some (seqObj "list" its.toArray.toList.toArray 0) := e.symm.trans ob
    cases e'
    intro c
    exact absurd (Value.type.inj c) (by decide)
  obtain ⟨e3, he3⟩ := sortedHeap_at (vs := its.toArray.toList) (out := out.toArray) ob
  have hp : out.Perm its := by simpa using hp
  have h3 : ∀ u ∈ out, ∃ a, u = Value.ref a := fun u hu => e2 u (hp.mem_iff.mp hu)
  refine wpAny_pure ⟨_, rfl, .ref h2.objs.size, upd H h2.objs.size (.lst (out.map backV)), I2.laid (t' := s.toks) (fun b o e => ?_) (Nat.le_refl _) ⟨?_, out, e3, vals_back h3, he3⟩, rfl, q _ _ ?_ (I2.hok.fresh (Nat.le_refl _))⟩
  · have bl : b < h2.objs.size := Heap.lt_size e
    rw [sortedHeap_old (Nat.ne_of_lt bl) (size_push' _ _ ▸ Nat.lt_succ_of_lt bl)]
    exact Heap.get?_push_of_some _ e
  · rw [List.length_map, hp.length_eq]; exact lz
  · rw [e1]; exact hp.map backV
theorem pairs_rel {K : PySem.W.Frag} {w : Wd} : ∀ {ds : List D} {xs : List V}, RDs K w ds xs → ds.all isPairD = true → ∀ x ∈ xs, ∃ t i j, x = V.ref t ∧ SqT K w.H t [.int i, .int j]
  | [], [], _, _, x, hx => by cases hx
  | d :: ds, y :: xs, .cons r rs, h, x, hx => by
    rw [List.all_cons, Bool.and_eq_true] at h
    rcases List.mem_cons.mp hx with rfl | hx
    · have h1 := h.1
      unfold isPairD at h1
      split at h1
      · cases r with
        | tup s l r =>
          cases r with
          | cons r1 r2 =>
            cases r2 with
            | cons r2 r3 =>
              cases r3
              cases r1
              cases r2
              exact ⟨_, _, _, rfl, s.sq⟩
      · cases h1
    · exact pairs_rel rs h.2 x hx
theorem rds_perm {K : PySem.W.Frag} {w : Wd} {ys xs : List V} (p : ys.Perm xs) : ∀ {ds : List D}, RDs K w ds xs → ∃ es : List D, es.Perm ds ∧ RDs K w es ys := by
  induction p with
  | nil => intro ds r; cases r; exact ⟨[], .nil, .nil⟩
  | cons x p ih =>
    intro ds r
    cases r with
    | cons r rs =>
      obtain ⟨es, pe, re⟩ := ih rs
      exact ⟨_ :: es, pe.cons _, .cons r re⟩
  | swap x y l =>
    intro ds r
    cases r with
    | cons r rs =>
      cases rs with
      | cons r2 rs => exact ⟨_, .swap _ _ _, .cons r2 (.cons r rs)⟩
  | trans p1 p2 ih1 ih2 =>
    intro ds r
    obtain ⟨es, pe, re⟩ := ih2 r
    obtain ⟨fs, pf, rf⟩ := ih1 re
    exact ⟨fs, pf.trans pe, rf⟩
theorem b_sorted (hc : X.calm = true) : CallR X (.builtin "sorted") (RNof X.K (bltD .sorted)) := by
  intro pins s σ H xs us Q I rs hq
  obtain ⟨w, h, ds, QD, rfl, rel, rd, o, post⟩ := hq
  simp only [bltD] at o
  split at o
  · obtain ⟨v, rfl, r1⟩ := rds1 rd
    split at o
    · rename_i xs e
      split at o
      · rename_i ns en
        obtain ⟨a, ys, rfl, e2, ry, ly⟩ := view_lst rel r1 e
        have ey := intsOf_rel ry en
        subst ey
        refine cr_sortedI pins s σ _ _ us Q I rs ⟨a, ns, rfl, .inl (.inl e2), fun ns' p hp hs hn => ?_⟩
        have ll : ns'.length ≤ sizeLine := by
          have l1 := hp.length_eq
          have l2 := ry.length
          rw [List.length_map] at l2
          omega
        exact post_lst (ds := ns'.map D.int) rel hn (rds_intsOf ns') (by rw [List.length_map]; exact ll) (o ns' hp hs) post
      · obtain ⟨op, o⟩ := o
        obtain ⟨a, ys, rfl, e2, ry, ly⟩ := view_lst rel r1 e
        refine cr_sortedQ pins s σ _ _ us Q I rs ⟨a, ys, rfl, .inl (.inl e2), pairs_rel ry op, fun zs p hp hn => ?_⟩
        obtain ⟨es, pe, re⟩ := rds_perm hp ry
        exact post_lst rel hn re (by rw [pe.length_eq]; exact ly) (o es pe) post
    · rename_i xs e
      split at o
      · rename_i ns en
        obtain ⟨a, ys, rfl, e2, ry, ly⟩ := view_tup r1 e
        have ey := intsOf_rel ry en
        subst ey
        refine srtT_any pins s σ _ _ us Q I rs ⟨a, ns, rfl, e2.sq, fun ns' p hp hs hn => ?_⟩
        have ll : ns'.length ≤ sizeLine := by
          have l1 := hp.length_eq
          have l2 := ry.length
          rw [List.length_map] at l2
          omega
        exact post_lst (ds := ns'.map D.int) rel hn (rds_intsOf ns') (by rw [List.length_map]; exact ll) (o ns' hp hs) post
      · obtain ⟨op, o⟩ := o
        obtain ⟨a, ys, rfl, e2, ry, ly⟩ := view_tup r1 e
        refine cr_sortedTQ pins s σ _ _ us Q I rs ⟨a, ys, rfl, e2.sq, pairs_rel ry op, fun zs p hp hn => ?_⟩
        obtain ⟨es, pe, re⟩ := rds_perm hp ry
        exact post_lst rel hn re (by rw [pe.length_eq]; exact ly) (o es pe) post
    · rename_i n e
      split at o
      · rename_i kvs en
        split at o
        · rename_i ns ek
          obtain ⟨a, ea, ys, e2, e3, ry⟩ := rel.has n _ en
          have dn : v = .ref a := by
            cases r1 with
            | ref q =>
              have : view h (.ref _) = .ref _ := e
              simp only [view] at e
              split at e
              · cases e
              · cases e
                rw [q] at ea
                cases ea
                rfl
            | _ => cases e
          subst dn
          refine srtD_any hc pins s σ _ _ us Q I rs ⟨a, ys, ns, rfl, e2, by rw [e3]; exact keyInts_map ek, fun ns' p hp hs hn => ?_⟩
          have ll : ns'.length ≤ sizeLine := by
            have l1 := hp.length_eq
            have l2 := congrArg List.length e3
            have l3 := congrArg List.length (keyInts_map ek)
            simp only [List.length_map] at l2 l3
            have l4 := (dk_of I.hok e2).1
            omega
          exact post_lst (ds := ns'.map D.int) rel hn (rds_intsOf ns') (by rw [List.length_map]; exact ll) (o ns' hp hs) post
        · exact o.elim
      · exact o.elim
    · exact o.elim
  · exact o.elim
theorem o_blt (hs : ∃ o, X.base.get? sysModules = some o) (hc : X.calm = true) (hg : X.A.guards = some []) (hu : X.A.units + 70 < cLine) (b : Bl) : CallR X b.val (RNof X.K (bltD b)) := by
  cases b with
  | len => exact b_len
  | sum => exact b_sum hc
  | all => exact b_all hc
  | any => exact b_any hc
  | tuple => exact b_tuple
  | list => exact b_list
  | listN => exact b_listN
  | min => exact b_min hc
  | max => exact b_max hc
  | abs => exact b_abs
  | int => exact b_int
  | isinst => exact b_isinst
  | repr => exact b_repr hs hg hu
  | str => exact b_str hs hg hu
  | divmod => exact b_divmod
  | sorted => exact b_sorted hc

/-! ### methods -/
end
inductive Mt where
  | append | pop | popAt | extend | upper | join
  deriving DecidableEq
def Mt.name : Mt → Str
  | .append => "append"
  | .pop => "pop"
  | .popAt => "pop"
  | .extend => "extend"
  | .upper => "upper"
  | .join => "join"
def Mt.T : Mt → String
  | .append => "list"
  | .pop => "list"
  | .popAt => "list"
  | .extend => "list"
  | .upper => "str"
  | .join => "str"
def Mt.id : Mt → String
  | .append => "list.append"
  | .pop => "list.pop"
  | .popAt => "list.pop"
  | .extend => "list.extend"
  | .upper => "str.upper"
  | .join => "str.join"
theorem Mt.pa (m : Mt) : PlainAttrs m.T := by cases m <;> first | exact PySem.F.plainAttrs_list | exact PySem.F.plainAttrs_str
theorem Mt.slot (m : Mt) : Slot m.T m.name m.id := by
  cases m
  · exact PySem.F.slot_list_append
  · exact PySem.F.slot_list_pop
  · exact PySem.F.slot_list_pop
  · exact PySem.F.slot_list_extend
  · exact PySem.F.slot_str_upper
  · exact PySem.F.slot_str_join
theorem Mt.ty (m : Mt) : typeOf (.builtin m.id) = pure (.type "method_descriptor") := by
  cases m
  · exact PySem.F.type_list_append
  · exact PySem.F.type_list_pop
  · exact PySem.F.type_list_pop
  · exact PySem.F.type_list_extend
  · exact PySem.F.type_str_upper
  · exact PySem.F.type_str_join
/-- the receiver is of the method's class -/
def tyD (m : Mt) (d : D) (h : Hd) : Prop := match m.T, d with
  | "list", .ref n => (match h n with | some (.lst _) => True | _ => False)
  | "list", .lst _ => True
  | "str", .str _ => True
  | _, _ => False
def lstOf (d : D) (h : Hd) (Q : Nat → List D → Prop) : Prop := match d with
  | .ref n => match h n with
    | some (.lst ds) => Q n ds
    | _ => False
  | _ => False
def mAppend (as : List D) (h : Hd) (Q : Pq) (n : Nat) (ds : List D) : Prop := match as with
  | [x] => ds.length < sizeLine ∧ Q .non (h.set n (.lst (ds ++ [x])))
  | _ => False
def mPop (as : List D) (h : Hd) (Q : Pq) (n : Nat) (ds : List D) : Prop := match as with
  | [] => (match ds[ds.length - 1]? with
    | some y => Q y (h.set n (.lst ds.dropLast))
    | none => False)
  | _ => False
def mPopAt (as : List D) (h : Hd) (Q : Pq) (n : Nat) (ds : List D) : Prop := match as with
  | [.int i] => (match ixN ds.length i with
    | some k => (match ds[k]? with
      | some y => Q y (h.set n (.lst (ds.eraseIdx k)))
      | none => False)
    | none => False)
  | _ => False
def mExtend (as : List D) (h : Hd) (Q : Pq) (n : Nat) (ds : List D) : Prop := match as with
  | [e] => (match view h e with
    | .lst es => ds.length + es.length ≤ sizeLine ∧ Q .non (h.set n (.lst (ds ++ es)))
    | _ => False)
  | _ => False
def strsOf : List D → Option (List Str)
  | [] => some []
  | .str x :: ds => (strsOf ds).map (x :: ·)
  | _ :: _ => none
theorem strsOf_rel {K : PySem.W.Frag} {w : Wd} : ∀ {ds : List D} {vs : List V} {ns : List Str}, RDs K w ds vs → strsOf ds = some ns → vs = ns.map V.str
  | _, _, _, .nil, e => by simp [strsOf] at e; subst e; rfl
  | d :: ds, v :: vs, ns, .cons r rs, e => by
    cases r <;> simp only [strsOf] at e <;> first | (cases e; done) | skip
    obtain ⟨ms, e1, e2⟩ := Option.map_eq_some_iff.mp e
    subst e2
    rw [strsOf_rel rs e1]
    rfl
theorem strsOf_map (ns : List Str) : strsOf (ns.map D.str) = some ns := by
  induction ns with
  | nil => rfl
  | cons n ns ih => simp [strsOf, ih]
def mUpper (d : D) (as : List D) (h : Hd) (Q : Pq) : Prop := match d, as with
  | .str x, [] => x.length ≤ 5592405 ∧ Q (.str (Txt.upper x)) h
  | _, _ => False
def mJoin (d : D) (as : List D) (h : Hd) (Q : Pq) : Prop := match d, as with
  | .str x, [e] => (match view h e with
    | .lst es => (match strsOf es with
      | some ys => (ys.map (·.length)).sum + ys.length * x.length ≤ 16777216 ∧ Q (.str (Txt.join x ys)) h
      | none => False)
    | _ => False)
  | _, _ => False
def mthD : Mt → DM
  | .append => fun d as h Q => lstOf d h (mAppend as h Q)
  | .pop => fun d as h Q => lstOf d h (mPop as h Q)
  | .popAt => fun d as h Q => lstOf d h (mPopAt as h Q)
  | .extend => fun d as h Q => lstOf d h (mExtend as h Q)
  | .upper => fun d as h Q => mUpper d as h Q
  | .join => fun d as h Q => mJoin d as h Q
section
variable {X : Cx}
theorem lstOf_rel {K : PySem.W.Frag} {w : Wd} {h : Hd} {d : D} {v : V} {Q : Nat → List D → Prop} (rel : RelW K w h) (r : RD K w d v) (o : lstOf d h Q) : ∃ n ds a xs, d = .ref n ∧ h n = some (.lst ds) ∧ v = .ref a ∧ w.m n = some a ∧ w.H a = some (.lst xs) ∧ RDs K w ds xs ∧ Q n ds ∧ ds.length ≤ sizeLine := by
  unfold lstOf at o
  split at o
  · rename_i n
    split at o
    · rename_i ds e
      obtain ⟨p, e1, xs, e2, rs, ll⟩ := rel.has n _ e
      cases r with
      | ref q =>
        rw [q] at e1; cases e1
        exact ⟨n, ds, p, xs, rfl, e, rfl, q, e2, rs, o, ll⟩
    · exact o.elim
  · exact o.elim
theorem RDs.dropLast {K : PySem.W.Frag} {w : Wd} {ds : List D} {vs : List V} (r : RDs K w ds vs) : RDs K w ds.dropLast vs.dropLast := by
  rw [List.dropLast_eq_take, List.dropLast_eq_take, r.length]
  exact r.take _
theorem ixN_lt {n : Nat} {i : Int} {k : Nat} (e : ixN n i = some k) : -(n : Int) ≤ i ∧ i < n := by
  have := ixN_seq e
  exact ⟨this.2.2.1, this.2.2.2⟩
theorem o_mth (m : Mt) : MtR X m.id (RMof X.K (mthD m)) := by
  intro pins s σ H x xs v us Q I rx rs hq
  obtain ⟨w, h, d, ds, QD, rfl, rel, rd, rds, o, post⟩ := hq
  cases m with
  | append =>
    obtain ⟨n, es, a, ys, rfl, en, rfl, em, ea, re, o, ll⟩ := lstOf_rel (Q := mAppend ds h QD) rel rd o
    cases ds with
    | nil => exact False.elim o
    | cons d1 ds1 =>
      cases ds1 with
      | cons _ _ => exact False.elim o
      | nil =>
        obtain ⟨y, rfl, ry⟩ := rds1 rds
        exact mt_append pins s σ _ _ _ v us Q I rx rs ⟨a, ys, y, rfl, rfl, ea, by rw [← re.length]; exact o.1, post_chg rel em en (re.append (.cons ry .nil)) (by rw [List.length_append]; exact o.1) .non o.2 post⟩
  | pop =>
    obtain ⟨n, es, a, ys, rfl, en, rfl, em, ea, re, o, ll⟩ := lstOf_rel (Q := mPop ds h QD) rel rd o
    cases ds with
    | cons _ _ => exact False.elim o
    | nil =>
      cases rds0 rds
      replace o : (match es[es.length - 1]? with | some y => QD y (h.set n (.lst es.dropLast)) | none => False) := o
      split at o
      · rename_i y ey
        obtain ⟨z, ez, rz⟩ := re.get ey
        exact mt_pop pins s σ _ _ _ v us Q I rx rs ⟨a, ys, z, rfl, rfl, ea, by rw [← re.length]; exact ez, post_chg rel em en re.dropLast (by rw [List.length_dropLast]; omega) rz o post⟩
      · exact o.elim
  | popAt =>
    obtain ⟨n, es, a, ys, rfl, en, rfl, em, ea, re, o, ll⟩ := lstOf_rel (Q := mPopAt ds h QD) rel rd o
    cases ds with
    | nil => exact False.elim o
    | cons d1 ds1 =>
      cases ds1 with
      | cons _ _ => exact (by cases d1 <;> exact False.elim o)
      | nil =>
        obtain ⟨y, rfl, ry⟩ := rds1 rds
        obtain ⟨i, rfl⟩ : ∃ i, d1 = .int i := by
          cases d1 <;> first | exact ⟨_, rfl⟩ | exact False.elim o
        cases ry
        replace o : (match ixN es.length i with | some k => (match es[k]? with | some y => QD y (h.set n (.lst (es.eraseIdx k))) | none => False) | none => False) := o
        split at o
        · rename_i k ek
          split at o
          · rename_i y ey
            obtain ⟨z, ez, rz⟩ := re.get ey
            have hl : ys.length ≤ sizeLine := (I.lstM ea).1
            have hs : sizeLine = 16777216 := sizeLine_eq
            have hb := ixN_lt ek
            have hlen := re.length
            exact mt_popAt pins s σ _ _ _ v us Q I rx rs ⟨a, ys, i, k, z, rfl, rfl, ea, by omega, by omega, by rw [← re.length]; exact (ixN_seq ek).1, ez, post_chg rel em en (re.eraseIdx k) (Nat.le_trans (len_erase es k) ll) rz o post⟩
          · exact o.elim
        · exact o.elim
  | extend =>
    obtain ⟨n, es, a, ys, rfl, en, rfl, em, ea, re, o, ll⟩ := lstOf_rel (Q := mExtend ds h QD) rel rd o
    cases ds with
    | nil => exact False.elim o
    | cons d1 ds1 =>
      cases ds1 with
      | cons _ _ => exact False.elim o
      | nil =>
        obtain ⟨y, rfl, ry⟩ := rds1 rds
        replace o : (match view h d1 with | .lst zs => es.length + zs.length ≤ sizeLine ∧ QD .non (h.set n (.lst (es ++ zs))) | _ => False) := o
        split at o
        · rename_i zs ez
          obtain ⟨b, ws, rfl, eb, rb, _⟩ := view_lst rel ry ez
          exact mt_extend pins s σ _ _ _ v us Q I rx rs ⟨a, b, ys, ws, rfl, rfl, ea, eb, by rw [← re.length, ← rb.length]; exact o.1, post_chg rel em en (re.append rb) (by rw [List.length_append]; exact o.1) .non o.2 post⟩
        · exact o.elim
  | upper =>
    replace o : mUpper d ds h QD := o
    unfold mUpper at o
    split at o
    · cases rds0 rds
      cases rd
      exact mt_upper pins s σ _ _ _ v us Q I rx rs ⟨_, rfl, rfl, o.1, post.now rel (.str _) o.2⟩
    · exact o.elim
  | join =>
    replace o : mJoin d ds h QD := o
    unfold mJoin at o
    split at o
    · obtain ⟨y, rfl, ry⟩ := rds1 rds
      cases rd
      split at o
      · rename_i es ez
        split at o
        · rename_i ys ey
          obtain ⟨b, ws, rfl, eb, rb, _⟩ := view_lst rel ry ez
          cases strsOf_rel rb ey
          exact mt_join pins s σ _ _ _ v us Q I rx rs ⟨_, b, ys, rfl, rfl, .inl (.inl (.inl eb)), o.1, post.now rel (.str _) o.2⟩
        · exact o.elim
      · exact o.elim
    · exact o.elim
theorem tyD_of {K : PySem.W.Frag} {w : Wd} {h : Hd} {d : D} {v : V} (m : Mt) (rel : RelW K w h) (r : RD K w d v) (t : tyD m d h) : tyV K m.T v w.H := by
  unfold tyD at t
  split at t
  · rename_i n hT
    rw [hT]
    split at t
    · rename_i ds e
      obtain ⟨p, xs, rfl, e2, _⟩ := view_lst (d := .ref n) (ds := ds) rel r (by simp [view, e])
      exact .inl ⟨rfl, xs, .inl (.inl e2)⟩
    · exact t.elim
  · rename_i ds hT
    rw [hT]
    obtain ⟨p, xs, rfl, e2, _⟩ := view_lst (h := h) (d := .lst ds) (ds := ds) rel r rfl
    exact .inl ⟨rfl, xs, .inl (.inl e2)⟩
  · rename_i x hT
    rw [hT]
    cases r
    rfl
  · exact t.elim

/-! ### o[i] = v -/
def setD (o i v : D) (h : Hd) (Q : Hd → Prop) : Prop := match o with
  | .ref n => match h n with
    | some (.lst ds) => (match i with
      | .int k => (match ixN ds.length k with
        | some j => Q (h.set n (.lst (ds.set j v)))
        | none => False)
      | _ => False)
    | some (.dK kvs) => (match keyD i with
      | some k => kvs.length < sizeLine ∧ Q (h.set n (.dK (putKD kvs k v)))
      | none => False)
    | none => False
  | _ => False
def RSetof (K : PySem.W.Frag) : TSet := fun o i v H Q => ∃ w h d e f QD, w.H = H ∧ RelW K w h ∧ RD K w d o ∧ RD K w e i ∧ RD K w f v ∧ setD d e f h QD ∧ ∀ w' h', Ext w w' h h' → RelW K w' h' → QD h' → Q w'.H
theorem putK_rel {K : PySem.W.Frag} {w : Wd} (k : Key) {d : D} {v : V} (r : RD K w d v) {kvs : List (Key × D)} {xs : List (Key × V)} (e : xs.map (·.1) = kvs.map (·.1)) (rs : RDs K w (kvs.map (·.2)) (xs.map (·.2))) :
    (putK xs k v).map (·.1) = (putKD kvs k d).map (·.1) ∧ RDs K w ((putKD kvs k d).map (·.2)) ((putK xs k v).map (·.2)) := by
  have any : (xs.any fun kv => decide (kv.1 = k)) = (kvs.any fun kv => decide (kv.1 = k)) := by
    have h1 : (xs.any fun kv => decide (kv.1 = k)) = (xs.map (·.1)).any fun z => decide (z = k) := by rw [List.any_map]; rfl
    have h2 : (kvs.any fun kv => decide (kv.1 = k)) = (kvs.map (·.1)).any fun z => decide (z = k) := by rw [List.any_map]; rfl
    rw [h1, h2, e]
  unfold putK putKD
  rw [any]
  split
  · rename_i hany
    clear any hany
    induction kvs generalizing xs with
    | nil =>
      cases xs with
      | nil => exact ⟨rfl, .nil⟩
      | cons x xs => simp at e
    | cons kv kvs ih =>
      cases xs with
      | nil => simp at e
      | cons x xs =>
        simp only [List.map_cons, List.cons.injEq] at e
        simp only [List.map_cons] at rs
        cases rs with
        | cons r1 r2 =>
          obtain ⟨i1, i2⟩ := ih e.2 r2
          simp only [List.map_cons]
          rw [e.1]
          by_cases hk : kv.1 = k
          · rw [if_pos hk, if_pos hk]
            exact ⟨by rw [i1], .cons r i2⟩
          · rw [if_neg hk, if_neg hk]
            exact ⟨by rw [i1, e.1], .cons r1 i2⟩
  · rw [List.map_append, List.map_append, List.map_append, List.map_append, e]
    exact ⟨rfl, rs.append (.cons r .nil)⟩
theorem o_set (hu : X.A.units + 1 < cLine) : PSet X (RSetof X.K) := by
  intro pins s σ H o i v ov iv u Q I ro ri rv hq
  obtain ⟨w, h, d, e, f, QD, rfl, rel, rd, re, rf, t, post⟩ := hq
  unfold setD at t
  split at t
  · rename_i n
    split at t
    · rename_i ds en
      obtain ⟨a, e1, xs, e2, rs, ll⟩ := rel.has n _ en
      cases rd with
      | ref q =>
        rw [q] at e1; cases e1
        split at t
        · rename_i k
          cases re
          split at t
          · rename_i j ej
            refine set_list pins s σ _ _ _ _ ov iv u Q I ro ri rv ⟨a, xs, k, j, rfl, rfl, e2, by rw [← rs.length]; exact ej, ?_⟩
            have x : Ext w (w.put a (.lst (xs.set j v))) h (h.set n (.lst (ds.set j f))) := ext_chg rel q en
            exact post _ _ x (rel_chg rel q en ⟨_, upd_same, (rs.set rf j).mono x, by rw [List.length_set]; exact ll⟩) t
          · exact t.elim
        · exact t.elim
    · rename_i kvs en
      obtain ⟨a, e1, xs, e2, e3, rs⟩ := rel.has n _ en
      cases rd with
      | ref q =>
        rw [q] at e1; cases e1
        split at t
        · rename_i k ek
          cases keyD_of re ek
          cases ro
          have hl : xs.length < sizeLine := by
            have := congrArg List.length e3
            simp only [List.length_map] at this
            rw [this]; exact t.1
          refine d_setItem hu I (DPut.k (k := k) e2 hl) ri rv fun s' I' => ⟨_, I', ?_⟩
          have x : Ext w (w.put a (.dK (putK xs k v))) h (h.set n (.dK (putKD kvs k f))) := ext_chg rel q en
          obtain ⟨p1, p2⟩ := putK_rel k rf e3 rs
          exact post _ _ x (rel_chg rel q en ⟨_, upd_same, p1, p2.mono x⟩) t.2
        · exact t.elim
    · exact t.elim
  · exact t.elim
end
end G

/-! Defs: how arguments bind, what they promise, how they are called, the law's end. -/
namespace G
open PySem PySem.Spec PyProof.Rows L2
theorem grow_loop (f : Str × Value → List (Str × Value) × List (Str × Value) → Sem (ForInStep (List (Str × Value) × List (Str × Value)))) :
    ∀ (kw S : List (Str × Value)), (∀ x S, x ∈ kw → S.lookup x.1 = none → f x (S, []) = pure (.yield (S ++ [x], []))) → (S.map (·.1) ++ kw.map (·.1)).Nodup → forIn kw (S, []) f = pure (S ++ kw, [])
  | [], S, _, _ => by simp
  | x :: kw, S, hf, hn => by
    have h1 : S.lookup x.1 = none := by
      rw [List.lookup_eq_none_iff]
      intro p hp
      rw [List.map_cons, List.nodup_append] at hn
      have := hn.2.2 p.1 (List.mem_map_of_mem hp) x.1 (by simp)
      simpa using fun e => this e.symm
    rw [List.forIn_cons, hf x S (by simp) h1]
    simp only [pure_bind]
    rw [grow_loop f kw (S ++ [x]) (fun y T hy => hf y T (List.mem_cons_of_mem _ hy)) (by simpa using hn)]
    simp
theorem bind_kw {fd : FuncData} {us : List Value} {kw : List (Str × Value)} {ps : List Str} (hp : fd.params.args.map (·.arg) = ps) (h1 : fd.params.posonlyargs = []) (h2 : fd.params.vararg = none) (h3 : fd.params.kwonlyargs = []) (h4 : fd.params.kwarg = none) (h5 : fd.defaults = .none)
    (hin : ∀ p ∈ kw, p.1 ∈ ps) (hnd : ((ps.zip us).map (·.1) ++ kw.map (·.1)).Nodup) (hl : us.length ≤ ps.length) (hall : ∀ n ∈ ps, ((ps.zip us ++ kw).lookup n).isSome = true) :
    bindArgs fd ⟨us, kw⟩ = pure (ps.filterMap fun n => ((ps.zip us ++ kw).lookup n).map (n, ·)) := by
  unfold bindArgs
  simp only [h1, h2, h3, h4, h5, hp, List.map_nil, List.nil_append, List.append_nil]
  rw [grow_loop _ kw (ps.zip us) (fun x S hx hs => by
    have hc : ps.contains x.1 = true := by simpa using hin x hx
    simp only [hc, hs, Bool.true_or, if_true, Option.isSome_none, Bool.false_eq_true, if_false]) hnd]
  have hm : (ps.filter fun n => ((ps.zip us ++ kw).lookup n).isNone) = [] := by
    rw [List.filter_eq_nil_iff]
    intro n hn
    have := hall n hn
    rw [Option.isNone_iff_eq_none]
    intro e
    rw [e] at this
    cases this
  have hg : ¬ (decide (us.length > ps.length) && (none : Option Arg).isNone) = true := by simp; omega
  simp only [pure_bind]
  have hs : seqItems? Value.none = pure none := rfl
  rw [hs]
  simp only [pure_bind, Option.getD_none, List.length_nil, Nat.zero_sub, List.drop_zero, Nat.sub_zero, List.take_length, hm, List.isEmpty_nil, Bool.not_true, Bool.false_eq_true, if_false, List.drop_length, List.zip_nil_left, List.forIn_nil, hg]

theorem lookup_zip : ∀ {ps : List Str} {us : List Value} {j : Nat} {n : Str}, ps.Nodup → ps[j]? = some n → (ps.zip us).lookup n = us[j]?
  | [], _, _, _, _, h => by simp at h
  | p :: ps, [], j, n, _, _ => by simp
  | p :: ps, u :: us, 0, n, _, h => by
    simp at h
    subst h
    simp [List.lookup]
  | p :: ps, u :: us, j + 1, n, nd, h => by
    have hm : n ∈ ps := List.mem_of_getElem? (by simpa using h)
    have ne : (n == p) = false := by
      rw [beq_eq_false_iff_ne]
      rintro rfl
      exact (List.nodup_cons.mp nd).1 hm
    rw [List.zip_cons_cons, List.lookup_cons, ne]
    simpa using lookup_zip (us := us) (j := j) (List.nodup_cons.mp nd).2 (by simpa using h)
/-- how written keywords stand to the parameters: pm, of each parameter the place of its argument -/
def kwC (ps : List Str) (np : Nat) (ks : List Str) (pm : List Nat) : Bool :=
  decide ps.Nodup && decide ks.Nodup && decide (np + ks.length = ps.length) && decide (pm.length = ps.length) && (ks.all fun k => decide (k ∈ ps.drop np)) &&
    (List.range ps.length).all fun j => match pm[j]?, ps[j]? with
      | some i, some n => if j < np then i == j else (decide (np ≤ i) && decide (ks[i - np]? = some n))
      | _, _ => false
def pick {α : Type} (xs : List α) (pm : List Nat) : List α := pm.filterMap fun i => xs[i]?
theorem zip_of {f : Str → Option Value} : ∀ {ps : List Str} {os : List Value}, ps.map f = os.map some → ps.filterMap (fun n => (f n).map (n, ·)) = ps.zip os
  | [], [], _ => rfl
  | [], _ :: _, h => by simp at h
  | _ :: _, [], h => by simp at h
  | p :: ps, o :: os, h => by
    simp only [List.map_cons, List.cons.injEq] at h
    rw [List.filterMap_cons, h.1, List.zip_cons_cons]
    simp only [Option.map_some]
    rw [zip_of h.2]
theorem pick_some {α : Type} (xs : List α) : ∀ (pm : List Nat), (∀ i ∈ pm, i < xs.length) → pm.map (fun i => xs[i]?) = (pick xs pm).map some
  | [], _ => rfl
  | i :: pm, h => by
    have hi := h i (by simp)
    have e : xs[i]? = some xs[i] := List.getElem?_eq_getElem hi
    unfold pick
    rw [List.filterMap_cons]
    simp only [e, List.map_cons, List.cons.injEq, true_and]
    exact pick_some xs pm fun k hk => h k (List.mem_cons_of_mem _ hk)
theorem binds_kw {fd : FuncData} {ps ks : List Str} {np : Nat} {pm : List Nat} (hp : fd.params.args.map (·.arg) = ps) (h1 : fd.params.posonlyargs = []) (h2 : fd.params.vararg = none) (h3 : fd.params.kwonlyargs = []) (h4 : fd.params.kwarg = none) (h5 : fd.defaults = .none)
    (hc : kwC ps np ks pm = true) {us ws : List Value} (hu : us.length = np) (hw : ws.length = ks.length) : bindArgs fd ⟨us, ks.zip ws⟩ = pure (ps.zip (pick (us ++ ws) pm)) := by
  unfold kwC at hc
  simp only [Bool.and_eq_true, decide_eq_true_eq, List.all_eq_true, List.mem_range] at hc
  obtain ⟨⟨⟨⟨⟨c1, c2⟩, c3⟩, c4⟩, c6⟩, c5⟩ := hc
  have at_ : ∀ (j : Nat) (n : Str), ps[j]? = some n → ∃ i, pm[j]? = some i ∧ i < (us ++ ws).length ∧ (ps.zip us ++ ks.zip ws).lookup n = (us ++ ws)[i]? := by
    intro j n hj
    have jl : j < ps.length := (List.getElem?_eq_some_iff.mp hj).1
    have q := c5 j jl
    rw [hj] at q
    cases e : pm[j]? with
    | none => rw [e] at q; cases q
    | some i =>
      rw [e] at q
      refine ⟨i, rfl, ?_⟩
      have z1 : (ps.zip us).lookup n = us[j]? := lookup_zip c1 hj
      rw [List.lookup_append, z1]
      simp only at q
      split at q
      · rename_i hlt
        have : i = j := by simpa using q
        subst this
        have hl : i < us.length := by omega
        refine ⟨by rw [List.length_append]; omega, ?_⟩
        rw [List.getElem?_append_left hl, List.getElem?_eq_getElem hl]
        rfl
      · rename_i hge
        simp only [Bool.and_eq_true, decide_eq_true_eq] at q
        have z2 : (ks.zip ws).lookup n = ws[i - np]? := lookup_zip c2 q.2
        have hi : i - np < ks.length := (List.getElem?_eq_some_iff.mp q.2).1
        refine ⟨by rw [List.length_append]; omega, ?_⟩
        rw [z2, List.getElem?_eq_none (by omega : us.length ≤ j), List.getElem?_append_right (by omega), hu]
        rfl
  have hmap : ps.map (fun n => (ps.zip us ++ ks.zip ws).lookup n) = (pick (us ++ ws) pm).map some := by
    rw [← pick_some _ _ (fun i hi => by
      obtain ⟨j, hj⟩ := List.mem_iff_getElem?.mp hi
      have jl : j < ps.length := by rw [← c4]; exact (List.getElem?_eq_some_iff.mp hj).1
      obtain ⟨i', e1, e2, _⟩ := at_ j _ (List.getElem?_eq_getElem jl)
      rw [hj] at e1; cases e1
      exact e2)]
    apply List.ext_getElem?
    intro j
    rw [List.getElem?_map, List.getElem?_map]
    by_cases jl : j < ps.length
    · obtain ⟨i, e1, _, e3⟩ := at_ j _ (List.getElem?_eq_getElem jl)
      rw [e1, List.getElem?_eq_getElem jl]
      simp only [Option.map_some, e3]
    · rw [List.getElem?_eq_none (by omega), List.getElem?_eq_none (by omega)]
      rfl
  have hz : (ks.zip ws).map (·.1) = ks := by rw [List.map_fst_zip]; omega
  have hz2 : (ps.zip us).map (·.1) = ps.take np := by
    rw [← hu]
    have : ∀ (ps : List Str) (us : List Value), (ps.zip us).map (·.1) = ps.take us.length := by
      intro ps
      induction ps with
      | nil => intro us; simp
      | cons p ps ih => intro us; cases us <;> simp_all
    exact this ps us
  rw [← zip_of hmap]
  refine bind_kw hp h1 h2 h3 h4 h5 (fun p h => ?_) ?_ (by omega) (fun n hn => ?_)
  · have : p.1 ∈ ks := by rw [← hz]; exact List.mem_map_of_mem h
    exact List.mem_of_mem_drop (c6 _ this)
  · rw [hz, hz2, List.nodup_append]
    refine ⟨c1.sublist (List.take_sublist _ _), c2, fun a ha b hb e => ?_⟩
    subst e
    have hb' : a ∈ ps.drop np := c6 _ hb
    have := c1
    rw [← List.take_append_drop np ps, List.nodup_append] at this
    exact this.2.2 a ha a hb' rfl
  · obtain ⟨j, hj⟩ := List.mem_iff_getElem?.mp hn
    obtain ⟨i, _, e2, e3⟩ := at_ j n hj
    rw [e3, List.getElem?_eq_getElem e2]
    rfl

/-- a def's promise on values -/
abbrev Spd := List D → Hd → Pq → Prop

section
variable (P : Program) (w : World) (K : PySem.W.Frag) (mg : Str → Option Value) (base : Heap)
structure FnG (k : Nat) (f : Addr) (fd : FuncData) (ps : List Str) (sp : Spd) : Prop where
  len : ∀ ds h Q, sp ds h Q → ds.length = ps.length
  run : ∀ (A : Around) (outer : List Env) (s : Shared) (wd : Wd) (h : Hd) (ds : List D) (args : Args) (us : List Value) (vs : List V) (QD : Pq) (Q : VK),
    Room k A → A.guards = some [] → Env0 P w K mg base A outer s wd.H → BindsTo s fd args (ps.zip us) → Vals vs us →
    RelW K wd h → RDs K wd ds vs → sp ds h QD → Post K wd h QD Q →
    codeAny (model P w) A (.call (.ref f) args) (CR CX0 outer P w wd.H s Q E0) s

/-- the module's name x is a def of parameters ps that keeps sp, by at most k calls one in another -/
structure FnAt (k : Nat) (x : Str) (ps : List Str) (sp : Spd) : Prop where
  ex : ∃ (f : Addr) (fd : FuncData), mg x = some (.ref f) ∧ PySem.W.keepIn K (.ref f) = true ∧
    (fd.params.args.map (·.arg) = ps ∧ fd.params.posonlyargs = [] ∧ fd.params.vararg = none ∧ fd.params.kwonlyargs = [] ∧ fd.params.kwarg = none ∧ fd.defaults = .none ∧ ps.Nodup) ∧ FnG P w K mg base k f fd ps sp
end
section
variable {P : Program} {w : World} {K : PySem.W.Frag} {mg : Str → Option Value} {base : Heap}
theorem FnG.up {j k : Nat} {f : Addr} {fd : FuncData} {ps : List Str} {sp : Spd} (F : FnG P w K mg base j f fd ps sp) (h : j ≤ k) : FnG P w K mg base k f fd ps sp :=
  ⟨F.len, fun A outer s wd hd ds args us vs QD Q hr => F.run A outer s wd hd ds args us vs QD Q (hr.mono h)⟩
theorem FnAt.up {j k : Nat} {x : Str} {ps : List Str} {sp : Spd} (F : FnAt P w K mg base j x ps sp) (h : j ≤ k) : FnAt P w K mg base k x ps sp := by
  obtain ⟨f, fd, a, b, c, G⟩ := F.ex
  exact ⟨f, fd, a, b, c, G.up h⟩
/-- a promise that asks more, or gives less -/
theorem FnAt.weak {k : Nat} {x : Str} {ps : List Str} {sp sp' : Spd} (F : FnAt P w K mg base k x ps sp) (i : ∀ ds h Q, sp' ds h Q → sp ds h Q) : FnAt P w K mg base k x ps sp' := by
  obtain ⟨f, fd, a, b, c, G⟩ := F.ex
  exact ⟨f, fd, a, b, c, fun ds h Q q => G.len ds h Q (i _ _ _ q), fun A outer s wd hd ds args us vs QD Q h1 h2 h3 h4 h5 h6 h7 h8 => G.run A outer s wd hd ds args us vs QD Q h1 h2 h3 h4 h5 h6 h7 (i _ _ _ h8)⟩
end

/-! ### calls -/
section
variable {X : Cx} {k : Nat} {x : Str} {ps : List Str} {sp : Spd}
/-- a call with positional values us and keywords' values ws -/
theorem fn_call {f : Addr} {fd : FuncData} (F : FnG X.prog X.w X.K X.mg X.base k f fd ps sp) (hr : Room k X.A) (hg : X.A.guards = some []) {pins : List (Addr × Obj)} {σ : L2.St} {s : Shared} {wd : Wd} {h : Hd} {ds : List D} {us : List Value} {kw : List (Str × Value)} {full : List Value} {vs : List V} {QD : Pq} {Q : VK}
    (I : Inv X pins σ wd.H s) (hb : BindsTo s fd ⟨us, kw⟩ (ps.zip full)) (rv : Vals vs full) (rel : RelW X.K wd h) (rd : RDs X.K wd ds vs) (q : sp ds h QD) (post : Post X.K wd h QD Q) :
    wpAny (model X.prog X.w) X.A (call (.ref f) us kw) (EP X pins σ Q) X.xe s := by
  refine wpAny_call (codeAny_mono (F.run X.A X.stack s wd h ds ⟨us, kw⟩ full vs QD Q hr hg I.env0 hb rv rel rd q post) fun r s' hq => ?_)
  match r, hq with
  | .ok (.ret u), hq => exact I.after hq
  | .ok .next, hq => exact hq.elim
  | .ok .brk, hq => exact hq.elim
  | .ok .cont, hq => exact hq.elim
  | .error e, hq => exact hq.elim
theorem fn_binds {fd : FuncData} (hp : fd.params.args.map (·.arg) = ps ∧ fd.params.posonlyargs = [] ∧ fd.params.vararg = none ∧ fd.params.kwonlyargs = [] ∧ fd.params.kwarg = none ∧ fd.defaults = .none ∧ ps.Nodup) {s : Shared} {us : List Value} (hl : us.length = ps.length) :
    BindsTo s fd ⟨us, []⟩ (ps.zip us) := by
  refine .of_eq ?_
  have c : kwC ps ps.length [] (List.range ps.length) = true := by
    unfold kwC
    simp only [Bool.and_eq_true, decide_eq_true_eq, List.all_eq_true, List.mem_range]
    refine ⟨⟨⟨⟨⟨hp.2.2.2.2.2.2, List.nodup_nil⟩, by simp⟩, by simp⟩, by simp⟩, fun j hj => ?_⟩
    rw [List.getElem?_range hj, List.getElem?_eq_getElem hj]
    simp [hj]
  have e := binds_kw (us := us) (ws := []) hp.1 hp.2.1 hp.2.2.1 hp.2.2.2.1 hp.2.2.2.2.1 hp.2.2.2.2.2.1 c hl rfl
  have e2 : pick (us ++ []) (List.range ps.length) = us := by
    rw [List.append_nil, ← hl]
    unfold pick
    have : ∀ us : List Value, (List.range us.length).filterMap (fun i => us[i]?) = us := by
      intro us
      have q := pick_some us (List.range us.length) (fun i hi => List.mem_range.mp hi)
      have r : (List.range us.length).map (fun i => us[i]?) = us.map some := by
        apply List.ext_getElem?
        intro i
        by_cases h : i < us.length
        · simp [h]
        · rw [List.getElem?_eq_none (by simp; omega), List.getElem?_eq_none (by simp; omega)]
      rw [r] at q
      have inj : ∀ {a b : List Value}, a.map some = b.map some → a = b := fun {a b} h => by
        have := congrArg (List.filterMap id) h
        simpa using this
      exact (inj q).symm
    exact this us
  rw [e2] at e
  exact e
theorem RDs.pick {K : PySem.W.Frag} {wd : Wd} {ds : List D} {vs : List V} (r : RDs K wd ds vs) : ∀ pm : List Nat, RDs K wd (G.pick ds pm) (G.pick vs pm)
  | [] => .nil
  | i :: pm => by
    unfold G.pick
    rw [List.filterMap_cons, List.filterMap_cons]
    cases e : ds[i]? with
    | none =>
      have : vs[i]? = none := by
        rw [List.getElem?_eq_none_iff] at e ⊢
        rw [← r.length]; exact e
      rw [this]
      exact RDs.pick r pm
    | some d =>
      obtain ⟨v, e1, e2⟩ := r.get e
      rw [e1]
      exact .cons e2 (RDs.pick r pm)
theorem vals_pick {vs : List V} {us : List Value} (r : Vals vs us) : ∀ pm : List Nat, Vals (G.pick vs pm) (G.pick us pm)
  | [] => .nil
  | i :: pm => by
    unfold G.pick
    rw [List.filterMap_cons, List.filterMap_cons]
    cases e : vs[i]? with
    | none => rw [r.none_of e]; exact vals_pick r pm
    | some v =>
      obtain ⟨u, e1, e2⟩ := r.get e
      rw [e1]
      exact .cons e2 (vals_pick r pm)
end
end G

/-! A small syntax and what it is worth. -/
namespace G
open PySem PySem.Spec PyProof.Rows L2

/-! targets -/
mutual
inductive Tg where
  | nm (i : Nat)
  | tp (ts : Tgs)
inductive Tgs where
  | nil
  | cons (t : Tg) (ts : Tgs)
end
mutual
def slotsT : Tg → List Nat
  | .nm i => [i]
  | .tp ts => slotsTs ts
def slotsTs : Tgs → List Nat
  | .nil => []
  | .cons t ts => slotsT t ++ slotsTs ts
end
mutual
/-- expressions: lst, lc: a list that stays as it is; new, lcN: one that may change -/
inductive Ex where
  | cst (d : D)
  | var (i : Nat)
  | glb (x : Str) (d : D)
  | typ (t : Ty)
  | bin (o : Operator) (a b : Ex)
  | neg (a : Ex)
  | cmp (o : CmpOp) (a b : Ex)
  | chn (o p : CmpOp) (a b c : Ex)
  | not (a : Ex)
  | and (a b : Ex)
  | or (a b : Ex)
  | ife (c : Tx) (a b : Ex)
  | tup (es : Exs)
  | lst (es : Exs)
  | new (es : Exs)
  | sub (a i : Ex)
  | sl (a : Ex) (lo hi : Exo)
  | slN (a : Ex) (lo hi : Exo)
  | addN (a b : Ex)
  | orV (a b : Ex)
  | rev (n : Bool) (a : Ex)
  | call (x : Str) (ps : List Str) (sp : Spd) (es : Exs)
  | callK (x : Str) (ps : List Str) (sp : Spd) (es : Exs) (ks : List Str) (kes : Exs) (pm : List Nat)
  | callP (x y : Str) (ps qs : List Str) (sp sq : Spd) (i : Ex) (es : Exs)
  | slS (a lo st : Ex)
  | fdv (a b : Ex)
  | rgs (l : Bool) (a b : Ex)
  | tabAt (x : Str) (ks : List Str) (ds : List D) (a : Ex)
  | tabIn (x : Str) (ks : List Str) (ds : List D) (a : Ex)
  | lc2 (own : List (Str × Nat)) (tg : Tg) (it : Ite) (c : Txo) (tg1 : Tg) (a1 : Ex) (c1 : Txo) (e : Ex)
  | blt (b : Bl) (es : Exs)
  | mth (m : Mt) (a : Ex) (es : Exs)
  | dct (n : Bool) (ks : List Key) (es : Exs)
  | lc (n : Bool) (own : List (Str × Nat)) (tg : Tg) (it : Ite) (c : Txo) (e : Ex)
inductive Exs where
  | nil
  | cons (e : Ex) (es : Exs)
inductive Exo where
  | none
  | some (e : Ex)
/-- tests -/
inductive Tx where
  | val (e : Ex)
  | not (t : Tx)
  | and (t u : Tx)
  | or (t u : Tx)
  | ch3 (o p r : CmpOp) (a b c d : Ex)
inductive Txo where
  | none
  | some (t : Tx)
/-- what is walked -/
inductive Ite where
  | seq (e : Ex)
  | rng1 (e : Ex)
  | rng2 (a b : Ex)
  | rng3 (a b c : Ex)
  | zip (a b : Ex)
  | revd (a : Ex)
  | zips (a b : Ex)
  | enum (k : Bool) (a : Ex)
end

def getS (σ : Sl) (i : Nat) (Q : D → Prop) : Prop := match σ[i]? with
  | some (some d) => Q d
  | _ => False
def boolD (d : D) (Q : Bool → Prop) : Prop := match d with
  | .bl b => Q b
  | _ => False
def intO (d : D) (Q : Int → Prop) : Prop := match d with
  | .int i => Q i
  | _ => False
/-! a target takes a value -/
mutual
def gT : Tg → D → Sl → (Sl → Prop) → Prop
  | .nm i, d, σ, Q => Q (σ.set i (some d))
  | .tp ts, d, σ, Q => match d with
    | .tup ds => gTs ts ds σ Q
    | _ => False
def gTs : Tgs → List D → Sl → (Sl → Prop) → Prop
  | .nil, ds, σ, Q => match ds with
    | [] => Q σ
    | _ :: _ => False
  | .cons t ts, ds, σ, Q => match ds with
    | [] => False
    | d :: ds => gT t d σ fun σ' => gTs ts ds σ' Q
end
def rngD (lo : Int) (n : Nat) : List D := (List.range n).map fun i => D.int (lo + (i : Nat))
def wipeD (σ : Sl) : List Nat → Sl
  | [] => σ
  | v :: vs => (wipeD σ vs).set v none
/-- the turns of a comprehension -/
def compL (g : D → (Sl → Prop) → Prop) (t : WT) (e : WE) (stay : Hd → Prop) : List D → List D → Hd → (List D → Hd → Prop) → Prop
  | [], acc, h, Q => stay h ∧ Q acc h
  | d :: ds, acc, h, Q => stay h ∧ g d fun σ => t σ h fun b h1 => if b = true then e σ h1 fun v h2 => compL g t e stay ds (acc ++ [v]) h2 Q else compL g t e stay ds acc h1 Q
/-- a comprehension of two clauses; the second walks a tuple -/
def comp2L (g : D → (Sl → Prop) → Prop) (t : WT) (a1 : WE) (g1 : D → Sl → (Sl → Prop) → Prop) (t1 : WT) (e : WE) (vs1 : List Nat) (stay : Hd → Prop) : List D → List D → Hd → (List D → Hd → Prop) → Prop
  | [], acc, h, Q => stay h ∧ Q acc h
  | d :: ds, acc, h, Q => stay h ∧ g d fun σ => t σ h fun b h1 => if b = true then a1 σ h1 fun x h2 => (match x with
      | .tup ds1 => acc.length + ds1.length ≤ sizeLine ∧ compL (fun d K => g1 d (wipeD σ vs1) K) t1 e (fun _ => True) ds1 acc h2 fun acc' h3 => comp2L g t a1 g1 t1 e vs1 stay ds acc' h3 Q
      | _ => False) else comp2L g t a1 g1 t1 e vs1 stay ds acc h1 Q
def fdvD : D2 := fun x y h Q => intO x fun i => intO y fun j => (j ≠ 0 ∧ j.natAbs.log2 < 9000) ∧ Q (.int (i.fdiv j)) h
def rgsD (l : Bool) (x y : D) (h : Hd) (Q : Pq) : Prop := intO x fun i => intO y fun j => ((-4611686018427387904 ≤ i ∧ i < 4611686018427387904) ∧ (-4611686018427387904 ≤ j ∧ j < 4611686018427387904) ∧ j - i ≤ 16777216) ∧ Q (if l = true then .lst (rngD i (j - i).toNat) else .tup (rngD i (j - i).toNat)) h
/-- a whole number in a list that may change -/
def augG (x y : D) (h : Hd) (R : Int → Prop) : Prop := match x with
  | .ref n => (match h n with
    | some (.lst ds) => (match y with
      | .int k => 0 ≤ k ∧ ∃ a, ds[k.toNat]? = some (.int a) ∧ R a
      | _ => False)
    | _ => False)
  | _ => False
/-- a written table: what stands at a key -/
def lookT : List Str → List D → Str → Option D
  | k :: ks, d :: ds, z => if k = z then some d else lookT ks ds z
  | _, _, _ => none
/-- what is made is kept as it is, or may change -/
def listed (n : Bool) (ds : List D) (h : Hd) (Q : Pq) : Prop := match n with
  | false => Q (.lst ds) h
  | true => ∀ k, h k = none → Q (.ref k) (h.set k (.lst ds))
/-- a piece, a joining, that may change -/
def sliceN (a : D) (lo hi : Option Int) (h : Hd) (Q : Pq) : Prop := match view h a with
  | .lst ds => ∀ k, h k = none → Q (.ref k) (h.set k (.lst (cutD ds lo hi)))
  | _ => False
def catN : D2 := fun a b h Q => match view h a, view h b with
  | .lst x, .lst y => x.length + y.length ≤ sizeLine ∧ ∀ k, h k = none → Q (.ref k) (h.set k (.lst (x ++ y)))
  | _, _ => False
/-- a dict, finished or not -/
def dicted (n : Bool) (ks : List Key) (ds : List D) (h : Hd) (Q : Pq) : Prop := match n with
  | false => Q (.dic ks ds) h
  | true => ∀ k, h k = none → Q (.ref k) (h.set k (.dK (ks.zip ds)))
def zipD (ds es : List D) : List D := List.zipWith (fun a b => D.tup [a, b]) ds es
/-- a list that can be walked, and what must stay -/
def lstI (d : D) (h : Hd) : Option (List D × (Hd → Prop)) := match d with
  | .lst ds => some (ds, fun _ => True)
  | .ref n => match h n with
    | some (.lst ds) => some (ds, fun h => h n = some (.lst ds))
    | _ => none
  | _ => none
def zipI (x y : D) (h : Hd) (R : List D → (Hd → Prop) → Prop) : Prop := match x, y with
  | .tup ds, .tup es => R (zipD ds es) fun _ => True
  | x, y => match lstI x h, lstI y h with
    | some (ds, s1), some (es, s2) => R (zipD ds es) fun h => s1 h ∧ s2 h
    | _, _ => False
/-- lo, lo + c, .. -/
def stepD (lo c : Int) (n : Nat) : List D := (List.range n).map fun i => D.int (lo + (i : Nat) * c)
def rng3 (x y z : D) (R : List D → Prop) : Prop := ∃ (i j c : Int) (n : Nat), x = .int i ∧ y = .int j ∧ z = .int c ∧ RgC i j c n ∧ n ≤ 16777216 ∧ R (stepD i c n)
/-- what a starred target takes apart -/
def starI (d : D) (h : Hd) (R : List D → Prop) : Prop := match d with
  | .tup ds => R ds
  | d => match view h d with
    | .lst ds => R ds
    | _ => False
def revI (x : D) (h : Hd) (R : List D → (Hd → Prop) → Prop) : Prop := match x with
  | .tup ds => R ds.reverse fun _ => True
  | x => match lstI x h with
    | some (ds, st) => R ds.reverse st
    | none => False
/-- a list or a tuple that can be walked, and what must stay -/
def anyI (d : D) (h : Hd) : Option (Bool × List D × (Hd → Prop)) := match d with
  | .tup ds => some (true, ds, fun _ => True)
  | d => match lstI d h with
    | some (ds, st) => some (false, ds, st)
    | none => none
def zipSI (x y : D) (h : Hd) (R : List D → (Hd → Prop) → Prop) : Prop := match anyI x h, anyI y h with
  | some (_, ds, s1), some (_, es, s2) => ds.length = es.length ∧ R (zipD ds es) fun h => s1 h ∧ s2 h
  | _, _ => False
/-- each with its number, from k on -/
def enumD (k : Nat) (ds : List D) : List D := (ds.zipIdx k).map fun p => D.tup [.int ((p.2 : Nat) : Int), p.1]
def enumI (k : Nat) (x : D) (h : Hd) (R : List D → (Hd → Prop) → Prop) : Prop := match anyI x h with
  | some (_, ds, st) => R (enumD k ds) st
  | none => False
def lenTs : Tgs → Nat
  | .nil => 0
  | .cons _ ts => lenTs ts + 1
def seqI (d : D) (h : Hd) (R : List D → (Hd → Prop) → Prop) : Prop := match d with
  | .lst ds => R ds fun _ => True
  | .tup ds => R ds fun _ => True
  | .ref n => match h n with
    | some (.lst ds) => R ds fun h => h n = some (.lst ds)
    | _ => False
  | _ => False
mutual
def wE : Ex → Sl → Hd → Pq → Prop
  | .cst d, _, h, Q => Q d h
  | .var i, σ, h, Q => getS σ i fun d => Q d h
  | .glb _ d, _, h, Q => Q d h
  | .typ t, _, h, Q => Q (.ty t) h
  | .bin o a b, σ, h, Q => wE a σ h fun x h1 => wE b σ h1 fun y h2 => binD o x y h2 Q
  | .neg a, σ, h, Q => wE a σ h fun x h1 => negD x h1 Q
  | .cmp o a b, σ, h, Q => wE a σ h fun x h1 => wE b σ h1 fun y h2 => cmpD o x y h2 Q
  | .chn o p a b c, σ, h, Q => wE a σ h fun x h1 => wE b σ h1 fun y h2 => cmpD o x y h2 fun z h3 => boolD z fun k => if k = true then wE c σ h3 fun v h4 => cmpD p y v h4 Q else Q (.bl false) h3
  | .not a, σ, h, Q => wE a σ h fun x h1 => boolD x fun k => Q (.bl (!k)) h1
  | .and a b, σ, h, Q => wE a σ h fun x h1 => boolD x fun k => if k = true then wE b σ h1 Q else Q (.bl false) h1
  | .or a b, σ, h, Q => wE a σ h fun x h1 => boolD x fun k => if k = true then Q (.bl true) h1 else wE b σ h1 Q
  | .ife c a b, σ, h, Q => wT c σ h fun k h1 => if k = true then wE a σ h1 Q else wE b σ h1 Q
  | .tup es, σ, h, Q => wA es σ h fun ds h1 => Q (.tup ds) h1
  | .lst es, σ, h, Q => wA es σ h fun ds h1 => Q (.lst ds) h1
  | .new es, σ, h, Q => wA es σ h fun ds h1 => ∀ n, h1 n = none → Q (.ref n) (h1.set n (.lst ds))
  | .sub a i, σ, h, Q => wE a σ h fun x h1 => wE i σ h1 fun y h2 => subsD x y h2 Q
  | .sl a lo hi, σ, h, Q => wE a σ h fun x h1 => wO lo σ h1 fun l h2 => wO hi σ h2 fun u h3 => sliceD x l u h3 Q
  | .slN a lo hi, σ, h, Q => wE a σ h fun x h1 => wO lo σ h1 fun l h2 => wO hi σ h2 fun u h3 => sliceN x l u h3 Q
  | .addN a b, σ, h, Q => wE a σ h fun x h1 => wE b σ h1 fun y h2 => catN x y h2 Q
  | .orV a b, σ, h, Q => wE a σ h fun x h1 => truthD x h1 fun k => if k = true then Q x h1 else wE b σ h1 Q
  | .rev n a, σ, h, Q => wE a σ h fun x h1 => match view h1 x with
    | .lst ds => listed n ds.reverse h1 Q
    | .tup ds => Q (.tup ds.reverse) h1
    | _ => False
  | .call _ _ sp es, σ, h, Q => wA es σ h fun ds h1 => sp ds h1 Q
  | .callK _ _ sp es _ kes pm, σ, h, Q => wA es σ h fun ds h1 => wA kes σ h1 fun fs h2 => sp (pick (ds ++ fs) pm) h2 Q
  | .callP _ _ _ _ sp sq i es, σ, h, Q => wE i σ h fun d h1 => intO d fun k => (k = 0 ∧ wA es σ h1 fun ds h2 => sp ds h2 Q) ∨ (k = 1 ∧ wA es σ h1 fun ds h2 => sq ds h2 Q)
  | .slS a lo st, σ, h, Q => wE a σ h fun x h1 => wE lo σ h1 fun l h2 => intO l fun _ => wE st σ h2 fun k h3 => intO k fun j => match view h3 x with
    | .lst ds => j ≠ 0 ∧ ∀ es : List D, (∀ e ∈ es, e ∈ ds) → es.length ≤ ds.length → Q (.lst es) h3
    | _ => False
  | .fdv a b, σ, h, Q => wE a σ h fun x h1 => wE b σ h1 fun y h2 => fdvD x y h2 Q
  | .rgs l a b, σ, h, Q => wE a σ h fun x h1 => wE b σ h1 fun y h2 => rgsD l x y h2 Q
  | .tabAt _ ks ds a, σ, h, Q => wE a σ h fun x h1 => (match x with
    | .str z => (match lookT ks ds z with
      | some d => Q d h1
      | none => False)
    | _ => False)
  | .tabIn _ ks ds a, σ, h, Q => wE a σ h fun x h1 => (match x with
    | .str z => Q (.bl (lookT ks ds z).isSome) h1
    | _ => False)
  | .lc2 own tg it c tg1 a1 c1 e, σ, h, Q => wI it σ h fun ds stay h1 => comp2L (fun d K => gT tg d (wipeD σ (own.map (·.2))) K) (wTo c) (wE a1) (gT tg1) (wTo c1) (wE e) (slotsT tg1) stay ds [] h1 fun acc h2 => Q (.lst acc) h2
  | .blt b es, σ, h, Q => wA es σ h fun ds h1 => bltD b ds h1 Q
  | .mth m a es, σ, h, Q => wE a σ h fun x h1 => tyD m x h1 ∧ wA es σ h1 fun ds h2 => mthD m x ds h2 Q
  | .dct n ks es, σ, h, Q => wA es σ h fun ds h1 => dicted n ks ds h1 Q
  | .lc n own tg it c e, σ, h, Q => wI it σ h fun ds stay h1 => compL (fun d K => gT tg d (wipeD σ (own.map (·.2))) K) (wTo c) (wE e) stay ds [] h1 fun acc h2 => listed n acc h2 Q
def wA : Exs → Sl → Hd → (List D → Hd → Prop) → Prop
  | .nil, _, h, Q => Q [] h
  | .cons e es, σ, h, Q => wE e σ h fun d h1 => wA es σ h1 fun ds h2 => Q (d :: ds) h2
def wO : Exo → Sl → Hd → (Option Int → Hd → Prop) → Prop
  | .none, _, h, Q => Q Option.none h
  | .some e, σ, h, Q => wE e σ h fun d h1 => intO d fun i => Q (Option.some i) h1
def wT : Tx → Sl → Hd → (Bool → Hd → Prop) → Prop
  | .val e, σ, h, Q => wE e σ h fun d h1 => truthD d h1 fun k => Q k h1
  | .not t, σ, h, Q => wT t σ h fun k h1 => Q (!k) h1
  | .and t u, σ, h, Q => wT t σ h fun k h1 => if k = true then wT u σ h1 Q else Q false h1
  | .or t u, σ, h, Q => wT t σ h fun k h1 => if k = true then Q true h1 else wT u σ h1 Q
  | .ch3 o p r a b c d, σ, h, Q => wE a σ h fun x h1 => wE b σ h1 fun y h2 => cmpD o x y h2 fun z h3 => boolD z fun k => if k = true then wE c σ h3 fun v h4 => cmpD p y v h4 fun z2 h5 => boolD z2 fun k2 => if k2 = true then wE d σ h5 fun u h6 => cmpD r v u h6 fun z3 h7 => boolD z3 fun k3 => Q k3 h7 else Q false h5 else Q false h3
def wTo : Txo → Sl → Hd → (Bool → Hd → Prop) → Prop
  | .none, _, h, Q => Q true h
  | .some t, σ, h, Q => wT t σ h Q
def wI : Ite → Sl → Hd → (List D → (Hd → Prop) → Hd → Prop) → Prop
  | .seq e, σ, h, R => wE e σ h fun d h1 => seqI d h1 fun ds st => R ds st h1
  | .rng1 e, σ, h, R => wE e σ h fun d h1 => intO d fun n => (-4611686018427387904 ≤ n ∧ n ≤ 16777216) ∧ R (rngD 0 n.toNat) (fun _ => True) h1
  | .rng2 a b, σ, h, R => wE a σ h fun x h1 => wE b σ h1 fun y h2 => intO x fun i => intO y fun j => ((-4611686018427387904 ≤ i ∧ i < 4611686018427387904) ∧ (-4611686018427387904 ≤ j ∧ j < 4611686018427387904) ∧ j - i ≤ 16777216) ∧ R (rngD i (j - i).toNat) (fun _ => True) h2
  | .rng3 a b c, σ, h, R => wE a σ h fun x h1 => wE b σ h1 fun y h2 => wE c σ h2 fun z h3 => rng3 x y z fun ds => R ds (fun _ => True) h3
  | .zip a b, σ, h, R => wE a σ h fun x h1 => wE b σ h1 fun y h2 => zipI x y h2 fun ds st => R ds st h2
  | .revd a, σ, h, R => wE a σ h fun x h1 => revI x h1 fun ds st => R ds st h1
  | .zips a b, σ, h, R => wE a σ h fun x h1 => wE b σ h1 fun y h2 => zipSI x y h2 fun ds st => R ds st h2
  | .enum k a, σ, h, R => wE a σ h fun x h1 => enumI (if k = true then 1 else 0) x h1 fun ds st => R ds st h1
end

/-! statements -/
structure Ed where
  nx : Sl → Hd → Prop
  rt : Pq
  bk : Sl → Hd → Prop := fun _ _ => False
  ct : Sl → Hd → Prop := fun _ _ => False
mutual
inductive St where
  | asg (t : Tg) (e : Ex)
  | par (is : List Nat) (es : Exs)
  | put (o i e : Ex)
  | aug (i : Nat) (o : Operator) (e : Ex)
  | augI (o i e : Ex)
  | star (i : Nat) (nw : Bool) (ts : Tgs) (e : Ex)
  | exp (e : Ex)
  | ret (e : Ex)
  | retN
  | ite (c : Tx) (a b : Sts)
  | whl (c : Tx) (b : Sts)
  | for (t : Tg) (it : Ite) (b : Sts)
  | pass
  | brk
  | cont
inductive Sts where
  | nil
  | cons (s : St) (ss : Sts)
end
def setAll (σ : Sl) : List Nat → List D → Sl
  | i :: is, d :: ds => setAll (σ.set i (some d)) is ds
  | _, _ => σ
/-- the turns of a for -/
def forL (g : D → Sl → (Sl → Prop) → Prop) (b : Ed → Sl → Hd → Prop) (stay : Hd → Prop) (E : Ed) : List D → Sl → Hd → Prop
  | [], σ, h => stay h ∧ E.nx σ h
  | d :: ds, σ, h => stay h ∧ g d σ fun σ' => b { nx := forL g b stay E ds, ct := forL g b stay E ds, bk := E.nx, rt := E.rt } σ' h
def whileL (t : WT) (b : Ed → Sl → Hd → Prop) (E : Ed) (σ : Sl) (h : Hd) : Prop :=
  ∃ W : Nat → Sl → Hd → Prop, (∃ m, W m σ h) ∧ ∀ m σ h, W m σ h →
    t σ h fun k h1 => if k = true then b { nx := fun σ' h' => ∃ m', m' < m ∧ W m' σ' h', ct := fun σ' h' => ∃ m', m' < m ∧ W m' σ' h', bk := E.nx, rt := E.rt } σ h1 else E.nx σ h1
mutual
def wS : St → Ed → Sl → Hd → Prop
  | .asg t e, E, σ, h => wE e σ h fun d h1 => gT t d σ fun σ' => E.nx σ' h1
  | .par is es, E, σ, h => wA es σ h fun ds h1 => E.nx (setAll σ is ds) h1
  | .put o i e, E, σ, h => wE e σ h fun v h1 => wE o σ h1 fun x h2 => wE i σ h2 fun y h3 => setD x y v h3 fun h4 => E.nx σ h4
  | .aug i o e, E, σ, h => getS σ i fun x => wE e σ h fun y h1 => augD o x y h1 fun z h2 => E.nx (σ.set i (some z)) h2
  | .augI o i e, E, σ, h => wE o σ h fun x h1 => wE i σ h1 fun y h2 => augG x y h2 fun a => wE e σ h2 fun v h3 => intO v fun b => setD x y (.int (a + b)) h3 fun h4 => E.nx σ h4
  | .star i nw ts e, E, σ, h => wE e σ h fun d h1 => starI d h1 fun ds => lenTs ts ≤ ds.length + 1 ∧ listed nw ((ds.drop i).take (ds.length - (lenTs ts - 1))) h1 fun m h2 => gTs ts (ds.take i ++ [m] ++ ds.drop (ds.length - (lenTs ts - 1 - i))) σ fun σ' => E.nx σ' h2
  | .exp e, E, σ, h => wE e σ h fun _ h1 => E.nx σ h1
  | .ret e, E, σ, h => wE e σ h E.rt
  | .retN, E, _, h => E.rt .non h
  | .ite c a b, E, σ, h => wT c σ h fun k h1 => if k = true then wSs a E σ h1 else wSs b E σ h1
  | .whl c b, E, σ, h => whileL (wT c) (wSs b) E σ h
  | .for t it b, E, σ, h => wI it σ h fun ds stay h1 => forL (gT t) (wSs b) stay E ds σ h1
  | .pass, E, σ, h => E.nx σ h
  | .brk, E, σ, h => E.bk σ h
  | .cont, E, σ, h => E.ct σ h
def wSs : Sts → Ed → Sl → Hd → Prop
  | .nil, E, σ, h => E.nx σ h
  | .cons s ss, E, σ, h => wS s { nx := wSs ss E, rt := E.rt, bk := E.bk, ct := E.ct } σ h
end
end G

/-! t[::-1] of a tuple. -/
namespace G
open PySem PySem.Spec PyProof.Rows L2 HT
section
variable {prog : Program} {w : World} {A : Around} {E : Value → Shared → Prop} {s : Shared}
theorem places_rev (n : Nat) : Builtin.Slice.slicePlaces ((n : Int) - 1) (-1) (-1) = n := by
  unfold Builtin.Slice.slicePlaces
  have h1 : ¬ ((-1 : Int) > 0) := by omega
  have h2 : (- (-1 : Int)) = 1 := by omega
  simp only [h1, if_false, h2, Int.ediv_one]
  split <;> omega
theorem sliceApplied_rev {sl : Addr} {vs : Value} {n : Nat} {Q : Int × Int × Nat → Shared → Prop} (hs : s.heap.IsSliceOf sl .none .none vs) (ps : IsPart vs (some (-1)))
    (h : Q (((n : Int) - 1), -1, n) s) : wpAny (model prog w) A (Builtin.Slice.sliceApplied (.ref sl) (pure (n : Int))) Q E s := by
  obtain ⟨os, hos, hcs, hds⟩ := id hs
  unfold Builtin.Slice.sliceApplied Builtin.Slice.sliceFields
  refine wpAny_bind (wpAny_bind (wpAny_field hos hds (x := .none) rfl (wpAny_bind (wpAny_field hos hds (x := .none) rfl (wpAny_bind (wpAny_field hos hds (x := vs) rfl (wpAny_pure ?_)))))))
  refine wpAny_bind (slicePart_ ps ?_)
  show wpAny _ _ (if ((-1 : Int) == 0) = true then _ else _) _ _ s
  rw [if_neg (by decide)]
  refine wpAny_bind (slicePart_none (wpAny_bind (slicePart_none (wpAny_bind (wpAny_pure ?_)))))
  show wpAny _ _ (pure (((n : Int) - 1), (-1 : Int), Builtin.Slice.slicePlaces ((n : Int) - 1) (-1) (-1))) _ _ s
  rw [places_rev]
  exact wpAny_pure h
theorem pick_rev (xs : Array Value) : ((List.range xs.size).filterMap fun (m : Nat) => xs[(((xs.size : Int) - 1) + (m : Int) * (-1)).toNat]?) = xs.toList.reverse := by
  have e : ∀ m ∈ List.range xs.size, xs[(((xs.size : Int) - 1) + (m : Int) * (-1)).toNat]? = xs.toList.reverse[m]? := by
    intro m hm
    have hm' : m < xs.size := List.mem_range.mp hm
    have : (((xs.size : Int) - 1) + (m : Int) * (-1)).toNat = xs.size - 1 - m := by omega
    rw [this, List.getElem?_reverse (by simpa using hm')]
    simp
  have g : ∀ (l : List Value) (f : Nat → Option Value) (k : Nat), (∀ m, m < k → f m = l[m]?) → (List.range k).filterMap f = l.take k := by
    intro l f k
    induction k with
    | zero => intro _; simp
    | succ k ih =>
      intro hf
      rw [List.range_succ, List.filterMap_append, ih fun m hm => hf m (by omega), List.take_add_one]
      congr 1
      simp only [List.filterMap_cons, List.filterMap_nil, hf k (by omega)]
      cases l[k]? <;> rfl
  rw [g xs.toList.reverse _ xs.size fun m hm => e m (List.mem_range.mpr hm)]
  exact List.take_of_length_le (by simp)
theorem getItem_tuple_rev {t sl : Addr} {items : Array Value} {vs : Value} {Q : Value → Shared → Prop} (ht : IsTup s.heap t items) (hs : s.heap.IsSliceOf sl .none .none vs) (ps : IsPart vs (some (-1)))
    (h : Q (.ref s.heap.objs.size) { s with heap := s.heap.push { cls := .type "tuple", data := .seq items.toList.reverse.toArray } })
    (hsz : items.size ≤ sizeLine) : wpAny (model prog w) A (getItem (.ref t) (.ref sl)) Q E s := by
  have htake : sizeOk (.seq items.toList.reverse.toArray) := by
    show items.toList.reverse.toArray.size ≤ sizeLine
    rw [List.size_toArray, List.length_reverse, Array.length_toList]
    omega
  obtain ⟨os, hos, hcs, hds⟩ := id hs
  have hTs : s.TypeIs (.ref sl) "slice" := ⟨os, hos, hcs⟩
  unfold getItem
  try with_reducible refine wpAny_holding ?_
  first | refine wpAny_bind (wpAny_pure ?_) | skip
  refine wpAny_bind (wpAny_sequenceKey ht.typeIs (by decide) ?_)
  refine wpAny_bind (wpAny_callSpecial?_slot (name := Str.ofString "__getitem__") ht.typeIs PyProof.Rows.slot_tuple_getitem
    (wpAny_call_entry PyProof.Rows.slot_tuple_getitem ht.typeIs entry_tuple_getitem ?_ (args_tuple_getitem _ _)))
  show wpAny _ _ (Builtin.Tuple.tupleItemsOf (.ref t) >>= _) _ _ s
  refine wpAny_bind (tupleItemsOf_ ht ?_)
  refine wpAny_bind (wpAny_typeOf hTs ?_)
  rw [if_pos (by decide)]
  refine wpAny_bind (sliceApplied_rev hs ps ?_)
  have hno : ¬ ((((items.size : Int) - 1) == 0 && (-1 : Int) == 1 && items.size == items.size) = true) := by
    simp
  show wpAny _ _ (if (((items.size : Int) - 1) == 0 && (-1 : Int) == 1 && items.size == items.size) = true then _ else _) _ _ s
  rw [if_neg hno, pick_rev]
  first
    | exact wpAny_bind (m := Builtin.Tuple.tupleExact _) (wpAny_newObj_type (wpAny_pure ⟨_, rfl, wpAny_pure h⟩) htake)
    | exact wpAny_bind (m := Builtin.Tuple.tupleExact _) (wpAny_newObj_type (wpAny_bind (wpAny_pure (wpAny_pure ⟨_, rfl, wpAny_pure h⟩))) htake)
    | exact wpAny_bind (wpAny_bind (m := Builtin.Tuple.tupleExact _) (wpAny_newObj_type (wpAny_pure (wpAny_pure ⟨_, rfl, wpAny_pure h⟩)) htake))
    | exact wpAny_bind (wpAny_bind (m := Builtin.Tuple.tupleExact _) (wpAny_newObj_type (wpAny_pure ⟨_, rfl, wpAny_pure h⟩) htake))
end
section
variable {X : Cx}
def tRevA (K : PySem.W.Frag) (te : TE) : TE := fun σ H Q => te σ H fun x H1 => ∃ a xs, x = .ref a ∧ ((SqL K H1 a xs ∧ ∀ p, H1 p = none → Q (.ref p) (upd H1 p (.lst xs.reverse))) ∨ (SqT K H1 a xs ∧ ∀ p, H1 p = none → Q (.ref p) (upd H1 p (.tup xs.reverse))))
theorem pe_revA {e : Expr} {te : TE} {k : Nat} {p1 p2 p3 pos : Pos} (he : PE X e te) : PE X (.Subscript e (.Slice none none (some (.UnaryOp .USub (.Constant (.int 1) k p1) p2)) p3) pos) (tRevA X.K te) := by
  refine ⟨fun pins s σ H Q I h => ?_⟩
  refine Subscript_ (thn (he.run pins s σ H _ I h) fun v s1 ⟨x, H1, I1, r1, q1⟩ => ?_)
  obtain ⟨a, xs, ex, hx⟩ := q1
  subst ex
  cases r1
  have hst : PO X (some (.UnaryOp .USub (.Constant (.int 1) k p1) p2)) (tPart (tUn (rU fun i => .int (-i)) (tC (.int 1)))) := po_some (pe_un un_neg pe_int)
  refine wpAny_Slice (thn (po_none.run pins s1 σ H1 (fun o H2 => o = none ∧ H2 = H1) I1 ⟨rfl, rfl⟩) fun vl s2 ⟨l, H2, I2, pl, el, e2⟩ => ?_)
  subst el e2
  refine thn (po_none.run pins s2 σ H2 (fun o H3 => o = none ∧ H3 = H2) I2 ⟨rfl, rfl⟩) fun vu s3 ⟨u, H3, I3, pu, eu, e3⟩ => ?_
  subst eu e3
  refine thn (hst.run pins s3 σ H3 (fun o H4 => o = some (-1) ∧ H4 = H3) I3 ⟨1, rfl, -1, rfl, rfl, rfl⟩) fun vs s4 ⟨o, H4, I4, ps, eo, e4⟩ => ?_
  subst eo e4
  have I5 : Inv X pins σ H4 { s4 with heap := s4.heap.push { cls := .type "slice", data := .fields #[vl, vu, vs] } } := I4.kept (t' := s4.toks) fun b ob q => Heap.get?_push_of_some _ q
  show wpAny (model X.prog X.w) X.A (subscriptTail e (.Slice none none (some (.UnaryOp .USub (.Constant (.int 1) k p1) p2)) p3) (.ref a) (.ref s4.heap.objs.size)) (EP X pins σ Q) X.xe { s4 with heap := s4.heap.push { cls := .type "slice", data := .fields #[vl, vu, vs] } }
  rcases hx with ⟨hx, q⟩ | ⟨hx, q⟩
  · obtain ⟨its, r, ht, hz⟩ := I5.list hx
    have hlen := r.length
    refine tail_any (ops := [.ref a, .ref s4.heap.objs.size]) ht.isList.typeIs (PySem.slot_list_getitem.lookup) ?_ (by with_unfolding_all rfl)
    refine wpAny_getItem_list_slice ht.isList (Heap.IsSliceOf.new _ vl vu vs) pl pu ps (by decide) ?_ (by rw [List.size_toArray]; omega)
    rw [PySem.W.krv_pick]
    refine ⟨.ref _, _, I5.laid (t' := s4.toks) (o := .lst xs.reverse) (fun b ob q => Heap.get?_push_of_some _ q) (Nat.le_refl _) ?_, rfl, q _ (I5.hok.fresh (Nat.le_refl _))⟩
    exact ⟨by rw [List.length_reverse]; exact hz, _, 0, r.reverse, Heap.get?_push_size _ rfl⟩
  · obtain ⟨its, r, ht, hz⟩ := I5.tuple hx
    have hlen := r.length
    cases pl
    cases pu
    refine tail_any (ops := [.ref a, .ref s4.heap.objs.size]) ht.typeIs (PyProof.Rows.slot_tuple_getitem.lookup) ?_ (by with_unfolding_all rfl)
    refine getItem_tuple_rev ht (Heap.IsSliceOf.new _ _ _ vs) ps ?_ (by rw [List.size_toArray]; omega)
    refine ⟨.ref _, _, I5.laid (t' := s4.toks) (o := .tup xs.reverse) (fun b ob q => Heap.get?_push_of_some _ q) (Nat.le_refl _) ?_, rfl, q _ (I5.hok.fresh (Nat.le_refl _))⟩
    exact ⟨by rw [List.length_reverse]; exact hz, _, r.reverse, _, Heap.get?_push_size _ rfl, rfl, 0, rfl⟩
end
end G

/-! The rules over the small syntax. -/
namespace G
open PySem PySem.Spec PyProof.Rows L2

/-! ### plain expressions -/
def pl : Expr → Bool
  | .Starred _ _ => false
  | .Slice _ _ _ _ => false
  | .Set _ _ _ => false
  | _ => true
theorem star_pl {e : Expr} {es : List Expr} {env : Env} (h : pl e = true) : starEach (e :: es) env = (false, eval e env) :: starEach es env := by
  cases e <;> first | (cases h; done) | rfl
theorem star_all : ∀ {es : List Expr} {env : Env} {pos : Pos}, es.all pl = true → (backTo pos (starEach es env)).any (·.1) = false
  | [], _, _, _ => rfl
  | e :: es, env, pos, h => by
    rw [List.all_cons, Bool.and_eq_true] at h
    rw [star_pl h.1]
    show (false || (backTo pos (starEach es env)).any (·.1)) = false
    rw [star_all h.2]
    rfl
theorem star_none {es : List Expr} {env : Env} {pos : Pos} (h : es.all pl = true) : (backTo pos (starEach es env)).all (fun x => !x.1) = true := by
  have q := star_all (env := env) (pos := pos) h
  rw [List.any_eq_false] at q
  rw [List.all_eq_true]
  intro x hx
  have := q x hx
  simpa using this
theorem ix_pl {e : Expr} (h : pl e = true) : PlainIx e := by
  intro o i
  cases e <;> first | (cases h; done) | rfl
theorem fold_pl {e : Expr} {env : Env} (h : pl e = true) (x : Value) : foldedSetIterable e env x = pure x := by
  cases e <;> first | (cases h; done) | rfl
def nsup : Expr → Bool
  | .Call (.Name _ _) [] [] _ => false
  | _ => true
theorem base_nsup {o : Expr} {name : Str} {env : Env} {x : Sem Value} (h : nsup o = true) : attributeBase o name env x = x := by
  unfold attributeBase
  split
  · cases h
  · rfl
/-- no comprehension: its value isn't stored within -/
def nlc : Expr → Bool
  | .ListComp _ _ _ _ => false
  | .SetComp _ _ _ _ => false
  | .DictComp _ _ _ _ _ => false
  | _ => true
theorem sw_nlc {e : Expr} {t : Option Expr} {l : Nat} {env : Env} (h : nlc e = true) : swapsWith e t l env = pure false := by
  cases e <;> first | (cases h; done) | rfl
/-- an expression whose test is its value's truth -/
def ptv : Expr → Bool
  | .UnaryOp .Not _ _ => false
  | .BoolOp _ _ _ => false
  | .IfExp _ _ _ _ => false
  | .Compare _ _ _ _ => false
  | _ => true
theorem true_ptv {e : Expr} {env : Env} (h : ptv e = true) (whole : Sem Value) : isTrue e env whole = (do let v ← whole; standAt e.pos; holding [v] (truthy v)) := by
  cases e <;> first | (cases h; done) | rfl | skip
  rename_i op x pos
  cases op <;> first | (cases h; done) | rfl

section
variable {X : Cx} {e e1 e2 e3 : Expr} {es : List Expr} {pos : Pos} {wa wb wc : WE} {ta tb : WT} {wl wl' : WA}

theorem l_cst {d : D} {v : V} (h : PE X e (tC v)) (r : ∀ w, RD X.K w d v) : PE X e (liftE X.K fun _ h Q => Q d h) := by
  refine pe_imp h fun σ H Q ⟨w, σd, hd, QD, eH, rel, rs, q, post⟩ => ?_
  subst eH
  exact post.now rel (r w) q
theorem l_var {i : Nat} (h : PE X e (tVar i)) : PE X e (liftE X.K fun σ h Q => getS σ i fun d => Q d h) := by
  refine pe_imp h fun σ H Q ⟨w, σd, hd, QD, eH, rel, rs, q, post⟩ => ?_
  subst eH
  replace q : getS σd i fun d => QD d hd := q
  unfold getS at q
  split at q
  · rename_i d ed
    obtain ⟨v, e1, r⟩ := rs.at_ i d ed
    exact ⟨v, e1, post.now rel r q⟩
  · exact q.elim
/-- one value, then an operation -/
theorem lift1 {o : D1} (σ : L2.St) (H : Hp) (Q : VK) (h : liftE X.K (fun σ h Q => wa σ h fun x h1 => o x h1 Q) σ H Q) : liftE X.K wa σ H fun x H1 => R1of X.K o x H1 Q := by
  obtain ⟨w, σd, hd, QD, eH, rel, rs, q, post⟩ := h
  exact ⟨w, σd, hd, fun x h1 => o x h1 QD, eH, rel, rs, q, fun w1 h1 d1 v1 x1 rel1 r1 q1 => ⟨w1, h1, d1, QD, rfl, rel1, r1, q1, post.ext x1⟩⟩
theorem lift2 {o : D2} (σ : L2.St) (H : Hp) (Q : VK) (h : liftE X.K (fun σ h Q => wa σ h fun x h1 => wb σ h1 fun y h2 => o x y h2 Q) σ H Q) :
    liftE X.K wa σ H fun x H1 => liftE X.K wb σ H1 fun y H2 => R2of X.K o x y H2 Q := by
  obtain ⟨w, σd, hd, QD, eH, rel, rs, q, post⟩ := h
  exact ⟨w, σd, hd, fun x h1 => wb σd h1 fun y h2 => o x y h2 QD, eH, rel, rs, q, fun w1 h1 d1 v1 x1 rel1 r1 q1 =>
    ⟨w1, σd, h1, fun y h2 => o d1 y h2 QD, rfl, rel1, rs.mono x1, q1, fun w2 h2 d2 v2 x2 rel2 r2 q2 => ⟨w2, h2, d1, d2, QD, rfl, rel2, r1.mono x2, r2, q2, post.ext (x1.trans x2)⟩⟩⟩
theorem l_bin {o : Operator} (ha : PE X e1 (liftE X.K wa)) (hb : PE X e2 (liftE X.K wb)) : PE X (.BinOp e1 o e2 pos) (liftE X.K fun σ h Q => wa σ h fun x h1 => wb σ h1 fun y h2 => binD o x y h2 Q) :=
  pe_imp (pe_op (o_bin o) ha hb) lift2
theorem l_neg (ha : PE X e1 (liftE X.K wa)) : PE X (.UnaryOp .USub e1 pos) (liftE X.K fun σ h Q => wa σ h fun x h1 => negD x h1 Q) :=
  pe_imp (pe_un o_neg ha) lift1
theorem l_cmp {o : CmpOp} (hu : X.A.units + 65 < cLine) (hm : behindInMarks o e2 = false) (ha : PE X e1 (liftE X.K wa)) (hb : PE X e2 (liftE X.K wb)) :
    PE X (.Compare e1 [o] [e2] pos) (liftE X.K fun σ h Q => wa σ h fun x h1 => wb σ h1 fun y h2 => cmpD o x y h2 Q) :=
  pe_imp (pe_cmpR (o_cmp hu o) ha hb hm) lift2
/-- what a comparison tells is a truth -/
theorem cmpD_bl {o : CmpOp} {x y : D} {h : Hd} {Q : Pq} (q : cmpD o x y h Q) : cmpD o x y h fun d h' => Q d h' ∧ h' = h ∧ ∃ k, d = .bl k := by
  have ord : ∀ pi ps, ordD pi ps x y h Q → ordD pi ps x y h fun d h' => Q d h' ∧ h' = h ∧ ∃ k, d = .bl k := fun pi ps q => by
    unfold ordD at q ⊢
    split at q <;> first | exact ⟨q, rfl, _, rfl⟩ | exact q.elim
  have eq : ∀ b, eqD b x y h Q → eqD b x y h fun d h' => Q d h' ∧ h' = h ∧ ∃ k, d = .bl k := fun b q => by
    unfold eqD at q ⊢
    split at q <;> first | exact ⟨q, rfl, _, rfl⟩ | exact ⟨q.1, q.2, rfl, _, rfl⟩
  have is : ∀ b, isD2 b x y h Q → isD2 b x y h fun d h' => Q d h' ∧ h' = h ∧ ∃ k, d = .bl k := fun b q => by
    unfold isD2 at q ⊢
    split at q
    · exact ⟨q, rfl, _, rfl⟩
    · split at q <;> first | exact ⟨q, rfl, _, rfl⟩ | exact q.elim
    · exact q.elim
  have inn : ∀ b, inD b x y h Q → inD b x y h fun d h' => Q d h' ∧ h' = h ∧ ∃ k, d = .bl k := fun b q => by
    unfold inD at q ⊢
    split at q
    · split at q
      · exact ⟨q.1, q.2, rfl, _, rfl⟩
      · split at q <;> first | exact ⟨q, rfl, _, rfl⟩ | exact q.elim
      · exact q.elim
    · exact ⟨q.1, q.2, rfl, _, rfl⟩
    · exact ⟨q.1, q.2, rfl, _, rfl⟩
    · split at q
      · split at q <;> first | exact ⟨q, rfl, _, rfl⟩ | exact q.elim
      · exact q.elim
    · exact q.elim
  cases o <;> simp only [cmpD] at q ⊢ <;> first | exact ord _ _ q | exact eq _ q | exact is _ q | exact inn _ q
/-- as a test -/
theorem lt_cmp {o : CmpOp} (hu : X.A.units + 65 < cLine) (hm : behindInMarks o e2 = false) (ha : PE X e1 (liftE X.K wa)) (hb : PE X e2 (liftE X.K wb)) :
    PT X (.Compare e1 [o] [e2] pos) (liftT X.K fun σ h Q => wa σ h fun x h1 => wb σ h1 fun y h2 => cmpD o x y h2 fun d h3 => truthD d h3 fun k => Q k h3) := by
  refine pt_imp (pt_cmpR (o_cmp hu o) ha hb hm) fun σ H Q ⟨w, σd, hd, QD, eH, rel, rs, q, post⟩ => ?_
  refine ⟨w, σd, hd, fun x h1 => wb σd h1 fun y h2 => cmpD o x y h2 fun d h3 => truthD d h3 fun k => QD k h3, eH, rel, rs, q, fun w1 h1 d1 v1 x1 rel1 r1 q1 => ?_⟩
  refine ⟨w1, σd, h1, fun y h2 => cmpD o d1 y h2 fun d h3 => truthD d h3 fun k => QD k h3, rfl, rel1, rs.mono x1, q1, fun w2 h2 d2 v2 x2 rel2 r2 q2 => ?_⟩
  refine ⟨w2, h2, d1, d2, _, rfl, rel2, r1.mono x2, r2, cmpD_bl q2, fun w3 h3 d3 v3 x3 rel3 r3 q3 => ?_⟩
  obtain ⟨q3, eh, k, rfl⟩ := q3
  cases r3
  exact ⟨k, rfl, post w3 h3 k ((x1.trans x2).trans x3) rel3 q3⟩
theorem chain_post {o p : CmpOp} {σ : L2.St} {H : Hp} {Q : VK} {w : Wd} {σd : Sl} {hd : Hd} {QD : Pq} (eH : w.H = H) (rel : RelW X.K w hd) (rs : RSl X.K w σd σ)
    (q : wa σd hd fun x h1 => wb σd h1 fun y h2 => cmpD o x y h2 fun z h3 => boolD z fun k => if k = true then wc σd h3 fun v h4 => cmpD p y v h4 QD else QD (.bl false) h3) (post : Post X.K w hd QD Q) :
    tChain (R2of X.K (cmpD o)) (R2of X.K (cmpD p)) (liftE X.K wa) (liftE X.K wb) (liftE X.K wc) σ H Q := by
  refine ⟨w, σd, hd, _, eH, rel, rs, q, fun w1 h1 d1 v1 x1 rel1 r1 q1 => ?_⟩
  refine ⟨w1, σd, h1, _, rfl, rel1, rs.mono x1, q1, fun w2 h2 d2 v2 x2 rel2 r2 q2 => ?_⟩
  refine ⟨w2, h2, d1, d2, _, rfl, rel2, r1.mono x2, r2, q2, fun w3 h3 d3 v3 x3 rel3 r3 q3 => ?_⟩
  unfold boolD at q3
  split at q3
  · rename_i k
    cases r3
    refine ⟨k, rfl, ?_⟩
    cases k with
    | false =>
      rw [if_neg Bool.false_ne_true] at q3 ⊢
      exact post w3 h3 _ _ ((x1.trans x2).trans x3) rel3 (.bl false) q3
    | true =>
      rw [if_pos rfl] at q3 ⊢
      refine ⟨w3, σd, h3, _, rfl, rel3, ((rs.mono x1).mono x2).mono x3, q3, fun w4 h4 d4 v4 x4 rel4 r4 q4 => ?_⟩
      exact ⟨w4, h4, d2, d4, _, rfl, rel4, (r2.mono x3).mono x4, r4, q4, post.ext (((x1.trans x2).trans x3).trans x4)⟩
  · exact q3.elim
theorem l_chn {o p : CmpOp} (hu : X.A.units + 65 < cLine) (hm : lastMarks [o, p] [e2, e3] = false) (ha : PE X e1 (liftE X.K wa)) (hb : PE X e2 (liftE X.K wb)) (hc : PE X e3 (liftE X.K wc)) :
    PE X (.Compare e1 [o, p] [e2, e3] pos) (liftE X.K fun σ h Q => wa σ h fun x h1 => wb σ h1 fun y h2 => cmpD o x y h2 fun z h3 => boolD z fun k => if k = true then wc σ h3 fun v h4 => cmpD p y v h4 Q else Q (.bl false) h3) :=
  pe_imp (pe_chain (o_cmp hu o) (o_cmp hu p) ha hb hc hm) fun σ H Q ⟨w, σd, hd, QD, eH, rel, rs, q, post⟩ => chain_post eH rel rs q post
theorem lt_chn {o p : CmpOp} (hu : X.A.units + 65 < cLine) (hm : lastMarks [o, p] [e2, e3] = false) (ha : PE X e1 (liftE X.K wa)) (hb : PE X e2 (liftE X.K wb)) (hc : PE X e3 (liftE X.K wc)) :
    PT X (.Compare e1 [o, p] [e2, e3] pos) (liftT X.K fun σ h Q => wa σ h fun x h1 => wb σ h1 fun y h2 => cmpD o x y h2 fun z h3 => boolD z fun k => if k = true then wc σ h3 fun v h4 => cmpD p y v h4 fun d h5 => truthD d h5 fun k => Q k h5 else truthD (.bl false) h3 fun k => Q k h3) := by
  refine pt_imp (pt_chain (o_cmp hu o) (o_cmp hu p) ha hb hc hm) fun σ H Q ⟨w, σd, hd, QD, eH, rel, rs, q, post⟩ => ?_
  refine ⟨w, σd, hd, _, eH, rel, rs, q, fun w1 h1 d1 v1 x1 rel1 r1 q1 => ?_⟩
  refine ⟨w1, σd, h1, _, rfl, rel1, rs.mono x1, q1, fun w2 h2 d2 v2 x2 rel2 r2 q2 => ?_⟩
  refine ⟨w2, h2, d1, d2, _, rfl, rel2, r1.mono x2, r2, q2, fun w3 h3 d3 v3 x3 rel3 r3 q3 => ?_⟩
  unfold boolD at q3
  split at q3
  · rename_i k
    cases r3
    refine ⟨k, rfl, ?_⟩
    cases k with
    | false =>
      rw [if_neg Bool.false_ne_true] at q3 ⊢
      exact ⟨false, rfl, post w3 h3 false ((x1.trans x2).trans x3) rel3 q3⟩
    | true =>
      rw [if_pos rfl] at q3 ⊢
      refine ⟨w3, σd, h3, _, rfl, rel3, ((rs.mono x1).mono x2).mono x3, q3, fun w4 h4 d4 v4 x4 rel4 r4 q4 => ?_⟩
      refine ⟨w4, h4, d2, d4, _, rfl, rel4, (r2.mono x3).mono x4, r4, cmpD_bl q4, fun w5 h5 d5 v5 x5 rel5 r5 q5 => ?_⟩
      obtain ⟨q5, eh, k, rfl⟩ := q5
      cases r5
      exact ⟨k, rfl, post w5 h5 k ((((x1.trans x2).trans x3).trans x4).trans x5) rel5 q5⟩
  · exact q3.elim
theorem boolD_of {K : PySem.W.Frag} {w : Wd} {d : D} {v : V} {Q : Bool → Prop} (r : RD K w d v) (q : boolD d Q) : ∃ k, v = .bl k ∧ Q k := by
  unfold boolD at q
  split at q
  · cases r; exact ⟨_, rfl, q⟩
  · exact q.elim
theorem l_not (ha : PE X e1 (liftE X.K wa)) : PE X (.UnaryOp .Not e1 pos) (liftE X.K fun σ h Q => wa σ h fun x h1 => boolD x fun k => Q (.bl (!k)) h1) := by
  refine pe_imp (pe_not ha) fun σ H Q ⟨w, σd, hd, QD, eH, rel, rs, q, post⟩ => ?_
  refine ⟨w, σd, hd, _, eH, rel, rs, q, fun w1 h1 d1 v1 x1 rel1 r1 q1 => ?_⟩
  obtain ⟨k, rfl, q1⟩ := boolD_of r1 q1
  exact ⟨k, rfl, post w1 h1 _ _ x1 rel1 (.bl _) q1⟩
theorem l_and {rest : List Expr} (ha : PE X e1 (liftE X.K wa)) (hb : PE X (.BoolOp .And (e2 :: rest) pos) (liftE X.K wb)) :
    PE X (.BoolOp .And (e1 :: e2 :: rest) pos) (liftE X.K fun σ h Q => wa σ h fun x h1 => boolD x fun k => if k = true then wb σ h1 Q else Q (.bl false) h1) := by
  refine pe_imp (pe_and ha hb) fun σ H Q ⟨w, σd, hd, QD, eH, rel, rs, q, post⟩ => ?_
  refine ⟨w, σd, hd, _, eH, rel, rs, q, fun w1 h1 d1 v1 x1 rel1 r1 q1 => ?_⟩
  obtain ⟨k, rfl, q1⟩ := boolD_of r1 q1
  refine ⟨k, rfl, ?_⟩
  cases k with
  | false => exact post w1 h1 _ _ x1 rel1 (.bl _) q1
  | true => exact ⟨w1, σd, h1, QD, rfl, rel1, rs.mono x1, q1, post.ext x1⟩
theorem l_or {rest : List Expr} (ha : PE X e1 (liftE X.K wa)) (hb : PE X (.BoolOp .Or (e2 :: rest) pos) (liftE X.K wb)) :
    PE X (.BoolOp .Or (e1 :: e2 :: rest) pos) (liftE X.K fun σ h Q => wa σ h fun x h1 => boolD x fun k => if k = true then Q (.bl true) h1 else wb σ h1 Q) := by
  refine pe_imp (pe_or ha hb) fun σ H Q ⟨w, σd, hd, QD, eH, rel, rs, q, post⟩ => ?_
  refine ⟨w, σd, hd, _, eH, rel, rs, q, fun w1 h1 d1 v1 x1 rel1 r1 q1 => ?_⟩
  obtain ⟨k, rfl, q1⟩ := boolD_of r1 q1
  refine ⟨k, rfl, ?_⟩
  cases k with
  | true => exact post w1 h1 _ _ x1 rel1 (.bl _) q1
  | false => exact ⟨w1, σd, h1, QD, rfl, rel1, rs.mono x1, q1, post.ext x1⟩
theorem l_orV {rest : List Expr} (ha : PE X e1 (liftE X.K wa)) (hb : PE X (.BoolOp .Or (e2 :: rest) pos) (liftE X.K wb)) :
    PE X (.BoolOp .Or (e1 :: e2 :: rest) pos) (liftE X.K fun σ h Q => wa σ h fun x h1 => truthD x h1 fun k => if k = true then Q x h1 else wb σ h1 Q) := by
  refine pe_imp (pe_orT ha hb) fun σ H Q ⟨w, σd, hd, QD, eH, rel, rs, q, post⟩ => ?_
  refine ⟨w, σd, hd, _, eH, rel, rs, q, fun w1 h1 d1 v1 x1 rel1 r1 q1 => ?_⟩
  obtain ⟨k, e, q1⟩ := truth_of rel1 r1 q1
  refine ⟨k, e, ?_⟩
  cases k with
  | true => exact post w1 h1 _ _ x1 rel1 r1 q1
  | false => exact ⟨w1, σd, h1, QD, rfl, rel1, rs.mono x1, q1, post.ext x1⟩
theorem l_ife (hc : PT X e3 (liftT X.K ta)) (ha : PE X e1 (liftE X.K wa)) (hb : PE X e2 (liftE X.K wb)) : PE X (.IfExp e3 e1 e2 pos) (liftE X.K fun σ h Q => ta σ h fun k h1 => if k = true then wa σ h1 Q else wb σ h1 Q) := by
  refine pe_imp (pe_ifExp hc ha hb) fun σ H Q ⟨w, σd, hd, QD, eH, rel, rs, q, post⟩ => ?_
  refine ⟨w, σd, hd, _, eH, rel, rs, q, fun w1 h1 k x1 rel1 q1 => ?_⟩
  cases k with
  | true => exact ⟨w1, σd, h1, QD, rfl, rel1, rs.mono x1, q1, post.ext x1⟩
  | false => exact ⟨w1, σd, h1, QD, rfl, rel1, rs.mono x1, q1, post.ext x1⟩
/-! tests -/
theorem lt_val (h : ptv e = true) (ha : PE X e (liftE X.K wa)) : PT X e (liftT X.K fun σ h Q => wa σ h fun d h1 => truthD d h1 fun k => Q k h1) := by
  refine pt_imp (pt_truth ha (true_ptv h)) fun σ H Q ⟨w, σd, hd, QD, eH, rel, rs, q, post⟩ => ?_
  refine ⟨w, σd, hd, _, eH, rel, rs, q, fun w1 h1 d1 v1 x1 rel1 r1 q1 => ?_⟩
  obtain ⟨k, t, q⟩ := truth_of rel1 r1 q1
  exact ⟨k, t, post w1 h1 k x1 rel1 q⟩
theorem lt_not (ha : PT X e (liftT X.K ta)) : PT X (.UnaryOp .Not e pos) (liftT X.K fun σ h Q => ta σ h fun k h1 => Q (!k) h1) := by
  refine pt_imp (pt_not ha) fun σ H Q ⟨w, σd, hd, QD, eH, rel, rs, q, post⟩ => ?_
  exact ⟨w, σd, hd, _, eH, rel, rs, q, fun w1 h1 k x1 rel1 q1 => post w1 h1 _ x1 rel1 q1⟩
theorem lt_and {rest : List Expr} (ha : PT X e1 (liftT X.K ta)) (hb : PW X (.BoolOp .And (e2 :: rest) pos) (liftT X.K tb)) :
    PW X (.BoolOp .And (e1 :: e2 :: rest) pos) (liftT X.K fun σ h Q => ta σ h fun k h1 => if k = true then tb σ h1 Q else Q false h1) := by
  refine pw_imp (pw_and ha hb) fun σ H Q ⟨w, σd, hd, QD, eH, rel, rs, q, post⟩ => ?_
  refine ⟨w, σd, hd, _, eH, rel, rs, q, fun w1 h1 k x1 rel1 q1 => ?_⟩
  cases k with
  | false => exact post w1 h1 _ x1 rel1 q1
  | true => exact ⟨w1, σd, h1, QD, rfl, rel1, rs.mono x1, q1, post.ext x1⟩
theorem lt_or {rest : List Expr} (ha : PT X e1 (liftT X.K ta)) (hb : PW X (.BoolOp .Or (e2 :: rest) pos) (liftT X.K tb)) :
    PW X (.BoolOp .Or (e1 :: e2 :: rest) pos) (liftT X.K fun σ h Q => ta σ h fun k h1 => if k = true then Q true h1 else tb σ h1 Q) := by
  refine pw_imp (pw_or ha hb) fun σ H Q ⟨w, σd, hd, QD, eH, rel, rs, q, post⟩ => ?_
  refine ⟨w, σd, hd, _, eH, rel, rs, q, fun w1 h1 k x1 rel1 q1 => ?_⟩
  cases k with
  | true => exact post w1 h1 _ x1 rel1 q1
  | false => exact ⟨w1, σd, h1, QD, rfl, rel1, rs.mono x1, q1, post.ext x1⟩
/-! lists of expressions -/
theorem la_nil : PA X [] (liftA X.K 0 fun _ h Q => Q [] h) :=
  pa_imp pa_nil fun σ H Q ⟨w, σd, hd, QD, eH, rel, rs, q, post⟩ => by subst eH; exact post w hd [] [] (Ext.refl w hd) rel .nil rfl q
theorem la_cons {n : Nat} (hp : pl e = true) (ha : PE X e (liftE X.K wa)) (hr : PA X es (liftA X.K n wl)) : PA X (e :: es) (liftA X.K (n + 1) fun σ h Q => wa σ h fun d h1 => wl σ h1 fun ds h2 => Q (d :: ds) h2) := by
  refine pa_imp (pa_cons ha hr (star_pl hp)) fun σ H Q ⟨w, σd, hd, QD, eH, rel, rs, q, post⟩ => ?_
  refine ⟨w, σd, hd, _, eH, rel, rs, q, fun w1 h1 d1 v1 x1 rel1 r1 q1 => ?_⟩
  exact ⟨w1, σd, h1, _, rfl, rel1, rs.mono x1, q1, fun w2 h2 ds vs x2 rel2 r2 l2 q2 => post w2 h2 _ _ (x1.trans x2) rel2 (.cons (r1.mono x2) r2) (by rw [List.length_cons, l2]) q2⟩
theorem lk_nil : PK X [] (liftA X.K 0 fun _ h Q => Q [] h) :=
  pk_imp pk_nil fun σ H Q ⟨w, σd, hd, QD, eH, rel, rs, q, post⟩ => by subst eH; exact post w hd [] [] (Ext.refl w hd) rel .nil rfl q
theorem lk_cons {n : Nat} {nm : Option Str} {kpos : Pos} {kws : List Keyword} (ha : PE X e (liftE X.K wa)) (hr : PK X kws (liftA X.K n wl)) : PK X (⟨nm, e, kpos⟩ :: kws) (liftA X.K (n + 1) fun σ h Q => wa σ h fun d h1 => wl σ h1 fun ds h2 => Q (d :: ds) h2) := by
  refine pk_imp (pk_cons ha hr) fun σ H Q ⟨w, σd, hd, QD, eH, rel, rs, q, post⟩ => ?_
  refine ⟨w, σd, hd, _, eH, rel, rs, q, fun w1 h1 d1 v1 x1 rel1 r1 q1 => ?_⟩
  exact ⟨w1, σd, h1, _, rfl, rel1, rs.mono x1, q1, fun w2 h2 ds vs x2 rel2 r2 l2 q2 => post w2 h2 _ _ (x1.trans x2) rel2 (.cons (r1.mono x2) r2) (by rw [List.length_cons, l2]) q2⟩
/-- the length of what a list of expressions comes to -/
theorem small_len {n : Nat} (h : n ≤ 1000) : n ≤ sizeLine := Nat.le_of_lt (small1000 h)
theorem l_tup {kk n : Nat} (hl : n ≤ 1000) (ha : PA X es (liftA X.K n wl)) : PE X (.Tuple es kk pos) (liftE X.K fun σ h Q => wl σ h fun ds h1 => Q (.tup ds) h1) := by
  refine pe_imp (pe_tup ha) fun σ H Q ⟨w, σd, hd, QD, eH, rel, rs, q, post⟩ => ?_
  refine ⟨w, σd, hd, _, eH, rel, rs, q, fun w1 h1 ds vs x1 rel1 r1 l1 q1 => ⟨by rw [← r1.length, l1]; exact small_len hl, fun p hp => ?_⟩⟩
  exact post_tup rel1 hp r1 (by rw [l1]; exact small_len hl) q1 (post.ext x1)
theorem l_lst {n : Nat} (hl : n ≤ 1000) (ha : PA X es (liftA X.K n wl)) : PE X (.List es pos) (liftE X.K fun σ h Q => wl σ h fun ds h1 => Q (.lst ds) h1) := by
  refine pe_imp (pe_lst ha) fun σ H Q ⟨w, σd, hd, QD, eH, rel, rs, q, post⟩ => ?_
  refine ⟨w, σd, hd, _, eH, rel, rs, q, fun w1 h1 ds vs x1 rel1 r1 l1 q1 => ⟨by rw [← r1.length, l1]; exact small_len hl, fun p hp => ?_⟩⟩
  exact post_lst rel1 hp r1 (by rw [l1]; exact small_len hl) q1 (post.ext x1)
theorem l_new {n : Nat} (hl : n ≤ 1000) (ha : PA X es (liftA X.K n wl)) : PE X (.List es pos) (liftE X.K fun σ h Q => wl σ h fun ds h1 => ∀ n, h1 n = none → Q (.ref n) (h1.set n (.lst ds))) := by
  refine pe_imp (pe_lst ha) fun σ H Q ⟨w, σd, hd, QD, eH, rel, rs, q, post⟩ => ?_
  refine ⟨w, σd, hd, _, eH, rel, rs, q, fun w1 h1 ds vs x1 rel1 r1 l1 q1 => ⟨by rw [← r1.length, l1]; exact small_len hl, fun p hp => ?_⟩⟩
  exact post_new rel1 hp r1 (by rw [l1]; exact small_len hl) q1 (post.ext x1)
theorem l_sub (hu : X.A.units + 1 < cLine) (hp : pl e2 = true) (ha : PE X e1 (liftE X.K wa)) (hb : PE X e2 (liftE X.K wb)) : PE X (.Subscript e1 e2 pos) (liftE X.K fun σ h Q => wa σ h fun x h1 => wb σ h1 fun y h2 => subsD x y h2 Q) :=
  pe_imp (pe_ix (o_subs hu) ha hb (ix_pl hp)) lift2
/-! slices -/
abbrev WO := Sl → Hd → (Option Int → Hd → Prop) → Prop
def liftO (K : PySem.W.Frag) (wp : WO) : TO := fun σ H Q => ∃ w σd h QD, w.H = H ∧ RelW K w h ∧ RSl K w σd σ ∧ wp σd h QD ∧ ∀ w' h' o, Ext w w' h h' → RelW K w' h' → QD o h' → Q o w'.H
theorem po_imp {eo : Option Expr} {t t' : TO} (p : PO X eo t) (i : ∀ σ H Q, t' σ H Q → t σ H Q) : PO X eo t' := ⟨fun pins s σ H Q I h => p.run pins s σ H Q I (i σ H Q h)⟩
theorem lo_none : PO X none (liftO X.K fun _ h Q => Q none h) := po_imp po_none fun σ H Q ⟨w, σd, hd, QD, eH, rel, rs, q, post⟩ => by subst eH; exact post w hd none (Ext.refl w hd) rel q
theorem intO_of {K : PySem.W.Frag} {w : Wd} {d : D} {v : V} {Q : Int → Prop} (r : RD K w d v) (q : intO d Q) : ∃ k, v = .int k ∧ Q k := by
  unfold intO at q
  split at q
  · cases r; exact ⟨_, rfl, q⟩
  · exact q.elim
theorem lo_some (ha : PE X e (liftE X.K wa)) : PO X (some e) (liftO X.K fun σ h Q => wa σ h fun d h1 => intO d fun i => Q (some i) h1) := by
  refine po_imp (po_some ha) fun σ H Q ⟨w, σd, hd, QD, eH, rel, rs, q, post⟩ => ?_
  refine ⟨w, σd, hd, _, eH, rel, rs, q, fun w1 h1 d1 v1 x1 rel1 r1 q1 => ?_⟩
  obtain ⟨i, rfl, q1⟩ := intO_of r1 q1
  exact ⟨i, rfl, post w1 h1 _ x1 rel1 q1⟩
theorem l_sl {lo hi : Option Expr} {p2 : Pos} {wl wh : WO} (ha : PE X e (liftE X.K wa)) (hl : PO X lo (liftO X.K wl)) (hh : PO X hi (liftO X.K wh)) :
    PE X (.Subscript e (.Slice lo hi none p2) pos) (liftE X.K fun σ h Q => wa σ h fun x h1 => wl σ h1 fun l h2 => wh σ h2 fun u h3 => sliceD x l u h3 Q) := by
  refine pe_imp (pe_slice o_slice ha hl hh) fun σ H Q ⟨w, σd, hd, QD, eH, rel, rs, q, post⟩ => ?_
  refine ⟨w, σd, hd, _, eH, rel, rs, q, fun w1 h1 d1 v1 x1 rel1 r1 q1 => ?_⟩
  refine ⟨w1, σd, h1, _, rfl, rel1, rs.mono x1, q1, fun w2 h2 l x2 rel2 q2 => ?_⟩
  refine ⟨w2, σd, h2, _, rfl, rel2, (rs.mono x1).mono x2, q2, fun w3 h3 u x3 rel3 q3 => ?_⟩
  exact ⟨w3, h3, d1, QD, rfl, rel3, (r1.mono x2).mono x3, q3, post.ext ((x1.trans x2).trans x3)⟩
def RSN (K : PySem.W.Frag) : V → Option Int → Option Int → Hp → VK → Prop := fun x lo hi H Q => ∃ w h a QD, w.H = H ∧ RelW K w h ∧ RD K w a x ∧ sliceN a lo hi h QD ∧ Post K w h QD Q
theorem o_sliceN : SlR X (RSN X.K) := by
  intro pins s σ H x v vl vu lo hi sl Q I rx hs pl pu hq
  obtain ⟨w, h, a, QD, rfl, rel, ra, o, post⟩ := hq
  unfold sliceN at o
  split at o
  · rename_i ds e
    obtain ⟨p, xs, rfl, e2, rs, ll⟩ := view_lst rel ra e
    exact sl_list pins s σ _ _ v vl vu lo hi sl Q I rx hs pl pu ⟨p, xs, rfl, .inl (.inl e2), fun l hl => post_new rel hl (rs.cut lo hi) (Nat.le_trans (cutD_length ds lo hi) ll) o post⟩
  · exact o.elim
theorem l_slN {lo hi : Option Expr} {p2 : Pos} {wl wh : WO} (ha : PE X e (liftE X.K wa)) (hl : PO X lo (liftO X.K wl)) (hh : PO X hi (liftO X.K wh)) :
    PE X (.Subscript e (.Slice lo hi none p2) pos) (liftE X.K fun σ h Q => wa σ h fun x h1 => wl σ h1 fun l h2 => wh σ h2 fun u h3 => sliceN x l u h3 Q) := by
  refine pe_imp (pe_slice o_sliceN ha hl hh) fun σ H Q ⟨w, σd, hd, QD, eH, rel, rs, q, post⟩ => ?_
  refine ⟨w, σd, hd, _, eH, rel, rs, q, fun w1 h1 d1 v1 x1 rel1 r1 q1 => ?_⟩
  refine ⟨w1, σd, h1, _, rfl, rel1, rs.mono x1, q1, fun w2 h2 l x2 rel2 q2 => ?_⟩
  refine ⟨w2, σd, h2, _, rfl, rel2, (rs.mono x1).mono x2, q2, fun w3 h3 u x3 rel3 q3 => ?_⟩
  exact ⟨w3, h3, d1, QD, rfl, rel3, (r1.mono x2).mono x3, q3, post.ext ((x1.trans x2).trans x3)⟩
theorem o_catN : OpR X (binaryOp .Add) (R2of X.K catN) := by
  intro pins s σ H x y v u Q I rx ry hq
  obtain ⟨w, h, a, b, QD, rfl, rel, ra, rb, o, post⟩ := hq
  unfold catN at o
  split at o
  · rename_i i j e1 e2
    obtain ⟨p, xs, rfl, hp, rs, l1⟩ := view_lst rel ra e1
    obtain ⟨q, ys, rfl, hq, ss, l2⟩ := view_lst rel rb e2
    exact op_cat pins s σ _ _ _ v u Q I rx ry ⟨p, q, xs, ys, rfl, rfl, hp, hq, by rw [← rs.length, ← ss.length]; exact o.1, fun l hl => post_new rel hl (rs.append ss) (by rw [List.length_append]; exact o.1) o.2 post⟩
  · exact o.elim
theorem l_addN (ha : PE X e1 (liftE X.K wa)) (hb : PE X e2 (liftE X.K wb)) : PE X (.BinOp e1 .Add e2 pos) (liftE X.K fun σ h Q => wa σ h fun x h1 => wb σ h1 fun y h2 => catN x y h2 Q) :=
  pe_imp (pe_op o_catN ha hb) lift2
theorem l_rev {n : Bool} {kk : Nat} {p1 p2 p3 : Pos} (ha : PE X e (liftE X.K wa)) : PE X (.Subscript e (.Slice none none (some (.UnaryOp .USub (.Constant (.int 1) kk p1) p2)) p3) pos) (liftE X.K fun σ h Q => wa σ h fun x h1 => match view h1 x with
    | .lst ds => listed n ds.reverse h1 Q
    | .tup ds => Q (.tup ds.reverse) h1
    | _ => False) := by
  refine pe_imp (pe_revA ha) fun σ H Q ⟨w, σd, hd, QD, eH, rel, rs, q, post⟩ => ?_
  refine ⟨w, σd, hd, _, eH, rel, rs, q, fun w1 h1 d1 v1 x1 rel1 r1 q1 => ?_⟩
  split at q1
  · rename_i ds ed
    obtain ⟨a, xs, rfl, e2, rr, ll⟩ := view_lst rel1 r1 ed
    refine ⟨a, xs, rfl, .inl ⟨.inl (.inl e2), fun p hp => ?_⟩⟩
    cases n with
    | false => exact post_lst rel1 hp rr.reverse (by rw [List.length_reverse]; exact ll) q1 (post.ext x1)
    | true => exact post_new rel1 hp rr.reverse (by rw [List.length_reverse]; exact ll) q1 (post.ext x1)
  · rename_i ds ed
    obtain ⟨a, xs, rfl, e2, rr, ll⟩ := view_tup r1 ed
    exact ⟨a, xs, rfl, .inr ⟨e2.sq, fun p hp => post_tup rel1 hp rr.reverse (by rw [List.length_reverse]; exact ll) q1 (post.ext x1)⟩⟩
  · exact q1.elim
/-! calls -/
theorem l_blt (hs : ∃ o, X.base.get? sysModules = some o) (hc : X.calm = true) (hg : X.A.guards = some []) (hu : X.A.units + 70 < cLine) {b : Bl} {p : Pos} (gl : Gl X b.name) (hm : X.mg b.name = none) (hp : pl e = true) (hps : es.all pl = true) {n : Nat} (ha : PA X (e :: es) (liftA X.K n wl)) :
    PE X (.Call (.Name b.name p) (e :: es) [] pos) (liftE X.K fun σ h Q => wl σ h fun ds h1 => bltD b ds h1 Q) := by
  have base : PE X (.Call (.Name b.name p) (e :: es) [] pos) (tCB (RNof X.K (bltD b)) (liftA X.K n wl)) := by
    have hc' := o_blt (X := X) hs hc hg hu b
    have bo := b.boot
    generalize hv : b.val = v at hc' bo
    cases b <;> cases hv <;> first
      | exact pe_callB hc' gl hm bo ha (Bl.nn _) (Bl.nd _) (star_pl hp) (star_all hps)
      | exact pe_callTy hc' gl hm bo ha (Bl.nn _) (Bl.nd _) (star_pl hp) (star_all hps)
  refine pe_imp base fun σ H Q ⟨w, σd, hd, QD, eH, rel, rs, q, post⟩ => ?_
  exact ⟨w, σd, hd, _, eH, rel, rs, q, fun w1 h1 ds vs x1 rel1 r1 _ q1 => ⟨w1, h1, ds, QD, rfl, rel1, r1, q1, post.ext x1⟩⟩
theorem l_mth0 {m : Mt} {apos : Pos} (hb : nsup e = true) (hl : (apos.endLine == pos.line) = true) (ha : PE X e (liftE X.K wa)) :
    PE X (.Call (.Attribute e m.name apos) [] [] pos) (liftE X.K fun σ h Q => wa σ h fun x h1 => tyD m x h1 ∧ mthD m x [] h1 Q) := by
  refine pe_imp (pe_bm0 m.pa m.slot m.ty (o_mth m) ha (base_nsup hb) hl) fun σ H Q ⟨w, σd, hd, QD, eH, rel, rs, q, post⟩ => ?_
  exact ⟨w, σd, hd, _, eH, rel, rs, q, fun w1 h1 d1 v1 x1 rel1 r1 q1 => ⟨tyD_of m rel1 r1 q1.1, w1, h1, d1, [], QD, rfl, rel1, r1, .nil, q1.2, post.ext x1⟩⟩
theorem l_mth {m : Mt} {apos : Pos} (hb : nsup e = true) (hl : (apos.endLine == pos.line) = true) (hp : pl e1 = true) (hps : es.all pl = true) (hfew : es.length < 20) {n : Nat} (ha : PE X e (liftE X.K wa)) (hs : PA X (e1 :: es) (liftA X.K n wl)) :
    PE X (.Call (.Attribute e m.name apos) (e1 :: es) [] pos) (liftE X.K fun σ h Q => wa σ h fun x h1 => tyD m x h1 ∧ wl σ h1 fun ds h2 => mthD m x ds h2 Q) := by
  have few : ((backTo pos (starEach (e1 :: es) X.env)).all (fun x => !x.1) && (backToKw pos (keywordEach [] X.env)).all (fun x => x.1.isSome)
      && decide ((e1 :: es).length + ([] : List Keyword).length + (if ([] : List Keyword).isEmpty then 0 else 1) < 30)) = true := by
    rw [star_none (by rw [List.all_cons, hp, hps]; rfl)]
    have : decide ((e1 :: es).length + ([] : List Keyword).length + (if ([] : List Keyword).isEmpty then 0 else 1) < 30) = true := decide_eq_true (by simp; omega)
    rw [this]
    rfl
  refine pe_imp (pe_bm m.pa m.slot m.ty (o_mth m) ha hs (base_nsup hb) few hl (star_pl hp) (star_all hps)) fun σ H Q ⟨w, σd, hd, QD, eH, rel, rs, q, post⟩ => ?_
  refine ⟨w, σd, hd, _, eH, rel, rs, q, fun w1 h1 d1 v1 x1 rel1 r1 q1 => ⟨tyD_of m rel1 r1 q1.1, ?_⟩⟩
  exact ⟨w1, σd, h1, _, rfl, rel1, rs.mono x1, q1.2, fun w2 h2 ds vs x2 rel2 r2 _ q2 => ⟨w2, h2, d1, ds, QD, rfl, rel2, r1.mono x2, r2, q2, post.ext (x1.trans x2)⟩⟩
theorem l_call0 {k : Nat} {x : Str} {p : Pos} {ps : List Str} {sp : Spd} (F : FnAt X.prog X.w X.K X.mg X.base k x ps sp) (hr : Room k X.A) (hg : X.A.guards = some []) (gl : Gl X x) (hd : (x == ("__debug__" : Str)) = false) :
    PE X (.Call (.Name x p) [] [] pos) (liftE X.K fun σ h Q => sp [] h Q) := by
  obtain ⟨f, fd, hm, hk, hp, G⟩ := F.ex
  refine ⟨fun pins s σ H Q I hw => ?_⟩
  obtain ⟨w, σd, h, QD, eH, rel, rs, q, post⟩ := hw
  subst eH
  refine wpAny_Call_Name_kw (ld_glob I gl hm ?_ hd)
  exact PySem.W.callWith_K0 I.kIn hk (fn_call (us := []) G hr hg I (fn_binds hp (G.len _ _ _ q)) .nil rel .nil q post)
theorem l_call {k : Nat} {x : Str} {p : Pos} {ps : List Str} {sp : Spd} (F : FnAt X.prog X.w X.K X.mg X.base k x ps sp) (hr : Room k X.A) (hg : X.A.guards = some []) (gl : Gl X x) (hd : (x == ("__debug__" : Str)) = false) (hq : pl e = true) (hps : es.all pl = true) {n : Nat} (ha : PA X (e :: es) (liftA X.K n wl)) :
    PE X (.Call (.Name x p) (e :: es) [] pos) (liftE X.K fun σ h Q => wl σ h fun ds h1 => sp ds h1 Q) := by
  obtain ⟨f, fd, hm, hk, hp, G⟩ := F.ex
  refine ⟨fun pins s σ H Q I hw => ?_⟩
  obtain ⟨w, σd, h, QD, eH, rel, rs, q, post⟩ := hw
  subst eH
  refine wpAny_Call_Name_kw (ld_glob I gl hm ?_ hd)
  have hA := ha.run pos pins s σ w.H (fun vs H1 => ∃ w1 h1 ds, w1.H = H1 ∧ RelW X.K w1 h1 ∧ RDs X.K w1 ds vs ∧ sp ds h1 QD ∧ Post X.K w1 h1 QD Q) I
    ⟨w, σd, h, _, rfl, rel, rs, q, fun w1 h1 ds vs x1 rel1 r1 _ q1 => ⟨w1, h1, ds, rfl, rel1, r1, q1, post.ext x1⟩⟩
  refine PySem.W.callWith_K (h₀ := X.base) I.ok.mod.kin hk (thn hA fun us s1 ⟨vs, H1, I1, r, q⟩ => ⟨I1.kIn, ?_⟩) (star_pl hq) (star_all hps)
  obtain ⟨w1, h1, ds, rfl, rel1, r1, q1, post1⟩ := q
  have hl : us.length = ps.length := by rw [← r.length, ← r1.length]; exact G.len _ _ _ q1
  exact fn_call G hr hg I1 (fn_binds hp hl) r rel1 r1 q1 post1
theorem kw_names {kws : List Keyword} {ks : List Str} {env : Env} (h : kws.map (·.arg) = ks.map some) : (backToKw pos (keywordEach kws env)).all (·.1.isSome) = true ∧ (backToKw pos (keywordEach kws env)).filterMap (·.1) = ks ∧ (backToKw pos (keywordEach kws env)).any (·.1.isNone) = false := by
  induction kws generalizing ks with
  | nil =>
    cases ks with
    | nil => exact ⟨rfl, rfl, rfl⟩
    | cons _ _ => cases h
  | cons kw kws ih =>
    cases ks with
    | nil => cases h
    | cons k ks =>
      obtain ⟨nm, v, p⟩ := kw
      simp only [List.map_cons, List.cons.injEq] at h
      obtain ⟨h1, h2⟩ := h
      subst h1
      obtain ⟨i1, i2, i3⟩ := ih h2
      refine ⟨?_, ?_, ?_⟩
      · show (true && (backToKw pos (keywordEach kws env)).all (·.1.isSome)) = true
        rw [i1]; rfl
      · show k :: (backToKw pos (keywordEach kws env)).filterMap (·.1) = k :: ks
        rw [i2]
      · show (false || (backToKw pos (keywordEach kws env)).any (·.1.isNone)) = false
        rw [i3]; rfl
theorem kw_step {k : Nat} {ps ks : List Str} {sp : Spd} {pm : List Nat} {f : Addr} {fd : FuncData} (G : FnG X.prog X.w X.K X.mg X.base k f fd ps sp) (hr : Room k X.A) (hg : X.A.guards = some [])
    (hp : fd.params.args.map (·.arg) = ps ∧ fd.params.posonlyargs = [] ∧ fd.params.vararg = none ∧ fd.params.kwonlyargs = [] ∧ fd.params.kwarg = none ∧ fd.defaults = .none ∧ ps.Nodup)
    {np : Nat} (hc : kwC ps np ks pm = true) {pins : List (Addr × Obj)} {σ : L2.St} {s : Shared} {w : Wd} {h : Hd} {ds fs : List D} {us ws : List Value} {vs zs : List V} {QD : Pq} {Q : VK} (hu : us.length = np) (hw : ws.length = ks.length)
    (I : Inv X pins σ w.H s) (r : Vals vs us) (rz : Vals zs ws) (rel : RelW X.K w h) (rd : RDs X.K w ds vs) (rf : RDs X.K w fs zs) (q : sp (pick (ds ++ fs) pm) h QD) (post : Post X.K w h QD Q) :
    wpAny (model X.prog X.w) X.A (call (.ref f) us (ks.zip ws)) (EP X pins σ Q) X.xe s :=
  fn_call G hr hg I (.of_eq (binds_kw hp.1 hp.2.1 hp.2.2.1 hp.2.2.2.1 hp.2.2.2.2.1 hp.2.2.2.2.2.1 hc hu hw)) (vals_pick (r.append rz) pm) rel ((rd.append rf).pick pm) q post
theorem l_callK0 {k : Nat} {x : Str} {p : Pos} {ps ks : List Str} {sp : Spd} {pm : List Nat} {kws : List Keyword} (F : FnAt X.prog X.w X.K X.mg X.base k x ps sp) (hr : Room k X.A) (hg : X.A.guards = some []) (gl : Gl X x) (hd : (x == ("__debug__" : Str)) = false)
    (hn : kws.map (·.arg) = ks.map some) (hc : kwC ps 0 ks pm = true) (hk : PK X kws (liftA X.K ks.length wl)) :
    PE X (.Call (.Name x p) [] kws pos) (liftE X.K fun σ h Q => wl σ h fun fs h2 => sp (pick ([] ++ fs) pm) h2 Q) := by
  obtain ⟨f, fd, hm, hkp, hp, G⟩ := F.ex
  refine ⟨fun pins s σ H Q I hw => ?_⟩
  obtain ⟨w, σd, h, QD, eH, rel, rs, q, post⟩ := hw
  subst eH
  refine wpAny_Call_Name_kw (ld_glob I gl hm ?_ hd)
  obtain ⟨n1, n2, n3⟩ := kw_names (pos := pos) (env := X.env) hn
  have hK := hk.run pos pins s σ w.H (fun zs H1 => ∃ w1 h1 fs, w1.H = H1 ∧ RelW X.K w1 h1 ∧ RDs X.K w1 fs zs ∧ fs.length = ks.length ∧ sp (pick ([] ++ fs) pm) h1 QD ∧ Post X.K w1 h1 QD Q) I
    ⟨w, σd, h, _, rfl, rel, rs, q, fun w1 h1 ds vs x1 rel1 r1 l1 q1 => ⟨w1, h1, ds, rfl, rel1, r1, l1, q1, post.ext x1⟩⟩
  refine PySem.W.callWith_KW0 (h₀ := X.base) I.ok.mod.kin hkp n1 (thn hK fun ws s1 ⟨zs, H1, I1, r, q⟩ => ⟨I1.kIn, ?_⟩) (by rw [n3]; rfl)
  rw [n2]
  obtain ⟨w1, h1, fs, rfl, rel1, r1, ln, q1, post1⟩ := q
  exact kw_step (us := []) (vs := []) (ds := []) G hr hg hp hc rfl (by rw [← r.length, ← r1.length]; exact ln) I1 .nil r rel1 .nil r1 q1 post1
theorem l_callK {k : Nat} {x : Str} {p : Pos} {ps ks : List Str} {sp : Spd} {pm : List Nat} {kws : List Keyword} (F : FnAt X.prog X.w X.K X.mg X.base k x ps sp) (hr : Room k X.A) (hg : X.A.guards = some []) (gl : Gl X x) (hd : (x == ("__debug__" : Str)) = false) (hq : pl e = true) (hps : es.all pl = true)
    (hn : kws.map (·.arg) = ks.map some) (hc : kwC ps (es.length + 1) ks pm = true) (ha : PA X (e :: es) (liftA X.K (es.length + 1) wl')) (hk : PK X kws (liftA X.K ks.length wl)) :
    PE X (.Call (.Name x p) (e :: es) kws pos) (liftE X.K fun σ h Q => wl' σ h fun ds h1 => wl σ h1 fun fs h2 => sp (pick (ds ++ fs) pm) h2 Q) := by
  obtain ⟨f, fd, hm, hkp, hp, G⟩ := F.ex
  refine ⟨fun pins s σ H Q I hw => ?_⟩
  obtain ⟨w, σd, h, QD, eH, rel, rs, q, post⟩ := hw
  subst eH
  refine wpAny_Call_Name_kw (ld_glob I gl hm ?_ hd)
  obtain ⟨n1, n2, n3⟩ := kw_names (pos := pos) (env := X.env) hn
  have hA := ha.run pos pins s σ w.H (fun vs H1 => ∃ w1 h1 ds, w1.H = H1 ∧ RelW X.K w1 h1 ∧ RSl X.K w1 σd σ ∧ RDs X.K w1 ds vs ∧ ds.length = es.length + 1 ∧ (wl σd h1 fun fs h2 => sp (pick (ds ++ fs) pm) h2 QD) ∧ Post X.K w1 h1 QD Q) I
    ⟨w, σd, h, _, rfl, rel, rs, q, fun w1 h1 ds vs x1 rel1 r1 l1 q1 => ⟨w1, h1, ds, rfl, rel1, rs.mono x1, r1, l1, q1, post.ext x1⟩⟩
  refine PySem.W.callWith_KW (h₀ := X.base) I.ok.mod.kin hkp n1 (thn hA fun us s1 ⟨vs, H1, I1, r, q⟩ => ?_) (by rw [n3, star_all (by rw [List.all_cons, hq, hps]; rfl)]; rfl) (star_pl hq)
  obtain ⟨w1, h1, ds, rfl, rel1, rs1, r1, l1, q1, post1⟩ := q
  have hK := hk.run pos pins s1 σ w1.H (fun zs H1 => ∃ w2 h2 fs, w2.H = H1 ∧ RelW X.K w2 h2 ∧ RDs X.K w2 ds vs ∧ RDs X.K w2 fs zs ∧ fs.length = ks.length ∧ sp (pick (ds ++ fs) pm) h2 QD ∧ Post X.K w2 h2 QD Q) I1
    ⟨w1, σd, h1, _, rfl, rel1, rs1, q1, fun w2 h2 fs vs' x2 rel2 r2 l2 q2 => ⟨w2, h2, fs, rfl, rel2, r1.mono x2, r2, l2, q2, post1.ext x2⟩⟩
  refine thn hK fun ws s2 ⟨zs, H2, I2, rz, q⟩ => ⟨I2.kIn, ?_⟩
  rw [n2]
  obtain ⟨w2, h2, fs, rfl, rel2, r1', r2, ln, q2, post2⟩ := q
  exact kw_step (us := us) G hr hg hp hc (by rw [← r.length, ← r1'.length]; exact l1) (by rw [← rz.length, ← r2.length]; exact ln) I2 r rz rel2 r1' r2 q2 post2
end
end G

/-! Targets, what is walked, comprehensions. -/
namespace G
open PySem PySem.Spec PyProof.Rows L2

/-! ### targets -/
def lenT : Tgs → Nat
  | .nil => 0
  | .cons _ ts => lenT ts + 1
/-- the slots besides those of a target stay -/
def Beside (vs : List Nat) (σ σ' : L2.St) : Prop := σ'.length = σ.length ∧ ∀ i, i ∉ vs → σ'[i]? = σ[i]?
theorem Beside.refl (vs : List Nat) (σ : L2.St) : Beside vs σ σ := ⟨rfl, fun _ _ => rfl⟩
theorem Beside.set {vs : List Nat} {σ : L2.St} {i : Nat} {v : V} (h : i ∈ vs) : Beside vs σ (σ.set i (some v)) :=
  ⟨by simp, fun j hj => List.getElem?_set_ne (fun z : i = j => hj (by rw [← z]; exact h))⟩
theorem Beside.trans {vs : List Nat} {σ σ1 σ2 : L2.St} (a : Beside vs σ σ1) (b : Beside vs σ1 σ2) : Beside vs σ σ2 := ⟨b.1.trans a.1, fun i hi => (b.2 i hi).trans (a.2 i hi)⟩
theorem Beside.mono {vs us : List Nat} {σ σ' : L2.St} (a : Beside vs σ σ') (h : ∀ i ∈ vs, i ∈ us) : Beside us σ σ' := ⟨a.1, fun i hi => a.2 i fun z => hi (h i z)⟩
theorem wipe_at (σ : L2.St) (vs : List Nat) (i : Nat) : (wipe σ vs)[i]? = if i ∈ vs then (if i < σ.length then some none else none) else σ[i]? := by
  induction vs with
  | nil => simp [wipe]
  | cons v vs ih =>
    unfold wipe
    by_cases h : v = i
    · subst h
      by_cases hl : v < σ.length
      · rw [List.getElem?_set_self (by rw [wipe_length]; exact hl)]
        simp [hl]
      · rw [List.getElem?_eq_none (by rw [List.length_set, wipe_length]; omega)]
        simp [hl]
    · rw [List.getElem?_set_ne h, ih]
      have : i ∈ v :: vs ↔ i ∈ vs := by simp [Ne.symm h]
      simp only [this]
theorem Beside.wipe {vs : List Nat} {σ σ' : L2.St} (a : Beside vs (L2.wipe σ vs) σ') : L2.wipe σ' vs = L2.wipe σ vs := by
  apply List.ext_getElem?
  intro i
  rw [wipe_at, wipe_at]
  have hl := a.1
  rw [wipe_length] at hl
  by_cases h : i ∈ vs
  · rw [if_pos h, if_pos h, hl]
  · rw [if_neg h, if_neg h, a.2 i h, wipe_at, if_neg h]
theorem RSl.wipe {K : PySem.W.Frag} {w : Wd} {σd : Sl} {σ : L2.St} (r : RSl K w σd σ) : ∀ vs : List Nat, RSl K w (wipeD σd vs) (L2.wipe σ vs)
  | [] => r
  | v :: vs => by
    have ih := RSl.wipe r vs
    refine ⟨by simpa [wipeD, L2.wipe] using ih.len, fun i d e => ?_⟩
    unfold wipeD at e
    unfold L2.wipe
    by_cases h : v = i
    · subst h
      by_cases hl : v < (wipeD σd vs).length
      · rw [List.getElem?_set_self hl] at e; cases e
      · rw [List.getElem?_eq_none (by simpa using hl)] at e; cases e
    · rw [List.getElem?_set_ne h] at e ⊢
      exact ih.at_ i d e
def liftG (K : PySem.W.Frag) (vs : List Nat) (g : D → Sl → (Sl → Prop) → Prop) : TG := fun v σ H Q => ∃ w σd h d QD, w.H = H ∧ RelW K w h ∧ RSl K w σd σ ∧ RD K w d v ∧ g d σd QD ∧ ∀ σd' σ', RSl K w σd' σ' → Beside vs σ σ' → QD σd' → Q σ' w.H
def liftGs (K : PySem.W.Frag) (vs : List Nat) (g : List D → Sl → (Sl → Prop) → Prop) : TGs := fun xs σ H Q => ∃ w σd h ds QD, w.H = H ∧ RelW K w h ∧ RSl K w σd σ ∧ RDs K w ds xs ∧ g ds σd QD ∧ ∀ σd' σ', RSl K w σd' σ' → Beside vs σ σ' → QD σd' → Q σ' w.H
theorem pg_imp {X : Cx} {e : Expr} {t t' : TG} (p : PG X e t) (i : ∀ v σ H Q, t' v σ H Q → t v σ H Q) : PG X e t' := ⟨fun pins s σ H v u Q I r h => p.run pins s σ H v u Q I r (i v σ H Q h)⟩
theorem pgs_imp {X : Cx} {e : List Expr} {t t' : TGs} (p : PGs X e t) (i : ∀ v σ H Q, t' v σ H Q → t v σ H Q) : PGs X e t' := ⟨fun pins s σ H v u Q I r h => p.run pins s σ H v u Q I r (i v σ H Q h)⟩
section
variable {X : Cx} {pos : Pos}
theorem lg_nm {i : Nat} {x : Str} (hN : X.N.Nodup) (hi : X.N[i]? = some x) (hx : Loc X.env.scope x) (hf : X.fn x = true ∨ X.env.scope.names.lookup x = some .local) : PG X (.Name x pos) (liftG X.K [i] fun d σ Q => Q (σ.set i (some d))) :=
  pg_imp (pg_name hN hi hx hf) fun v σ H Q ⟨w, σd, h, d, QD, eH, rel, rs, r, q, post⟩ => by
    subst eH
    exact post _ _ (rs.set r i) (Beside.set (by simp)) q
theorem asg_cons {e : Expr} {es : List Expr} {env : Env} (h : pl e = true) : (assignEach (e :: es) env).map (·.2) = assign e env :: (assignEach es env).map (·.2) ∧ (assignEach (e :: es) env).length = (assignEach es env).length + 1 ∧ ((assignEach es env).findIdx? (·.1) = none → (assignEach (e :: es) env).findIdx? (·.1) = none) := by
  have q : assignEach (e :: es) env = (false, assign e env) :: assignEach es env := by cases e <;> first | (cases h; done) | rfl
  rw [q]
  refine ⟨rfl, rfl, fun z => ?_⟩
  rw [List.findIdx?_cons]
  simp [z]
theorem lgs_nil : PGs X [] (liftGs X.K [] fun ds σ Q => match ds with
    | [] => Q σ
    | _ :: _ => False) :=
  pgs_imp pgs_nil fun xs σ H Q ⟨w, σd, h, ds, QD, eH, rel, rs, r, q, post⟩ => by
    subst eH
    cases r with
    | nil => exact ⟨rfl, post _ _ rs (Beside.refl _ _) q⟩
    | cons _ _ => exact False.elim q
theorem lgs_cons {e : Expr} {es : List Expr} {vs us : List Nat} {g : D → Sl → (Sl → Prop) → Prop} {gs : List D → Sl → (Sl → Prop) → Prop} (hp : pl e = true) (h1 : PG X e (liftG X.K vs g)) (h2 : PGs X es (liftGs X.K us gs)) :
    PGs X (e :: es) (liftGs X.K (vs ++ us) fun ds σ Q => match ds with
      | [] => False
      | d :: ds => g d σ fun σ' => gs ds σ' Q) :=
  pgs_imp (pgs_cons h1 h2 (asg_cons hp).1) fun xs σ H Q ⟨w, σd, h, ds, QD, eH, rel, rs, r, q, post⟩ => by
    subst eH
    cases r with
    | nil => exact False.elim q
    | cons r rr =>
      refine ⟨_, _, rfl, w, σd, h, _, _, rfl, rel, rs, r, q, fun σd1 σ1 rs1 b1 q1 => ?_⟩
      exact ⟨w, σd1, h, _, _, rfl, rel, rs1, rr, q1, fun σd2 σ2 rs2 b2 q2 => post σd2 σ2 rs2 ((b1.mono fun i hi => List.mem_append_left _ hi).trans (b2.mono fun i hi => List.mem_append_right _ hi)) q2⟩
theorem lg_tp {es : List Expr} {kk n : Nat} {vs : List Nat} {gs : List D → Sl → (Sl → Prop) → Prop} (hc : X.calm = true) (hn : (assignEach es X.env).length = n) (hst : (assignEach es X.env).findIdx? (·.1) = none) (hl : ∀ ds σ Q, gs ds σ Q → ds.length = n)
    (h : PGs X es (liftGs X.K vs gs)) : PG X (.Tuple es kk pos) (liftG X.K vs fun d σ Q => match d with
      | .tup ds => gs ds σ Q
      | _ => False) :=
  pg_imp (pg_tup hc h hn hst) fun v σ H Q ⟨w, σd, h, d, QD, eH, rel, rs, r, q, post⟩ => by
    subst eH
    cases r with
    | tup st ll rr => exact ⟨_, _, rfl, st.sq, by rw [← rr.length]; exact hl _ _ _ q, w, σd, h, _, QD, rfl, rel, rs, rr, q, post⟩
    | _ => exact False.elim q
end

/-! ### what is walked -/
structure ItOk (K : PySem.W.Frag) (w : Wd) (h : Hd) (ds : List D) (stay : Hd → Prop) (J : It) : Prop where
  len : ds.length ≤ sizeLine
  go : ∀ w2 h2, Ext w w2 h h2 → RelW K w2 h2 → stay h2 → ∀ i d, ds[i]? = some d → J.go i w2.H ∧ ∀ x H', J.yld i w2.H x H' → ∃ w3, w3.H = H' ∧ Ext w2 w3 h2 h2 ∧ RelW K w3 h2 ∧ RD K w3 d x
  stop : ∀ w2 h2, Ext w w2 h h2 → RelW K w2 h2 → stay h2 → J.stop ds.length w2.H
abbrev WI := Sl → Hd → (List D → (Hd → Prop) → Hd → Prop) → Prop
def liftI (K : PySem.W.Frag) (wi : WI) : TI := fun σ H R => ∃ w σd h QD, w.H = H ∧ RelW K w h ∧ RSl K w σd σ ∧ wi σd h QD ∧ ∀ w' h' ds stay J, Ext w w' h h' → RelW K w' h' → ItOk K w' h' ds stay J → QD ds stay h' → R J w'.H
theorem pi_imp {X : Cx} {tg e : Expr} {t t' : TI} (p : PI X tg e t) (i : ∀ σ H R, t' σ H R → t σ H R) : PI X tg e t' := ⟨fun pins s σ H R I h => p.run pins s σ H R I (i σ H R h)⟩
theorem itok_list {K : PySem.W.Frag} {w : Wd} {h : Hd} {a : Addr} {ds : List D} {stay : Hd → Prop} (l : ds.length ≤ sizeLine) (at_ : ∀ w2 h2, Ext w w2 h h2 → RelW K w2 h2 → stay h2 → ∃ xs, SqL K w2.H a xs ∧ RDs K w2 ds xs) : ItOk K w h ds stay (Itl K a) where
  len := l
  go := fun w2 h2 x rel st i d e => by
    obtain ⟨xs, s, rs⟩ := at_ w2 h2 x rel st
    obtain ⟨v, ev, rv⟩ := rs.get e
    refine ⟨⟨xs, v, s, ev⟩, fun y H' hy => ?_⟩
    obtain ⟨rfl, hy⟩ := hy
    have := hy xs s
    rw [ev] at this
    cases this
    exact ⟨w2, rfl, Ext.refl _ _, rel, rv⟩
  stop := fun w2 h2 x rel st => by
    obtain ⟨xs, s, rs⟩ := at_ w2 h2 x rel st
    exact ⟨xs, s, by rw [rs.length]; exact Nat.le_refl _⟩
theorem itok_tup {K : PySem.W.Frag} {w : Wd} {h : Hd} {a : Addr} {ds : List D} {xs : List V} (l : ds.length ≤ sizeLine) (st : STup K w a xs) (rs : RDs K w ds xs) : ItOk K w h ds (fun _ => True) (Itt K a) where
  len := l
  go := fun w2 h2 x rel _ i d e => by
    obtain ⟨v, ev, rv⟩ := (rs.mono x).get e
    refine ⟨⟨xs, v, (st.mono x).sq, ev⟩, fun y H' hy => ?_⟩
    obtain ⟨rfl, hy⟩ := hy
    have := hy xs (st.mono x).sq
    rw [ev] at this
    cases this
    exact ⟨w2, rfl, Ext.refl _ _, rel, rv⟩
  stop := fun w2 h2 x rel _ => ⟨xs, (st.mono x).sq, by rw [rs.length]; exact Nat.le_refl _⟩
theorem itok_rng {K : PySem.W.Frag} {w : Wd} {h : Hd} {lo : Int} {n : Nat} (l : n ≤ sizeLine) : ItOk K w h (rngD lo n) (fun _ => True) (Itr lo n) where
  len := by simpa [rngD] using l
  go := fun w2 h2 x rel _ i d e => by
    unfold rngD at e
    rw [List.getElem?_map] at e
    obtain ⟨j, ej, ed⟩ := Option.map_eq_some_iff.mp e
    have hi : i < n := by
      have := (List.getElem?_eq_some_iff.mp ej).1
      simpa using this
    rw [List.getElem?_range hi] at ej
    cases ej
    subst ed
    refine ⟨hi, fun y H' hy => ?_⟩
    obtain ⟨rfl, rfl⟩ := hy
    exact ⟨w2, rfl, Ext.refl _ _, rel, .int _⟩
  stop := fun w2 h2 x rel _ => by
    show n ≤ _
    simp [rngD]
section
variable {X : Cx} {tg : Expr}
/-- a list or a tuple -/
def iSeq (K : PySem.W.Frag) (tl : TE) : TI := fun σ H R => tl σ H fun x H1 => ∃ a, x = .ref a ∧ (((∃ xs, SqL K H1 a xs) ∧ R (Itl K a) H1) ∨ ((∃ xs, SqT K H1 a xs) ∧ R (Itt K a) H1))
theorem pi_seq {l : Expr} {tl : TE} (hl : PE X l tl) : PI X tg l (iSeq X.K tl) := by
  refine ⟨fun pins s σ H R I hw => thn (hl.run pins s σ H _ I hw) fun u s1 ⟨x, H1, J1, r1, a, ex, q⟩ => ?_⟩
  subst ex
  cases (show u = Value.ref a from r1)
  have fr : H1 s1.heap.objs.size = none := J1.hok.fresh (Nat.le_refl _)
  have one : ∀ b ∈ [s1.heap.objs.size], FpOk X pins H1 b := fun b hb => by
    rw [List.mem_singleton.mp hb]
    exact J1.fpOk (Nat.le_refl _) fr
  rcases q with ⟨⟨xs, hq⟩, q⟩ | ⟨⟨xs, hq⟩, q⟩
  · obtain ⟨its, _, pl, _⟩ := J1.list hq
    exact wpAny_pyIter_list pl.isList ⟨_, [s1.heap.objs.size], _, _, H1, rfl, J1.kept (t' := s1.toks) (fun b o e => Heap.get?_push_of_some _ e), turn_list a _, ⟨_, Heap.get?_push_size _ rfl, rfl, rfl⟩, one, q⟩
  · obtain ⟨its, _, pt, _⟩ := J1.tuple hq
    exact wpAny_pyIter_tuple (show s1.heap.IsTuple a its.toArray from pt) ⟨_, [s1.heap.objs.size], _, _, H1, rfl, J1.kept (t' := s1.toks) (fun b o e => Heap.get?_push_of_some _ e), turn_tuple a _, ⟨_, Heap.get?_push_size _ rfl, rfl, rfl⟩, one, q⟩
theorem li_seq {l : Expr} {wa : WE} (hl : PE X l (liftE X.K wa)) : PI X tg l (liftI X.K fun σ h R => wa σ h fun d h1 => seqI d h1 fun ds st => R ds st h1) := by
  refine pi_imp (pi_seq hl) fun σ H R ⟨w, σd, h, QD, eH, rel, rs, q, post⟩ => ?_
  refine ⟨w, σd, h, _, eH, rel, rs, q, fun w1 h1 d v x1 rel1 r1 q1 => ?_⟩
  unfold seqI at q1
  split at q1
  · cases r1 with
    | lst st ll rr =>
      refine ⟨_, rfl, .inl ⟨⟨_, .inl (.inl st.2)⟩, post w1 h1 _ _ _ x1 rel1 (itok_list ll fun w2 h2 x2 _ _ => ?_) q1⟩⟩
      exact ⟨_, .inl (.inl (x2.keep _ _ st.1 st.2)), rr.mono x2⟩
  · cases r1 with
    | tup st ll rr => exact ⟨_, rfl, .inr ⟨⟨_, st.sq⟩, post w1 h1 _ _ _ x1 rel1 (itok_tup ll st rr) q1⟩⟩
  · rename_i n
    split at q1
    · rename_i ds en
      obtain ⟨b, e1, xs, e2, rr, ll⟩ := rel1.has n _ en
      cases r1 with
      | ref e =>
        rw [e] at e1; cases e1
        refine ⟨_, rfl, .inl ⟨⟨_, .inl (.inl e2)⟩, post w1 h1 _ _ _ x1 rel1 (itok_list ll fun w2 h2 x2 rel2 st => ?_) q1⟩⟩
        obtain ⟨b', e1', xs', e2', rr', _⟩ := rel2.has n _ st
        rw [x2.m n _ e] at e1'; cases e1'
        exact ⟨xs', .inl (.inl e2'), rr'⟩
    · exact q1.elim
  · exact q1.elim
theorem li_rng1 {e : Expr} {p pos : Pos} {wa : WE} (hg : Gl X "range") (hm : X.mg "range" = none) (hp : pl e = true) (he : PE X e (liftE X.K wa)) :
    PI X tg (.Call (.Name "range" p) [e] [] pos) (liftI X.K fun σ h R => wa σ h fun d h1 => intO d fun n => (-4611686018427387904 ≤ n ∧ n ≤ 16777216) ∧ R (rngD 0 n.toNat) (fun _ => True) h1) := by
  refine pi_imp (pi_range1 hg hm (la_cons hp he la_nil) (star_pl hp)) fun σ H R ⟨w, σd, h, QD, eH, rel, rs, q, post⟩ => ?_
  refine ⟨w, σd, h, fun ds h1 => match ds with | [d] => (intO d fun n => (-4611686018427387904 ≤ n ∧ n ≤ 16777216) ∧ QD (rngD 0 n.toNat) (fun _ => True) h1) | _ => False, eH, rel, rs, q, fun w1 h1 ds vs x1 rel1 r1 _ q1 => ?_⟩
  match ds, r1, q1 with
  | [d], r1, q1 =>
    obtain ⟨v, rfl, r⟩ := rds1 r1
    obtain ⟨n, rfl, hb, q1⟩ := intO_of r q1
    have hs : sizeLine = 16777216 := sizeLine_eq
    exact ⟨n, rfl, by omega, by omega, post w1 h1 _ _ _ x1 rel1 (itok_rng (by omega)) q1⟩
theorem li_rng2 {e e2 : Expr} {p pos : Pos} {wa wb : WE} (hg : Gl X "range") (hm : X.mg "range" = none) (hp : pl e = true) (hp2 : pl e2 = true) (he : PE X e (liftE X.K wa)) (he2 : PE X e2 (liftE X.K wb)) :
    PI X tg (.Call (.Name "range" p) [e, e2] [] pos) (liftI X.K fun σ h R => wa σ h fun x h1 => wb σ h1 fun y h2 => intO x fun i => intO y fun j => ((-4611686018427387904 ≤ i ∧ i < 4611686018427387904) ∧ (-4611686018427387904 ≤ j ∧ j < 4611686018427387904) ∧ j - i ≤ 16777216) ∧ R (rngD i (j - i).toNat) (fun _ => True) h2) := by
  refine pi_imp (pi_range2 hg hm (la_cons hp he (la_cons hp2 he2 la_nil)) (by rw [star_pl hp, star_pl hp2]; rfl) (star_pl hp2)) fun σ H R ⟨w, σd, h, QD, eH, rel, rs, q, post⟩ => ?_
  refine ⟨w, σd, h, fun ds h1 => match ds with | [x, y] => (intO x fun i => intO y fun j => ((-4611686018427387904 ≤ i ∧ i < 4611686018427387904) ∧ (-4611686018427387904 ≤ j ∧ j < 4611686018427387904) ∧ j - i ≤ 16777216) ∧ QD (rngD i (j - i).toNat) (fun _ => True) h1) | _ => False, eH, rel, rs, q, fun w1 h1 ds vs x1 rel1 r1 _ q1 => ?_⟩
  match ds, r1, q1 with
  | [d, d2], r1, q1 =>
    obtain ⟨v, v2, rfl, r, r2⟩ := rds2 r1
    obtain ⟨i, rfl, q1⟩ := intO_of r q1
    obtain ⟨j, rfl, hb, q1⟩ := intO_of r2 q1
    have hs : sizeLine = 16777216 := sizeLine_eq
    exact ⟨i, j, rfl, by omega, post w1 h1 _ _ _ x1 rel1 (itok_rng (by omega)) q1⟩
/-! ### a list that is being made -/
theorem own_dead {K : PySem.W.Frag} {w : Wd} {h : Hd} {n : Nat} {p : Addr} {o : HO} (rel : RelW K w h) (hm : w.m n = none) (hn : h n = none) (hp : w.H p = none) : Ext w (w.own n p o) h h ∧ RelW K (w.own n p o) h := by
  have x : Ext w (w.own n p o) h h := by
    have y : Ext w (w.own n p o) h (h.set n (.lst [])) := ext_own rel hm hp
    refine ⟨y.m, y.dk, y.keep, y.new, fun k a e q f => ⟨q, (y.dead k a e q f).2⟩⟩
  refine ⟨x, ?_⟩
  have mk : ∀ k, k ≠ n → (w.own n p o).m k = w.m k := fun k hk => if_neg hk
  have r : RelW K (w.own n p (.lst [])) (h.set n (.lst [])) := rel_own rel hm hp ⟨[], upd_same, .nil, Nat.zero_le _⟩
  have ne : ∀ k c, h k = some c → k ≠ n := fun k c e z => by rw [z, hn] at e; cases e
  refine ⟨r.inj, fun k c e => ?_, fun k c e => ?_, fun k a e => ?_, r.fin, fun q e => ?_, rel.dks⟩
  · obtain ⟨a, e1, rc⟩ := rel.has k c e
    refine ⟨a, (mk k (ne k c e)).trans e1, ?_⟩
    have ha : upd w.H p o a = w.H a := upd_ne fun z => rel.there k a e1 (z ▸ hp)
    cases c with
    | lst ds =>
      obtain ⟨xs, e2, rr, l⟩ := rc
      exact ⟨xs, ha.trans e2, rr.mono x, l⟩
    | dK kvs =>
      obtain ⟨xs, e2, e3, rr⟩ := rc
      exact ⟨xs, ha.trans e2, e3, rr.mono x⟩
  · exact fun z => rel.live k c e z.2
  · show upd w.H p o a ≠ none
    by_cases ha : a = p
    · rw [ha, upd_same]; simp
    · rw [upd_ne ha]
      by_cases hk : k = n
      · rw [hk, show (w.own n p o).m n = some p from if_pos rfl] at e
        cases e
        exact absurd rfl ha
      · rw [mk k hk] at e
        exact rel.there k a e
  · obtain ⟨⟨z1, ns, s, t, z2, z3, z4⟩, z5⟩ := rel.deck q e
    have a1 : q.1 ≠ p := fun z => by rw [z, hp] at z2; cases z2
    have a2 : q.2 ≠ p := fun z => by rw [z, hp] at z3; cases z3
    exact ⟨⟨z1, ns, s, t, (upd_ne a1).trans z2, (upd_ne a2).trans z3, z4⟩, (r.deck q e).2⟩
/-- the dead cell's object is turned -/
theorem put_dead {K : PySem.W.Frag} {w : Wd} {h : Hd} {n : Nat} {p : Addr} {o : HO} (rel : RelW K w h) (hm : w.m n = some p) (hn : h n = none) (hf : ¬ w.fz n) : (∀ a u, ¬ w.mut a → w.H a = some u → (w.put p o).H a = some u) ∧ RelW K (w.put p o) h ∧ (∀ d v, RD K w d v → RD K (w.put p o) d v) ∧ ∀ ds vs, RDs K w ds vs → RDs K (w.put p o) ds vs := by
  have kp : ∀ a u, ¬ w.mut a → w.H a = some u → (w.put p o).H a = some u := fun a u q e => (upd_ne fun z : a = p => q (.inl ⟨n, by rw [z]; exact hm, hf⟩)).trans e
  -- as a step that forgets that the cell is dead
  have x : Ext w (w.put p o) (fun k => if k = n then some (.lst []) else h k) h := by
    refine ⟨fun _ _ e => e, fun _ e => e, kp, fun _ q => .inl q, fun k a e q f => ?_⟩
    have hk : k ≠ n := fun z => by rw [z, if_pos rfl] at q; cases q
    rw [if_neg hk] at q
    exact ⟨q, upd_ne fun z : a = p => hk (rel.inj k n p (z ▸ e) hm f hf), f⟩
  refine ⟨kp, ⟨rel.inj, fun k c e => ?_, rel.live, fun k a e => ?_, rel.fin, fun q e => ?_, rel.dks⟩, fun d v r => r.mono x, fun ds vs r => r.mono x⟩
  · obtain ⟨a, e1, rc⟩ := rel.has k c e
    have hk : k ≠ n := fun z => by rw [z, hn] at e; cases e
    have ha : upd w.H p o a = w.H a := upd_ne fun z : a = p => hk (rel.inj k n p (z ▸ e1) hm (rel.live k c e) hf)
    refine ⟨a, e1, ?_⟩
    cases c with
    | lst ds =>
      obtain ⟨xs, e2, rr, l⟩ := rc
      exact ⟨xs, ha.trans e2, rr.mono x, l⟩
    | dK kvs =>
      obtain ⟨xs, e2, e3, rr⟩ := rc
      exact ⟨xs, ha.trans e2, e3, rr.mono x⟩
  · show upd w.H p o a ≠ none
    by_cases ha : a = p
    · rw [ha, upd_same]; simp
    · rw [upd_ne ha]; exact rel.there k a e
  · obtain ⟨⟨z1, ns, s, t, z2, z3, z4⟩, z5⟩ := rel.deck q e
    have a1 : q.1 ≠ p := fun z => (z5 n hf).1 (z ▸ hm)
    have a2 : q.2 ≠ p := fun z => (z5 n hf).2 (z ▸ hm)
    exact ⟨⟨z1, ns, s, t, (upd_ne a1).trans z2, (upd_ne a2).trans z3, z4⟩, z5⟩
end
end G

/-! Comprehensions, loops. -/
namespace G
open PySem PySem.Spec PyProof.Rows L2

theorem ext_put_dead {K : PySem.W.Frag} {w w' : Wd} {h h' : Hd} {n : Nat} {p : Addr} {o : HO} (x : Ext w w' h h') (rel : RelW K w' h') (h0 : w.m n = none) (hm : w'.m n = some p) (hn : h' n = none) (hf : ¬ w'.fz n) : Ext w (w'.put p o) h h' := by
  obtain ⟨kp, _⟩ := put_dead (o := o) rel hm hn hf
  refine ⟨x.m, x.dk, fun a u q e => kp a u (x.nmut q e) (x.keep a u q e), x.new, fun k a e q f => ?_⟩
  obtain ⟨p1, p2, p3⟩ := x.dead k a e q f
  refine ⟨p1, ?_, p3⟩
  have ne : a ≠ p := fun z => by
    have := rel.inj k n p (z ▸ x.m k a e) hm p3 hf
    rw [this, h0] at e
    cases e
  exact (upd_ne ne).trans p2
/-- at a comprehension's end -/
theorem listed_end {K : PySem.W.Frag} {w w2 : Wd} {h h2 : Hd} {n : Nat} {p : Addr} {acc : List D} {xs : List V} {nw : Bool} {QD : Pq} {Q : VK} (x : Ext w w2 h h2) (rel : RelW K w2 h2) (h0 : w.m n = none) (hm : w2.m n = some p) (hn : h2 n = none) (hf : ¬ w2.fz n)
    (hp : w2.H p = some (.lst xs)) (r : RDs K w2 acc xs) (l : acc.length ≤ sizeLine) (q : listed nw acc h2 QD) (post : Post K w h QD Q) : Q (.ref p) w2.H := by
  have nk : ∀ k a, w.m k = some a → k ≠ n := fun k a e z => by rw [z, h0] at e; cases e
  cases nw with
  | true =>
    have q : QD (.ref n) (h2.set n (.lst acc)) := q n hn
    refine post w2 (h2.set n (.lst acc)) (.ref n) (.ref p) ⟨x.m, x.dk, x.keep, x.new, fun k a e z f => ?_⟩ ⟨rel.inj, fun k c e => ?_, fun k c e => ?_, rel.there, rel.fin, rel.deck, rel.dks⟩ (.ref hm) q
    · obtain ⟨p1, p2⟩ := x.dead k a e z f
      exact ⟨by rw [Hd.set_ne (nk k a e)]; exact p1, p2⟩
    · by_cases hk : k = n
      · subst hk
        rw [Hd.set_same] at e; cases e
        exact ⟨p, hm, xs, hp, r, l⟩
      · rw [Hd.set_ne hk] at e
        exact rel.has k c e
    · by_cases hk : k = n
      · rw [hk]; exact hf
      · rw [Hd.set_ne hk] at e
        exact rel.live k c e
  | false =>
    have q : QD (.lst acc) h2 := q
    let w3 : Wd := { w2 with fz := fun k => k = n ∨ w2.fz k }
    have sub : ∀ a, w3.mut a → w2.mut a := fun a z => by
      rcases z with ⟨k, e, nf⟩ | z
      · exact .inl ⟨k, e, fun y => nf (.inr y)⟩
      · exact .inr z
    have y : Ext w2 w3 (fun k => if k = n then some (.lst []) else h2 k) h2 := by
      refine ⟨fun _ _ e => e, fun _ e => e, fun _ _ _ e => e, fun a z => .inl (sub a z), fun k a e z f => ?_⟩
      have hk : k ≠ n := fun z' => by rw [z', if_pos rfl] at z; cases z
      rw [if_neg hk] at z
      exact ⟨z, rfl, fun u => u.elim (fun u => absurd u hk) f⟩
    have nm : ¬ w3.mut p := fun z => by
      rcases z with ⟨k, e, nf⟩ | ⟨dk, e, z⟩
      · exact nf (.inl (rel.inj k n p e hm (fun y => nf (.inr y)) hf))
      · obtain ⟨_, dn⟩ := rel.deck dk e
        rcases z with z | z
        · exact (dn n hf).1 (z ▸ hm)
        · exact (dn n hf).2 (z ▸ hm)
    refine post w3 h2 (.lst acc) (.ref p) ⟨x.m, x.dk, x.keep, fun a z => x.new a (sub a z), fun k a e z f => ?_⟩ ⟨fun i j a e1 e2 f1 f2 => rel.inj i j a e1 e2 (fun z => f1 (.inr z)) fun z => f2 (.inr z), fun k c e => ?_, fun k c e => ?_, rel.there, rel.fin, fun q e => ⟨(rel.deck q e).1, fun i f => (rel.deck q e).2 i fun z => f (.inr z)⟩, rel.dks⟩ (.lst ⟨nm, hp⟩ l (r.mono y)) q
    · obtain ⟨p1, p2, p3⟩ := x.dead k a e z f
      exact ⟨p1, p2, fun u => u.elim (fun u => absurd u (nk k a e)) p3⟩
    · obtain ⟨a, e1, rc⟩ := rel.has k c e
      refine ⟨a, e1, ?_⟩
      cases c with
      | lst ds =>
        obtain ⟨ys, e2, rr, l⟩ := rc
        exact ⟨ys, e2, rr.mono y, l⟩
      | dK kvs =>
        obtain ⟨ys, e2, e3, rr⟩ := rc
        exact ⟨ys, e2, e3, rr.mono y⟩
    · intro u
      rcases u with u | u
      · rw [u, hn] at e; cases e
      · exact rel.live k c e u
/-- the invariant of a comprehension -/
structure CI (K : PySem.W.Frag) (w : Wd) (h : Hd) (n : Nat) (p : Addr) (ds : List D) (go : List D → List D → Hd → Prop) (i : Nat) (H : Hp) : Prop where
  ex : ∃ w2 h2 acc xs, w2.H = H ∧ Ext w w2 h h2 ∧ RelW K w2 h2 ∧ w2.m n = some p ∧ h2 n = none ∧ ¬ w2.fz n ∧ w2.H p = some (.lst xs) ∧ RDs K w2 acc xs ∧ acc.length ≤ i ∧ go (ds.drop i) acc h2
theorem lc_read {K : PySem.W.Frag} {wi : WI} {gd : D → Sl → (Sl → Prop) → Prop} {td : WT} {ed : WE} {nw : Bool} {vs us : List Nat} (hv : ∀ i ∈ us, i ∈ vs) (σ : L2.St) (H : Hp) (Q : VK)
    (hq : liftE K (fun σ h Q => wi σ h fun ds stay h1 => compL (fun d K => gd d (wipeD σ vs) K) td ed stay ds [] h1 fun acc h2 => listed nw acc h2 Q) σ H Q) :
    tLc (liftI K wi) (liftG K us gd) (liftT K td) (liftE K ed) vs σ H Q := by
  obtain ⟨w, σd, h, QD, eH, rel, rs, q, post⟩ := hq
  refine ⟨w, σd, h, _, eH, rel, rs, q, fun w1 h1 ds stay J x1 rel1 it q1 p hp => ?_⟩
  obtain ⟨n, n1, n2⟩ := rel1.fresh
  obtain ⟨x2, rel2⟩ := own_dead (o := .lst []) rel1 n1 n2 hp
  let go := fun (ds acc : List D) (h2 : Hd) => compL (fun d K => gd d (wipeD σd vs) K) td ed stay ds acc h2 fun acc h2 => listed nw acc h2 QD
  refine ⟨fun i m H => m = ds.length - i ∧ i ≤ ds.length ∧ CI K w1 h1 n p ds go i H, ⟨_, rfl, Nat.zero_le _, ⟨_, h1, [], [], rfl, x2, rel2, if_pos rfl, n2, fun z => z.1 rfl, upd_same, .nil, Nat.le_refl _, q1⟩⟩, ?_⟩
  rintro i m H2 ⟨rfl, hi, ⟨w2, h2, acc, xs, rfl, x, rel, hm, hn, hf, hp2, r, la, q2⟩⟩
  by_cases hlt : i < ds.length
  · right
    have hd : ds[i]? = some ds[i] := List.getElem?_eq_getElem hlt
    have q2 : stay h2 ∧ gd ds[i] (wipeD σd vs) fun σ' => td σ' h2 fun b h3 => if b = true then ed σ' h3 fun v h4 => go (ds.drop (i + 1)) (acc ++ [v]) h4 else go (ds.drop (i + 1)) acc h3 := by
      have e := List.drop_eq_getElem_cons hlt
      have q2' : go (ds[i] :: ds.drop (i + 1)) acc h2 := by rw [← e]; exact q2
      exact q2'
    obtain ⟨g1, g2⟩ := it.go w2 h2 x rel q2.1 i _ hd
    refine ⟨g1, CI K w1 h1 n p ds go (i + 1), fun H' hw => ⟨_, by omega, rfl, hlt, hw⟩, fun y H' hy => ?_⟩
    obtain ⟨w3, rfl, x3, rel3, ry⟩ := g2 y H' hy
    have rs3 : RSl K w3 σd σ := ((rs.mono x1).mono x).mono x3
    refine ⟨w3, wipeD σd vs, h2, ds[i], _, rfl, rel3, rs3.wipe vs, ry, q2.2, fun σd' σ' rs' b' q3 => ⟨(b'.mono hv).wipe, ?_⟩⟩
    refine ⟨w3, σd', h2, _, rfl, rel3, rs', q3, fun w4 h4 b x4 rel4 q4 => ?_⟩
    have n3 : w3.m n = some p := x3.m n p hm
    have d3 := x3.dead n p hm hn hf
    have d4 := x4.dead n p n3 d3.1 d3.2.2
    cases b with
    | false =>
      replace q4 : go (ds.drop (i + 1)) acc h4 := q4
      show CI K w1 h1 n p ds go (i + 1) w4.H
      exact ⟨w4, h4, acc, xs, rfl, (x.trans x3).trans x4, rel4, x4.m n p n3, d4.1, d4.2.2, by rw [d4.2.1, d3.2.1]; exact hp2, (r.mono x3).mono x4, by omega, q4⟩
    | true =>
      replace q4 : ed σd' h4 fun v h4 => go (ds.drop (i + 1)) (acc ++ [v]) h4 := q4
      show liftE K ed σ' w4.H fun y H4 => ∃ acc, H4 p = some (.lst acc) ∧ acc.length < sizeLine ∧ CI K w1 h1 n p ds go (i + 1) (upd H4 p (.lst (acc ++ [y])))
      refine ⟨w4, σd', h4, _, rfl, rel4, rs'.mono x4, q4, fun w5 h5 d v x5 rel5 r5 q5 => ?_⟩
      have n4 := x4.m n p n3
      have d5 := x5.dead n p n4 d4.1 d4.2.2
      have n5 := x5.m n p n4
      have f5 : ¬ w5.fz n := d5.2.2
      have h5p : w5.H p = some (.lst xs) := by rw [d5.2.1, d4.2.1, d3.2.1]; exact hp2
      have xx : Ext w1 w5 h1 h5 := ((x.trans x3).trans x4).trans x5
      obtain ⟨_, rel6, _, rds6⟩ := put_dead (o := .lst (xs ++ [v])) rel5 n5 d5.1 f5
      have r6 : RDs K w5 (acc ++ [d]) (xs ++ [v]) := ((((r.mono x3).mono x4).mono x5)).append (.cons r5 .nil)
      have hl : xs.length < sizeLine := by
        have := it.len
        have := r.length
        omega
      refine ⟨xs, h5p, hl, ⟨w5.put p (.lst (xs ++ [v])), h5, acc ++ [d], xs ++ [v], rfl, ext_put_dead xx rel5 n1 n5 d5.1 f5, rel6, n5, d5.1, f5, upd_same, rds6 _ _ r6, ?_, q5⟩⟩
      rw [List.length_append]
      exact Nat.succ_le_succ la
  · left
    have ei : i = ds.length := by omega
    subst ei
    have q2 : stay h2 ∧ listed nw acc h2 QD := by
      have e : ds.drop ds.length = [] := List.drop_length
      have q2' : go [] acc h2 := by rw [← e]; exact q2
      exact q2'
    exact ⟨it.stop w2 h2 x rel q2.1, listed_end x rel n1 hm hn hf hp2 r (Nat.le_trans la it.len) q2.2 (post.ext x1)⟩

/-! ### statements -/
def PostS (K : PySem.W.Frag) (w : Wd) (h : Hd) (E : Ed) (D : Ends) : Prop :=
  (∀ w' h' σd σ, Ext w w' h h' → RelW K w' h' → RSl K w' σd σ → E.nx σd h' → D.nx σ w'.H) ∧ Post K w h E.rt D.rt ∧
  (∀ w' h' σd σ, Ext w w' h h' → RelW K w' h' → RSl K w' σd σ → E.bk σd h' → D.bk σ w'.H) ∧
  (∀ w' h' σd σ, Ext w w' h h' → RelW K w' h' → RSl K w' σd σ → E.ct σd h' → D.ct σ w'.H)
theorem PostS.ext {K : PySem.W.Frag} {w w1 : Wd} {h h1 : Hd} {E : Ed} {D : Ends} (p : PostS K w h E D) (x : Ext w w1 h h1) : PostS K w1 h1 E D :=
  ⟨fun w' h' σd σ y => p.1 w' h' σd σ (x.trans y), p.2.1.ext x, fun w' h' σd σ y => p.2.2.1 w' h' σd σ (x.trans y), fun w' h' σd σ y => p.2.2.2 w' h' σd σ (x.trans y)⟩
abbrev WS := Ed → Sl → Hd → Prop
def liftS (K : PySem.W.Frag) (wp : WS) : TS := fun D σ H => ∃ w σd h E, w.H = H ∧ RelW K w h ∧ RSl K w σd σ ∧ wp E σd h ∧ PostS K w h E D
section
variable {X : Cx} {e e1 e2 : Expr} {pos : Pos} {wa wb wc : WE} {ta : WT} {sa sb : WS}
theorem s_nil : PSs X [] (liftS X.K fun E σ h => E.nx σ h) := pss_imp pss_nil fun D σ H ⟨w, σd, h, E, eH, rel, rs, q, post⟩ => by subst eH; exact post.1 w h σd σ (Ext.refl _ _) rel rs q
theorem s_cons {st : Stmt} {ss : List Stmt} (h1 : PS X st (liftS X.K sa)) (h2 : PSs X ss (liftS X.K sb)) : PSs X (st :: ss) (liftS X.K fun E σ h => sa { nx := sb E, rt := E.rt, bk := E.bk, ct := E.ct } σ h) := by
  refine pss_imp (pss_cons h1 h2) fun D σ H ⟨w, σd, h, E, eH, rel, rs, q, post⟩ => ?_
  refine ⟨w, σd, h, _, eH, rel, rs, q, fun w1 h1 σd1 σ1 x1 rel1 rs1 q1 => ?_, post.2.1, post.2.2.1, post.2.2.2⟩
  exact ⟨w1, σd1, h1, E, rfl, rel1, rs1, q1, post.ext x1⟩
theorem s_pass : PS X (.Pass pos) (liftS X.K fun E σ h => E.nx σ h) := ps_imp ps_pass fun D σ H ⟨w, σd, h, E, eH, rel, rs, q, post⟩ => by subst eH; exact post.1 w h σd σ (Ext.refl _ _) rel rs q
theorem s_brk : PS X (.Break pos) (liftS X.K fun E σ h => E.bk σ h) := ps_imp ps_break fun D σ H ⟨w, σd, h, E, eH, rel, rs, q, post⟩ => by subst eH; exact post.2.2.1 w h σd σ (Ext.refl _ _) rel rs q
theorem s_cont : PS X (.Continue pos) (liftS X.K fun E σ h => E.ct σ h) := ps_imp ps_continue fun D σ H ⟨w, σd, h, E, eH, rel, rs, q, post⟩ => by subst eH; exact post.2.2.2 w h σd σ (Ext.refl _ _) rel rs q
theorem s_exp (hn : nlc e = true) (he : PE X e (liftE X.K wa)) : PS X (.Expr e pos) (liftS X.K fun E σ h => wa σ h fun _ h1 => E.nx σ h1) := by
  refine ps_imp (ps_expr he (sw_nlc hn)) fun D σ H ⟨w, σd, h, E, eH, rel, rs, q, post⟩ => ?_
  exact ⟨w, σd, h, _, eH, rel, rs, q, fun w1 h1 d v x1 rel1 r1 q1 => post.1 w1 h1 σd σ x1 rel1 (rs.mono x1) q1⟩
theorem s_ret (he : PE X e (liftE X.K wa)) : PS X (.Return (some e) pos) (liftS X.K fun E σ h => wa σ h E.rt) := by
  refine ps_imp (ps_ret he) fun D σ H ⟨w, σd, h, E, eH, rel, rs, q, post⟩ => ?_
  exact ⟨w, σd, h, _, eH, rel, rs, q, post.2.1⟩
theorem s_retN : PS X (.Return none pos) (liftS X.K fun E _ h => E.rt .non h) := ps_imp ps_retN fun D σ H ⟨w, σd, h, E, eH, rel, rs, q, post⟩ => by subst eH; exact post.2.1.now rel .non q
theorem s_ite {a b : List Stmt} (hc : PT X e (liftT X.K ta)) (ha : PSs X a (liftS X.K sa)) (hb : PSs X b (liftS X.K sb)) : PS X (.If e a b pos) (liftS X.K fun E σ h => ta σ h fun k h1 => if k = true then sa E σ h1 else sb E σ h1) := by
  refine ps_imp (ps_if hc ha hb) fun D σ H ⟨w, σd, h, E, eH, rel, rs, q, post⟩ => ?_
  refine ⟨w, σd, h, _, eH, rel, rs, q, fun w1 h1 k x1 rel1 q1 => ?_⟩
  cases k with
  | true => exact ⟨w1, σd, h1, E, rfl, rel1, rs.mono x1, q1, post.ext x1⟩
  | false => exact ⟨w1, σd, h1, E, rfl, rel1, rs.mono x1, q1, post.ext x1⟩
theorem s_asg {tg : Expr} {us : List Nat} {gd : D → Sl → (Sl → Prop) → Prop} (he : PE X e (liftE X.K wa)) (hg : PG X tg (liftG X.K us gd)) (hs : swapsWithSole [tg] e pos.line X.env = pure false) (hw : swappedStores [tg] e X.env = pure none) (h1 : (assignEach [tg] X.env).map (·.2) = [assign tg X.env]) :
    PS X (.Assign [tg] e pos) (liftS X.K fun E σ h => wa σ h fun d h1 => gd d σ fun σ' => E.nx σ' h1) := by
  refine ps_imp (ps_asg he hg hs hw h1) fun D σ H ⟨w, σd, h, E, eH, rel, rs, q, post⟩ => ?_
  refine ⟨w, σd, h, _, eH, rel, rs, q, fun w1 h1 d v x1 rel1 r1 q1 => ?_⟩
  exact ⟨w1, σd, h1, d, _, rfl, rel1, rs.mono x1, r1, q1, fun σd' σ' rs' _ q2 => post.1 w1 h1 σd' σ' x1 rel1 rs' q2⟩
theorem s_put (hu : X.A.units + 1 < cLine) (hp : pl e2 = true) (hn : nlc e = true) {tpos : Pos} (he : PE X e (liftE X.K wa)) (ho : PE X e1 (liftE X.K wb)) (hi : PE X e2 (liftE X.K wc)) :
    PS X (.Assign [.Subscript e1 e2 tpos] e pos) (liftS X.K fun E σ h => wa σ h fun v h1 => wb σ h1 fun x h2 => wc σ h2 fun y h3 => setD x y v h3 fun h4 => E.nx σ h4) := by
  have ha : ∀ v, assign (.Subscript e1 e2 tpos) X.env v = (do
      let ov ← holding [v] (eval e1 X.env)
      let iv ← holding [v, ov] (eval e2 X.env)
      standAt tpos
      holding [v, ov, iv] (setItem ov iv v)
      release [v, ov, iv] []) := by
    intro v
    cases e2 <;> first | (cases hp; done) | rfl
  refine ps_imp (ps_asg he (pg_sub ho hi (o_set hu) ha) (show swapsWith e (some (.Subscript e1 e2 tpos)) pos.line X.env = pure false from sw_nlc hn) (by cases e <;> rfl) rfl) fun D σ H ⟨w, σd, h, E, eH, rel, rs, q, post⟩ => ?_
  refine ⟨w, σd, h, _, eH, rel, rs, q, fun w1 h1 d1 v1 x1 rel1 r1 q1 => ?_⟩
  refine ⟨w1, σd, h1, _, rfl, rel1, rs.mono x1, q1, fun w2 h2 d2 v2 x2 rel2 r2 q2 => ?_⟩
  refine ⟨w2, σd, h2, _, rfl, rel2, (rs.mono x1).mono x2, q2, fun w3 h3 d3 v3 x3 rel3 r3 q3 => ?_⟩
  exact ⟨w3, h3, d2, d3, d1, _, rfl, rel3, r2.mono x3, r3, (r1.mono x2).mono x3, q3, fun w4 h4 x4 rel4 q4 => post.1 w4 h4 σd σ (((x1.trans x2).trans x3).trans x4) rel4 ((((rs.mono x1).mono x2).mono x3).mono x4) q4⟩
theorem s_aug {i : Nat} {x : Str} {op : Operator} {pos' : Pos} (hN : X.N.Nodup) (hi : X.N[i]? = some x) (hx : Loc X.env.scope x) (hf : X.fn x = true ∨ X.env.scope.names.lookup x = some .local) (he : PE X e (liftE X.K wa)) :
    PS X (.AugAssign (.Name x pos') op e pos) (liftS X.K fun E σ h => getS σ i fun x => wa σ h fun y h1 => augD op x y h1 fun z h2 => E.nx (σ.set i (some z)) h2) := by
  have ip : PIp X op (R2of X.K (augD op)) := fun pins s σ H x y v u Q I rx ry q => o_aug op pins s σ H x y v u Q I rx ry q
  refine ps_imp (ps_aug hN hi hx he ip hf) fun D σ H ⟨w, σd, h, E, eH, rel, rs, q, post⟩ => ?_
  replace q : getS σd i fun x => wa σd h fun y h1 => augD op x y h1 fun z h2 => E.nx (σd.set i (some z)) h2 := q
  unfold getS at q
  split at q
  · rename_i d ed
    obtain ⟨v, ev, rv⟩ := rs.at_ i d ed
    subst eH
    refine ⟨v, ev, w, σd, h, _, rfl, rel, rs, q, fun w1 h1 d1 v1 x1 rel1 r1 q1 => ?_⟩
    exact ⟨w1, h1, d, d1, _, rfl, rel1, rv.mono x1, r1, q1, fun w2 h2 d2 v2 x2 rel2 r2 q2 => post.1 w2 h2 _ _ (x1.trans x2) rel2 (((rs.mono x1).mono x2).set r2 i) q2⟩
  · exact q.elim
theorem s_whl {b : List Stmt} (hx : X.xe = fun _ _ => False) (hc : PT X e (liftT X.K ta)) (hb : PSs X b (liftS X.K sb)) : PS X (.While e b [] pos) (liftS X.K fun E σ h => whileL ta sb E σ h) := by
  have hp : PassesOwn (model X.prog X.w) X.A X.env X.xe := by rw [hx]; exact PassesOwn.never
  refine ps_imp (ps_while hp hc hb) fun D σ H ⟨w, σd, h, E, eH, rel, rs, q, post⟩ => ?_
  obtain ⟨W, ⟨m0, w0⟩, turn⟩ := q
  refine ⟨fun m σ H => ∃ w' σd' h', w'.H = H ∧ Ext w w' h h' ∧ RelW X.K w' h' ∧ RSl X.K w' σd' σ ∧ W m σd' h', ⟨m0, w, σd, h, eH, Ext.refl _ _, rel, rs, w0⟩, ?_⟩
  rintro m σ1 H1 ⟨w1, σd1, h1, rfl, x1, rel1, rs1, w1'⟩
  refine ⟨w1, σd1, h1, _, rfl, rel1, rs1, turn m σd1 h1 w1', fun w2 h2 k x2 rel2 q2 => ?_⟩
  cases k with
  | false => exact post.1 w2 h2 σd1 σ1 (x1.trans x2) rel2 (rs1.mono x2) q2
  | true =>
    have nx : ∀ w' h' σd' σ', Ext w2 w' h2 h' → RelW X.K w' h' → RSl X.K w' σd' σ' → (∃ m', m' < m ∧ W m' σd' h') → ∃ m', m' < m ∧ ∃ w'' σd'' h'', w''.H = w'.H ∧ Ext w w'' h h'' ∧ RelW X.K w'' h'' ∧ RSl X.K w'' σd'' σ' ∧ W m' σd'' h'' :=
      fun w' h' σd' σ' x' rel' rs' ⟨m', hm, hw⟩ => ⟨m', hm, w', σd', h', rfl, (x1.trans x2).trans x', rel', rs', hw⟩
    refine ⟨fun σ' H' => ∃ m', m' < m ∧ ∃ w' σd' h', w'.H = H' ∧ Ext w w' h h' ∧ RelW X.K w' h' ∧ RSl X.K w' σd' σ' ∧ W m' σd' h', fun σ' H' z => z, ?_⟩
    exact ⟨w2, σd1, h2, _, rfl, rel2, rs1.mono x2, q2, nx, post.2.1.ext (x1.trans x2), fun w' h' σd' σ' x' rel' rs' q' => post.1 w' h' σd' σ' ((x1.trans x2).trans x') rel' rs' q', nx⟩
theorem s_for {tg iter : Expr} {b : List Stmt} {us : List Nat} {wi : WI} {gd : D → Sl → (Sl → Prop) → Prop} (hx : X.xe = fun _ _ => False) (hc : X.calm = true) (hpl : pl iter = true) (hi : PI X tg iter (liftI X.K wi)) (hg : PG X tg (liftG X.K us gd)) (hb : PSs X b (liftS X.K sb)) :
    PS X (.For tg iter b [] pos) (liftS X.K fun E σ h => wi σ h fun ds stay h1 => forL gd sb stay E ds σ h1) := by
  have hp : PassesOwn (model X.prog X.w) X.A X.env X.xe := by rw [hx]; exact PassesOwn.never
  refine ps_imp (ps_for hp hc hi hg hb (fold_pl hpl)) fun D σ H ⟨w, σd, h, E, eH, rel, rs, q, post⟩ => ?_
  refine ⟨w, σd, h, _, eH, rel, rs, q, fun w1 h1 ds stay J x1 rel1 it q1 => ?_⟩
  refine ⟨fun i m σ H => m = ds.length - i ∧ i ≤ ds.length ∧ ∃ w' σd' h', w'.H = H ∧ Ext w1 w' h1 h' ∧ RelW X.K w' h' ∧ RSl X.K w' σd' σ ∧ forL gd sb stay E (ds.drop i) σd' h', ⟨_, rfl, Nat.zero_le _, w1, σd, h1, rfl, Ext.refl _ _, rel1, rs.mono x1, q1⟩, ?_⟩
  rintro i m σ2 H2 ⟨rfl, hi, w2, σd2, h2, rfl, x2, rel2, rs2, q2⟩
  by_cases hlt : i < ds.length
  · right
    have hd : ds[i]? = some ds[i] := List.getElem?_eq_getElem hlt
    have q2 : stay h2 ∧ gd ds[i] σd2 fun σ' => sb { nx := forL gd sb stay E (ds.drop (i + 1)), ct := forL gd sb stay E (ds.drop (i + 1)), bk := E.nx, rt := E.rt } σ' h2 := by
      rw [List.drop_eq_getElem_cons hlt] at q2
      exact q2
    obtain ⟨g1, g2⟩ := it.go w2 h2 x2 rel2 q2.1 i _ hd
    have xx := x1.trans x2
    refine ⟨g1, fun σ' H' => ∃ w' σd' h', w'.H = H' ∧ Ext w1 w' h1 h' ∧ RelW X.K w' h' ∧ RSl X.K w' σd' σ' ∧ forL gd sb stay E (ds.drop (i + 1)) σd' h', fun σ' H' z => ⟨_, by omega, rfl, hlt, z⟩, fun y H' hy => ?_⟩
    obtain ⟨w3, rfl, x3, rel3, ry⟩ := g2 y H' hy
    refine ⟨w3, σd2, h2, _, _, rfl, rel3, rs2.mono x3, ry, q2.2, fun σd3 σ3 rs3 _ q3 => ?_⟩
    refine ⟨w3, σd3, h2, _, rfl, rel3, rs3, q3, ?_, post.2.1.ext (xx.trans x3), fun w' h' σd' σ' x' rel' rs' q' => post.1 w' h' σd' σ' ((xx.trans x3).trans x') rel' rs' q', ?_⟩
    · exact fun w' h' σd' σ' x' rel' rs' q' => ⟨w', σd', h', rfl, (x2.trans x3).trans x', rel', rs', q'⟩
    · exact fun w' h' σd' σ' x' rel' rs' q' => ⟨w', σd', h', rfl, (x2.trans x3).trans x', rel', rs', q'⟩
  · left
    have ei : i = ds.length := by omega
    subst ei
    rw [List.drop_length] at q2
    exact ⟨it.stop w2 h2 x2 rel2 q2.1, post.1 w2 h2 σd2 σ2 (x1.trans x2) rel2 rs2 q2.2⟩
end
end G

/-! Stores of several names; a comprehension stored. -/
namespace G
open PySem PySem.Spec PyProof.Rows L2

def isTupE : Expr → Bool
  | .Tuple _ _ _ => true
  | _ => false
def locN (sc : Scope) (l : Nat) : Expr → Bool
  | .Name x p => decide (sc.names.lookup x = some .local) && (p.line == l)
  | _ => false
/-- the stores are not exchanged -/
def swNo (sc : Scope) (ts vs : List Expr) : Bool :=
  (!(ts.length == 2 || ts.length == 3)) || vs.all (foldedForSure 8) || ts.any fun t => !locN sc ((ts.head?.map (·.pos.line)).getD 0) t
theorem filt_lt {α β : Type} (f : α → Option β) : ∀ (l : List α), (∃ a ∈ l, f a = none) → (l.filterMap f).length ≠ l.length
  | [], h => by obtain ⟨_, h, _⟩ := h; cases h
  | a :: l, h => by
    rw [List.filterMap_cons]
    have le := List.length_filterMap_le f l
    cases e : f a with
    | none => simp; omega
    | some b =>
      simp only [List.length_cons, ne_eq, Nat.add_right_cancel_iff]
      obtain ⟨c, hc, z⟩ := h
      rcases List.mem_cons.mp hc with rfl | hc
      · rw [e] at z; cases z
      · exact filt_lt f l ⟨c, hc, z⟩
theorem sw_no {ts vs : List Expr} {k k2 : Nat} {p p2 : Pos} {env : Env} (h : swNo env.scope ts vs = true) : swappedStores [.Tuple ts k p] (.Tuple vs k2 p2) env = pure none := by
  unfold swappedStores
  simp only
  split
  · rfl
  · split
    · rfl
    · split
      · rfl
      · rename_i h1 h2 h3
        split
        · rfl
        · rename_i h4
          exfalso
          unfold swNo at h
          simp only [Bool.or_eq_true] at h
          rcases h with (h | h) | h
          · apply h1
            rw [h]
            rfl
          · exact h4 h
          · apply h3
            rw [Bool.or_eq_true]
            left
            rw [List.any_eq_true] at h
            obtain ⟨t, ht, hn⟩ := h
            rw [bne_iff_ne]
            refine filt_lt _ ts ⟨t, ht, ?_⟩
            cases t <;> try rfl
            rename_i x q
            simp only [locN, Bool.not_eq_true', Bool.and_eq_false_iff, decide_eq_false_iff_not] at hn
            have : ¬ (env.kindOf x == some NameKind.local && q.line == (ts.head?.map (·.pos.line)).getD 0) = true := by
              rw [Bool.and_eq_true, beq_iff_eq]
              rintro ⟨a, b⟩
              rcases hn with hn | hn
              · exact hn a
              · rw [hn] at b; cases b
            exact if_neg this
theorem sw_tup {e : Expr} {ts : List Expr} {k : Nat} {p : Pos} {env : Env} (h : isTupE e = false) : swappedStores [.Tuple ts k p] e env = pure none := by
  cases e <;> first | rfl | (cases h; done)
theorem sw_name {e : Expr} {x : Str} {p : Pos} {env : Env} : swappedStores [.Name x p] e env = pure none := rfl
def starE : Expr → Bool
  | .Starred _ _ => true
  | _ => false
theorem sw_2 {x y : Str} {px py p p2 : Pos} {k k2 : Nat} {a b : Expr} {env : Env} (hk : env.blockKind = .function) (ha : pl a = true) (hb : pl b = true) (hx : env.kindOf x = some .local) (hy : env.kindOf y = some .local) (hl : (py.line == px.line) = true) (ne : x ≠ y)
    (hf : [a, b].all (foldedForSure 8) = false) (hc : [a, b].all (constantsAlone 8) = false) : swappedStores [.Tuple [.Name x px, .Name y py] k p] (.Tuple [a, b] k2 p2) env = pure (some [x, y]) := by
  unfold swappedStores
  have st : ∀ e : Expr, pl e = true → (match e with | .Starred _ _ => true | _ => false) = false := fun e h => by cases e <;> first | rfl | (cases h; done)
  have hs : ([a, b].any fun | .Starred .. => true | _ => false) = false := by
    simp only [List.any_cons, List.any_nil, Bool.or_false, Bool.or_eq_false_iff]
    exact ⟨st a ha, st b hb⟩
  have h0 : (px.line == px.line) = true := beq_self_eq_true _
  have hd : [x, y].eraseDups = [x, y] := by
    simp [List.eraseDups_cons, ne.symm]
  simp only [List.length_cons, List.length_nil, hk, hs, hf, hc, Expr.pos, List.head?_cons, Option.map_some, Option.getD_some, List.filterMap_cons, List.filterMap_nil, hx, hy, hl, h0, hd, Bool.false_eq_true, if_false]
  simp [hx, hy, hl, hd, hf, hc]
  rintro (q | q)
  · cases a <;> first | (cases ha; done) | (cases q; done)
  · cases b <;> first | (cases hb; done) | (cases q; done)
theorem sw_3 {x y z : Str} {px py pz p p2 : Pos} {k k2 : Nat} {a b c : Expr} {env : Env} (hk : env.blockKind = .function) (ha : pl a = true) (hb : pl b = true) (hcc : pl c = true) (hx : env.kindOf x = some .local) (hy : env.kindOf y = some .local) (hz : env.kindOf z = some .local) (hl : (py.line == px.line) = true) (hl2 : (pz.line == px.line) = true) (ne : x ≠ y) (ne2 : x ≠ z) (ne3 : y ≠ z)
    (hf : [a, b, c].all (foldedForSure 8) = false) (hc : [a, b, c].all (constantsAlone 8) = false) : swappedStores [.Tuple [.Name x px, .Name y py, .Name z pz] k p] (.Tuple [a, b, c] k2 p2) env = pure (some [x, y, z]) := by
  unfold swappedStores
  have st : ∀ e : Expr, pl e = true → (match e with | .Starred _ _ => true | _ => false) = false := fun e h => by cases e <;> first | rfl | (cases h; done)
  have hs : ([a, b, c].any fun | .Starred .. => true | _ => false) = false := by
    simp only [List.any_cons, List.any_nil, Bool.or_false, Bool.or_eq_false_iff]
    exact ⟨st a ha, st b hb, st c hcc⟩
  have h0 : (px.line == px.line) = true := beq_self_eq_true _
  have hd : [x, y, z].eraseDups = [x, y, z] := by
    simp [List.eraseDups_cons, ne.symm, ne2.symm, ne3.symm]
  simp only [List.length_cons, List.length_nil, hk, hs, hf, hc, Expr.pos, List.head?_cons, Option.map_some, Option.getD_some, List.filterMap_cons, List.filterMap_nil, hx, hy, hz, hl, hl2, h0, hd, Bool.false_eq_true, if_false]
  simp [hx, hy, hz, hl, hl2, hd, hf, hc]
  rintro (q | q | q)
  · cases a <;> first | (cases ha; done) | (cases q; done)
  · cases b <;> first | (cases hb; done) | (cases q; done)
  · cases c <;> first | (cases hcc; done) | (cases q; done)
/-- whether the store of a comprehension is made within it -/
def swLc (sc : Scope) (y : Str) (py : Pos) (scope : Scope) (pos : Pos) : Bool :=
  decide (sc.names.lookup y = some .local) && (py.line == pos.line) && !(scope.names.any fun (n, k) => n == y && (k == .local || k == .cell))
theorem sw_lcF {elt : Expr} {gs : List Comprehension} {scope : Scope} {pos py : Pos} {y : Str} {l : Nat} {env : Env} (h : swLc env.scope y py scope pos = false) : swapsWith (.ListComp elt gs scope pos) (some (.Name y py)) l env = pure false := by
  unfold swapsWith
  simp only [Expr.pos]
  congr 1
  unfold swLc at h
  have e : (env.kindOf y == some NameKind.local) = decide (env.scope.names.lookup y = some .local) := by
    rw [Bool.eq_iff_iff, beq_iff_eq, decide_eq_true_iff]
    exact Iff.rfl
  rw [e, Bool.and_assoc, Bool.and_assoc, ← Bool.and_assoc (decide _), h, Bool.and_false]
section
variable {X : Cx} {pos : Pos} {wl : WA}
theorem rdsL2 {K : PySem.W.Frag} {w : Wd} {ds : List D} {vs : List V} (r : RDs K w ds vs) (l : ds.length = 2) : ∃ d e v u, ds = [d, e] ∧ vs = [v, u] ∧ RD K w d v ∧ RD K w e u := by
  match ds, l with
  | [d, e], _ =>
    obtain ⟨v, u, h1, h2, h3⟩ := rds2 r
    exact ⟨d, e, v, u, rfl, h1, h2, h3⟩
theorem s_par2 {i j : Nat} {x y : Str} {a b : Expr} {px py pt : Pos} {kt k2 : Nat} {pt2 : Pos} (hc : X.calm = true) (hN : X.N.Nodup) (hi : X.N[i]? = some x) (hj : X.N[j]? = some y) (hij : i ≠ j)
    (hx : X.env.scope.names.lookup x = some .local) (hy : X.env.scope.names.lookup y = some .local) (ha : PA X [a, b] (liftA X.K 2 wl))
    (hw : swappedStores [.Tuple [.Name x px, .Name y py] kt pt] (.Tuple [a, b] k2 pt2) X.env = pure (some [x, y])) :
    PS X (.Assign [.Tuple [.Name x px, .Name y py] kt pt] (.Tuple [a, b] k2 pt2) pos) (liftS X.K fun E σ h => wl σ h fun ds h1 => E.nx (setAll σ [i, j] ds) h1) := by
  refine ps_imp (ps_par hc hN hi hj hij hx hy ha hw rfl) fun D σ H ⟨w, σd, h, E, eH, rel, rs, q, post⟩ => ?_
  refine ⟨w, σd, h, _, eH, rel, rs, q, fun w1 h1 ds vs x1 rel1 r1 l1 q1 => ?_⟩
  obtain ⟨d, e, v, u, rfl, rfl, rv, ru⟩ := rdsL2 r1 l1
  exact ⟨v, u, rfl, post.1 w1 h1 _ _ x1 rel1 (((rs.mono x1).set rv i).set ru j) q1⟩
theorem s_par3 {i j l : Nat} {x y z : Str} {a b c : Expr} {px py pz pt : Pos} {kt k2 : Nat} {pt2 : Pos} (hc : X.calm = true) (hN : X.N.Nodup) (hi : X.N[i]? = some x) (hj : X.N[j]? = some y) (hll : X.N[l]? = some z) (hij : i ≠ j) (hil : i ≠ l) (hjl : j ≠ l)
    (hx : X.env.scope.names.lookup x = some .local) (hy : X.env.scope.names.lookup y = some .local) (hz : X.env.scope.names.lookup z = some .local) (ha : PA X [a, b, c] (liftA X.K 3 wl))
    (hw : swappedStores [.Tuple [.Name x px, .Name y py, .Name z pz] kt pt] (.Tuple [a, b, c] k2 pt2) X.env = pure (some [x, y, z])) :
    PS X (.Assign [.Tuple [.Name x px, .Name y py, .Name z pz] kt pt] (.Tuple [a, b, c] k2 pt2) pos) (liftS X.K fun E σ h => wl σ h fun ds h1 => E.nx (setAll σ [i, j, l] ds) h1) := by
  refine ps_imp (ps_par3 hc hN hi hj hll hij hil hjl hx hy hz ha hw rfl) fun D σ H ⟨w, σd, h, E, eH, rel, rs, q, post⟩ => ?_
  refine ⟨w, σd, h, _, eH, rel, rs, q, fun w1 h1 ds vs x1 rel1 r1 l1 q1 => ?_⟩
  match ds, l1, r1 with
  | [d, e, f], _, .cons rd rr =>
    obtain ⟨v, u, rfl, re, rf⟩ := rds2 rr
    exact ⟨_, v, u, rfl, post.1 w1 h1 _ _ x1 rel1 ((((rs.mono x1).set rd i).set re j).set rf l) q1⟩
/-- a comprehension as a value, as what is stored -/
theorem l_lc {elt tg iter : Expr} {ifs : List Expr} {scope : Scope} {own : List (Str × Nat)} {wi : WI} {us : List Nat} {gd : D → Sl → (Sl → Prop) → Prop} {td : WT} {ed : WE} {nw : Bool} (hc : X.calm = true) (hN : X.N.Nodup) (hv : ∀ i ∈ us, i ∈ own.map (·.2)) (hpl : pl iter = true)
    (hi : PI X tg iter (liftI X.K wi)) (ok : BlkOk X.N X.env.scope scope own)
    (hg : ∀ (s : Shared) (H : Hp) (C : Addr) (cl : List (Str × Addr)) (fp : List Addr), PG (X.blk s H scope (compEnvC scope cl C X.env) fp) tg (liftG X.K us gd))
    (ht : ∀ (s : Shared) (H : Hp) (C : Addr) (cl : List (Str × Addr)) (fp : List Addr), PTs (X.blk s H scope (compEnvC scope cl C X.env) fp) ifs (liftT X.K td))
    (he : ∀ (s : Shared) (H : Hp) (C : Addr) (cl : List (Str × Addr)) (fp : List Addr), PE (X.blk s H scope (compEnvC scope cl C X.env) fp) elt (liftE X.K ed)) :
    PE X (.ListComp elt [⟨tg, iter, ifs, 0⟩] scope pos) (liftE X.K fun σ h Q => wi σ h fun ds stay h1 => compL (fun d K => gd d (wipeD σ (own.map (·.2))) K) td ed stay ds [] h1 fun acc h2 => listed nw acc h2 Q) :=
  pe_imp (pe_lc hc hN hi ok hg ht he (fold_pl hpl)) (lc_read hv)
theorem s_setLc {i : Nat} {y : Str} {py spos : Pos} {elt tg iter : Expr} {ifs : List Expr} {scope : Scope} {own : List (Str × Nat)} {wi : WI} {us : List Nat} {gd : D → Sl → (Sl → Prop) → Prop} {td : WT} {ed : WE} {nw : Bool} (hc : X.calm = true) (hN : X.N.Nodup) (hv : ∀ i ∈ us, i ∈ own.map (·.2)) (hpl : pl iter = true)
    (hy : X.N[i]? = some y) (hyl : X.env.scope.names.lookup y = some .local) (hsw : swapsWith (.ListComp elt [⟨tg, iter, ifs, 0⟩] scope pos) (some (.Name y py)) spos.line X.env = pure true)
    (hi : PI X tg iter (liftI X.K wi)) (ok : BlkOk X.N X.env.scope scope own)
    (hg : ∀ (s : Shared) (H : Hp) (C : Addr) (cl : List (Str × Addr)) (fp : List Addr), PG (X.blk s H scope (compEnvC scope cl C X.env) fp) tg (liftG X.K us gd))
    (ht : ∀ (s : Shared) (H : Hp) (C : Addr) (cl : List (Str × Addr)) (fp : List Addr), PTs (X.blk s H scope (compEnvC scope cl C X.env) fp) ifs (liftT X.K td))
    (he : ∀ (s : Shared) (H : Hp) (C : Addr) (cl : List (Str × Addr)) (fp : List Addr), PE (X.blk s H scope (compEnvC scope cl C X.env) fp) elt (liftE X.K ed)) :
    PS X (.Assign [.Name y py] (.ListComp elt [⟨tg, iter, ifs, 0⟩] scope pos) spos) (liftS X.K fun E σ h => wi σ h fun ds stay h1 => compL (fun d K => gd d (wipeD σ (own.map (·.2))) K) td ed stay ds [] h1 fun acc h2 => listed nw acc h2 fun d h3 => E.nx (σ.set i (some d)) h3) := by
  refine ps_imp (ps_setLc hc hN hy hyl hsw hi ok hg ht he (fold_pl hpl)) fun D σ H ⟨w, σd, h, E, eH, rel, rs, q, post⟩ => ?_
  refine lc_read hv σ H _ ⟨w, σd, h, fun d h3 => E.nx (σd.set i (some d)) h3, eH, rel, rs, q, fun w1 h1 d v x1 rel1 r1 q1 => ?_⟩
  exact post.1 w1 h1 _ _ x1 rel1 ((rs.mono x1).set r1 i) q1
end

/-! ### dict displays -/
/-- a dead cell lives again -/
theorem revive {K : PySem.W.Frag} {w w2 : Wd} {h h2 : Hd} {n : Nat} {p : Addr} {c : Cell} (x : Ext w w2 h h2) (rel : RelW K w2 h2) (h0 : w.m n = none) (hm : w2.m n = some p) (hf : ¬ w2.fz n) (rc : RC K w2 c p) : Ext w w2 h (h2.set n c) ∧ RelW K w2 (h2.set n c) := by
  have nk : ∀ k a, w.m k = some a → k ≠ n := fun k a e z => by rw [z, h0] at e; cases e
  refine ⟨⟨x.m, x.dk, x.keep, x.new, fun k a e z f => ?_⟩, ⟨rel.inj, fun k d e => ?_, fun k d e => ?_, rel.there, rel.fin, rel.deck, rel.dks⟩⟩
  · rw [Hd.set_ne (nk k a e)]
    exact x.dead k a e z f
  · by_cases hk : k = n
    · subst hk
      rw [Hd.set_same] at e; cases e
      exact ⟨p, hm, rc⟩
    · rw [Hd.set_ne hk] at e
      exact rel.has k d e
  · by_cases hk : k = n
    · rw [hk]; exact hf
    · rw [Hd.set_ne hk] at e
      exact rel.live k d e
def PairsOk (K : PySem.W.Frag) (ks : List Key) (n : Nat) (wl : WA) (trs : List (TE × TE)) : Prop := ∀ w σd σ h QD Q, RelW K w h → RSl K w σd σ → wl σd h QD →
  (∀ w' h' ds vs, Ext w w' h h' → RelW K w' h' → RDs K w' ds vs → ds.length = n → QD ds h' → Q ((ks.zip vs).map fun kv => (kV kv.1, kv.2)) w'.H) → tPairs trs σ w.H Q
theorem pairs_nil {K : PySem.W.Frag} : PairsOk K [] 0 (fun _ h Q => Q [] h) [] := fun w σd σ h QD Q rel rs q post => post w h [] [] (Ext.refl _ _) rel .nil rfl q
theorem pairs_cons {K : PySem.W.Frag} {k : Key} {ks : List Key} {n : Nat} {wa : WE} {wl : WA} {trs : List (TE × TE)} (hr : PairsOk K ks n wl trs) :
    PairsOk K (k :: ks) (n + 1) (fun σ h Q => wa σ h fun d h1 => wl σ h1 fun ds h2 => Q (d :: ds) h2) ((tC (kV k), liftE K wa) :: trs) := fun w σd σ h QD Q rel rs q post => by
  show liftE K wa σ w.H _
  refine ⟨w, σd, h, _, rfl, rel, rs, q, fun w1 h1 d v x1 rel1 r1 q1 => ?_⟩
  refine hr w1 σd σ h1 _ _ rel1 (rs.mono x1) q1 fun w2 h2 ds vs x2 rel2 r2 hl q2 => ?_
  exact post w2 h2 (d :: ds) (v :: vs) (x1.trans x2) rel2 (.cons (r1.mono x2) r2) (by rw [List.length_cons, hl]) q2
theorem merge_new : ∀ (more acc : List (Key × V)), (acc.map (·.1) ++ more.map (·.1)).Nodup → mergeK acc more = acc ++ more
  | [], acc, _ => (List.append_nil acc).symm
  | p :: more, acc, nd => by
    have h1 : (acc.any fun kv => decide (kv.1 = p.1)) = false := by
      rw [List.any_eq_false]
      intro q hq z
      have z := of_decide_eq_true z
      rw [List.map_cons, List.nodup_append] at nd
      exact nd.2.2 q.1 (List.mem_map_of_mem hq) p.1 (by simp) z
    have h2 : putK acc p.1 p.2 = acc ++ [p] := by
      unfold putK
      rw [h1, if_neg (by decide)]
    show mergeK (putK acc p.1 p.2) more = _
    rw [h2, merge_new more (acc ++ [p]) (by simpa using nd)]
    simp
theorem zip_keys {α : Type} {ks : List Key} {vs : List α} (h : vs.length = ks.length) : (ks.zip vs).map (·.1) = ks ∧ (ks.zip vs).map (·.2) = vs := ⟨by rw [List.map_fst_zip]; omega, by rw [List.map_snd_zip]; omega⟩
theorem l_dct {X : Cx} {pos : Pos} {keys : List (Option Expr)} {values : List Expr} {ks : List Key} {wl : WA} {trs : List (TE × TE)} (hp : PPs X pos keys values trs) (ok : PairsOk X.K ks ks.length wl trs) (hall : keys.all (·.isSome) = true) (hl : keys.length = values.length) (h0 : keys ≠ [])
    (h15 : keys.length ≤ 15) (k15 : ks.length ≤ 15) (nd : ks.Nodup) : PE X (.Dict keys values pos) (liftE X.K fun σ h Q => wl σ h fun ds h1 => ∀ n, h1 n = none → Q (.ref n) (h1.set n (.dK (ks.zip ds)))) := by
  refine pe_imp (pe_disp hp hall hl h0 h15) fun σ H Q ⟨w, σd, h, QD, eH, rel, rs, q, post⟩ => ?_
  subst eH
  intro p hp
  obtain ⟨n, n1, n2⟩ := rel.fresh
  obtain ⟨x2, rel2⟩ := own_dead (o := .dK []) rel n1 n2 hp
  refine ok (w.own n p (.dK [])) σd σ h _ _ rel2 (rs.mono x2) q fun w3 h3 ds vs x3 rel3 r3 hl3 q3 => ?_
  have m2 : (w.own n p (.dK [])).m n = some p := if_pos rfl
  obtain ⟨d1, d2, d3⟩ := x3.dead n p m2 n2 fun z => z.1 rfl
  have m3 := x3.m n p m2
  have lv : vs.length = ks.length := by rw [← r3.length]; exact hl3
  refine ⟨d2.trans upd_same, ks.zip vs, rfl, by rw [List.length_zip]; omega, ?_⟩
  have em : mergeK [] (ks.zip vs) = ks.zip vs := merge_new _ [] (by rw [List.map_nil, List.nil_append, (zip_keys lv).1]; exact nd)
  rw [em]
  obtain ⟨_, rel4, _, rds4⟩ := put_dead (o := .dK (ks.zip vs)) rel3 m3 d1 d3
  have x4 : Ext w (w3.put p (.dK (ks.zip vs))) h h3 := ext_put_dead (x2.trans x3) rel3 n1 m3 d1 d3
  have ld : ds.length = ks.length := hl3
  obtain ⟨x5, rel5⟩ := revive (c := .dK (ks.zip ds)) x4 rel4 n1 m3 d3 ⟨ks.zip vs, upd_same, by rw [(zip_keys lv).1, (zip_keys ld).1], by rw [(zip_keys lv).2, (zip_keys ld).2]; exact rds4 _ _ r3⟩
  exact post _ _ (.ref n) (.ref p) x5 rel5 (.ref m3) (q3 n d1)
theorem l_dct0 {X : Cx} {pos : Pos} : PE X (.Dict [] [] pos) (liftE X.K fun σ h Q => ∀ n, h n = none → Q (.ref n) (h.set n (.dK []))) := by
  refine pe_imp pe_dnewK fun σ H Q ⟨w, σd, h, QD, eH, rel, rs, q, post⟩ => ?_
  subst eH
  intro p hp
  obtain ⟨n, n1, n2⟩ := rel.fresh
  have x : Ext w (w.own n p (.dK [])) h (h.set n (.dK [])) := ext_own rel n1 hp
  exact post _ _ (.ref n) (.ref p) x (rel_own rel n1 hp ⟨[], upd_same, rfl, .nil⟩) (.ref (if_pos rfl)) (q n n2)
/-- a dead cell is frozen -/
theorem ice_dead {K : PySem.W.Frag} {w w3 : Wd} {h h3 : Hd} {n : Nat} {p : Addr} (x : Ext w w3 h h3) (rel : RelW K w3 h3) (n1 : w.m n = none) (m3 : w3.m n = some p) (d1 : h3 n = none) (d3 : ¬ w3.fz n) :
    Ext w { w3 with fz := fun k => k = n ∨ w3.fz k } h h3 ∧ RelW K { w3 with fz := fun k => k = n ∨ w3.fz k } h3 ∧ ¬ ({ w3 with fz := fun k => k = n ∨ w3.fz k } : Wd).mut p ∧
      ∀ ds vs, RDs K w3 ds vs → RDs K { w3 with fz := fun k => k = n ∨ w3.fz k } ds vs := by
  have mu : ∀ a, ({ w3 with fz := fun k => k = n ∨ w3.fz k } : Wd).mut a → w3.mut a := fun a q => by
    rcases q with ⟨k, e, f⟩ | q
    · exact .inl ⟨k, e, fun z => f (.inr z)⟩
    · exact .inr q
  have y : Ext w3 { w3 with fz := fun k => k = n ∨ w3.fz k } (fun _ => some (.lst [])) h3 := ⟨fun _ _ e => e, fun _ e => e, fun _ _ _ e => e, fun a q => .inl (mu a q), fun _ _ _ e _ => by cases e⟩
  refine ⟨⟨x.m, x.dk, x.keep, fun a q => x.new a (mu a q), fun k a e q f => ?_⟩, ⟨fun i k a e1 e2 f1 f2 => rel.inj i k a e1 e2 (fun z => f1 (.inr z)) fun z => f2 (.inr z), fun i c e => ?_, fun i c e z => z.elim (fun z => ?_) (rel.live i c e), rel.there, rel.fin,
    fun q e => ⟨(rel.deck q e).1, fun i f => (rel.deck q e).2 i fun z => f (.inr z)⟩, rel.dks⟩, fun q => ?_, fun ds vs r => r.mono y⟩
  · obtain ⟨a1, a2, a3⟩ := x.dead k a e q f
    refine ⟨a1, a2, fun z => z.elim (fun z => ?_) a3⟩
    rw [z, n1] at e; cases e
  · obtain ⟨a, e1, rc⟩ := rel.has i c e
    refine ⟨a, e1, ?_⟩
    cases c with
    | lst ds =>
      obtain ⟨xs, e2, r, l⟩ := rc
      exact ⟨xs, e2, r.mono y, l⟩
    | dK kvs =>
      obtain ⟨xs, e2, e3, r⟩ := rc
      exact ⟨xs, e2, e3, r.mono y⟩
  · rw [z, d1] at e; cases e
  · rcases q with ⟨k, ek, fk⟩ | ⟨q, eq, z⟩
    · exact fk (.inl (rel.inj k n p ek m3 (fun z => fk (.inr z)) d3))
    · have d := (rel.deck q eq).2 n d3
      rcases z with z | z
      · exact d.1 (z ▸ m3)
      · exact d.2 (z ▸ m3)
theorem l_dcF {X : Cx} {pos : Pos} {keys : List (Option Expr)} {values : List Expr} {ks : List Key} {wl : WA} {trs : List (TE × TE)} (hp : PPs X pos keys values trs) (ok : PairsOk X.K ks ks.length wl trs) (hall : keys.all (·.isSome) = true) (hl : keys.length = values.length) (h0 : keys ≠ [])
    (h15 : keys.length ≤ 15) (k15 : ks.length ≤ 15) (nd : ks.Nodup) : PE X (.Dict keys values pos) (liftE X.K fun σ h Q => wl σ h fun ds h1 => Q (.dic ks ds) h1) := by
  refine pe_imp (pe_disp hp hall hl h0 h15) fun σ H Q ⟨w, σd, h, QD, eH, rel, rs, q, post⟩ => ?_
  subst eH
  intro p hp
  obtain ⟨n, n1, n2⟩ := rel.fresh
  obtain ⟨x2, rel2⟩ := own_dead (o := .dK []) rel n1 n2 hp
  refine ok (w.own n p (.dK [])) σd σ h _ _ rel2 (rs.mono x2) q fun w3 h3 ds vs x3 rel3 r3 hl3 q3 => ?_
  have m2 : (w.own n p (.dK [])).m n = some p := if_pos rfl
  obtain ⟨d1, d2, d3⟩ := x3.dead n p m2 n2 fun z => z.1 rfl
  have m3 := x3.m n p m2
  have lv : vs.length = ks.length := by rw [← r3.length]; exact hl3
  refine ⟨d2.trans upd_same, ks.zip vs, rfl, by rw [List.length_zip]; omega, ?_⟩
  have em : mergeK [] (ks.zip vs) = ks.zip vs := merge_new _ [] (by rw [List.map_nil, List.nil_append, (zip_keys lv).1]; exact nd)
  rw [em]
  obtain ⟨_, rel4, _, rds4⟩ := put_dead (o := .dK (ks.zip vs)) rel3 m3 d1 d3
  have x4 : Ext w (w3.put p (.dK (ks.zip vs))) h h3 := ext_put_dead (x2.trans x3) rel3 n1 m3 d1 d3
  obtain ⟨x5, rel5, nm, rds5⟩ := ice_dead x4 rel4 n1 m3 d1 d3
  exact post _ _ (.dic ks ds) (.ref p) x5 rel5 (.dic ⟨nm, upd_same⟩ hl3.symm (rds5 _ _ (rds4 _ _ r3))) q3
theorem l_dcF0 {X : Cx} {pos : Pos} : PE X (.Dict [] [] pos) (liftE X.K fun σ h Q => Q (.dic [] []) h) := by
  refine pe_imp pe_dnewK fun σ H Q ⟨w, σd, h, QD, eH, rel, rs, q, post⟩ => ?_
  subst eH
  intro p hp
  exact post _ _ (.dic [] []) (.ref p) (ext_put rel hp) (rel_put rel hp) (.dic ⟨fun z => rel.nmut hp z, upd_same⟩ rfl .nil) q
end G

/-! Starred targets. -/
namespace G
open PySem PySem.Spec PyProof.Rows L2

section
variable {prog : Program} {w : World} {A : Around} {E : Value → Shared → Prop} {I : Addr} {fp wr : List Addr} {n : Nat} {P : Nat → Value → Prop} {St : Nat → Heap → Prop}
theorem walk_shift (W : Walks prog w A I fp wr n P St) (k : Nat) (hk : k ≤ n) : Walks prog w A I fp wr (n - k) (fun i => P (k + i)) (fun i => St (k + i)) where
  sub := W.sub
  frame := fun i h h' st hk => W.frame (k + i) h h' st hk
  item := fun i s Q E hi st hQ => W.item (k + i) s Q E (by omega) st hQ
  done := fun s Q E st hQ => W.done s Q E (by rw [show k + (n - k) = n by omega] at st; exact st) hQ
  self := fun i s Q E st hQ => W.self (k + i) s Q E st hQ
theorem draw_walk (W : Walks prog w A I fp wr n P St) : ∀ (k i : Nat) (s : Shared) (Q : List Value → Shared → Prop), i + k ≤ n → St i s.heap →
    (∀ (vs : List Value) h' tk, vs.length = k → (∀ (j : Nat) (v : Value), vs[j]? = some v → P (i + j) v) → St (i + k) h' → (∀ b o, b ∉ wr → s.heap.get? b = some o → h'.get? b = some o) → Q vs { s with heap := h', toks := tk }) → wpAny (model prog w) A (draw (.ref I) k) Q E s
  | 0, i, s, Q, _, st, hQ => by
    show wpAny _ _ (pure []) Q E s
    exact wpAny_pure (hQ [] s.heap s.toks rfl (fun j v e => by simp at e) st fun _ _ _ e => e)
  | k + 1, i, s, Q, hk, st, hQ => by
    show wpAny _ _ (pyNext (.ref I) >>= _) Q E s
    refine wpAny_bind (W.item i s _ _ (by omega) st fun v h1 tk hP st1 k1 => ?_)
    refine wpAny_bind (wpAny_holding (draw_walk W k (i + 1) _ _ (by omega) st1 fun vs h2 tk2 hl hv st2 k2 => wpAny_pure ?_))
    refine hQ (v :: vs) h2 tk2 (by rw [List.length_cons, hl]) (fun j u e => ?_) (by rw [show i + (k + 1) = i + 1 + k by omega]; exact st2) fun b o hb e => k2 b o hb (k1 b o hb e)
    cases j with
    | zero => simp at e; subst e; exact hP
    | succ j =>
      have := hv j u (by simpa using e)
      rwa [show i + 1 + j = i + (j + 1) by omega] at this
/-- behind pyIter: the first ones, the rest, the list -/
theorem star_tail {items : List Value} {T : String} {s : Shared} {n i : Nat} {Q : List Value → Shared → Prop} (hTm : T = "str_ascii_iterator" ∨ T = "str_iterator" ∨ T = "list_iterator" ∨ T = "tuple_iterator")
    (W : Walks prog w A I fp [I] items.length (fun i v => items[i]? = some v) St) (W1 : Walks prog w A.in1 I fp [I] items.length (fun i v => items[i]? = some v) St)
    (hT : ∀ i (s : Shared), St i s.heap → s.TypeIs (.ref I) T) (hst : St 0 s.heap) (hfp : ∀ b ∈ fp, b ≠ I → ∃ o, s.heap.get? b = some o) (hI : I ∈ fp) (hin : i < n) (hle : n ≤ items.length + 1) (hsz : items.length ≤ sizeLine)
    (hQ : ∀ (h' : Heap) (tk : Nat), (∀ b o, b ≠ I → s.heap.get? b = some o → h'.get? b = some o) →
      Q (items.take i ++ [.ref h'.objs.size] ++ items.drop (items.length - (n - 1 - i))) { s with heap := h'.push { cls := .type "list", data := .seq ((items.drop i).take (items.length - (n - 1))).toArray }, toks := tk }) :
    wpAny (model prog w) A (do
      let first ← holding [.ref I] (draw (.ref I) i)
      if first.length < i then
        rule "unpack.star.too-few-before"
        raiseError "ValueError" s!"not enough values to unpack (expected at least {n - 1}, got {first.length})"
      let rest ← holding first (collect (.ref I))
      let after := n - 1 - i
      if rest.length < after then
        rule "unpack.star.too-few"
        raiseError "ValueError" s!"not enough values to unpack (expected at least {n - 1}, got {i + rest.length})"
      let mid := rest.length - after
      return first ++ [← newList (rest.take mid)] ++ rest.drop mid) Q E s := by
  refine wpAny_bind (wpAny_holding (draw_walk W i 0 s _ (by omega) hst fun first h1 tk1 hl hv st1 k1 => ?_))
  have ef : first = items.take i := by
    apply List.ext_getElem?
    intro j
    by_cases hj : j < i
    · rw [List.getElem?_take_of_lt hj]
      have e : first[j]? = some first[j] := List.getElem?_eq_getElem (by omega)
      rw [e]
      have := hv j _ e
      rw [Nat.zero_add] at this
      exact this.symm
    · rw [List.getElem?_eq_none (by omega), List.getElem?_eq_none (by rw [List.length_take]; omega)]
  rw [if_neg (by omega)]
  have fp1 : ∀ b ∈ fp, b < h1.objs.size := fun b hb => by
    by_cases hbI : b = I
    · obtain ⟨o, ho, _⟩ := hT _ { s with heap := h1, toks := tk1 } st1
      rw [hbI]
      exact Heap.lt_size ho
    · obtain ⟨o, ho⟩ := hfp b hb hbI
      exact Heap.lt_size (k1 b o (by simpa using hbI) ho)
  refine wpAny_bind (wpAny_holding (wpAny_collect_iter hTm ((walk_shift W1 i (by omega)).toS) (fun j s st => hT (i + j) s st) (by rw [Nat.zero_add] at st1; exact st1) fp1 hI (fun s' acc mv it => ?_) (by omega)))
  obtain ⟨h2, g2, d2, tk2, o2⟩ := s'
  obtain ⟨m1, m2, m3, m4, m5⟩ := mv
  have m2 : g2 = s.gens := m2
  have m3 : d2 = s.drawn := m3
  have m4 : o2 = s.os := m4
  subst m2 m3 m4
  have er : acc.toList = items.drop i := by
    apply List.ext_getElem?
    intro j
    have hz : acc.size = items.length - i := it.1
    by_cases hj : j < acc.size
    · have e : acc[j]? = some acc[j] := by simp [hj]
      have := it.2 j _ e
      rw [List.getElem?_drop, this, Array.getElem?_toList, e]
    · rw [List.getElem?_eq_none (by simp; omega), List.getElem?_eq_none (by rw [List.length_drop]; omega)]
  rw [er, ef]
  rw [if_neg (by rw [List.length_drop]; omega)]
  have e1 : (items.drop i).length - (n - 1 - i) = items.length - (n - 1) := by rw [List.length_drop]; omega
  have e2 : (items.drop i).drop (items.length - (n - 1)) = items.drop (items.length - (n - 1 - i)) := by rw [List.drop_drop]; congr 1; omega
  rw [e1]
  refine wpAny_bind (wpAny_newObj_type ?_ ?_)
  · rw [e2]
    exact wpAny_pure (hQ h2 tk2 fun b o hb e => m1 b o (by simpa using hb) (k1 b o (by simpa using hb) e))
  · show _ ≤ sizeLine
    simp
    omega

theorem unpack_star_tuple {t : Addr} {items : List Value} {targets : List (Bool × (Value → Sem Unit))} {i : Nat} {s : Shared} {Q : Unit → Shared → Prop} (hh : A.handled = none) (ht : IsTup s.heap t items.toArray) (hstar : targets.findIdx? (·.1) = some i)
    (hin : i < targets.length) (hle : targets.length ≤ items.length + 1) (hsz : items.length ≤ sizeLine)
    (h : ∀ (h' : Heap) (tk : Nat), (∀ b o, s.heap.get? b = some o → h'.get? b = some o) → wpAny (model prog w) A (assignInOrder (targets.map (·.2)) (items.take i ++ [.ref h'.objs.size] ++ items.drop (items.length - (targets.length - 1 - i)))) Q E
      { s with heap := h'.push { cls := .type "list", data := .seq ((items.drop i).take (items.length - (targets.length - 1))).toArray }, toks := tk }) :
    wpAny (model prog w) A (unpack (.ref t) targets) Q E s := by
  have hlt : t < s.heap.objs.size := by obtain ⟨o, ho, _⟩ := ht; exact Heap.lt_size ho
  unfold unpack
  rw [hstar]
  refine wpAny_bind (wpAny_holding ?_)
  unfold unpackItems
  refine wpAny_bind ?_
  unfold notIterableAtAll
  refine wpAny_bind (wpAny_specialOf ht.typeIs slot_tuple_iter.lookup ?_)
  refine wpAny_pure ?_
  simp only [Bool.false_eq_true, if_false]
  refine wpAny_bind (wpAny_holding (iter_tuple ht ?_))
  have ne : t ≠ s.heap.objs.size := Nat.ne_of_lt hlt
  refine star_tail (T := "tuple_iterator") (fp := [s.heap.objs.size, t]) (St := fun i h => h.IsTupleIter s.heap.objs.size t i ∧ h.IsTuple t items.toArray) (.inr (.inr (.inr rfl))) ?_ ?_ (fun i s st => st.1.typeIs) ⟨⟨_, Heap.get?_push_size _ rfl, rfl, rfl⟩, ht.push _⟩ (fun b hb nb => ?_) (by simp) hin hle hsz fun h' tk k => h h' tk fun b o e => k b o (Nat.ne_of_lt (Heap.lt_size e)) (Heap.get?_push_of_some _ e)
  · have W := Walks.tuple (prog := prog) (w := w) (A := A) hh s.heap.objs.size t ne items.toArray
    simpa using W
  · have W := Walks.tuple (prog := prog) (w := w) (A := A.in1) hh s.heap.objs.size t ne items.toArray
    simpa using W
  · have : b = t := by simpa [nb] using hb
    subst this
    obtain ⟨o, ho, _⟩ := ht
    exact ⟨o, Heap.get?_push_of_some _ ho⟩

theorem unpack_star_list {t : Addr} {items : List Value} {targets : List (Bool × (Value → Sem Unit))} {i : Nat} {s : Shared} {Q : Unit → Shared → Prop} (hh : A.handled = none) (ht : s.heap.IsList t items.toArray) (hstar : targets.findIdx? (·.1) = some i)
    (hin : i < targets.length) (hle : targets.length ≤ items.length + 1) (hsz : items.length ≤ sizeLine)
    (h : ∀ (h' : Heap) (tk : Nat), (∀ b o, s.heap.get? b = some o → h'.get? b = some o) → wpAny (model prog w) A (assignInOrder (targets.map (·.2)) (items.take i ++ [.ref h'.objs.size] ++ items.drop (items.length - (targets.length - 1 - i)))) Q E
      { s with heap := h'.push { cls := .type "list", data := .seq ((items.drop i).take (items.length - (targets.length - 1))).toArray }, toks := tk }) :
    wpAny (model prog w) A (unpack (.ref t) targets) Q E s := by
  have hlt : t < s.heap.objs.size := by obtain ⟨o, ho, _⟩ := ht; exact Heap.lt_size ho
  unfold unpack
  rw [hstar]
  refine wpAny_bind (wpAny_holding ?_)
  unfold unpackItems
  refine wpAny_bind ?_
  unfold notIterableAtAll
  refine wpAny_bind (wpAny_specialOf ht.typeIs slot_list_iter.lookup ?_)
  refine wpAny_pure ?_
  simp only [Bool.false_eq_true, if_false]
  refine wpAny_bind (wpAny_holding (wpAny_pyIter_list ht ?_))
  have ne : t ≠ s.heap.objs.size := Nat.ne_of_lt hlt
  refine star_tail (T := "list_iterator") (fp := [s.heap.objs.size, t]) (St := fun i h => h.IsListIter s.heap.objs.size t i ∧ h.IsList t items.toArray) (.inr (.inr (.inl rfl))) ?_ ?_ (fun i s st => st.1.typeIs) ⟨⟨_, Heap.get?_push_size _ rfl, rfl, rfl⟩, ht.push _⟩ (fun b hb nb => ?_) (by simp) hin hle hsz fun h' tk k => h h' tk fun b o e => k b o (Nat.ne_of_lt (Heap.lt_size e)) (Heap.get?_push_of_some _ e)
  · have W := Walks.list (prog := prog) (w := w) (A := A) hh s.heap.objs.size t ne items.toArray
    simpa using W
  · have W := Walks.list (prog := prog) (w := w) (A := A.in1) hh s.heap.objs.size t ne items.toArray
    simpa using W
  · have : b = t := by simpa [nb] using hb
    subst this
    obtain ⟨o, ho, _⟩ := ht
    exact ⟨o, Heap.get?_push_of_some _ ho⟩
end

/-- a, *b, c = .. -/
def gStar (K : PySem.W.Frag) (n i : Nat) (t : TGs) : TG := fun v σ H Q => ∃ a xs, v = .ref a ∧ (SqT K H a xs ∨ SqL K H a xs) ∧ n ≤ xs.length + 1 ∧ ∀ p, H p = none → t (xs.take i ++ [.ref p] ++ xs.drop (xs.length - (n - 1 - i))) σ (upd H p (.lst ((xs.drop i).take (xs.length - (n - 1))))) Q
theorem vals_take {vs : List V} {us : List Value} (r : Vals vs us) : ∀ n, Vals (vs.take n) (us.take n) := by
  intro n
  induction r generalizing n with
  | nil => simp; exact .nil
  | cons h t ih =>
    cases n with
    | zero => simp; exact .nil
    | succ n => rw [List.take_succ_cons, List.take_succ_cons]; exact .cons h (ih n)
theorem vals_drop {vs : List V} {us : List Value} (r : Vals vs us) : ∀ n, Vals (vs.drop n) (us.drop n) := by
  intro n
  induction r generalizing n with
  | nil => simp; exact .nil
  | cons h t ih =>
    cases n with
    | zero => exact .cons h t
    | succ n => rw [List.drop_succ_cons, List.drop_succ_cons]; exact ih n
theorem vals_append {vs ws : List V} {us xs : List Value} (r : Vals vs us) (q : Vals ws xs) : Vals (vs ++ ws) (us ++ xs) := by
  induction r with
  | nil => exact q
  | cons h t ih => exact .cons h ih
theorem pg_star {X : Cx} {pos : Pos} {es : List Expr} {k n i : Nat} {t : TGs} (hc : X.calm = true) (h : PGs X es t) (hn : (assignEach es X.env).length = n) (hst : (assignEach es X.env).findIdx? (·.1) = some i) (hin : i < n) : PG X (.Tuple es k pos) (gStar X.K n i t) := by
  refine ⟨fun pins s σ H v u Q I r hw => ?_⟩
  obtain ⟨a, xs, e1, hq, hl, hw⟩ := hw
  subst e1
  cases r
  subst hn
  have fin : ∀ (its : List Value), Vals xs its → xs.length ≤ sizeLine → ∀ (h' : Heap) (tk : Nat), (∀ b o, s.heap.get? b = some o → h'.get? b = some o) →
      wpAny (model X.prog X.w) X.A (assignInOrder ((assignEach es X.env).map (·.2)) (its.take i ++ [.ref h'.objs.size] ++ its.drop (its.length - ((assignEach es X.env).length - 1 - i)))) (fun _ s' => ∃ σ' H', Inv X pins σ' H' s' ∧ Q σ' H') X.xe
      { s with heap := h'.push { cls := .type "list", data := .seq ((its.drop i).take (its.length - ((assignEach es X.env).length - 1))).toArray }, toks := tk } := by
    intro its rv hz h' tk kp
    have hlen := rv.length
    have I1 : Inv X pins σ H { s with heap := h', toks := tk } := I.kept kp
    have I2 := I1.laid (a := h'.objs.size) (o := .lst ((xs.drop i).take (xs.length - ((assignEach es X.env).length - 1)))) (h' := h'.push { cls := .type "list", data := .seq ((its.drop i).take (its.length - ((assignEach es X.env).length - 1))).toArray }) (t' := tk) (fun _ _ q => Heap.get?_push_of_some _ q) (Nat.le_refl _)
      ⟨by rw [List.length_take, List.length_drop]; omega, (its.drop i).take (its.length - ((assignEach es X.env).length - 1)), _, by rw [hlen]; exact vals_take (vals_drop rv _) _, Heap.get?_push_size _ rfl⟩
    refine h.run pins _ σ _ _ _ Q I2 ?_ (hw _ (I1.hok.fresh (Nat.le_refl _)))
    rw [hlen]
    exact vals_append (vals_append (vals_take rv _) (.cons rfl .nil)) (vals_drop rv _)
  rw [assign_Tuple]
  refine wpAny_bind (wpAny_standAt ?_)
  rcases hq with hq | hq
  · obtain ⟨its, rv, ht, hz⟩ := I.tuple hq
    exact unpack_star_tuple (I.ok.hd hc) ht hst hin (by rw [← rv.length]; exact hl) (by rw [← rv.length]; exact hz) (fin its rv hz)
  · obtain ⟨its, rv, ht, hz⟩ := I.list hq
    exact unpack_star_list (I.ok.hd hc) ht.isList hst hin (by rw [← rv.length]; exact hl) (by rw [← rv.length]; exact hz) (fin its rv hz)

theorem starI_of {K : PySem.W.Frag} {w : Wd} {h : Hd} {d : D} {v : V} {R : List D → Prop} (rel : RelW K w h) (r : RD K w d v) (q : starI d h R) : ∃ a xs ds, v = .ref a ∧ (SqT K w.H a xs ∨ SqL K w.H a xs) ∧ RDs K w ds xs ∧ ds.length ≤ sizeLine ∧ R ds := by
  unfold starI at q
  split at q
  · cases r with
    | tup s l rr => exact ⟨_, _, _, rfl, .inl s.sq, rr, l, q⟩
  · split at q
    · rename_i ds e
      obtain ⟨a, xs, rfl, e2, rr, l⟩ := view_lst rel r e
      exact ⟨a, xs, ds, rfl, .inr (.inl (.inl e2)), rr, l, q⟩
    · exact q.elim
theorem s_star {X : Cx} {e : Expr} {es : List Expr} {kk i n : Nat} {pos tp : Pos} {nw : Bool} {wa : WE} {vs : List Nat} {gs : List D → Sl → (Sl → Prop) → Prop} (hc : X.calm = true) (he : PE X e (liftE X.K wa)) (hgs : PGs X es (liftGs X.K vs gs))
    (hn : (assignEach es X.env).length = n) (hst : (assignEach es X.env).findIdx? (·.1) = some i) (hin : i < n) (hsw : swapsWithSole [.Tuple es kk tp] e pos.line X.env = pure false) (hw : swappedStores [.Tuple es kk tp] e X.env = pure none) :
    PS X (.Assign [.Tuple es kk tp] e pos) (liftS X.K fun E σ h => wa σ h fun d h1 => starI d h1 fun ds => n ≤ ds.length + 1 ∧ listed nw ((ds.drop i).take (ds.length - (n - 1))) h1 fun m h2 =>
      gs (ds.take i ++ [m] ++ ds.drop (ds.length - (n - 1 - i))) σ fun σ' => E.nx σ' h2) := by
  refine ps_imp (ps_asg he (pg_star hc hgs hn hst hin) hsw hw rfl) fun D' σ H ⟨w, σd, h, E, eH, rel, rs, q, post⟩ => ?_
  refine ⟨w, σd, h, _, eH, rel, rs, q, fun w1 h1 d v x1 rel1 r1 q1 => ?_⟩
  obtain ⟨a, xs, ds, rfl, sq, rr, ll, hl, q2⟩ := starI_of rel1 r1 q1
  have len := rr.length
  refine ⟨a, xs, rfl, sq, by omega, fun p hp => ?_⟩
  rw [← len]
  have rm : RDs X.K w1 ((ds.drop i).take (ds.length - (n - 1))) ((xs.drop i).take (ds.length - (n - 1))) := (rr.drop i).take _
  have lm : ((ds.drop i).take (ds.length - (n - 1))).length ≤ sizeLine := by rw [List.length_take, List.length_drop]; omega
  cases nw with
  | false =>
    have x2 : Ext w1 (w1.put p (.lst ((xs.drop i).take (ds.length - (n - 1))))) h1 h1 := ext_put rel1 hp
    refine ⟨w1.put p (.lst ((xs.drop i).take (ds.length - (n - 1)))), σd, h1, _, _, rfl, rel_put rel1 hp, (rs.mono x1).mono x2, ?_, q2, fun σd' σ' rs' _ q3 => ?_⟩
    · exact (((rr.take i).mono x2).append (.cons (.lst ⟨rel1.nmut hp, upd_same⟩ lm (rm.mono x2)) .nil)).append ((rr.drop _).mono x2)
    · exact post.1 _ h1 σd' σ' (x1.trans x2) (rel_put rel1 hp) rs' q3
  | true =>
    obtain ⟨k, k1, k2⟩ := rel1.fresh
    have x2 : Ext w1 (w1.own k p (.lst ((xs.drop i).take (ds.length - (n - 1))))) h1 (h1.set k (.lst ((ds.drop i).take (ds.length - (n - 1))))) := ext_own rel1 k1 hp
    have rel2 : RelW X.K (w1.own k p (.lst ((xs.drop i).take (ds.length - (n - 1))))) (h1.set k (.lst ((ds.drop i).take (ds.length - (n - 1))))) := rel_own rel1 k1 hp ⟨_, upd_same, rm.mono x2, lm⟩
    refine ⟨_, σd, _, _, _, rfl, rel2, (rs.mono x1).mono x2, ?_, q2 k k2, fun σd' σ' rs' _ q3 => ?_⟩
    · exact (((rr.take i).mono x2).append (.cons (.ref (if_pos rfl)) .nil)).append ((rr.drop _).mono x2)
    · exact post.1 _ _ σd' σ' (x1.trans x2) rel2 rs' q3
end G

/-! More walks: zip, range with a step, reversed. -/
namespace G
open PySem PySem.Spec PyProof.Rows L2

theorem zipD_get {ds es : List D} {i : Nat} {d : D} (e : (zipD ds es)[i]? = some d) : ∃ a b, ds[i]? = some a ∧ es[i]? = some b ∧ d = .tup [a, b] := by
  unfold zipD at e
  rw [List.getElem?_zipWith] at e
  cases e1 : ds[i]? with
  | none => rw [e1] at e; cases e
  | some a =>
    cases e2 : es[i]? with
    | none => rw [e1, e2] at e; cases e
    | some b => rw [e1, e2] at e; cases e; exact ⟨a, b, rfl, rfl, rfl⟩
theorem lstI_of {K : PySem.W.Frag} {w : Wd} {h : Hd} {d : D} {v : V} {ds : List D} {st : Hd → Prop} (rel : RelW K w h) (r : RD K w d v) (e : lstI d h = some (ds, st)) :
    ds.length ≤ sizeLine ∧ st h ∧ ∃ a, v = .ref a ∧ ∀ w2 h2, Ext w w2 h h2 → RelW K w2 h2 → st h2 → ∃ xs, SqL K w2.H a xs ∧ RDs K w2 ds xs := by
  unfold lstI at e
  split at e
  · cases e
    cases r with
    | lst s ll rr => exact ⟨ll, trivial, _, rfl, fun w2 h2 x _ _ => ⟨_, .inl (.inl (x.keep _ _ s.1 s.2)), rr.mono x⟩⟩
  · rename_i n
    split at e
    · rename_i es en
      cases e
      obtain ⟨b, e1, xs, e2, rr, ll⟩ := rel.has n _ en
      cases r with
      | ref e =>
        rw [e] at e1; cases e1
        refine ⟨ll, en, _, rfl, fun w2 h2 x rel2 st => ?_⟩
        obtain ⟨b', e1', xs', e2', rr', _⟩ := rel2.has n _ st
        rw [x.m n _ e] at e1'; cases e1'
        exact ⟨xs', .inl (.inl e2'), rr'⟩
    · cases e
  · cases e
theorem zipD_len (ds es : List D) : (zipD ds es).length = min ds.length es.length := by unfold zipD; rw [List.length_zipWith]
/-- the pair that a turn hands on -/
theorem pair_turn {K : PySem.W.Frag} {w : Wd} {h : Hd} {T : Addr} {x y : V} {a b : D} (rel : RelW K w h) (hT : w.H T = none) (ra : RD K w a x) (rb : RD K w b y) :
    ∃ w3 : Wd, w3.H = upd w.H T (.tup [x, y]) ∧ Ext w w3 h h ∧ RelW K w3 h ∧ RD K w3 (.tup [a, b]) (.ref T) :=
  ⟨w.put T (.tup [x, y]), rfl, ext_put rel hT, rel_put rel hT, .tup (.inl ⟨rel.nmut hT, upd_same⟩) (by show 2 ≤ sizeLine; decide) (.cons (ra.mono (ext_put rel hT)) (.cons (rb.mono (ext_put rel hT)) .nil))⟩
theorem itok_zipL {K : PySem.W.Frag} {w : Wd} {h : Hd} {a b : Addr} {ds es : List D} {s1 s2 : Hd → Prop} (l : ds.length ≤ sizeLine) (at1 : ∀ w2 h2, Ext w w2 h h2 → RelW K w2 h2 → s1 h2 → ∃ xs, SqL K w2.H a xs ∧ RDs K w2 ds xs)
    (at2 : ∀ w2 h2, Ext w w2 h h2 → RelW K w2 h2 → s2 h2 → ∃ xs, SqL K w2.H b xs ∧ RDs K w2 es xs) : ItOk K w h (zipD ds es) (fun h => s1 h ∧ s2 h) (Itz K a b) where
  len := by rw [zipD_len]; omega
  go := fun w2 h2 x rel st i d e => by
    obtain ⟨xs, q1, r1⟩ := at1 w2 h2 x rel st.1
    obtain ⟨ys, q2, r2⟩ := at2 w2 h2 x rel st.2
    obtain ⟨da, db, ea, eb, rfl⟩ := zipD_get e
    obtain ⟨va, va1, va2⟩ := r1.get ea
    obtain ⟨vb, vb1, vb2⟩ := r2.get eb
    refine ⟨⟨xs, ys, va, vb, q1, q2, va1, vb1⟩, fun v H' hv => ?_⟩
    obtain ⟨T, x', y', rfl, nT, rfl, f1, f2⟩ := hv
    cases (f1 xs q1).symm.trans va1
    cases (f2 ys q2).symm.trans vb1
    exact pair_turn rel nT va2 vb2
  stop := fun w2 h2 x rel st => by
    obtain ⟨xs, q1, r1⟩ := at1 w2 h2 x rel st.1
    obtain ⟨ys, q2, r2⟩ := at2 w2 h2 x rel st.2
    refine ⟨xs, ys, q1, q2, ?_⟩
    rw [zipD_len, ← r1.length, ← r2.length]
    omega
theorem itok_zipT {K : PySem.W.Frag} {w : Wd} {h : Hd} {a b : Addr} {ds es : List D} {xs ys : List V} (l : ds.length ≤ sizeLine) (t1 : STup K w a xs) (r1 : RDs K w ds xs) (t2 : STup K w b ys) (r2 : RDs K w es ys) : ItOk K w h (zipD ds es) (fun _ => True) (RZ.ItzT K a b) where
  len := by rw [zipD_len]; omega
  go := fun w2 h2 x rel st i d e => by
    obtain ⟨da, db, ea, eb, rfl⟩ := zipD_get e
    obtain ⟨va, va1, va2⟩ := (r1.mono x).get ea
    obtain ⟨vb, vb1, vb2⟩ := (r2.mono x).get eb
    refine ⟨⟨xs, ys, va, vb, (t1.mono x).sq, (t2.mono x).sq, va1, vb1⟩, fun v H' hv => ?_⟩
    obtain ⟨T, x', y', rfl, nT, rfl, f1, f2⟩ := hv
    cases (f1 xs (t1.mono x).sq).symm.trans va1
    cases (f2 ys (t2.mono x).sq).symm.trans vb1
    exact pair_turn rel nT va2 vb2
  stop := fun w2 h2 x rel st => ⟨xs, ys, (t1.mono x).sq, (t2.mono x).sq, by rw [zipD_len, ← r1.length, ← r2.length]; omega⟩
section
variable {X : Cx} {tg : Expr}
theorem li_zip {elts : List Expr} {kk : Nat} {tpos : Pos} {e e2 : Expr} {p pos : Pos} {wa wb : WE} (hg : Gl X "zip") (hm : X.mg "zip" = none) (hp : pl e = true) (hp2 : pl e2 = true) (he : PE X e (liftE X.K wa)) (he2 : PE X e2 (liftE X.K wb)) :
    PI X (.Tuple elts kk tpos) (.Call (.Name "zip" p) [e, e2] [] pos) (liftI X.K fun σ h R => wa σ h fun x h1 => wb σ h1 fun y h2 => zipI x y h2 fun ds st => R ds st h2) := by
  refine pi_imp (RZ.pi_zipA hg hm (la_cons hp he (la_cons hp2 he2 la_nil)) (star_pl hp) (star_all (by simp [hp2]))) fun σ H R ⟨w, σd, h, QD, eH, rel, rs, q, post⟩ => ?_
  refine ⟨w, σd, h, fun ds h1 => match ds with | [x, y] => (zipI x y h1 fun ds st => QD ds st h1) | _ => False, eH, rel, rs, q, fun w1 h1 ds vs x1 rel1 r1 _ q1 => ?_⟩
  match ds, r1, q1 with
  | [d, d2], r1, q1 =>
    obtain ⟨v, v2, rfl, r, r2⟩ := rds2 r1
    replace q1 : zipI d d2 h1 fun ds st => QD ds st h1 := q1
    unfold zipI at q1
    split at q1
    · cases r with
      | tup s1 l1 q2 =>
        cases r2 with
        | tup s2 l2 q3 => exact ⟨_, _, _, _, rfl, .inr ⟨s1.sq, s2.sq, post w1 h1 _ _ _ x1 rel1 (itok_zipT l1 s1 q2 s2 q3) q1⟩⟩
    · split at q1
      · rename_i ds s1 es s2 e1 e2
        obtain ⟨l1, h1', a, rfl, at1⟩ := lstI_of rel1 r e1
        obtain ⟨l2, h2', b, rfl, at2⟩ := lstI_of rel1 r2 e2
        obtain ⟨xs, sx, _⟩ := at1 w1 h1 (Ext.refl _ _) rel1 h1'
        obtain ⟨ys, sy, _⟩ := at2 w1 h1 (Ext.refl _ _) rel1 h2'
        exact ⟨_, _, xs, ys, rfl, .inl ⟨sx, sy, post w1 h1 _ _ _ x1 rel1 (itok_zipL l1 at1 at2) q1⟩⟩
      · exact q1.elim

theorem itok_step {K : PySem.W.Frag} {w : Wd} {h : Hd} {lo c : Int} {n : Nat} (l : n ≤ sizeLine) : ItOk K w h (stepD lo c n) (fun _ => True) (Itc lo c n) where
  len := by simpa [stepD] using l
  go := fun w2 h2 x rel _ i d e => by
    unfold stepD at e
    rw [List.getElem?_map] at e
    obtain ⟨j, ej, ed⟩ := Option.map_eq_some_iff.mp e
    have hi : i < n := by
      have := (List.getElem?_eq_some_iff.mp ej).1
      simpa using this
    rw [List.getElem?_range hi] at ej
    cases ej
    subst ed
    refine ⟨hi, fun y H' hy => ?_⟩
    obtain ⟨rfl, rfl⟩ := hy
    exact ⟨w2, rfl, Ext.refl _ _, rel, .int _⟩
  stop := fun w2 h2 x rel _ => by
    show n ≤ _
    simp [stepD]
theorem rds3 {K : PySem.W.Frag} {w : Wd} {a b c : D} {vs : List V} (r : RDs K w [a, b, c] vs) : ∃ x y z, vs = [x, y, z] ∧ RD K w a x ∧ RD K w b y ∧ RD K w c z := by
  cases r with
  | cons r1 r => cases r with
    | cons r2 r => cases r with
      | cons r3 r =>
        cases r
        exact ⟨_, _, _, rfl, r1, r2, r3⟩
theorem li_rng3 {e e2 e3 : Expr} {p pos : Pos} {wa wb wc : WE} (hg : Gl X "range") (hm : X.mg "range" = none) (hp : pl e = true) (hp2 : pl e2 = true) (hp3 : pl e3 = true) (he : PE X e (liftE X.K wa)) (he2 : PE X e2 (liftE X.K wb)) (he3 : PE X e3 (liftE X.K wc)) :
    PI X tg (.Call (.Name "range" p) [e, e2, e3] [] pos) (liftI X.K fun σ h R => wa σ h fun x h1 => wb σ h1 fun y h2 => wc σ h2 fun z h3 => rng3 x y z fun ds => R ds (fun _ => True) h3) := by
  refine pi_imp (pi_range3 hg hm (la_cons hp he (la_cons hp2 he2 (la_cons hp3 he3 la_nil))) (star_pl hp) (star_all (by simp [hp2, hp3]))) fun σ H R ⟨w, σd, h, QD, eH, rel, rs, q, post⟩ => ?_
  refine ⟨w, σd, h, fun ds h1 => match ds with | [x, y, z] => (rng3 x y z fun ds => QD ds (fun _ => True) h1) | _ => False, eH, rel, rs, q, fun w1 h1 ds vs x1 rel1 r1 _ q1 => ?_⟩
  match ds, r1, q1 with
  | [d, d2, d3], r1, q1 =>
    replace q1 : rng3 d d2 d3 fun ds => QD ds (fun _ => True) h1 := q1
    obtain ⟨i, j, c, n, rfl, rfl, rfl, rg, hn, q1⟩ := q1
    obtain ⟨v1, v2, v3, rfl, r, r2, r3⟩ := rds3 r1
    cases r
    cases r2
    cases r3
    have hs : sizeLine = 16777216 := sizeLine_eq
    exact ⟨i, j, c, n, rfl, rg, post w1 h1 _ _ _ x1 rel1 (itok_step (by omega)) q1⟩
/-- reversed of a list or a tuple -/
theorem itok_revL {K : PySem.W.Frag} {w : Wd} {h : Hd} {a : Addr} {ds : List D} {st : Hd → Prop} (l : ds.length ≤ sizeLine) (at1 : ∀ w2 h2, Ext w w2 h h2 → RelW K w2 h2 → st h2 → ∃ xs, SqL K w2.H a xs ∧ RDs K w2 ds xs) : ItOk K w h ds.reverse st (Itv K a ds.length) where
  len := by rw [List.length_reverse]; exact l
  go := fun w2 h2 x rel s i d e => by
    obtain ⟨xs, q1, r1⟩ := at1 w2 h2 x rel s
    have hi : i < ds.length := by
      have := (List.getElem?_eq_some_iff.mp e).1
      simpa using this
    have e' : ds[ds.length - 1 - i]? = some d := by rw [← e, List.getElem?_reverse hi]
    obtain ⟨v, v1, v2⟩ := r1.get e'
    refine ⟨⟨hi, xs, v, q1, v1⟩, fun y H' hy => ?_⟩
    obtain ⟨rfl, hy⟩ := hy
    cases (hy xs q1).symm.trans v1
    exact ⟨w2, rfl, Ext.refl _ _, rel, v2⟩
  stop := fun w2 h2 x rel s => by show ds.length ≤ _; rw [List.length_reverse]; exact Nat.le_refl _
theorem itok_revT {K : PySem.W.Frag} {w : Wd} {h : Hd} {a : Addr} {ds : List D} {xs : List V} (l : ds.length ≤ sizeLine) (t1 : STup K w a xs) (r1 : RDs K w ds xs) : ItOk K w h ds.reverse (fun _ => True) (RT.ItvT K a ds.length) where
  len := by rw [List.length_reverse]; exact l
  go := fun w2 h2 x rel s i d e => by
    have hi : i < ds.length := by
      have := (List.getElem?_eq_some_iff.mp e).1
      simpa using this
    have e' : ds[ds.length - 1 - i]? = some d := by rw [← e, List.getElem?_reverse hi]
    obtain ⟨v, v1, v2⟩ := (r1.mono x).get e'
    refine ⟨⟨hi, xs, v, (t1.mono x).sq, v1⟩, fun y H' hy => ?_⟩
    obtain ⟨rfl, hy⟩ := hy
    cases (hy xs (t1.mono x).sq).symm.trans v1
    exact ⟨w2, rfl, Ext.refl _ _, rel, v2⟩
  stop := fun w2 h2 x rel s => by show ds.length ≤ _; rw [List.length_reverse]; exact Nat.le_refl _
theorem li_rev {e : Expr} {p pos : Pos} {wa : WE} (hg : Gl X "reversed") (hm : X.mg "reversed" = none) (hp : pl e = true) (he : PE X e (liftE X.K wa)) :
    PI X tg (.Call (.Name "reversed" p) [e] [] pos) (liftI X.K fun σ h R => wa σ h fun x h1 => revI x h1 fun ds st => R ds st h1) := by
  refine pi_imp (RT.pi_revA hg hm he (star_pl hp)) fun σ H R ⟨w, σd, h, QD, eH, rel, rs, q, post⟩ => ?_
  refine ⟨w, σd, h, _, eH, rel, rs, q, fun w1 h1 d v x1 rel1 r1 q1 => ?_⟩
  unfold revI at q1
  split at q1
  · cases r1 with
    | tup s1 l1 q2 =>
      refine ⟨_, _, rfl, .inr ⟨s1.sq, ?_⟩⟩
      rw [← q2.length]
      exact post w1 h1 _ _ _ x1 rel1 (itok_revT l1 s1 q2) q1
  · split at q1
    · rename_i ds st e1
      obtain ⟨l1, h1', a, rfl, at1⟩ := lstI_of rel1 r1 e1
      obtain ⟨xs, sx, rx⟩ := at1 w1 h1 (Ext.refl _ _) rel1 h1'
      refine ⟨_, xs, rfl, .inl ⟨sx, ?_⟩⟩
      rw [← rx.length]
      exact post w1 h1 _ _ _ x1 rel1 (itok_revL l1 at1) q1
    · exact q1.elim
end
end G

/-! enumerate over tuples. -/
namespace G
open PySem PySem.Spec PyProof.Rows L2
open AutoSeq1 (wpAny_loadPart')

set_option maxHeartbeats 1000000 in
theorem meets_enum_tup (l : Addr) (items : Array Value) :
    Meets (Builtin.«enumerate.__new__» ⟨[.type "enumerate", .ref l], []⟩) (fun _ R s => IsTup s.heap l items ∧
      R (.ok (.ret (.ref (s.heap.push { cls := .type "tuple_iterator", data := .fields #[.ref l, .int 0 0] }).objs.size)))
        { s with heap := (s.heap.push { cls := .type "tuple_iterator", data := .fields #[.ref l, .int 0 0] }).push { cls := .type "enumerate", data := .fields #[.none, .bool false, .ref s.heap.objs.size, rawInt 0, .none, .none] } }) :=
  .of_wp fun prog w A R s h => by
    obtain ⟨hp, g, d, tk, os⟩ := s
    obtain ⟨hT, h⟩ := h
    have hsub := sub_enumerate
    obtain ⟨o, hl, hcl, hda⟩ := id hT
    wp_walk using wpAny_loadPart' hl
    refine wpAny_stack_any fun st => wpAny_pure ?_
    split
    · rename_i c _ _ _ _ _
      cases (c == Value.type "enumerate")
      · wp_walk using wpAny_loadPart' hl, iter_tuple hT
        exact ⟨_, rfl, h⟩
      · wp_walk using wpAny_loadPart' hl, iter_tuple hT
        exact ⟨_, rfl, h⟩
    · wp_walk using wpAny_loadPart' hl, iter_tuple hT
      exact ⟨_, rfl, h⟩
set_option maxHeartbeats 1000000 in
theorem meets_enum_tupS (l : Addr) (items : Array Value) (t : Nat) :
    Meets (Builtin.«enumerate.__new__» ⟨[.type "enumerate", .ref l], [("start", .int 1 t)]⟩) (fun _ R s => IsTup s.heap l items ∧
      R (.ok (.ret (.ref (s.heap.push { cls := .type "tuple_iterator", data := .fields #[.ref l, .int 0 0] }).objs.size)))
        { s with heap := (s.heap.push { cls := .type "tuple_iterator", data := .fields #[.ref l, .int 0 0] }).push { cls := .type "enumerate", data := .fields #[.none, .bool false, .ref s.heap.objs.size, rawInt 1, .none, .none] } }) :=
  .of_wp fun prog w A R s h => by
    obtain ⟨hp, g, d, tk, os⟩ := s
    obtain ⟨hT, h⟩ := h
    have hsub := sub_enumerate
    obtain ⟨o, hl, hcl, hda⟩ := id hT
    wp_walk using wpAny_loadPart' hl
    refine wpAny_stack_any fun st => wpAny_pure ?_
    split
    · rename_i c _ _ _ _ _
      cases (c == Value.type "enumerate")
      · wp_walk using wpAny_loadPart' hl, iter_tuple hT
        exact ⟨_, rfl, h⟩
      · wp_walk using wpAny_loadPart' hl, iter_tuple hT
        exact ⟨_, rfl, h⟩
    · wp_walk using wpAny_loadPart' hl, iter_tuple hT
      exact ⟨_, rfl, h⟩
end G

namespace G
open PySem PySem.Spec PyProof.Rows L2
section
variable {prog : Program} {w : World} {A : Around} {E : Value → Shared → Prop} {s : Shared}
theorem init_kw {T newId : String} {ob : Value} {more : List Value} {kw : List (Str × Value)} (lk : typeLookup (.type T) "__init__" = pure (some (.builtin "object.__init__"))) (mk : Bind.madeBy (.type T) = pure (some newId)) (other : (some newId != some "object.__new__") = true) :
    Meets (Builtin.«object.__init__» ⟨ob :: more, kw⟩) (fun _ R s => s.TypeIs ob T ∧ R (.ok (.ret .none)) s) :=
  Meets.of_wp fun prog w A R s ⟨ty, q⟩ => by
    cases more with
    | nil =>
      cases kw with
      | nil => exact wpAny_pure ⟨_, rfl, q⟩
      | cons k kw =>
        repeat (any_goals (first | assumption | wp_step))
        exact ⟨_, rfl, q⟩
    | cons a more =>
      repeat (any_goals (first | assumption | wp_step))
      exact ⟨_, rfl, q⟩
theorem make_kw {T newId : String} {Bn : Builtin} {ps : List Value} {kw : List (Str × Value)} {S : PySem.Spec} {Q : Value → Shared → Prop} (ft : TypeCalled T newId "object.__init__") (other : (some newId != some "object.__new__") = true)
    (c1 : checkTypeCall T ⟨ps, kw⟩ = pure ()) (c2 : checkBuiltinCall newId ⟨.type T :: ps, kw⟩ = pure ()) (c3 : ∀ ob, argsOk "object.__init__" ⟨ob :: ps, kw⟩) (en : entryFor table newId = some Bn) (g : Meets (Bn ⟨.type T :: ps, kw⟩) S)
    (q : S A.in1 (wants (fun ob s1 => s1.TypeIs ob T ∧ Q ob s1) E) s) : wpAny (model prog w) A (call (.type T) ps kw) Q E s := by
  obtain ⟨c, tl, hmro⟩ := ft.mro
  have m1 := ft.made
  have m2 := ft.sub
  have m3 := ft.notType
  have m4 := ft.canCreate
  refine wpAny_call (codeAny_of_tree ?_)
  show wpAny _ _ (callAny (.type T) ⟨ps, kw⟩) _ _ _
  refine wpAny_pure ⟨Code.quiet_builtin _ (by decide +kernel), codeAny_builtin F.entry_type_call ?_⟩
  rw [Around.under_plain (weight_type_call_type T ps kw) (units_type_call_type T ps kw)]
  repeat (any_goals (first | assumption | wp_step))
  refine codeAny_mono (codeAny_call_builtin ft.plain en (wpAny_of_eq c2 (g prog w A.in1 _ s q))) fun r1 s1 w1 => ?_
  match r1, w1 with
  | .error e, w1 => exact w1
  | .ok .next, w1 => exact w1.elim
  | .ok .brk, w1 => exact w1.elim
  | .ok .cont, w1 => exact w1.elim
  | .ok (.ret ob), w1 =>
    obtain ⟨ty, w1⟩ := w1
    have l1 := ft.init.lookup
    have l2 := ft.init.bind ob
    repeat (any_goals (first | assumption | wp_step))
    refine codeAny_mono (R := fun r s2 => r = .ok (.ret .none) ∧ Q ob s2) (codeAny_call_builtin ft.init.plain F.entry_object_init (ft.init.check _ _ _ _ _ _ _ _ ty (c3 ob) (init_kw (more := ps) (kw := kw) ft.init.lookup ft.made other prog w A.in1 (fun r s2 => r = .ok (.ret .none) ∧ Q ob s2) s1 ⟨ty, rfl, w1⟩))) fun r2 s2 w2 => ?_
    obtain ⟨rfl, w2⟩ := w2
    repeat (any_goals (first | assumption | wp_step))
end
end G

/-! zip with strict, enumerate from a number on; each side a list or a tuple. -/
namespace G
open PySem PySem.Spec PyProof.Rows L2

theorem drawsLater {prog : Program} {w : World} {A : Around} {it : Addr} {fp : List Addr} {n : Nat} {P : Nat → Value → Prop} {St : Nat → Heap → Prop} (D : Draws prog w A it fp n P St) (k : Nat) :
    Draws prog w A it fp (n + k) (fun i v => ∃ j, i = j + k ∧ P j v) (fun i h => ∃ j, i = j + k ∧ St j h) where
  live := fun _ h ⟨j, _, q⟩ => D.live j h q
  frame := fun _ h h' ⟨j, e, q⟩ z => ⟨j, e, D.frame j h h' q z⟩
  item := fun i s Q E hi ⟨j, e, q⟩ z => D.item j s Q E (by omega) q fun x h' tk a b c => z x h' tk ⟨j, e, a⟩ ⟨j + 1, by omega, b⟩ c
  done := fun s Q E ⟨j, e, q⟩ z => D.done s Q E (by have : j = n := by omega
                                                    rw [← this]; exact q) z

/-- a list, or a tuple -/
def SqB (K : PySem.W.Frag) (t : Bool) (H : Hp) (a : Addr) (xs : List V) : Prop := match t with
  | true => SqT K H a xs
  | false => SqL K H a xs
def ItB (t : Bool) (h : Heap) (it a : Addr) (i : Nat) : Prop := match t with
  | true => h.IsTupleIter it a i
  | false => h.IsListIter it a i
def IsB (t : Bool) (h : Heap) (a : Addr) (its : Array Value) : Prop := match t with
  | true => h.IsTuple a its
  | false => h.IsList a its
def itObj (t : Bool) (a : Addr) : Obj := { cls := .type (match t with | true => "tuple_iterator" | false => "list_iterator"), data := .fields #[.ref a, .int 0 0] }
theorem ItB.at {t : Bool} {h h' : Heap} {it a : Addr} {i : Nat} (q : ItB t h it a i) (k : ∀ o, h.get? it = some o → h'.get? it = some o) : ItB t h' it a i := by
  cases t
  · exact (show h.IsListIter it a i from q).at k
  · exact (show h.IsTupleIter it a i from q).at k
theorem ItB.obj {t : Bool} {h : Heap} {it a : Addr} {i : Nat} (q : ItB t h it a i) : ∃ o, h.get? it = some o ∧ ∀ v, o.data ≠ .cell v := by
  cases t
  · obtain ⟨o, e, _, d⟩ := (show h.IsListIter it a i from q)
    exact ⟨o, e, fun v z => by rw [d] at z; cases z⟩
  · obtain ⟨o, e, _, d⟩ := (show h.IsTupleIter it a i from q)
    exact ⟨o, e, fun v z => by rw [d] at z; cases z⟩
theorem IsB.at {t : Bool} {h h' : Heap} {a : Addr} {its : Array Value} (q : IsB t h a its) (k : ∀ o, h.get? a = some o → h'.get? a = some o) : IsB t h' a its := by
  cases t
  · exact (show h.IsList a its from q).at k
  · exact (show h.IsTuple a its from q).at k
theorem IsB.there {t : Bool} {h : Heap} {a : Addr} {its : Array Value} (q : IsB t h a its) : a < h.objs.size := by
  cases t
  · obtain ⟨o, e, _⟩ := (show h.IsList a its from q)
    first | exact Heap.lt_size e | exact Heap.lt_size ‹_›
  · obtain ⟨o, e, _⟩ := (show h.IsTuple a its from q)
    exact Heap.lt_size e
theorem drawsB {prog : Program} {w : World} {A : Around} (hh : A.handled = none) (t : Bool) (it a : Addr) (ne : a ≠ it) (its : Array Value) :
    Draws prog w A it [it, a] its.size (fun i v => its[i]? = some v) (fun i h => ItB t h it a i ∧ IsB t h a its) := by
  cases t
  · exact Draws.list hh it a ne its
  · exact Draws.tuple hh it a ne its
theorem sqB_of {X : Cx} {pins : List (Addr × Obj)} {σ : L2.St} {H : Hp} {s : Shared} {t : Bool} {a : Addr} {xs : List V} (I : Inv X pins σ H s) (q : SqB X.K t H a xs) : ∃ its : List Value, Vals xs its ∧ IsB t s.heap a its.toArray := by
  cases t
  · obtain ⟨its, r, p, _⟩ := I.list (show SqL X.K H a xs from q)
    exact ⟨its, r, p.isList⟩
  · obtain ⟨its, r, p, _⟩ := I.tuple (show SqT X.K H a xs from q)
    exact ⟨its, r, p⟩
theorem sqB_inj {X : Cx} {pins : List (Addr × Obj)} {σ : L2.St} {H : Hp} {s : Shared} {t : Bool} {a : Addr} {xs ys : List V} (I : Inv X pins σ H s) (p : SqB X.K t H a xs) (q : SqB X.K t H a ys) : xs = ys := by
  cases t
  · exact I.list_inj p q
  · exact I.tuple_inj p q

section
variable {prog : Program} {w : World} {A : Around} {E : Value → Shared → Prop} {s : Shared}
theorem iter_B {t : Bool} {a : Addr} {its : Array Value} {Q : Value → Shared → Prop} (q : IsB t s.heap a its) (h : Q (.ref s.heap.objs.size) { s with heap := s.heap.push (itObj t a) }) : wpAny (model prog w) A (pyIter (.ref a)) Q E s := by
  cases t
  · exact wpAny_pyIter_list q h
  · exact wpAny_pyIter_tuple q h
/-! ### what strict draws -/
theorem more_item {it : Addr} {fp : List Addr} {n i : Nat} {P : Nat → Value → Prop} {St : Nat → Heap → Prop} {Q : Option Value → Shared → Prop} (D : Draws prog w A it fp n P St) (hi : i < n) (q : St i s.heap)
    (z : ∀ x h' tk, P i x → St (i + 1) h' → Heap.SameBut it s.heap h' → Q (some x) { s with heap := h', toks := tk }) : wpAny (model prog w) A (Builtin.SmallTypes.nextOrEnd (.ref it)) Q E s := by
  unfold Builtin.SmallTypes.nextOrEnd
  exact wpAny_bind (wpAny_attempt (D.item i s _ _ hi q fun x h' tk a b c => wpAny_pure (z x h' tk a b c)))
theorem more_end {it : Addr} {fp : List Addr} {n : Nat} {P : Nat → Value → Prop} {St : Nat → Heap → Prop} {Q : Option Value → Shared → Prop} (D : Draws prog w A it fp n P St) (q : St n s.heap)
    (z : ∀ h', Heap.ExtBut it s.heap h' → Q none { s with heap := h' }) : wpAny (model prog w) A (Builtin.SmallTypes.nextOrEnd (.ref it)) Q E s := by
  unfold Builtin.SmallTypes.nextOrEnd
  refine wpAny_bind (wpAny_attempt (D.done s _ _ q fun h' e x ⟨o, ho, hc⟩ => ?_))
  exact wpAny_bind (wpAny_isInstance (T := "StopIteration") (b := true) ⟨o, ho, hc⟩ isSubtype_stop (wpAny_pure (z h' x)))
end
/-- a strict zip -/
abbrev IsZS (h : Heap) (z TI TO : Addr) (f0 : Value) : Prop := h.get? z = some { cls := .type "zip", dict := none, data := .fields #[f0, .bool false, .bool true, .ref TI, .ref TO], slots := #[] }
/-- its objects stand apart -/
structure ZAp (z TI TO i1 i2 : Addr) (f1 f2 : List Addr) : Prop where
  n1 : TI ≠ z ∧ TO ≠ z ∧ i1 ≠ z ∧ i2 ≠ z
  n2 : TI ≠ TO ∧ TI ≠ i1 ∧ TI ≠ i2
  n3 : TO ≠ i1 ∧ TO ≠ i2 ∧ i1 ≠ i2
  n4 : z ∉ f1 ∧ z ∉ f2 ∧ TO ∉ f1 ∧ TO ∉ f2
  n5 : i1 ∉ f2 ∧ i2 ∉ f1
section
variable {prog : Program} {w : World} {A : Around} {E : Value → Shared → Prop} {s : Shared}
variable {z TI TO i1 i2 : Addr} {f1 f2 : List Addr} {n1 n2 k1 k2 : Nat} {P1 P2 : Nat → Value → Prop} {S1 S2 : Nat → Heap → Prop} {a b : Value}
theorem dbut {it b : Addr} {fp : List Addr} {n i : Nat} {P : Nat → Value → Prop} {St : Nat → Heap → Prop} {h h' : Heap} (D : Draws prog w A it fp n P St) (q : St i h) (x : Heap.ExtBut b h h') (nb : b ∉ fp) : St i h' :=
  D.frame i h h' q fun c hc o e => x c o (fun y => nb (y ▸ hc)) e
theorem zs_item {Q : Value → Shared → Prop} (D1 : Draws prog w A i1 f1 n1 P1 S1) (D2 : Draws prog w A i2 f2 n2 P2 S2) (Z : ZAp z TI TO i1 i2 f1 f2) (hz : IsZS s.heap z TI TO .none) (hI : IsPair s.heap TI (.ref i1) (.ref i2)) (hO : IsPair s.heap TO a b)
    (q1 : S1 k1 s.heap) (q2 : S2 k2 s.heap) (l1 : k1 < n1) (l2 : k2 < n2)
    (hQ : ∀ x y h' tk, P1 k1 x → P2 k2 y → IsZS h' z TI TO (rawInt s.heap.objs.size) → IsPair h' TO x y → S1 (k1 + 1) h' → S2 (k2 + 1) h' → IsPair h' s.heap.objs.size x y →
      (∀ c o, c ≠ z → c ≠ TO → c ≠ i1 → c ≠ i2 → s.heap.get? c = some o → h'.get? c = some o) → Q (.ref s.heap.objs.size) { s with heap := h', toks := tk }) :
    wpAny (model prog w) A (Builtin.«zip.__next__» ⟨[.ref z], []⟩) (fun fin s' => ∃ v, fin = .done (.ret v) ∧ Q v s') E s := by
  obtain ⟨⟨e1, e2, e3, e4⟩, ⟨e5, e6, e7⟩, ⟨e8, e9, e10⟩, ⟨m1, m2, m3, m4⟩, m5, m6⟩ := Z
  obtain ⟨H0, gg, dd, tk0, oo⟩ := s
  show wpAny _ _ (field (.ref z) 2 >>= _) _ _ _
  refine wpAny_bind (wpAny_field hz rfl (x := .bool true) rfl ?_)
  show wpAny _ _ (field (.ref z) 3 >>= _) _ _ _
  refine wpAny_bind (wpAny_field hz rfl (x := .ref TI) rfl (wpAny_bind (wpAny_seqItems hI rfl ?_)))
  show wpAny _ _ (Builtin.SmallTypes.ownedTupleIsFree (.ref z) >>= _) _ _ _
  refine wpAny_bind ?_
  unfold Builtin.SmallTypes.ownedTupleIsFree
  refine wpAny_bind (wpAny_field hz rfl (x := .none) rfl (wpAny_pure ?_))
  simp only [if_true]
  refine wpAny_bind (wpAny_rule (wpAny_bind (wpAny_field hz rfl (x := .ref TO) rfl ?_)))
  refine wpAny_bind (wpAny_setField_rec hz (by simp) fun H1 z1 b1 => ?_)
  replace z1 : IsZS H1 z TI TO .ellipsis := z1
  replace b1 : Heap.SameBut z H0 H1 := b1
  refine wpAny_bind ?_
  simp only [List.zipIdx_cons, List.zipIdx_nil, List.forIn_cons, List.forIn_nil]
  refine wpAny_bind (wpAny_bind (wpAny_onRaise ?_))
  show wpAny _ _ (Builtin.SmallTypes.nextOrEnd (.ref i1)) _ _ _
  refine more_item D1 l1 (dbut D1 q1 b1.extBut m1) fun x H2 t2 p1 q1' b2 => ?_
  replace b2 : Heap.SameBut i1 H1 H2 := b2
  have o2 : IsPair H2 TO a b := b2.extBut _ _ e8 (b1.extBut _ _ e2 hO)
  refine wpAny_bind (wpAny_seqItems o2 rfl (wpAny_bind (wpAny_updateSeq_pair o2 fun H3 o3 b3 => ?_)))
  replace o3 : IsPair H3 TO x b := o3
  replace b3 : Heap.SameBut TO H2 H3 := b3
  refine wpAny_bind (wpAny_letGo (wpAny_pure ?_))
  refine wpAny_bind (wpAny_bind (wpAny_onRaise ?_))
  show wpAny _ _ (Builtin.SmallTypes.nextOrEnd (.ref i2)) _ _ _
  refine more_item D2 l2 (dbut D2 (dbut D2 (dbut D2 q2 b1.extBut m2) b2.extBut m5) b3.extBut m4) fun y H4 t4 p2 q2' b4 => ?_
  replace b4 : Heap.SameBut i2 H3 H4 := b4
  have o4 : IsPair H4 TO x b := b4.extBut _ _ e9 o3
  refine wpAny_bind (wpAny_seqItems o4 rfl (wpAny_bind (wpAny_updateSeq_pair o4 fun H5 o5 b5 => ?_)))
  replace o5 : IsPair H5 TO x y := o5
  replace b5 : Heap.SameBut TO H4 H5 := b5
  refine wpAny_bind (wpAny_letGo (wpAny_pure (wpAny_pure ?_)))
  refine wpAny_bind (wpAny_seqItems o5 rfl (wpAny_bind (wpAny_newTuple ?_)))
  have sz : H5.objs.size = H0.objs.size := by rw [b5.1, b4.1, b3.1, b2.1, b1.1]
  have z5 : IsZS H5 z TI TO .ellipsis := b5.extBut _ _ e2.symm (b4.extBut _ _ e4.symm (b3.extBut _ _ e2.symm (b2.extBut _ _ e3.symm z1)))
  have k5 : ∀ c o, c ≠ z → c ≠ TO → c ≠ i1 → c ≠ i2 → H0.get? c = some o → H5.get? c = some o := fun c o c1 c2 c3 c4 e => b5.extBut _ _ c2 (b4.extBut _ _ c4 (b3.extBut _ _ c2 (b2.extBut _ _ c3 (b1.extBut _ _ c1 e))))
  have zl : z < H5.objs.size := Heap.lt_size z5
  show wpAny _ _ (Builtin.SmallTypes.ownedTupleHandOut (.ref z) (.ref H5.objs.size) >>= _) _ _ _
  refine wpAny_bind ?_
  unfold Builtin.SmallTypes.ownedTupleHandOut
  have z6 : IsZS (H5.push { cls := .type "tuple", data := .seq #[x, y] }) z TI TO .ellipsis := Heap.get?_push_of_some _ z5
  refine wpAny_bind (wpAny_setField_rec z6 (by simp) fun H7 z7 b7 => ?_)
  replace z7 : IsZS H7 z TI TO (rawInt H5.objs.size) := z7
  refine wpAny_setField_rec z7 (by simp) fun H8 z8 b8 => ?_
  replace z8 : IsZS H8 z TI TO (rawInt H5.objs.size) := z8
  replace b7 : Heap.SameBut z _ H7 := b7
  replace b8 : Heap.SameBut z H7 H8 := b8
  have up : ∀ c o, c ≠ z → H5.get? c = some o → H8.get? c = some o := fun c o c1 e => b8.extBut _ _ c1 (b7.extBut _ _ c1 (Heap.get?_push_of_some _ e))
  have t8 : IsPair H8 H5.objs.size x y := b8.extBut _ _ (Nat.ne_of_gt zl) (b7.extBut _ _ (Nat.ne_of_gt zl) (Heap.get?_push_size _ rfl))
  refine wpAny_pure ⟨_, rfl, ?_⟩
  show Q (.ref H5.objs.size) _
  rw [sz] at z8 t8 ⊢
  refine hQ x y H8 _ p1 p2 z8 (up _ _ e2 o5) ?_ ?_ t8 fun c o c1 c2 c3 c4 e => up c o c1 (k5 c o c1 c2 c3 c4 e)
  · exact D1.frame _ _ _ (dbut D1 (dbut D1 (dbut D1 q1' b3.extBut m3) b4.extBut m6) b5.extBut m3) fun c hc o e => up c o (fun y => m1 (y ▸ hc)) e
  · exact D2.frame _ _ _ (dbut D2 q2' b5.extBut m4) fun c hc o e => up c o (fun y => m2 (y ▸ hc)) e
theorem zs_end {Q : Fin → Shared → Prop} (hh : A.handled = none) (D1 : Draws prog w A i1 f1 n1 P1 S1) (D2 : Draws prog w A i2 f2 n2 P2 S2) (Z : ZAp z TI TO i1 i2 f1 f2) (hz : IsZS s.heap z TI TO .none) (hI : IsPair s.heap TI (.ref i1) (.ref i2)) (hO : IsPair s.heap TO a b)
    (q1 : S1 n1 s.heap) (q2 : S2 n2 s.heap) (hE : ∀ h' e, (∀ c o, c ≠ z → c ≠ i1 → c ≠ i2 → s.heap.get? c = some o → h'.get? c = some o) → (∃ o, h'.get? e = some o ∧ o.cls = .type "StopIteration") → E (.ref e) { s with heap := h' }) :
    wpAny (model prog w) A (Builtin.«zip.__next__» ⟨[.ref z], []⟩) Q E s := by
  obtain ⟨⟨e1, e2, e3, e4⟩, ⟨e5, e6, e7⟩, ⟨e8, e9, e10⟩, ⟨m1, m2, m3, m4⟩, m5, m6⟩ := Z
  obtain ⟨H0, gg, dd, tk0, oo⟩ := s
  show wpAny _ _ (field (.ref z) 2 >>= _) _ _ _
  refine wpAny_bind (wpAny_field hz rfl (x := .bool true) rfl ?_)
  show wpAny _ _ (field (.ref z) 3 >>= _) _ _ _
  refine wpAny_bind (wpAny_field hz rfl (x := .ref TI) rfl (wpAny_bind (wpAny_seqItems hI rfl ?_)))
  show wpAny _ _ (Builtin.SmallTypes.ownedTupleIsFree (.ref z) >>= _) _ _ _
  refine wpAny_bind ?_
  unfold Builtin.SmallTypes.ownedTupleIsFree
  refine wpAny_bind (wpAny_field hz rfl (x := .none) rfl (wpAny_pure ?_))
  simp only [if_true]
  refine wpAny_bind (wpAny_rule (wpAny_bind (wpAny_field hz rfl (x := .ref TO) rfl ?_)))
  refine wpAny_bind (wpAny_setField_rec hz (by simp) fun H1 z1 b1 => ?_)
  replace z1 : IsZS H1 z TI TO .ellipsis := z1
  replace b1 : Heap.SameBut z H0 H1 := b1
  refine wpAny_bind ?_
  simp only [List.zipIdx_cons, List.zipIdx_nil, List.forIn_cons, List.forIn_nil]
  refine wpAny_bind (wpAny_bind (wpAny_onRaise ?_))
  show wpAny _ _ (Builtin.SmallTypes.nextOrEnd (.ref i1)) _ _ _
  refine more_end D1 (dbut D1 q1 b1.extBut m1) fun H2 b2 => ?_
  replace b2 : Heap.ExtBut i1 H1 H2 := b2
  have z2 : IsZS H2 z TI TO .ellipsis := b2 _ _ e3.symm z1
  refine wpAny_bind (wpAny_setField_rec z2 (by simp) fun H3 z3 b3 => ?_)
  replace b3 : Heap.SameBut z H2 H3 := b3
  refine wpAny_bind ?_
  have q2' : S2 n2 H3 := dbut D2 (dbut D2 (dbut D2 q2 b1.extBut m2) b2 m5) b3.extBut m2
  k_delta "zipStrictEnd"
  dsimp only
  rw [if_neg (by decide : ¬ (0 > 0))]
  simp only [List.drop_succ_cons, List.drop_zero, List.zipIdx_cons, List.zipIdx_nil, List.forIn_cons, List.forIn_nil]
  refine wpAny_bind (wpAny_bind (wpAny_bind ?_))
  refine more_end D2 q2' fun H4 b4 => ?_
  replace b4 : Heap.ExtBut i2 H3 H4 := b4
  simp only [Option.isSome_none, Bool.false_eq_true, if_false]
  refine wpAny_pure (wpAny_pure (wpAny_bind (wpAny_rule ?_)))
  unfold Builtin.SmallTypes.stopIteration
  refine wpAny_bind ?_
  simp only [newExc, newTuple]
  refine wpAny_bind (wpAny_newObj_type ?_ (by size_fits))
  refine wpAny_bind (m := firstArgMember _ _) (wpAny_of_eq (a := Value.none) (by first | rfl | (simp only [firstArgMember]; rfl)) (wpAny_newObj_type ?_ (by size_fits)))
  simp only [raiseNew]
  refine wpAny_bind (wpAny_handled ?_)
  first | rw [show A.in1.handled = none from hh] | rw [hh]
  refine wpAny_bind (wpAny_pure (wpAny_throw (hE _ _ (fun c o c1 c2 c3 e => ?_) ⟨_, Heap.get?_push_size _ rfl, rfl⟩)))
  exact Heap.get?_push_of_some _ (Heap.get?_push_of_some _ (b4 _ _ c3 (b3.extBut _ _ c1 (b2 _ _ c2 (b1.extBut _ _ c1 e)))))
end
section
variable {prog : Program} {w : World} {A : Around} {E : Value → Shared → Prop} {s : Shared}
variable {z TI TO i1 i2 : Addr} {f1 f2 : List Addr} {n1 n2 k1 k2 : Nat} {P1 P2 : Nat → Value → Prop} {S1 S2 : Nat → Heap → Prop} {a b : Value}
theorem zs_next {Q : Option Value → Shared → Prop} (D1 : Draws prog w A.in1 i1 f1 n1 P1 S1) (D2 : Draws prog w A.in1 i2 f2 n2 P2 S2) (Z : ZAp z TI TO i1 i2 f1 f2) (hz : IsZS s.heap z TI TO .none) (hI : IsPair s.heap TI (.ref i1) (.ref i2)) (hO : IsPair s.heap TO a b)
    (q1 : S1 k1 s.heap) (q2 : S2 k2 s.heap) (l1 : k1 < n1) (l2 : k2 < n2)
    (hQ : ∀ x y h' tk, P1 k1 x → P2 k2 y → IsZS h' z TI TO (rawInt s.heap.objs.size) → IsPair h' TO x y → S1 (k1 + 1) h' → S2 (k2 + 1) h' → IsPair h' s.heap.objs.size x y →
      (∀ c o, c ≠ z → c ≠ TO → c ≠ i1 → c ≠ i2 → s.heap.get? c = some o → h'.get? c = some o) → Q (some (.ref s.heap.objs.size)) { s with heap := h', toks := tk }) : wpAny (model prog w) A (pyNext (.ref z)) Q E s := by
  have hT : s.TypeIs (.ref z) "zip" := ⟨_, hz, rfl⟩
  unfold pyNext
  exact wpAny_bind (wpAny_attempt (wpAny_callSpecial?_slot (name := Str.ofString "__next__") hT F.slot_zip_next (wpAny_call_entry F.slot_zip_next hT F.entry_zip_next
    (zs_item D1 D2 Z hz hI hO q1 q2 l1 l2 fun x y h' tk a1 a2 a3 a4 a5 a6 a7 a8 => wpAny_pure (hQ x y h' tk a1 a2 a3 a4 a5 a6 a7 a8)) (F.args_zip_next_1 _))))
theorem zs_stop {Q : Option Value → Shared → Prop} (hh : A.handled = none) (D1 : Draws prog w A.in1 i1 f1 n1 P1 S1) (D2 : Draws prog w A.in1 i2 f2 n2 P2 S2) (Z : ZAp z TI TO i1 i2 f1 f2) (hz : IsZS s.heap z TI TO .none) (hI : IsPair s.heap TI (.ref i1) (.ref i2)) (hO : IsPair s.heap TO a b)
    (q1 : S1 n1 s.heap) (q2 : S2 n2 s.heap) (hQ : ∀ h', (∀ c o, c ≠ z → c ≠ i1 → c ≠ i2 → s.heap.get? c = some o → h'.get? c = some o) → Q none { s with heap := h' }) : wpAny (model prog w) A (pyNext (.ref z)) Q E s := by
  have hT : s.TypeIs (.ref z) "zip" := ⟨_, hz, rfl⟩
  unfold pyNext
  refine wpAny_bind (wpAny_attempt (wpAny_callSpecial?_slot (name := Str.ofString "__next__") hT F.slot_zip_next (wpAny_call_entry F.slot_zip_next hT F.entry_zip_next
    (zs_end (show A.in1.handled = none from hh) D1 D2 Z hz hI hO q1 q2 fun h' e hk he => ?_) (F.args_zip_next_1 _))))
  obtain ⟨o, ho, hc⟩ := he
  exact wpAny_bind (wpAny_isInstance (T := "StopIteration") (b := true) ⟨o, ho, hc⟩ isSubtype_stop (wpAny_pure (hQ _ hk)))
theorem zs_go {elts : List Expr} {kk : Nat} {pos : Pos} {T : Addr} {Q : Unit → Shared → Prop} (hz : IsZS s.heap z TI TO (rawInt T)) (hQ : ∀ h', IsZS h' z TI TO .none → Heap.SameBut z s.heap h' → Q () { s with heap := h' }) :
    wpAny (model prog w) A (letOwnedTupleGo (.Tuple elts kk pos) (.ref z) (.ref T)) Q E s := by
  unfold letOwnedTupleGo
  refine wpAny_bind (wpAny_load hz ?_)
  dsimp only
  rw [if_pos (by simp)]
  refine wpAny_bind (wpAny_rule ?_)
  exact wpAny_setField_rec hz (by simp) fun h' hz' hs' => hQ h' hz' hs'
theorem zs_iter {f0 : Value} {Q : Value → Shared → Prop} (hz : IsZS s.heap z TI TO f0) (h : Q (.ref z) s) : wpAny (model prog w) A (pyIter (.ref z)) Q E s := by
  have hT : s.TypeIs (.ref z) "zip" := ⟨_, hz, rfl⟩
  refine wpAny_pyIter_slot hT F.slot_zip_iter (wpAny_call_entry F.slot_zip_iter hT F.entry_zip_iter ?_ (F.args_zip_iter_1 _))
  exact wpAny_pure ⟨_, rfl, "zip", _, hT, F.slot_zip_next.lookup, h⟩
end
/-- both as they stand at each turn -/
def ItZS (K : PySem.W.Frag) (t1 t2 : Bool) (a b : Addr) : It where
  go := fun i H => ∃ xs ys x y, SqB K t1 H a xs ∧ SqB K t2 H b ys ∧ xs[i]? = some x ∧ ys[i]? = some y
  yld := fun i H v H' => ∃ T x y, v = .ref T ∧ H T = none ∧ H' = upd H T (.tup [x, y]) ∧ (∀ xs, SqB K t1 H a xs → xs[i]? = some x) ∧ ∀ ys, SqB K t2 H b ys → ys[i]? = some y
  stop := fun i H => ∃ xs ys, SqB K t1 H a xs ∧ SqB K t2 H b ys ∧ xs.length = i ∧ ys.length = i
theorem turn_zs {P : Program} {w : World} {K : PySem.W.Frag} {elts : List Expr} {kk : Nat} {tpos : Pos} {t1 t2 : Bool} {a b z TI TO i1 i2 : Addr} (Z : ZAp z TI TO i1 i2 [i1, a] [i2, b]) :
    Turn P w K (.Tuple elts kk tpos) (ItZS K t1 t2 a b) [z, TI, TO, i1, i2] z (fun i h => IsZS h z TI TO .none ∧ IsPair h TI (.ref i1) (.ref i2) ∧ (∃ x y, IsPair h TO x y) ∧ ItB t1 h i1 a i ∧ ItB t2 h i2 b i) where
  mem := by simp
  obj := fun i h st c hc => by
    obtain ⟨hz, hI, ⟨x, y, hO⟩, q1, q2⟩ := st
    simp only [List.mem_cons, List.not_mem_nil, or_false] at hc
    rcases hc with rfl | rfl | rfl | rfl | rfl
    · exact ⟨_, hz, fun v q => nomatch q⟩
    · exact ⟨_, hI, fun v q => nomatch q⟩
    · exact ⟨_, hO, fun v q => nomatch q⟩
    · exact q1.obj
    · exact q2.obj
  keep := fun i h h' st k => by
    obtain ⟨hz, hI, ⟨x, y, hO⟩, q1, q2⟩ := st
    exact ⟨k z (by simp) _ hz, k TI (by simp) _ hI, ⟨x, y, k TO (by simp) _ hO⟩, q1.at fun o q => k i1 (by simp) o q, q2.at fun o q => k i2 (by simp) o q⟩
  item := by
    intro X hP hw hK hc i pins s σ H E I hf st hg
    subst hP hw hK
    obtain ⟨hz, hI, ⟨x0, y0, hO⟩, q1, q2⟩ := st
    obtain ⟨xs, ys, x, y, sx, sy, hx, hy⟩ := hg
    obtain ⟨its1, r1, p1⟩ := sqB_of I sx
    obtain ⟨its2, r2, p2⟩ := sqB_of I sy
    obtain ⟨u1, hu1, ru1⟩ := r1.get hx
    obtain ⟨u2, hu2, ru2⟩ := r2.get hy
    have zl : z < s.heap.objs.size := Heap.lt_size hz
    have hh : X.A.in1.handled = none := I.ok.hd hc
    have ne1 : a ≠ i1 := fun e => by
      obtain ⟨o, ho, hcl, n, hd⟩ : ∃ o, s.heap.get? a = some o ∧ True ∧ ∃ n, o.data = .seq its1.toArray n := by
        cases t1
        · obtain ⟨o, e, _, n, d⟩ := (show s.heap.IsList a _ from p1); exact ⟨o, e, trivial, n, d⟩
        · obtain ⟨o, e, _, n, d⟩ := (show s.heap.IsTuple a _ from p1); exact ⟨o, e, trivial, n, d⟩
      obtain ⟨o', ho', hd'⟩ : ∃ o, s.heap.get? i1 = some o ∧ o.data = .fields #[.ref a, .int i 0] := by
        cases t1
        · obtain ⟨o, e, _, d⟩ := (show s.heap.IsListIter i1 a i from q1); exact ⟨o, e, d⟩
        · obtain ⟨o, e, _, d⟩ := (show s.heap.IsTupleIter i1 a i from q1); exact ⟨o, e, d⟩
      rw [e, ho'] at ho
      cases ho
      rw [hd] at hd'
      cases hd'
    have ne2 : b ≠ i2 := fun e => by
      obtain ⟨o, ho, hcl, n, hd⟩ : ∃ o, s.heap.get? b = some o ∧ True ∧ ∃ n, o.data = .seq its2.toArray n := by
        cases t2
        · obtain ⟨o, e, _, n, d⟩ := (show s.heap.IsList b _ from p2); exact ⟨o, e, trivial, n, d⟩
        · obtain ⟨o, e, _, n, d⟩ := (show s.heap.IsTuple b _ from p2); exact ⟨o, e, trivial, n, d⟩
      obtain ⟨o', ho', hd'⟩ : ∃ o, s.heap.get? i2 = some o ∧ o.data = .fields #[.ref b, .int i 0] := by
        cases t2
        · obtain ⟨o, e, _, d⟩ := (show s.heap.IsListIter i2 b i from q2); exact ⟨o, e, d⟩
        · obtain ⟨o, e, _, d⟩ := (show s.heap.IsTupleIter i2 b i from q2); exact ⟨o, e, d⟩
      rw [e, ho'] at ho
      cases ho
      rw [hd] at hd'
      cases hd'
    have lt1 : i < its1.toArray.size := by rw [List.size_toArray]; exact (List.getElem?_eq_some_iff.mp hu1).1
    have lt2 : i < its2.toArray.size := by rw [List.size_toArray]; exact (List.getElem?_eq_some_iff.mp hu2).1
    refine zs_next (drawsB hh t1 i1 a ne1 its1.toArray) (drawsB hh t2 i2 b ne2 its2.toArray) Z hz hI hO ⟨q1, p1⟩ ⟨q2, p2⟩ lt1 lt2 fun v1 v2 h' tk e1 e2 z' O' s1 s2 hT hk => ?_
    have e1' : v1 = u1 := by simp only [List.getElem?_toArray] at e1; rw [hu1] at e1; exact (Option.some.inj e1).symm
    have e2' : v2 = u2 := by simp only [List.getElem?_toArray] at e2; rw [hu2] at e2; exact (Option.some.inj e2).symm
    subst e1'
    subst e2'
    refine ⟨_, rfl, zs_go (s := { s with heap := h', toks := tk }) z' fun h'' z'' sb => ?_⟩
    have hT2 : h''.get? s.heap.objs.size = some { cls := .type "tuple", data := .seq #[v1, v2] } := (sb.2 _ (Nat.ne_of_gt zl)).trans hT
    have new : ObjOk X.prog X.w (upd H s.heap.objs.size (.tup [x, y])) h'' s.heap.objs.size (.tup [x, y]) := ⟨by show 2 ≤ sizeLine; decide, [v1, v2], .cons ru1 (.cons ru2 .nil), ⟨_, hT2, rfl, _, rfl⟩⟩
    have I1 : Inv X pins σ (upd H s.heap.objs.size (.tup [x, y])) { s with heap := h'', toks := tk } :=
      I.turnedNew (t' := tk) (ch := [z, TI, TO, i1, i2]) (fun c o hb q => (sb.2 c (fun q' => hb (by simp [q']))).trans (hk c o (fun q' => hb (by simp [q'])) (fun q' => hb (by simp [q'])) (fun q' => hb (by simp [q'])) (fun q' => hb (by simp [q'])) q)) hf (Nat.le_refl _) new
    obtain ⟨⟨d1, d2, d3, d4⟩, ⟨d5, d6, d7⟩, ⟨d8, d9, d10⟩, _, _⟩ := Z
    refine ⟨.ref s.heap.objs.size, _, I1, rfl, ⟨_, x, y, rfl, I.hok.fresh (Nat.le_refl _), rfl, fun l hl => by rw [sqB_inj I hl sx]; exact hx, fun l hl => by rw [sqB_inj I hl sy]; exact hy⟩, ⟨z'', ?_, ⟨v1, v2, ?_⟩, ?_, ?_⟩, fun c hcm => ?_⟩
    · exact (sb.2 _ d1).trans (hk _ _ d1 d5 d6 d7 hI)
    · exact (sb.2 _ d2).trans O'
    · exact s1.1.at fun o q => (sb.2 _ d3).trans q
    · exact s2.1.at fun o q => (sb.2 _ d4).trans q
    · have hlt : c < s.heap.objs.size := by
        simp only [List.mem_cons, List.not_mem_nil, or_false] at hcm
        rcases hcm with rfl | rfl | rfl | rfl | rfl
        · exact zl
        · exact Heap.lt_size hI
        · exact Heap.lt_size hO
        · obtain ⟨_, e1, _⟩ := q1.obj; exact Heap.lt_size e1
        · obtain ⟨_, e2, _⟩ := q2.obj; exact Heap.lt_size e2
      rw [upd_ne (Nat.ne_of_lt hlt)]
      exact (hf c hcm).1
  done := by
    intro X hP hw hK hc i pins s σ H E I hf st hg
    subst hP hw hK
    obtain ⟨hz, hI, ⟨x0, y0, hO⟩, q1, q2⟩ := st
    obtain ⟨xs, ys, sx, sy, lx, ly⟩ := hg
    obtain ⟨its1, r1, p1⟩ := sqB_of I sx
    obtain ⟨its2, r2, p2⟩ := sqB_of I sy
    have hh : X.A.in1.handled = none := I.ok.hd hc
    have ne : ∀ {t : Bool} {it a : Addr} {its : List Value}, ItB t s.heap it a i → IsB t s.heap a its.toArray → a ≠ it := fun {t it a its} q p e => by
      obtain ⟨o, ho, hcl, n, hd⟩ : ∃ o, s.heap.get? a = some o ∧ True ∧ ∃ n, o.data = .seq its.toArray n := by
        cases t
        · obtain ⟨o, e, _, n, d⟩ := (show s.heap.IsList a _ from p); exact ⟨o, e, trivial, n, d⟩
        · obtain ⟨o, e, _, n, d⟩ := (show s.heap.IsTuple a _ from p); exact ⟨o, e, trivial, n, d⟩
      obtain ⟨o', ho', hd'⟩ : ∃ o, s.heap.get? it = some o ∧ o.data = .fields #[.ref a, .int i 0] := by
        cases t
        · obtain ⟨o, e, _, d⟩ := (show s.heap.IsListIter it a i from q); exact ⟨o, e, d⟩
        · obtain ⟨o, e, _, d⟩ := (show s.heap.IsTupleIter it a i from q); exact ⟨o, e, d⟩
      rw [e, ho'] at ho
      cases ho
      rw [hd] at hd'
      cases hd'
    have n1 : its1.toArray.size = i := by rw [List.size_toArray, ← r1.length, lx]
    have n2 : its2.toArray.size = i := by rw [List.size_toArray, ← r2.length, ly]
    refine zs_stop (I.ok.hd hc) (drawsB hh t1 i1 a (ne q1 p1) its1.toArray) (drawsB hh t2 i2 b (ne q2 p2) its2.toArray) Z hz hI hO (by rw [n1]; exact ⟨q1, p1⟩) (by rw [n2]; exact ⟨q2, p2⟩) fun h' hk => ⟨rfl, I.turnedL (t' := s.toks) (ch := [z, TI, TO, i1, i2]) (fun c o hb q =>
      hk c o (fun q' => hb (by simp [q'])) (fun q' => hb (by simp [q'])) (fun q' => hb (by simp [q'])) q) hf⟩
  self := fun A i s Q E st h => zs_iter st.1 h
end G

/-! zip with strict, enumerate from a number on: made, walked. -/
namespace G
open PySem PySem.Spec PyProof.Rows L2
open AutoSeq1 (wpAny_loadPart')

abbrev zsH2 (h : Heap) (t1 t2 : Bool) (l1 l2 : Addr) : Heap := (h.push (itObj t1 l1)).push (itObj t2 l2)
abbrev zsH3 (h : Heap) (t1 t2 : Bool) (l1 l2 : Addr) : Heap := (zsH2 h t1 t2 l1 l2).push { cls := .type "tuple", data := .seq #[.ref h.objs.size, .ref (h.push (itObj t1 l1)).objs.size] }
abbrev zsH4 (h : Heap) (t1 t2 : Bool) (l1 l2 : Addr) : Heap := (zsH3 h t1 t2 l1 l2).push { cls := .type "tuple", data := .seq #[.none, .none] }
abbrev zsH5 (h : Heap) (t1 t2 : Bool) (l1 l2 : Addr) : Heap := (zsH4 h t1 t2 l1 l2).push { cls := .type "zip", data := .fields #[.none, .bool false, .bool true, .ref (zsH2 h t1 t2 l1 l2).objs.size, .ref (zsH3 h t1 t2 l1 l2).objs.size] }
theorem meets_zs (t1 t2 : Bool) (l1 l2 : Addr) (xs ys : Array Value) :
    Meets (Builtin.«zip.__new__» ⟨[.type "zip", .ref l1, .ref l2], [("strict", .bool true)]⟩) (fun _ R s => IsB t1 s.heap l1 xs ∧ IsB t2 s.heap l2 ys ∧ R (.ok (.ret (.ref (zsH4 s.heap t1 t2 l1 l2).objs.size))) { s with heap := zsH5 s.heap t1 t2 l1 l2 }) :=
  .of_wp fun prog w A R s h => by
    obtain ⟨hp, g, d, tk, os⟩ := s
    obtain ⟨b1, b2, h⟩ := h
    have hsub := sub_zip
    have c1 : IsB t1 (Shared.heap ⟨hp, g, d, tk, os⟩) l1 xs := b1
    have c2 : IsB t2 (Shared.heap ⟨hp.push (itObj t1 l1), g, d, tk, os⟩) l2 ys := b2.at fun o e => Heap.get?_push_of_some _ e
    wp_walk using iter_B c1, iter_B c2
    exact ⟨_, rfl, h⟩
theorem zs_c1 (a b : Value) : checkTypeCall "zip" ⟨[a, b], [("strict", .bool true)]⟩ = pure () := by kernel_rfl
theorem zs_c2 (a b : Value) : checkBuiltinCall "zip.__new__" ⟨[.type "zip", a, b], [("strict", .bool true)]⟩ = pure () := by kernel_rfl
theorem init_any (ob : Value) (ps : List Value) (kw : List (Str × Value)) : argsOk "object.__init__" ⟨ob :: ps, kw⟩ := by
  unfold argsOk
  rw [signature?_of (id := "object.__init__") (n := ['_', '_', 't', 'i', 'n', 'i', '_', '_']) (o := ['t', 'c', 'e', 'j', 'b', 'o']) (by kernel_rfl) F.owner_object]
  kernel_rfl
section
variable {prog : Program} {w : World} {A : Around} {E : Value → Shared → Prop} {s : Shared}
theorem call_zs {t1 t2 : Bool} {l1 l2 : Addr} {xs ys : Array Value} {Q : Value → Shared → Prop} (b1 : IsB t1 s.heap l1 xs) (b2 : IsB t2 s.heap l2 ys)
    (h : ∀ h', IsZS h' (s.heap.objs.size + 4) (s.heap.objs.size + 2) (s.heap.objs.size + 3) .none → IsPair h' (s.heap.objs.size + 2) (.ref s.heap.objs.size) (.ref (s.heap.objs.size + 1)) →
      IsPair h' (s.heap.objs.size + 3) .none .none → ItB t1 h' s.heap.objs.size l1 0 → ItB t2 h' (s.heap.objs.size + 1) l2 0 → (∀ c o, s.heap.get? c = some o → h'.get? c = some o) → Q (.ref (s.heap.objs.size + 4)) { s with heap := h' }) :
    wpAny (model prog w) A (call (.type "zip") [.ref l1, .ref l2] [("strict", .bool true)]) Q E s := by
  refine make_kw F.called_zip (by decide) (zs_c1 _ _) (zs_c2 _ _) (fun ob => init_any ob _ _) F.entry_zip_new (meets_zs t1 t2 l1 l2 xs ys) ⟨b1, b2, ?_⟩
  have z1 : (s.heap.push (itObj t1 l1)).objs.size = s.heap.objs.size + 1 := Heap.size_push ..
  have z2 : (zsH2 s.heap t1 t2 l1 l2).objs.size = s.heap.objs.size + 2 := by rw [Heap.size_push, z1]
  have z3 : (zsH3 s.heap t1 t2 l1 l2).objs.size = s.heap.objs.size + 3 := by rw [Heap.size_push, z2]
  have z4 : (zsH4 s.heap t1 t2 l1 l2).objs.size = s.heap.objs.size + 4 := by rw [Heap.size_push, z3]
  have g5 : (zsH5 s.heap t1 t2 l1 l2).get? (zsH4 s.heap t1 t2 l1 l2).objs.size = some _ := Heap.get?_push_size _ rfl
  have g4 : (zsH5 s.heap t1 t2 l1 l2).get? (zsH3 s.heap t1 t2 l1 l2).objs.size = some _ := Heap.get?_push_of_some _ (Heap.get?_push_size _ rfl)
  have up2 : ∀ c o, (zsH2 s.heap t1 t2 l1 l2).get? c = some o → (zsH5 s.heap t1 t2 l1 l2).get? c = some o := fun c o e => Heap.get?_push_of_some _ (Heap.get?_push_of_some _ (Heap.get?_push_of_some _ e))
  have g3 : (zsH5 s.heap t1 t2 l1 l2).get? (zsH2 s.heap t1 t2 l1 l2).objs.size = some _ := Heap.get?_push_of_some _ (Heap.get?_push_of_some _ (Heap.get?_push_size _ rfl))
  have g2 : (zsH5 s.heap t1 t2 l1 l2).get? (s.heap.push (itObj t1 l1)).objs.size = some _ := up2 _ _ (Heap.get?_push_size _ rfl)
  have g1 : (zsH5 s.heap t1 t2 l1 l2).get? s.heap.objs.size = some _ := up2 _ _ (Heap.get?_push_of_some _ (Heap.get?_push_size _ rfl))
  show _ ∧ _
  rw [z2, z3, z4] at g5
  rw [z1, z2] at g3
  rw [z3] at g4
  rw [z1] at g2
  rw [z4]
  refine ⟨⟨_, g5, rfl⟩, h _ g5 g3 g4 ?_ ?_ fun c o x => up2 _ _ (Heap.get?_push_of_some _ (Heap.get?_push_of_some _ x))⟩
  · cases t1
    · exact ⟨_, g1, rfl, rfl⟩
    · exact ⟨_, g1, rfl, rfl⟩
  · cases t2
    · exact ⟨_, g2, rfl, rfl⟩
    · exact ⟨_, g2, rfl, rfl⟩
end
/-! ### enumerate -/
theorem meets_en (t : Bool) (l : Addr) (items : Array Value) (kw : List (Str × Value)) (k : Nat) (hk : kw = [] ∧ k = 0 ∨ ∃ tk, kw = [((Str.ofString "start"), Value.int 1 tk)] ∧ k = 1) :
    Meets (Builtin.«enumerate.__new__» ⟨[.type "enumerate", .ref l], kw⟩) (fun _ R s => IsB t s.heap l items ∧
      R (.ok (.ret (.ref (s.heap.push (itObj t l)).objs.size))) { s with heap := (s.heap.push (itObj t l)).push { cls := .type "enumerate", data := .fields #[.none, .bool false, .ref s.heap.objs.size, rawInt (k : Nat), .none, .none] } }) :=
  .of_wp fun prog w A R s h => by
    obtain ⟨hp, g, d, tk, os⟩ := s
    obtain ⟨hT, h⟩ := h
    have hsub := sub_enumerate
    have c1 : IsB t (Shared.heap ⟨hp, g, d, tk, os⟩) l items := hT
    rcases hk with ⟨rfl, rfl⟩ | ⟨tk, rfl, rfl⟩
    · wp_walk using iter_B c1
      refine wpAny_stack_any fun st => wpAny_pure ?_
      split
      · rename_i c _ _ _ _ _
        cases (c == Value.type "enumerate")
        · wp_walk using iter_B c1
          exact ⟨_, rfl, h⟩
        · wp_walk using iter_B c1
          exact ⟨_, rfl, h⟩
      · wp_walk using iter_B c1
        exact ⟨_, rfl, h⟩
    · wp_walk using iter_B c1
      refine wpAny_stack_any fun st => wpAny_pure ?_
      split
      · rename_i c _ _ _ _ _
        cases (c == Value.type "enumerate")
        · wp_walk using iter_B c1
          exact ⟨_, rfl, h⟩
        · wp_walk using iter_B c1
          exact ⟨_, rfl, h⟩
      · wp_walk using iter_B c1
        exact ⟨_, rfl, h⟩
theorem en_c1 (a : Value) (tk : Nat) : checkTypeCall "enumerate" ⟨[a], [("start", .int 1 tk)]⟩ = pure () := by kernel_rfl
theorem en_c2 (a : Value) (tk : Nat) : checkBuiltinCall "enumerate.__new__" ⟨[.type "enumerate", a], [("start", .int 1 tk)]⟩ = pure () := by kernel_rfl
section
variable {prog : Program} {w : World} {A : Around} {E : Value → Shared → Prop} {s : Shared}
theorem call_en {t : Bool} {l : Addr} {xs : Array Value} {kw : List (Str × Value)} {k : Nat} {Q : Value → Shared → Prop} (hk : kw = [] ∧ k = 0 ∨ ∃ tk, kw = [((Str.ofString "start"), Value.int 1 tk)] ∧ k = 1) (b1 : IsB t s.heap l xs)
    (h : ∀ h', IsEnum h' (s.heap.objs.size + 1) s.heap.objs.size ((k : Nat) : Int) .none → ItB t h' s.heap.objs.size l 0 → (∀ c o, s.heap.get? c = some o → h'.get? c = some o) → Q (.ref (s.heap.objs.size + 1)) { s with heap := h' }) :
    wpAny (model prog w) A (call (.type "enumerate") [.ref l] kw) Q E s := by
  refine make_kw F.called_enumerate (by decide) (by rcases hk with ⟨rfl, _⟩ | ⟨tk, rfl, _⟩; exact F.typeCall_enumerate_1 _; exact en_c1 _ _) (by rcases hk with ⟨rfl, _⟩ | ⟨tk, rfl, _⟩; exact F.newCall_enumerate_1 _; exact en_c2 _ _) (fun ob => init_any ob _ _) F.entry_enumerate_new (meets_en t l xs kw k hk) ⟨b1, ?_⟩
  have z1 : (s.heap.push (itObj t l)).objs.size = s.heap.objs.size + 1 := Heap.size_push ..
  have g2 : ((s.heap.push (itObj t l)).push { cls := .type "enumerate", data := .fields #[.none, .bool false, .ref s.heap.objs.size, rawInt (k : Nat), .none, .none] }).get? (s.heap.push (itObj t l)).objs.size = some _ := Heap.get?_push_size _ rfl
  have g1 : ((s.heap.push (itObj t l)).push { cls := .type "enumerate", data := .fields #[.none, .bool false, .ref s.heap.objs.size, rawInt (k : Nat), .none, .none] }).get? s.heap.objs.size = some _ := Heap.get?_push_of_some _ (Heap.get?_push_size _ rfl)
  show _ ∧ _
  rw [z1] at g2 ⊢
  refine ⟨⟨_, g2, rfl⟩, h _ g2 ?_ fun c o x => Heap.get?_push_of_some _ (Heap.get?_push_of_some _ x)⟩
  cases t
  · exact ⟨_, g1, rfl, rfl⟩
  · exact ⟨_, g1, rfl, rfl⟩
end
theorem itB_ne {t : Bool} {h : Heap} {it a : Addr} {i : Nat} {its : Array Value} (q : ItB t h it a i) (p : IsB t h a its) : a ≠ it := fun e => by
  obtain ⟨o, ho, n, hd⟩ : ∃ o, h.get? a = some o ∧ ∃ n, o.data = .seq its n := by
    cases t
    · obtain ⟨o, e, _, n, d⟩ := (show h.IsList a _ from p); exact ⟨o, e, n, d⟩
    · obtain ⟨o, e, _, n, d⟩ := (show h.IsTuple a _ from p); exact ⟨o, e, n, d⟩
  obtain ⟨o', ho', hd'⟩ : ∃ o, h.get? it = some o ∧ o.data = .fields #[.ref a, .int i 0] := by
    cases t
    · obtain ⟨o, e, _, d⟩ := (show h.IsListIter it a i from q); exact ⟨o, e, d⟩
    · obtain ⟨o, e, _, d⟩ := (show h.IsTupleIter it a i from q); exact ⟨o, e, d⟩
  rw [e, ho'] at ho
  cases ho
  rw [hd] at hd'
  cases hd'
theorem enB_ne {t : Bool} {h : Heap} {e it a : Addr} {c : Int} {old : Value} {its : Array Value} (q : IsEnum h e it c old) (p : IsB t h a its) : e ≠ a := fun z => by
  obtain ⟨o, ho, n, hd⟩ : ∃ o, h.get? a = some o ∧ ∃ n, o.data = .seq its n := by
    cases t
    · obtain ⟨o, e, _, n, d⟩ := (show h.IsList a _ from p); exact ⟨o, e, n, d⟩
    · obtain ⟨o, e, _, n, d⟩ := (show h.IsTuple a _ from p); exact ⟨o, e, n, d⟩
  rw [← z, q] at ho
  cases ho
  cases hd
def ItEn (K : PySem.W.Frag) (t : Bool) (a : Addr) (k : Nat) : It where
  go := fun i H => ∃ xs x, SqB K t H a xs ∧ xs[i]? = some x
  yld := fun i H v H' => ∃ T x, v = .ref T ∧ H T = none ∧ H' = upd H T (.tup [.int ((i + k : Nat) : Int), x]) ∧ ∀ xs, SqB K t H a xs → xs[i]? = some x
  stop := fun i H => ∃ xs, SqB K t H a xs ∧ xs.length = i
theorem turn_en {P : Program} {w : World} {K : PySem.W.Frag} {elts : List Expr} {kk : Nat} {tpos : Pos} {t : Bool} {a e it : Addr} {k : Nat} :
    Turn P w K (.Tuple elts kk tpos) (ItEn K t a k) [e, it] e (fun i h => (∃ old, IsEnum h e it ((i + k : Nat) : Int) old) ∧ ItB t h it a i ∧ e ≠ it) where
  mem := by simp
  obj := fun i h st b hb => by
    obtain ⟨⟨old, he⟩, q, _⟩ := st
    simp only [List.mem_cons, List.not_mem_nil, or_false] at hb
    rcases hb with rfl | rfl
    · exact ⟨_, he, fun v q => nomatch q⟩
    · exact q.obj
  keep := fun i h h' st z => let ⟨⟨old, he⟩, q, ne⟩ := st; ⟨⟨old, z e (by simp) _ he⟩, q.at fun o y => z it (by simp) o y, ne⟩
  item := by
    intro X hP hw hK hc i pins s σ H E I hf st hg
    subst hP hw hK
    obtain ⟨⟨old, he⟩, q, ne⟩ := st
    obtain ⟨xs, x, sx, hx⟩ := hg
    obtain ⟨its, r, p⟩ := sqB_of I sx
    obtain ⟨u, hu, ru⟩ := r.get hx
    have hh : X.A.in1.handled = none := I.ok.hd hc
    have el : e < s.heap.objs.size := Heap.lt_size he
    have il : it < s.heap.objs.size := by obtain ⟨_, y, _⟩ := q.obj; exact Heap.lt_size y
    have lt : i < its.toArray.size := by rw [List.size_toArray]; exact (List.getElem?_eq_some_iff.mp hu).1
    refine wpAny_pyNext_enum_itemD (drawsLater (drawsB hh t it a (itB_ne q p) its.toArray) k) he ⟨i, rfl, q, p⟩ (by omega) ne (by simp [ne, enB_ne he p]) fun v h' tk hv ho hs' hT hsz hk => ?_
    obtain ⟨j, ej, hv⟩ := hv
    have : j = i := by omega
    subst this
    have ev : v = u := by simp only [List.getElem?_toArray] at hv; rw [hu] at hv; exact (Option.some.inj hv).symm
    subst ev
    obtain ⟨j2, ej2, hs2, _⟩ := hs'
    have : j2 = j + 1 := by omega
    subst this
    refine ⟨_, rfl, wpAny_letOwnedTupleGo_enum (s := { s with heap := h', toks := tk + 1 }) ho fun h'' he' sb => ?_⟩
    have hT2 : h''.get? s.heap.objs.size = some { cls := .type "tuple", data := .seq #[.int ((j + k : Nat) : Int) tk, v] } := (sb.2 _ (Nat.ne_of_gt el)).trans hT
    have new : ObjOk X.prog X.w (upd H s.heap.objs.size (.tup [.int ((j + k : Nat) : Int), x])) h'' s.heap.objs.size (.tup [.int ((j + k : Nat) : Int), x]) :=
      ⟨by show 2 ≤ sizeLine; decide, [.int ((j + k : Nat) : Int) tk, v], .cons ⟨_, rfl⟩ (.cons ru .nil), ⟨_, hT2, rfl, _, rfl⟩⟩
    have I1 : Inv X pins σ (upd H s.heap.objs.size (.tup [.int ((j + k : Nat) : Int), x])) { s with heap := h'', toks := tk + 1 } :=
      I.turnedNew (t' := tk + 1) (ch := [e, it]) (fun b ob hb y => (sb.2 b (fun z => hb (by simp [z]))).trans (hk b ob (fun z => hb (by simp [z])) (fun z => hb (by simp [z])) y)) hf (Nat.le_refl _) new
    refine ⟨.ref s.heap.objs.size, _, I1, rfl, ⟨_, x, rfl, I.hok.fresh (Nat.le_refl _), rfl, fun ys hy => by rw [sqB_inj I hy sx]; exact hx⟩, ⟨⟨v, ?_⟩, hs2.at fun o y => (sb.2 it (Ne.symm ne)).trans y, ne⟩, fun b hb => ?_⟩
    · have e1 : ((j + 1 + k : Nat) : Int) = ((j + k : Nat) : Int) + 1 := by omega
      rw [e1]; exact he'
    · have hb' : b < s.heap.objs.size := by
        have hb2 := hb
        simp only [List.mem_cons, List.not_mem_nil, or_false] at hb2
        rcases hb2 with rfl | rfl
        · exact el
        · exact il
      rw [upd_ne (Nat.ne_of_lt hb')]
      exact (hf b hb).1
  done := by
    intro X hP hw hK hc i pins s σ H E I hf st hg
    subst hP hw hK
    obtain ⟨⟨old, he⟩, q, ne⟩ := st
    obtain ⟨xs, sx, lx⟩ := hg
    obtain ⟨its, r, p⟩ := sqB_of I sx
    have hh : X.A.in1.handled = none := I.ok.hd hc
    obtain ⟨f0, f1, f2, f3, f4, f5⟩ := hf it (by simp)
    have n1 : its.toArray.size = i := by rw [List.size_toArray, ← r.length, lx]
    exact wpAny_pyNext_enum_endD (drawsLater (drawsB hh t it a (itB_ne q p) its.toArray) k) he ⟨i, by rw [n1], q, p⟩ fun h' eb => ⟨rfl, I.turned (t' := s.toks) (fun b o hb y => eb b o hb y) f0 f1 f3 f4 f5⟩
  self := fun A i s Q E st h => let ⟨⟨_, he⟩, _⟩ := st; wpAny_pyIter_enum he h
end G

/-! strict zip and enumerate as what is walked. -/
namespace G
open PySem PySem.Spec PyProof.Rows L2

theorem anyI_of {K : PySem.W.Frag} {w : Wd} {h : Hd} {d : D} {v : V} {t : Bool} {ds : List D} {st : Hd → Prop} (rel : RelW K w h) (r : RD K w d v) (e : anyI d h = some (t, ds, st)) :
    ds.length ≤ sizeLine ∧ st h ∧ ∃ a, v = .ref a ∧ ∀ w2 h2, Ext w w2 h h2 → RelW K w2 h2 → st h2 → ∃ xs, SqB K t w2.H a xs ∧ RDs K w2 ds xs := by
  unfold anyI at e
  split at e
  · cases e
    cases r with
    | tup s l rr => exact ⟨l, trivial, _, rfl, fun w2 h2 x _ _ => ⟨_, (s.mono x).sq, rr.mono x⟩⟩
  · split at e
    · rename_i e1
      cases e
      exact lstI_of rel r e1
    · cases e
theorem itok_zs {K : PySem.W.Frag} {w : Wd} {h : Hd} {t1 t2 : Bool} {a b : Addr} {ds es : List D} {s1 s2 : Hd → Prop} (l : ds.length ≤ sizeLine) (ll : ds.length = es.length) (at1 : ∀ w2 h2, Ext w w2 h h2 → RelW K w2 h2 → s1 h2 → ∃ xs, SqB K t1 w2.H a xs ∧ RDs K w2 ds xs)
    (at2 : ∀ w2 h2, Ext w w2 h h2 → RelW K w2 h2 → s2 h2 → ∃ xs, SqB K t2 w2.H b xs ∧ RDs K w2 es xs) : ItOk K w h (zipD ds es) (fun h => s1 h ∧ s2 h) (ItZS K t1 t2 a b) where
  len := by rw [zipD_len]; omega
  go := fun w2 h2 x rel st i d e => by
    obtain ⟨xs, q1, r1⟩ := at1 w2 h2 x rel st.1
    obtain ⟨ys, q2, r2⟩ := at2 w2 h2 x rel st.2
    obtain ⟨da, db, ea, eb, rfl⟩ := zipD_get e
    obtain ⟨va, va1, va2⟩ := r1.get ea
    obtain ⟨vb, vb1, vb2⟩ := r2.get eb
    refine ⟨⟨xs, ys, va, vb, q1, q2, va1, vb1⟩, fun v H' hv => ?_⟩
    obtain ⟨T, x', y', rfl, nT, rfl, f1, f2⟩ := hv
    cases (f1 xs q1).symm.trans va1
    cases (f2 ys q2).symm.trans vb1
    exact pair_turn rel nT va2 vb2
  stop := fun w2 h2 x rel st => by
    obtain ⟨xs, q1, r1⟩ := at1 w2 h2 x rel st.1
    obtain ⟨ys, q2, r2⟩ := at2 w2 h2 x rel st.2
    refine ⟨xs, ys, q1, q2, ?_, ?_⟩
    · rw [zipD_len, ← r1.length]; omega
    · rw [zipD_len, ← r2.length]; omega
theorem enumD_get {k : Nat} {ds : List D} {i : Nat} {d : D} (e : (enumD k ds)[i]? = some d) : ∃ a, ds[i]? = some a ∧ d = .tup [.int ((i + k : Nat) : Int), a] := by
  unfold enumD at e
  rw [List.getElem?_map, List.getElem?_zipIdx] at e
  cases e1 : ds[i]? with
  | none => rw [e1] at e; cases e
  | some a => rw [e1] at e; cases e; exact ⟨a, rfl, by rw [Nat.add_comm]⟩
theorem enumD_len (k : Nat) (ds : List D) : (enumD k ds).length = ds.length := by unfold enumD; rw [List.length_map, List.length_zipIdx]
theorem itok_en {K : PySem.W.Frag} {w : Wd} {h : Hd} {t : Bool} {a : Addr} {ds : List D} {st : Hd → Prop} {k : Nat} (l : ds.length ≤ sizeLine) (at1 : ∀ w2 h2, Ext w w2 h h2 → RelW K w2 h2 → st h2 → ∃ xs, SqB K t w2.H a xs ∧ RDs K w2 ds xs) : ItOk K w h (enumD k ds) st (ItEn K t a k) where
  len := by rw [enumD_len]; exact l
  go := fun w2 h2 x rel s i d e => by
    obtain ⟨xs, q1, r1⟩ := at1 w2 h2 x rel s
    obtain ⟨da, ea, rfl⟩ := enumD_get e
    obtain ⟨va, va1, va2⟩ := r1.get ea
    refine ⟨⟨xs, va, q1, va1⟩, fun v H' hv => ?_⟩
    obtain ⟨T, x', rfl, nT, rfl, f1⟩ := hv
    cases (f1 xs q1).symm.trans va1
    exact pair_turn rel nT (.int _) va2
  stop := fun w2 h2 x rel s => by
    obtain ⟨xs, q1, r1⟩ := at1 w2 h2 x rel s
    exact ⟨xs, q1, by rw [enumD_len, ← r1.length]⟩
theorem callWith_tyK {M : Model} {A : Around} {E : Value → Shared → Prop} {s : Shared} {pos : Pos} {T : String} {args : List (Bool × Sem Value)} {kws : List (Option Str × Sem Value)} {Q : Value → Shared → Prop} (pl : (args.any (·.1) || kws.any (·.1.isNone)) = false)
    (h : wpAny M A (evalArgs (.type T) true args kws) (fun a s₁ => wpAny M A (call (.type T) ([] ++ a.pos) a.kw) Q E s₁) E s) : wpAny M A (callWith pos (.type T) [] args kws) Q E s := by
  unfold callWith
  refine wpAny_bind (wpAny_holding (wpAny_mono h (fun a s₁ z => wpAny_bind (wpAny_standAt ?_)) fun _ _ x => x))
  simp only [pl]
  exact wpAny_bind (wpAny_pure (wpAny_bind (wpAny_mono z (fun r s₂ hr => wpAny_bind (wpAny_holding (wpAny_point (wpAny_pure hr)))) fun _ _ x => x)))
section
variable {X : Cx}
theorem zs_apart {n a b : Nat} (ha : a < n) (hb : b < n) : ZAp (n + 4) (n + 2) (n + 3) n (n + 1) [n, a] [n + 1, b] := by
  refine ⟨⟨?_, ?_, ?_, ?_⟩, ⟨?_, ?_, ?_⟩, ⟨?_, ?_, ?_⟩, ⟨?_, ?_, ?_, ?_⟩, ?_, ?_⟩
  all_goals first
    | (show ¬ ((_ : Nat) = _); omega)
    | (intro q
       rcases List.mem_cons.mp q with q | q
       · revert q; show ¬ ((_ : Nat) = _); omega
       · have q := List.mem_singleton.mp q
         revert q; show ¬ ((_ : Nat) = _); omega)
theorem li_zs {elts : List Expr} {kk a1 : Nat} {tpos p pos p1 p2 : Pos} {e e2 : Expr} {wa wb : WE} (hg : Gl X "zip") (hm : X.mg "zip" = none) (hp : pl e = true) (hp2 : pl e2 = true) (he : PE X e (liftE X.K wa)) (he2 : PE X e2 (liftE X.K wb)) :
    PI X (.Tuple elts kk tpos) (.Call (.Name "zip" p) [e, e2] [⟨some "strict", .Constant (.bool true) a1 p1, p2⟩] pos) (liftI X.K fun σ h R => wa σ h fun x h1 => wb σ h1 fun y h2 => zipSI x y h2 fun ds st => R ds st h2) := by
  refine ⟨fun pins s σ H R I ⟨w, σd, h, QD, eH, rel, rs, q, post⟩ => ?_⟩
  subst eH
  refine wpAny_Call_Name_kw (ld_blt I hg hm PyProof.Rows.boot_zip ?_)
  obtain ⟨n1, n2, n3⟩ := kw_names (pos := pos) (env := X.env) (kws := [⟨some "strict", .Constant (.bool true) a1 p1, p2⟩]) (ks := ["strict"]) rfl
  have hk : PK X [⟨some "strict", .Constant (.bool true) a1 p1, p2⟩] _ := pk_cons (pe_bl (b := true)) pk_nil
  have hA := (la_cons hp he (la_cons hp2 he2 la_nil)).run pos pins s σ w.H (fun vs H1 => ∃ w1 h1 ds, w1.H = H1 ∧ RelW X.K w1 h1 ∧ RDs X.K w1 ds vs ∧ (match ds with | [x, y] => (zipSI x y h1 fun ds st => QD ds st h1) | _ => False) ∧ Ext w w1 h h1) I
    ⟨w, σd, h, _, rfl, rel, rs, q, fun w1 h1 ds vs x1 rel1 r1 l1 q1 => ⟨w1, h1, ds, rfl, rel1, r1, q1, x1⟩⟩
  refine callWith_tyK (by rw [n3, star_all (by simp [hp, hp2])]; rfl) (PyProof.Rows.evalArgs_kw2 n1 (thn hA fun us s1 ⟨vs, H1, I1, r, q⟩ => ?_) (star_pl hp))
  obtain ⟨w1, h1, ds, rfl, rel1, r1, q1, x1⟩ := q
  have hK := hk.run pos pins s1 σ w1.H (fun zs H2 => zs = [.bl true] ∧ H2 = w1.H) I1 ⟨rfl, rfl⟩
  refine thn hK fun ws s2 ⟨zs, H2, I2, rz, ez, eH⟩ => ?_
  subst ez
  subst eH
  rw [n2]
  have ew : ws = [.bool true] := by
    cases rz with
    | cons rb rr =>
      cases rr
      cases (show _ = Value.bool true from rb)
      rfl
  subst ew
  match ds, r1, q1 with
  | [d, d2], r1, q1 =>
    obtain ⟨v, v2, rfl, ra, rb⟩ := rds2 r1
    replace q1 : zipSI d d2 h1 fun ds st => QD ds st h1 := q1
    unfold zipSI at q1
    split at q1
    · rename_i t1 ds s1' t2 es s2' e1 e2
      obtain ⟨ll, q1⟩ := q1
      obtain ⟨l1, g1, a, rfl, at1⟩ := anyI_of rel1 ra e1
      obtain ⟨l2, g2, b, rfl, at2⟩ := anyI_of rel1 rb e2
      obtain ⟨xs, sx, rx⟩ := at1 w1 h1 (Ext.refl _ _) rel1 g1
      obtain ⟨ys, sy, ry⟩ := at2 w1 h1 (Ext.refl _ _) rel1 g2
      obtain ⟨its1, rv1, b1⟩ := sqB_of I2 sx
      obtain ⟨its2, rv2, b2⟩ := sqB_of I2 sy
      cases r with
      | cons ru rr =>
        cases rr with
        | cons ru2 rr =>
          cases rr
          cases (show _ = Value.ref a from ru)
          cases (show _ = Value.ref b from ru2)
          refine call_zs b1 b2 fun h' hz hI hO i1 i2 hk => zs_iter hz ?_
          have I3 : Inv X pins σ w1.H { s2 with heap := h' } := I2.kept (t' := s2.toks) hk
          refine ⟨s2.heap.objs.size + 4, [s2.heap.objs.size + 4, s2.heap.objs.size + 2, s2.heap.objs.size + 3, s2.heap.objs.size, s2.heap.objs.size + 1], _, _, w1.H, rfl, I3, turn_zs (t1 := t1) (t2 := t2) (zs_apart b1.there b2.there), ⟨hz, hI, ⟨_, _, hO⟩, i1, i2⟩, fun c hc => ?_, post w1 h1 _ _ _ x1 rel1 (itok_zs l1 ll at1 at2) q1⟩
          have hle : s2.heap.objs.size ≤ c := by
            simp only [List.mem_cons, List.not_mem_nil, or_false] at hc
            show (_ : Nat) ≤ _
            rcases hc with rfl | rfl | rfl | rfl | rfl <;> first | exact Nat.le_refl _ | exact Nat.le_add_right _ _
          exact I2.fpOk hle (I2.hok.fresh hle)
    · exact q1.elim
/-- enumerate: keywords kw come to kws, the start k -/
theorem en_step {pins : List (Addr × Obj)} {s2 : Shared} {σ : L2.St} {w w1 : Wd} {h h1 : Hd} {QD : List D → (Hd → Prop) → Hd → Prop} {R : It → Hp → Prop} {elts : List Expr} {kk k : Nat} {tpos : Pos} {d : D} {v : V} {u : Value} {kw : List (Str × Value)}
    (hk : kw = [] ∧ k = 0 ∨ ∃ tk, kw = [((Str.ofString "start"), Value.int 1 tk)] ∧ k = 1) (I2 : Inv X pins σ w1.H s2) (rel1 : RelW X.K w1 h1) (ra : RD X.K w1 d v) (ru : RelV v u) (q1 : enumI k d h1 fun ds st => QD ds st h1)
    (post : ∀ w' h' ds stay J, Ext w w' h h' → RelW X.K w' h' → ItOk X.K w' h' ds stay J → QD ds stay h' → R J w'.H) (x1 : Ext w w1 h h1) :
    wpAny (model X.prog X.w) X.A (call (.type "enumerate") [u] kw) (fun v s1 => wpAny (model X.prog X.w) X.A (pyIter v) (PIE X pins σ (.Tuple elts kk tpos) R) X.xe s1) X.xe s2 := by
  unfold enumI at q1
  split at q1
  · rename_i t ds st e1
    obtain ⟨l1, g1, a, rfl, at1⟩ := anyI_of rel1 ra e1
    obtain ⟨xs, sx, rx⟩ := at1 w1 h1 (Ext.refl _ _) rel1 g1
    obtain ⟨its1, rv1, b1⟩ := sqB_of I2 sx
    cases (show u = Value.ref a from ru)
    refine call_en hk b1 fun h' he i1 hk' => wpAny_pyIter_enum he ?_
    have I3 : Inv X pins σ w1.H { s2 with heap := h' } := I2.kept (t' := s2.toks) hk'
    refine ⟨s2.heap.objs.size + 1, [s2.heap.objs.size + 1, s2.heap.objs.size], _, _, w1.H, rfl, I3, turn_en (t := t) (k := k), ⟨⟨.none, by rw [Nat.zero_add]; exact he⟩, i1, Nat.succ_ne_self _⟩, fun c hc => ?_, post w1 h1 _ _ _ x1 rel1 (itok_en l1 at1) q1⟩
    have hle : s2.heap.objs.size ≤ c := by
      simp only [List.mem_cons, List.not_mem_nil, or_false] at hc
      show (_ : Nat) ≤ _
      rcases hc with rfl | rfl <;> first | exact Nat.le_refl _ | exact Nat.le_add_right _ _
    exact I2.fpOk hle (I2.hok.fresh hle)
  · exact q1.elim
theorem li_en0 {elts : List Expr} {kk : Nat} {tpos p pos : Pos} {e : Expr} {wa : WE} (hg : Gl X "enumerate") (hm : X.mg "enumerate" = none) (hp : pl e = true) (he : PE X e (liftE X.K wa)) :
    PI X (.Tuple elts kk tpos) (.Call (.Name "enumerate" p) [e] [] pos) (liftI X.K fun σ h R => wa σ h fun x h1 => enumI (if false = true then 1 else 0) x h1 fun ds st => R ds st h1) := by
  refine ⟨fun pins s σ H R I ⟨w, σd, h, QD, eH, rel, rs, q, post⟩ => ?_⟩
  subst eH
  have hA := (la_cons hp he la_nil).run pos pins s σ w.H (fun vs H1 => ∃ w1 h1 ds, w1.H = H1 ∧ RelW X.K w1 h1 ∧ RDs X.K w1 ds vs ∧ (match ds with | [x] => (enumI 0 x h1 fun ds st => QD ds st h1) | _ => False) ∧ Ext w w1 h h1) I
    ⟨w, σd, h, _, rfl, rel, rs, q, fun w1 h1 ds vs x1 rel1 r1 l1 q1 => ⟨w1, h1, ds, rfl, rel1, r1, q1, x1⟩⟩
  refine Call_ (ld_blt I hg hm boot_enumerate (PyProof.Rows.callWith_type1 (thn hA fun us s1 ⟨vs, H1, I1, r, q⟩ => ?_) (star_pl hp) rfl))
  obtain ⟨w1, h1, ds, rfl, rel1, r1, q1, x1⟩ := q
  match ds, r1, q1 with
  | [d], r1, q1 =>
    obtain ⟨v, rfl, ra⟩ := rds1 r1
    cases r with
    | cons ru rr =>
      cases rr
      exact en_step (.inl ⟨rfl, rfl⟩) I1 rel1 ra ru q1 post x1
theorem li_en1 {elts : List Expr} {kk a1 : Nat} {tpos p pos p1 p2 : Pos} {e : Expr} {wa : WE} (hg : Gl X "enumerate") (hm : X.mg "enumerate" = none) (hp : pl e = true) (he : PE X e (liftE X.K wa)) :
    PI X (.Tuple elts kk tpos) (.Call (.Name "enumerate" p) [e] [⟨some "start", .Constant (.int 1) a1 p1, p2⟩] pos) (liftI X.K fun σ h R => wa σ h fun x h1 => enumI (if true = true then 1 else 0) x h1 fun ds st => R ds st h1) := by
  refine ⟨fun pins s σ H R I ⟨w, σd, h, QD, eH, rel, rs, q, post⟩ => ?_⟩
  subst eH
  refine wpAny_Call_Name_kw (ld_blt I hg hm boot_enumerate ?_)
  obtain ⟨n1, n2, n3⟩ := kw_names (pos := pos) (env := X.env) (kws := [⟨some "start", .Constant (.int 1) a1 p1, p2⟩]) (ks := ["start"]) rfl
  have hk : PK X [⟨some "start", .Constant (.int 1) a1 p1, p2⟩] _ := pk_cons (pe_int (i := 1)) pk_nil
  have hA := (la_cons hp he la_nil).run pos pins s σ w.H (fun vs H1 => ∃ w1 h1 ds, w1.H = H1 ∧ RelW X.K w1 h1 ∧ RDs X.K w1 ds vs ∧ (match ds with | [x] => (enumI 1 x h1 fun ds st => QD ds st h1) | _ => False) ∧ Ext w w1 h h1) I
    ⟨w, σd, h, _, rfl, rel, rs, q, fun w1 h1 ds vs x1 rel1 r1 l1 q1 => ⟨w1, h1, ds, rfl, rel1, r1, q1, x1⟩⟩
  refine callWith_tyK (by rw [n3, star_all (by simp [hp])]; rfl) (PyProof.Rows.evalArgs_kw2 n1 (thn hA fun us s1 ⟨vs, H1, I1, r, q⟩ => ?_) (star_pl hp))
  obtain ⟨w1, h1, ds, rfl, rel1, r1, q1, x1⟩ := q
  have hK := hk.run pos pins s1 σ w1.H (fun zs H2 => zs = [.int 1] ∧ H2 = w1.H) I1 ⟨rfl, rfl⟩
  refine thn hK fun ws s2 ⟨zs, H2, I2, rz, ez, eH⟩ => ?_
  subst ez
  subst eH
  rw [n2]
  obtain ⟨tk, ew⟩ : ∃ tk, ws = [.int 1 tk] := by
    cases rz with
    | cons rb rr =>
      cases rr
      obtain ⟨tk, rfl⟩ := (show ∃ tk, _ = Value.int 1 tk from rb)
      exact ⟨tk, rfl⟩
  subst ew
  match ds, r1, q1 with
  | [d], r1, q1 =>
    obtain ⟨v, rfl, ra⟩ := rds1 r1
    cases r with
    | cons ru rr =>
      cases rr
      exact en_step (.inr ⟨tk, rfl, rfl⟩) I2 rel1 ra ru q1 post x1
end
end G

/-! Chains of three comparisons, as tests. -/
namespace G
open PySem PySem.Spec PyProof.Rows L2
section
variable {X : Cx} {e1 e2 e3 e4 : Expr} {wa wb wc wd : WE} {pos : Pos}
theorem lt_ch3 {o p r : CmpOp} (hu : X.A.units + 65 < cLine) (hm : lastMarks [o, p, r] [e2, e3, e4] = false) (ha : PE X e1 (liftE X.K wa)) (hb : PE X e2 (liftE X.K wb)) (hc : PE X e3 (liftE X.K wc)) (hd' : PE X e4 (liftE X.K wd)) :
    PT X (.Compare e1 [o, p, r] [e2, e3, e4] pos) (liftT X.K fun σ h Q => wa σ h fun x h1 => wb σ h1 fun y h2 => cmpD o x y h2 fun z h3 => boolD z fun k => if k = true then wc σ h3 fun v h4 => cmpD p y v h4 fun z2 h5 => boolD z2 fun k2 => if k2 = true then wd σ h5 fun u h6 => cmpD r v u h6 fun z3 h7 => boolD z3 fun k3 => Q k3 h7 else Q false h5 else Q false h3) := by
  refine ⟨fun pins s σ H Q I ⟨w, σd, hd, QD, eH, rel, rs, q, post⟩ => ?_⟩
  subst eH
  have hA := ha.run pins s σ w.H (fun v H1 => ∃ w1 h1 d, w1.H = H1 ∧ RelW X.K w1 h1 ∧ RD X.K w1 d v ∧ Ext w w1 hd h1 ∧ (wb σd h1 fun y h2 => cmpD o d y h2 fun z h3 => boolD z fun k => if k = true then wc σd h3 fun v h4 => cmpD p y v h4 fun z2 h5 => boolD z2 fun k2 => if k2 = true then wd σd h5 fun u h6 => cmpD r v u h6 fun z3 h7 => boolD z3 fun k3 => QD k3 h7 else QD false h5 else QD false h3)) I
    ⟨w, σd, hd, _, rfl, rel, rs, q, fun w1 h1 d v x1 rel1 r1 q1 => ⟨w1, h1, d, rfl, rel1, r1, x1, q1⟩⟩
  refine isTrue_chain (thn hA fun v s1 ⟨x, H1, I1, r1, w1, h1, d1, e1', rel1, rd1, x1, q1⟩ => test_link ?_) hm
  subst e1'
  have hB := hb.run pins s1 σ w1.H (fun v H2 => ∃ w2 h2 d, w2.H = H2 ∧ RelW X.K w2 h2 ∧ RD X.K w2 d v ∧ Ext w1 w2 h1 h2 ∧ (cmpD o d1 d h2 fun z h3 => boolD z fun k => if k = true then wc σd h3 fun v h4 => cmpD p d v h4 fun z2 h5 => boolD z2 fun k2 => if k2 = true then wd σd h5 fun u h6 => cmpD r v u h6 fun z3 h7 => boolD z3 fun k3 => QD k3 h7 else QD false h5 else QD false h3)) I1
    ⟨w1, σd, h1, _, rfl, rel1, rs.mono x1, q1, fun w2 h2 d v x2 rel2 r2 q2 => ⟨w2, h2, d, rfl, rel2, r2, x2, q2⟩⟩
  refine thn hB fun u s2 ⟨y, H2, I2, r2, w2, h2, d2, e2', rel2, rd2, x2, q2⟩ => ?_
  subst e2'
  have hO := o_cmp hu o pins s2 σ w2.H x y v u (fun z H3 => ∃ w3 h3 d, w3.H = H3 ∧ RelW X.K w3 h3 ∧ RD X.K w3 d z ∧ Ext w2 w3 h2 h3 ∧ (boolD d fun k => if k = true then wc σd h3 fun v h4 => cmpD p d2 v h4 fun z2 h5 => boolD z2 fun k2 => if k2 = true then wd σd h5 fun u h6 => cmpD r v u h6 fun z3 h7 => boolD z3 fun k3 => QD k3 h7 else QD false h5 else QD false h3)) I2 r1 r2
    ⟨w2, h2, d1, d2, _, rfl, rel2, rd1.mono x2, rd2, q2, fun w3 h3 d v x3 rel3 r3 q3 => ⟨w3, h3, d, rfl, rel3, r3, x3, q3⟩⟩
  refine thn hO fun c s3 ⟨z, H3, I3, r3, w3, h3, d3, e3', rel3, rd3, x3, q3⟩ => ?_
  subst e3'
  obtain ⟨k, rfl, q3⟩ := boolD_of rd3 q3
  cases r3
  refine wpAny_truthy_bool ?_
  have x13 := (x1.trans x2).trans x3
  cases k with
  | false =>
    rw [if_neg Bool.false_ne_true] at q3
    exact ite_ff ⟨w3.H, I3, post w3 h3 false x13 rel3 q3⟩
  | true =>
    rw [if_pos rfl] at q3
    refine ite_tt (test_link ?_)
    have hC := hc.run pins s3 σ w3.H (fun v H4 => ∃ w4 h4 d, w4.H = H4 ∧ RelW X.K w4 h4 ∧ RD X.K w4 d v ∧ Ext w3 w4 h3 h4 ∧ (cmpD p d2 d h4 fun z2 h5 => boolD z2 fun k2 => if k2 = true then wd σd h5 fun u h6 => cmpD r d u h6 fun z3 h7 => boolD z3 fun k3 => QD k3 h7 else QD false h5)) I3
      ⟨w3, σd, h3, _, rfl, rel3, rs.mono x13, q3, fun w4 h4 d v x4 rel4 r4 q4 => ⟨w4, h4, d, rfl, rel4, r4, x4, q4⟩⟩
    refine thn hC fun v4 s4 ⟨y4, H4, I4, r4, w4, h4, d4, e4', rel4, rd4, x4, q4⟩ => ?_
    subst e4'
    have hO2 := o_cmp hu p pins s4 σ w4.H y y4 u v4 (fun z H5 => ∃ w5 h5 d, w5.H = H5 ∧ RelW X.K w5 h5 ∧ RD X.K w5 d z ∧ Ext w4 w5 h4 h5 ∧ (boolD d fun k2 => if k2 = true then wd σd h5 fun u h6 => cmpD r d4 u h6 fun z3 h7 => boolD z3 fun k3 => QD k3 h7 else QD false h5)) I4 r2 r4
      ⟨w4, h4, d2, d4, _, rfl, rel4, (rd2.mono x3).mono x4, rd4, q4, fun w5 h5 d v x5 rel5 r5 q5 => ⟨w5, h5, d, rfl, rel5, r5, x5, q5⟩⟩
    refine thn hO2 fun c5 s5 ⟨z5, H5, I5, r5, w5, h5, d5, e5', rel5, rd5, x5, q5⟩ => ?_
    subst e5'
    obtain ⟨k2, rfl, q5⟩ := boolD_of rd5 q5
    cases r5
    refine wpAny_truthy_bool ?_
    have x15 := (x13.trans x4).trans x5
    cases k2 with
    | false =>
      rw [if_neg Bool.false_ne_true] at q5
      exact ite_ff ⟨w5.H, I5, post w5 h5 false x15 rel5 q5⟩
    | true =>
      rw [if_pos rfl] at q5
      refine ite_tt (test_last ?_)
      have hD := hd'.run pins s5 σ w5.H (fun v H6 => ∃ w6 h6 d, w6.H = H6 ∧ RelW X.K w6 h6 ∧ RD X.K w6 d v ∧ Ext w5 w6 h5 h6 ∧ (cmpD r d4 d h6 fun z3 h7 => boolD z3 fun k3 => QD k3 h7)) I5
        ⟨w5, σd, h5, _, rfl, rel5, rs.mono x15, q5, fun w6 h6 d v x6 rel6 r6 q6 => ⟨w6, h6, d, rfl, rel6, r6, x6, q6⟩⟩
      refine thn hD fun v6 s6 ⟨y6, H6, I6, r6, w6, h6, d6, e6', rel6, rd6, x6, q6⟩ => ?_
      subst e6'
      have hO3 := o_cmp hu r pins s6 σ w6.H y4 y6 v4 v6 (fun z H7 => ∃ w7 h7 d, w7.H = H7 ∧ RelW X.K w7 h7 ∧ RD X.K w7 d z ∧ Ext w6 w7 h6 h7 ∧ (boolD d fun k3 => QD k3 h7)) I6 r4 r6
        ⟨w6, h6, d4, d6, _, rfl, rel6, (rd4.mono x5).mono x6, rd6, q6, fun w7 h7 d v x7 rel7 r7 q7 => ⟨w7, h7, d, rfl, rel7, r7, x7, q7⟩⟩
      refine thn hO3 fun c7 s7 ⟨z7, H7, I7, r7, w7, h7, d7, e7', rel7, rd7, x7, q7⟩ => ?_
      subst e7'
      obtain ⟨k3, rfl, q7⟩ := boolD_of rd7 q7
      cases r7
      exact wpAny_truthy_bool ⟨w7.H, I7, post w7 h7 k3 ((x15.trans x6).trans x7) rel7 q7⟩
end
end G

/-! A call of one of two defs out of a list display; xs[i::k] of a list. -/
namespace G
open PySem PySem.Spec PyProof.Rows
open L2 hiding wE wT
section
variable {X : Cx} {e e1 e2 : Expr} {es : List Expr} {pos : Pos} {wa wb wc : WE} {wl wl' : WA}
/-- a def's name -/
theorem pe_fn {x : Str} {p : Pos} {f : Addr} (gl : Gl X x) (hm : X.mg x = some (.ref f)) (hd : (x == ("__debug__" : Str)) = false) : PE X (.Name x p) (fun _ H Q => Q (.ref f) H) :=
  ⟨fun pins s σ H Q I q => ld_glob I gl hm ⟨.ref f, H, I, rfl, q⟩ hd⟩
theorem arm_callS (a b : Expr) (p : Pos) (args : List Expr) (keywords : List Keyword) (pos : Pos) (env : Env) : eval (.Call (.Subscript a b p) args keywords pos) env = (do
    callWith pos (← eval (.Subscript a b p) env) [] (backTo pos (starEach args env)) (backToKw pos (keywordEach keywords env))) := rfl
/-- the arguments and the call, the def in hand -/
theorem call_tail {k : Nat} {f : Addr} {fd : FuncData} {ps : List Str} {sp : Spd} {n : Nat} (hr : Room k X.A) (hg : X.A.guards = some []) (hk : PySem.W.keepIn X.K (.ref f) = true)
    (hp : fd.params.args.map (·.arg) = ps ∧ fd.params.posonlyargs = [] ∧ fd.params.vararg = none ∧ fd.params.kwonlyargs = [] ∧ fd.params.kwarg = none ∧ fd.defaults = .none ∧ ps.Nodup) (G : FnG X.prog X.w X.K X.mg X.base k f fd ps sp)
    (hq : pl e = true) (hps : es.all pl = true) (ha : PA X (e :: es) (liftA X.K n wl)) {pins : List (Addr × Obj)} {σ : L2.St} {s : Shared} {w : Wd} {σd : Sl} {h : Hd} {QD : Pq} {Q : VK} (I : Inv X pins σ w.H s) (rel : RelW X.K w h) (rs : RSl X.K w σd σ)
    (q : wl σd h fun ds h1 => sp ds h1 QD) (post : Post X.K w h QD Q) : wpAny (model X.prog X.w) X.A (callWith pos (.ref f) [] (backTo pos (starEach (e :: es) X.env)) (backToKw pos (keywordEach [] X.env))) (EP X pins σ Q) X.xe s := by
  have hA := ha.run pos pins s σ w.H (fun vs H1 => ∃ w1 h1 ds, w1.H = H1 ∧ RelW X.K w1 h1 ∧ RDs X.K w1 ds vs ∧ sp ds h1 QD ∧ Post X.K w1 h1 QD Q) I
    ⟨w, σd, h, _, rfl, rel, rs, q, fun w1 h1 ds vs x1 rel1 r1 _ q1 => ⟨w1, h1, ds, rfl, rel1, r1, q1, post.ext x1⟩⟩
  refine PySem.W.callWith_K (h₀ := X.base) I.ok.mod.kin hk (thn hA fun us s1 ⟨vs, H1, I1, r, q⟩ => ⟨I1.kIn, ?_⟩) (star_pl hq) (star_all hps)
  obtain ⟨w1, h1, ds, rfl, rel1, r1, q1, post1⟩ := q
  have hl : us.length = ps.length := by rw [← r.length, ← r1.length]; exact G.len _ _ _ q1
  exact fn_call G hr hg I1 (fn_binds hp hl) r rel1 r1 q1 post1
theorem l_callP {k : Nat} {x y : Str} {p1 p2 p3 p4 : Pos} {ps qs : List Str} {sp sq : Spd} (F1 : FnAt X.prog X.w X.K X.mg X.base k x ps sp) (F2 : FnAt X.prog X.w X.K X.mg X.base k y qs sq) (hr : Room k X.A) (hg : X.A.guards = some []) (gl1 : Gl X x) (hd1 : (x == ("__debug__" : Str)) = false) (gl2 : Gl X y) (hd2 : (y == ("__debug__" : Str)) = false)
    (hi : PE X e1 (liftE X.K wa)) (hpi : pl e1 = true) (hq : pl e = true) (hps : es.all pl = true) {n : Nat} (ha : PA X (e :: es) (liftA X.K n wl)) :
    PE X (.Call (.Subscript (.List [.Name x p1, .Name y p2] p3) e1 p4) (e :: es) [] pos) (liftE X.K fun σ h Q => wa σ h fun d h1 => intO d fun k => (k = 0 ∧ wl σ h1 fun ds h2 => sp ds h2 Q) ∨ (k = 1 ∧ wl σ h1 fun ds h2 => sq ds h2 Q)) := by
  obtain ⟨f, fd, hm, hk, hp, G⟩ := F1.ex
  obtain ⟨f', fd', hm', hk', hp', G'⟩ := F2.ex
  have hF : PE X (.Subscript (.List [.Name x p1, .Name y p2] p3) e1 p4) _ := pe_ix ix_list (pe_lst (pa_cons (pe_fn gl1 hm hd1) (pa_cons (pe_fn gl2 hm' hd2) pa_nil))) hi (ix_pl hpi)
  refine ⟨fun pins s σ H Q I hw => ?_⟩
  obtain ⟨w, σd, h, QD, eH, rel, rs, q, post⟩ := hw
  subst eH
  rw [arm_callS]
  refine wpAny_bind (thn (hF.run pins s σ w.H (fun z H1 => ∃ w1 h1, w1.H = H1 ∧ RelW X.K w1 h1 ∧ Ext w w1 h h1 ∧ ((z = .ref f ∧ wl σd h1 fun ds h2 => sp ds h2 QD) ∨ (z = .ref f' ∧ wl σd h1 fun ds h2 => sq ds h2 QD))) I ?_) ?_)
  · show _ ≤ sizeLine ∧ ∀ p, w.H p = none → _
    refine ⟨by have : sizeLine = 16777216 := sizeLine_eq; simp only [List.length_cons, List.length_nil]; omega, fun p hp0 => ?_⟩
    have x0 : Ext w (w.put p (.lst [.ref f, .ref f'])) h h := ext_put rel hp0
    refine ⟨w.put p (.lst [.ref f, .ref f']), σd, h, _, rfl, rel_put rel hp0, rs.mono x0, q, fun w1 h1 d v x1 rel1 r1 q1 => ?_⟩
    obtain ⟨i, rfl, q1⟩ := intO_of r1 q1
    have e0 : w1.H p = some (.lst [.ref f, .ref f']) := x1.keep p _ (rel.nmut hp0) upd_same
    rcases q1 with ⟨rfl, q1⟩ | ⟨rfl, q1⟩
    · exact ⟨p, _, 0, .ref f, rfl, rfl, .inl (.inl e0), rfl, w1, h1, rfl, rel1, x0.trans x1, .inl ⟨rfl, q1⟩⟩
    · exact ⟨p, _, 1, .ref f', rfl, rfl, .inl (.inl e0), rfl, w1, h1, rfl, rel1, x0.trans x1, .inr ⟨rfl, q1⟩⟩
  · rintro v s1 ⟨z, H1, I1, rz, w1, h1, rfl, rel1, x1, qq⟩
    rcases qq with ⟨rfl, qq⟩ | ⟨rfl, qq⟩
    · cases rz
      exact call_tail hr hg hk hp G hq hps ha I1 rel1 (rs.mono x1) qq (post.ext x1)
    · cases rz
      exact call_tail hr hg hk' hp' G' hq hps ha I1 rel1 (rs.mono x1) qq (post.ext x1)
/-! xs[i::k] -/
def pickL {α : Type} (L : List Nat) (xs : List α) : List α := L.filterMap (xs[·]?)
theorem pick_vals : ∀ {L : List Nat} {xs : List V} {us : List Value}, Vals xs us → Vals (pickL L xs) (pickL L us)
  | [], _, _, _ => .nil
  | i :: L, xs, us, r => by
    have ih := pick_vals (L := L) r
    unfold pickL at ih ⊢
    simp only [List.filterMap_cons]
    cases e : xs[i]? with
    | none =>
      have : us[i]? = none := by
        rw [List.getElem?_eq_none_iff] at e ⊢
        rw [← r.length]
        exact e
      rw [this]
      exact ih
    | some x =>
      obtain ⟨u, eu, ru⟩ := r.get e
      rw [eu]
      exact .cons ru ih
theorem pick_rds {K : PySem.W.Frag} {w : Wd} : ∀ {L : List Nat} {ds : List D} {xs : List V}, RDs K w ds xs → RDs K w (pickL L ds) (pickL L xs)
  | [], _, _, _ => .nil
  | i :: L, ds, xs, r => by
    have ih := pick_rds (L := L) r
    unfold pickL at ih ⊢
    simp only [List.filterMap_cons]
    cases e : ds[i]? with
    | none =>
      have : xs[i]? = none := by
        rw [List.getElem?_eq_none_iff] at e ⊢
        rw [← r.length]
        exact e
      rw [this]
      exact ih
    | some x =>
      obtain ⟨u, eu, ru⟩ := r.get e
      rw [eu]
      exact .cons ru ih
theorem pick_mem {α : Type} {L : List Nat} {xs : List α} {x : α} (h : x ∈ pickL L xs) : x ∈ xs := by
  unfold pickL at h
  obtain ⟨i, _, e⟩ := List.mem_filterMap.mp h
  exact List.mem_of_getElem? e
theorem pick_len {α β : Type} {xs : List α} {ys : List β} (e : xs.length = ys.length) : ∀ L : List Nat, (pickL L xs).length = (pickL L ys).length
  | [] => rfl
  | i :: L => by
    have ih := pick_len e L
    unfold pickL at ih ⊢
    simp only [List.filterMap_cons]
    by_cases h : i < xs.length
    · rw [List.getElem?_eq_getElem h, List.getElem?_eq_getElem (by omega : i < ys.length)]
      simp only [List.length_cons, ih]
    · rw [List.getElem?_eq_none (by omega), List.getElem?_eq_none (by omega)]
      exact ih
theorem l_slS {p2 : Pos} (ha : PE X e (liftE X.K wa)) (hl : PE X e1 (liftE X.K wb)) (hs : PE X e2 (liftE X.K wc)) :
    PE X (.Subscript e (.Slice (some e1) none (some e2) p2) pos) (liftE X.K fun σ h Q => wa σ h fun x h1 => wb σ h1 fun l h2 => intO l fun _ => wc σ h2 fun k h3 => intO k fun j => match view h3 x with
      | .lst ds => j ≠ 0 ∧ ∀ es : List D, (∀ e ∈ es, e ∈ ds) → es.length ≤ ds.length → Q (.lst es) h3
      | _ => False) := by
  refine ⟨fun pins s σ H Q I hw => ?_⟩
  obtain ⟨w, σd, h, QD, eH, rel, rs, q, post⟩ := hw
  subst eH
  refine Subscript_ (thn (ha.run pins s σ w.H (fun x H1 => ∃ w1 h1 d, w1.H = H1 ∧ RelW X.K w1 h1 ∧ Ext w w1 h h1 ∧ RD X.K w1 d x ∧ wb σd h1 fun l h2 => intO l fun _ => wc σd h2 fun k h3 => intO k fun j => match view h3 d with
      | .lst ds => j ≠ 0 ∧ ∀ es : List D, (∀ e ∈ es, e ∈ ds) → es.length ≤ ds.length → QD (.lst es) h3
      | _ => False) I ⟨w, σd, h, _, rfl, rel, rs, q, fun w1 h1 d v x1 rel1 r1 q1 => ⟨w1, h1, d, rfl, rel1, x1, r1, q1⟩⟩) ?_)
  rintro v s1 ⟨x, H1, I1, rx, w1, h1, d, rfl, rel1, x1, rd, q1⟩
  refine wpAny_Slice (thn ((lo_some hl).run pins s1 σ w1.H (fun l H2 => ∃ w2 h2, w2.H = H2 ∧ RelW X.K w2 h2 ∧ Ext w1 w2 h1 h2 ∧ (wc σd h2 fun k h3 => intO k fun j => match view h3 d with
      | .lst ds => j ≠ 0 ∧ ∀ es : List D, (∀ e ∈ es, e ∈ ds) → es.length ≤ ds.length → QD (.lst es) h3
      | _ => False)) I1 ⟨w1, σd, h1, _, rfl, rel1, rs.mono x1, ?_, fun w2 h2 o x2 rel2 q2 => ⟨w2, h2, rfl, rel2, x2, q2⟩⟩) ?_)
  · exact q1
  rintro vl s2 ⟨l, H2, I2, pl0, w2, h2, rfl, rel2, x2, q2⟩
  refine thn (po_none.run pins s2 σ w2.H (fun o H3 => o = none ∧ H3 = w2.H) I2 ⟨rfl, rfl⟩) ?_
  rintro vu s3 ⟨u, H3, I3, pu, rfl, rfl⟩
  refine thn ((lo_some hs).run pins s3 σ w2.H (fun k H4 => ∃ w3 h3, w3.H = H4 ∧ RelW X.K w3 h3 ∧ Ext w2 w3 h2 h3 ∧ ∃ j, k = some j ∧ (match view h3 d with
      | .lst ds => j ≠ 0 ∧ ∀ es : List D, (∀ e ∈ es, e ∈ ds) → es.length ≤ ds.length → QD (.lst es) h3
      | _ => False)) I3 ⟨w2, σd, h2, fun o h3 => match o with
      | some j => (match view h3 d with
      | .lst ds => j ≠ 0 ∧ ∀ es : List D, (∀ e ∈ es, e ∈ ds) → es.length ≤ ds.length → QD (.lst es) h3
      | _ => False)
      | none => False, rfl, rel2, (rs.mono x1).mono x2, q2, fun w3 h3 o x3 rel3 q3 => ?_⟩) ?_
  · cases o with
    | none => exact q3.elim
    | some j => exact ⟨w3, h3, rfl, rel3, x3, j, rfl, q3⟩
  rintro vs s4 ⟨k, H4, I4, ps, w3, h3, rfl, rel3, x3, j, rfl, q3⟩
  have I5 : Inv X pins σ w3.H { s4 with heap := s4.heap.push { cls := .type "slice", data := .fields #[vl, vu, vs] } } := I4.kept (t' := s4.toks) fun b ob q => Heap.get?_push_of_some _ q
  split at q3
  · rename_i ds ed
    obtain ⟨j0, q3⟩ := q3
    obtain ⟨a, xs, rfl, e2, rr, ll⟩ := view_lst rel3 ((rd.mono x2).mono x3) ed
    cases rx
    obtain ⟨its, r, ht, hz⟩ := I5.list (.inl (.inl e2))
    have hlen := r.length
    refine tail_any (ops := [.ref a, .ref s4.heap.objs.size]) ht.isList.typeIs (PySem.slot_list_getitem.lookup) ?_ (by with_unfolding_all rfl)
    refine wpAny_getItem_list_slice ht.isList (Heap.IsSliceOf.new _ vl vu vs) pl0 pu ps (fun z => j0 (Option.some.inj z)) ?_ (by rw [List.size_toArray]; omega)
    have ep : slicePick its.toArray l none (some j) = (pickL (sliceRange (sliceBounds l none (some j) its.toArray.size).1 (sliceBounds l none (some j) its.toArray.size).2.1 (sliceBounds l none (some j) its.toArray.size).2.2) its).toArray := by
      unfold slicePick pickL
      simp only [List.getElem?_toArray]
    have el := slicePick_size_le its.toArray l none (some j)
    rw [ep, List.size_toArray, List.size_toArray] at el
    rw [ep]
    generalize (sliceRange (sliceBounds l none (some j) its.toArray.size).1 (sliceBounds l none (some j) its.toArray.size).2.1 (sliceBounds l none (some j) its.toArray.size).2.2) = L at el
    have l1 : (pickL L ds).length ≤ ds.length := by
      have h1 := pick_len rr.length L
      have h2 := pick_len r.length L
      have h3 := rr.length
      omega
    have l2 : (pickL L xs).length = (pickL L ds).length := (pick_len rr.length L).symm
    refine ⟨.ref _, _, I5.laid (t' := s4.toks) (o := .lst (pickL L xs)) (fun b ob q => Heap.get?_push_of_some _ q) (Nat.le_refl _) ?_, rfl, ?_⟩
    · exact ⟨by omega, _, 0, pick_vals r, Heap.get?_push_size _ rfl⟩
    · exact post_lst rel3 (I5.hok.fresh (Nat.le_refl _)) (pick_rds rr) (by omega) (q3 _ (fun e he => pick_mem he) l1) (post.ext ((x1.trans x2).trans x3))
  · exact q3.elim
end
end G

/-! Tables that a module wrote: text keys. -/
namespace G
open PySem PySem.Spec PyProof.Rows
open L2 hiding wE wT

def TabAt (W : World) (K : PySem.W.Frag) (mg : Str → Option Value) (x : Str) (ks : List Str) (ds : List D) : Prop :=
  ∃ a es n, mg x = some (.ref a) ∧ KDict K W a es n ∧ ∀ z, match lookT ks ds z with
    | some d => ∃ u v, PySem.W.nsIn K a z = some (some u) ∧ RelV v u ∧ ∀ w, RD K w d v
    | none => PySem.W.nsIn K a z = some none
/-- the entries of a table of whole numbers -/
def EntI (P : Params) : List Str → List D → List DictEntry → Prop
  | [], [], [] => True
  | k :: ks, d :: ds, e :: es => (∃ t i u, e = ⟨PyData.keyHash P k, .str k t, .int i u⟩ ∧ d = .int i) ∧ EntI P ks ds es
  | _, _, _ => False
theorem ent_lit {P : Params} : ∀ {ks : List Str} {ds : List D} {es : List DictEntry}, EntI P ks ds es → PySem.W.KeysLit P es
  | [], [], [], _ => trivial
  | k :: ks, d :: ds, e :: es, h => by
    obtain ⟨⟨t, i, u, rfl, _⟩, h2⟩ := h
    exact ⟨⟨k, t, rfl, rfl⟩, ent_lit h2⟩
theorem ent_find {P : Params} (z : Str) : ∀ {ks : List Str} {ds : List D} {es : List DictEntry}, EntI P ks ds es → es.any (·.refKey) = false ∧ match lookT ks ds z with
    | some d => ∃ e i u, es.find? (fun e => e.key.isStr z) = some e ∧ e.val = .int i u ∧ d = .int i
    | none => es.find? (fun e => e.key.isStr z) = none
  | [], [], [], _ => ⟨rfl, rfl⟩
  | k :: ks, d :: ds, e :: es, h => by
    obtain ⟨⟨t, i, u, rfl, rfl⟩, h2⟩ := h
    obtain ⟨i1, i2⟩ := ent_find z h2
    refine ⟨by rw [List.any_cons, i1]; rfl, ?_⟩
    have e0 : ∀ x y : Value, (DictEntry.key ⟨PyData.keyHash P k, .str k t, .int i u⟩).isStr z = decide (k = z) := fun _ _ => by
      show (k == z) = decide (k = z)
      by_cases q : k = z
      · subst q; simp
      · rw [decide_eq_false q]
        exact beq_eq_false_iff_ne.mpr q
    unfold lookT
    by_cases q : k = z
    · rw [if_pos q]
      refine ⟨⟨PyData.keyHash P k, .str k t, .int i u⟩, i, u, ?_, rfl, rfl⟩
      rw [List.find?_cons_of_pos]
      rw [e0 .none .none]
      exact decide_eq_true q
    · rw [if_neg q]
      rw [List.find?_cons_of_neg (by rw [e0 .none .none, decide_eq_false q]; exact Bool.false_ne_true)]
      exact i2
theorem tab_of {W : World} {K : PySem.W.Frag} {mg : Str → Option Value} {x : Str} {ks : List Str} {ds : List D} {a : Addr} {es : Array DictEntry} {n : Nat} (hm : mg x = some (.ref a)) (hl : K.lookup a = some ⟨.type "dict", none, .dict es n, #[]⟩) (hs : (a == sysModules) = false) (he : EntI W.params ks ds es.toList) : TabAt W K mg x ks ds := by
  refine ⟨a, es, n, hm, ⟨hl, ent_lit he, hs⟩, fun z => ?_⟩
  obtain ⟨h1, h2⟩ := ent_find z he
  unfold PySem.W.nsIn
  rw [hl]
  cases e : lookT ks ds z with
  | none =>
    rw [e] at h2
    simp only at h2 ⊢
    rw [h2]
    simp only [h1, Bool.false_eq_true, if_false]
  | some d =>
    rw [e] at h2
    obtain ⟨e1, i, u, h3, h4, rfl⟩ := h2
    simp only at ⊢
    rw [h3]
    exact ⟨e1.val, .int i, rfl, ⟨u, h4⟩, fun w => .int i⟩
section
variable {X : Cx} {e e1 : Expr} {pos p1 : Pos} {wa : WE}
theorem l_tabAt {x : Str} {ks : List Str} {ds : List D} (hg : Gl X x) (hd : (x == ("__debug__" : Str)) = false) (T : TabAt X.w X.K X.mg x ks ds) (hp : pl e = true) (ha : PE X e (liftE X.K wa)) :
    PE X (.Subscript (.Name x p1) e pos) (liftE X.K fun σ h Q => wa σ h fun y h1 => match y with
      | .str z => (match lookT ks ds z with
        | some d => Q d h1
        | none => False)
      | _ => False) := by
  obtain ⟨a, es, n, hm, kd, hz⟩ := T
  refine pe_imp (pe_ix ix_kdict (pe_glob hg hm (v := .ref a) rfl hd) ha (ix_pl hp)) fun σ H Q ⟨w, σd, h, QD, eH, rel, rs, q, post⟩ => ?_
  refine ⟨w, σd, h, _, eH, rel, rs, q, fun w1 h1 d v x1 rel1 r1 q1 => ?_⟩
  split at q1
  · rename_i z
    have := hz z
    split at q1
    · rename_i d ed
      rw [ed] at this
      obtain ⟨u, v, e1, e2, e3⟩ := this
      cases r1
      exact ⟨a, z, v, rfl, rfl, ⟨es, n, u, kd.at_, kd.lit, e1, e2⟩, post w1 h1 d v x1 rel1 (e3 w1) q1⟩
    · exact q1.elim
  · exact q1.elim
theorem l_tabIn {x : Str} {ks : List Str} {ds : List D} (hg : Gl X x) (hd : (x == ("__debug__" : Str)) = false) (T : TabAt X.w X.K X.mg x ks ds) (ha : PE X e (liftE X.K wa)) :
    PE X (.Compare e [.In] [.Name x p1] pos) (liftE X.K fun σ h Q => wa σ h fun y h1 => match y with
      | .str z => Q (.bl (lookT ks ds z).isSome) h1
      | _ => False) := by
  obtain ⟨a, es, n, hm, kd, hz⟩ := T
  refine pe_imp (pe_cmpR (op_in_kd kd) ha (pe_glob hg hm (v := .ref a) rfl hd) rfl) fun σ H Q ⟨w, σd, h, QD, eH, rel, rs, q, post⟩ => ?_
  refine ⟨w, σd, h, _, eH, rel, rs, q, fun w1 h1 d v x1 rel1 r1 q1 => ?_⟩
  split at q1
  · rename_i z
    cases r1
    have := hz z
    cases ed : lookT ks ds z with
    | none =>
      rw [ed] at this q1
      exact ⟨z, none, rfl, rfl, this, post w1 h1 _ _ x1 rel1 (.bl false) q1⟩
    | some d =>
      rw [ed] at this q1
      obtain ⟨u, v, e1, e2, e3⟩ := this
      exact ⟨z, some u, rfl, rfl, e1, post w1 h1 _ _ x1 rel1 (.bl true) q1⟩
  · exact q1.elim
theorem lt_tabIn {x : Str} {ks : List Str} {ds : List D} (hg : Gl X x) (hd : (x == ("__debug__" : Str)) = false) (T : TabAt X.w X.K X.mg x ks ds) (ha : PE X e (liftE X.K wa)) :
    PT X (.Compare e [.In] [.Name x p1] pos) (liftT X.K fun σ h Q => wa σ h fun y h1 => match y with
      | .str z => Q (lookT ks ds z).isSome h1
      | _ => False) := by
  obtain ⟨a, es, n, hm, kd, hz⟩ := T
  refine pt_imp (pt_cmpR (op_in_kd kd) ha (pe_glob hg hm (v := .ref a) rfl hd) rfl) fun σ H Q ⟨w, σd, h, QD, eH, rel, rs, q, post⟩ => ?_
  refine ⟨w, σd, h, _, eH, rel, rs, q, fun w1 h1 d v x1 rel1 r1 q1 => ?_⟩
  split at q1
  · rename_i z
    cases r1
    have := hz z
    cases ed : lookT ks ds z with
    | none =>
      rw [ed] at this q1
      exact ⟨z, none, rfl, rfl, this, false, rfl, post w1 h1 _ x1 rel1 q1⟩
    | some d =>
      rw [ed] at this q1
      obtain ⟨u, v, e1, e2, e3⟩ := this
      exact ⟨z, some u, rfl, rfl, e1, true, rfl, post w1 h1 _ x1 rel1 q1⟩
  · exact q1.elim
end
end G

/-! // by any divisor; a range as a list or a tuple. -/
namespace G
open PySem PySem.Spec PyProof.Rows
open L2 hiding wE wT
section
variable {X : Cx} {e1 e2 : Expr} {pos : Pos} {wa wb : WE}
theorem op_fdivA : OpR X (binaryOp .FloorDiv) (rI (fun _ j => j ≠ 0 ∧ j.natAbs.log2 < 9000) fun i j => .int (i.fdiv j)) := opI fun _ _ _ _ _ _ _ hc q => floordiv_int hc.1 q (.inl (PyProof.noPylong_of_log2 hc.2))
theorem o_fdv : OpR X (binaryOp .FloorDiv) (R2of X.K fdvD) := by
  intro pins s σ H x y v u Q I rx ry hq
  obtain ⟨w, h, a, b, QD, rfl, rel, ra, rb, o, post⟩ := hq
  unfold fdvD at o
  obtain ⟨i, rfl, o⟩ := intO_of ra o
  obtain ⟨j, rfl, o⟩ := intO_of rb o
  exact op_fdivA pins s σ _ _ _ v u Q I rx ry ⟨i, j, rfl, rfl, o.1, post.now rel (.int _) o.2⟩
theorem l_fdv (ha : PE X e1 (liftE X.K wa)) (hb : PE X e2 (liftE X.K wb)) : PE X (.BinOp e1 .FloorDiv e2 pos) (liftE X.K fun σ h Q => wa σ h fun x h1 => wb σ h1 fun y h2 => fdvD x y h2 Q) :=
  pe_imp (pe_op o_fdv ha hb) lift2
theorem rgV_D {K : PySem.W.Frag} {w : Wd} (i j : Int) : RDs K w (rngD i (j - i).toNat) (rgV i j) := by
  unfold rngD rgV
  generalize List.range (j - i).toNat = l
  induction l with
  | nil => exact .nil
  | cons a l ih => exact .cons (.int _) ih
theorem l_rgs {l : Bool} {p p2 pos2 : Pos} {x : Str} (hx : x = if l = true then "list" else "tuple") (hc : X.calm = true) (hg : Gl X x) (hm : X.mg x = none) (hgr : Gl X "range") (hmr : X.mg "range" = none) (hp1 : pl e1 = true) (hp2 : pl e2 = true) (ha : PE X e1 (liftE X.K wa)) (hb : PE X e2 (liftE X.K wb)) :
    PE X (.Call (.Name x p) [.Call (.Name "range" p2) [e1, e2] [] pos2] [] pos) (liftE X.K fun σ h Q => wa σ h fun x h1 => wb σ h1 fun y h2 => rgsD l x y h2 Q) := by
  have rg := prg_2 (p := p2) (pos := pos2) hgr hmr ha hb (star_pl hp1) (star_pl hp2) (star_all (by simp [hp2]))
  have sz : sizeLine = 16777216 := sizeLine_eq
  cases l with
  | true =>
    subst hx
    refine pe_imp (pe_listRg hc hg hm rg) fun σ H Q ⟨w, σd, h, QD, eH, rel, rs, q, post⟩ => ?_
    refine ⟨w, σd, h, _, eH, rel, rs, q, fun w1 h1 d1 v1 x1 rel1 r1 q1 => ?_⟩
    refine ⟨w1, σd, h1, _, rfl, rel1, rs.mono x1, q1, fun w2 h2 d2 v2 x2 rel2 r2 q2 => ?_⟩
    unfold rgsD at q2
    obtain ⟨i, rfl, q2⟩ := intO_of (r1.mono x2) q2
    obtain ⟨j, rfl, q2⟩ := intO_of r2 q2
    obtain ⟨ok, q2⟩ := q2
    exact ⟨i, j, rfl, rfl, ⟨by omega, by omega, by omega, by omega, by omega⟩, fun p hp => post_lst rel2 hp (rgV_D i j) (by unfold rngD; rw [List.length_map, List.length_range]; omega) q2 (post.ext (x1.trans x2))⟩
  | false =>
    subst hx
    refine pe_imp (pe_tupRg hc hg hm rg) fun σ H Q ⟨w, σd, h, QD, eH, rel, rs, q, post⟩ => ?_
    refine ⟨w, σd, h, _, eH, rel, rs, q, fun w1 h1 d1 v1 x1 rel1 r1 q1 => ?_⟩
    refine ⟨w1, σd, h1, _, rfl, rel1, rs.mono x1, q1, fun w2 h2 d2 v2 x2 rel2 r2 q2 => ?_⟩
    unfold rgsD at q2
    obtain ⟨i, rfl, q2⟩ := intO_of (r1.mono x2) q2
    obtain ⟨j, rfl, q2⟩ := intO_of r2 q2
    obtain ⟨ok, q2⟩ := q2
    exact ⟨i, j, rfl, rfl, ⟨by omega, by omega, by omega, by omega, by omega⟩, fun p hp => post_tup rel2 hp (rgV_D i j) (by unfold rngD; rw [List.length_map, List.length_range]; omega) q2 (post.ext (x1.trans x2))⟩
end
end G

/-! A comprehension of two clauses, the second over a tuple. -/
namespace G
open PySem PySem.Spec PyProof.Rows L2

theorem ext_put_live {K : PySem.W.Frag} {w w' : Wd} {h h' : Hd} {n : Nat} {p : Addr} {o : HO} (x : Ext w w' h h') (rel : RelW K w' h') (h0 : h n ≠ none) (hm : w'.m n = some p) (hn : h' n = none) (hf : ¬ w'.fz n) : Ext w (w'.put p o) h h' := by
  obtain ⟨kp, _⟩ := put_dead (o := o) rel hm hn hf
  refine ⟨x.m, x.dk, fun a u q e => kp a u (x.nmut q e) (x.keep a u q e), x.new, fun k a e q f => ?_⟩
  obtain ⟨p1, p2, p3⟩ := x.dead k a e q f
  refine ⟨p1, ?_, p3⟩
  have ne : a ≠ p := fun z => by
    have := rel.inj k n p (z ▸ x.m k a e) hm p3 hf
    exact h0 (by rw [← this]; exact q)
  exact (upd_ne ne).trans p2
structure C2 (K : PySem.W.Frag) (w : Wd) (h : Hd) (n : Nat) (p : Addr) (ds : List D) (go : List D → List D → Hd → Prop) (i : Nat) (H : Hp) : Prop where
  ex : ∃ w2 h2 acc xs, w2.H = H ∧ Ext w w2 h h2 ∧ RelW K w2 h2 ∧ w2.m n = some p ∧ h2 n = none ∧ ¬ w2.fz n ∧ w2.H p = some (.lst xs) ∧ RDs K w2 acc xs ∧ acc.length ≤ sizeLine ∧ go (ds.drop i) acc h2
structure C3 (K : PySem.W.Frag) (w v : Wd) (h g : Hd) (n : Nat) (p : Addr) (B : Nat) (ds : List D) (go : List D → List D → Hd → Prop) (i : Nat) (H : Hp) : Prop where
  ex : ∃ w2 h2 acc xs, w2.H = H ∧ Ext w w2 h h2 ∧ Ext v w2 g h2 ∧ RelW K w2 h2 ∧ w2.m n = some p ∧ h2 n = none ∧ ¬ w2.fz n ∧ w2.H p = some (.lst xs) ∧ RDs K w2 acc xs ∧ acc.length ≤ B + i ∧ go (ds.drop i) acc h2
theorem lc2_read {K : PySem.W.Frag} {wi : WI} {gd gd1 : D → Sl → (Sl → Prop) → Prop} {td td1 : WT} {ea ed : WE} {vs us us1 vs1 : List Nat} (hv : ∀ i ∈ us, i ∈ vs) (hv1 : ∀ i ∈ us1, i ∈ vs1) (σ : L2.St) (H : Hp) (Q : VK)
    (hq : liftE K (fun σ h Q => wi σ h fun ds stay h1 => comp2L (fun d K => gd d (wipeD σ vs) K) td ea gd1 td1 ed vs1 stay ds [] h1 fun acc h2 => Q (.lst acc) h2) σ H Q) :
    tLc2 (liftI K wi) (liftG K us gd) (liftT K td) (iSeq K (liftE K ea)) (liftG K us1 gd1) (liftT K td1) (liftE K ed) vs vs1 σ H Q := by
  obtain ⟨w, σd, h, QD, eH, rel, rs, q, post⟩ := hq
  refine ⟨w, σd, h, _, eH, rel, rs, q, fun w1 h1 ds stay J x1 rel1 it q1 p hp => ?_⟩
  obtain ⟨n, n1, n2⟩ := rel1.fresh
  obtain ⟨x2, rel2⟩ := own_dead (o := .lst []) rel1 n1 n2 hp
  let go := fun (ds acc : List D) (h2 : Hd) => comp2L (fun d K => gd d (wipeD σd vs) K) td ea gd1 td1 ed vs1 stay ds acc h2 fun acc h2 => QD (.lst acc) h2
  refine ⟨fun i m H => m = ds.length - i ∧ i ≤ ds.length ∧ C2 K w1 h1 n p ds go i H, ⟨_, rfl, Nat.zero_le _, ⟨_, h1, [], [], rfl, x2, rel2, if_pos rfl, n2, fun z => z.1 rfl, upd_same, .nil, Nat.zero_le _, q1⟩⟩, ?_⟩
  rintro i m H2 ⟨rfl, hi, ⟨w2, h2, acc, xs, rfl, x, rel, hm, hn, hf, hp2, r, la, q2⟩⟩
  by_cases hlt : i < ds.length
  · right
    have hd : ds[i]? = some ds[i] := List.getElem?_eq_getElem hlt
    have q2 : stay h2 ∧ gd ds[i] (wipeD σd vs) fun σ => td σ h2 fun b h1 => if b = true then ea σ h1 fun x h2 => (match x with
      | .tup ds1 => acc.length + ds1.length ≤ sizeLine ∧ compL (fun d K => gd1 d (wipeD σ vs1) K) td1 ed (fun _ => True) ds1 acc h2 fun acc' h3 => go (ds.drop (i + 1)) acc' h3
      | _ => False) else go (ds.drop (i + 1)) acc h1 := by
      have e := List.drop_eq_getElem_cons hlt
      have q2' : go (ds[i] :: ds.drop (i + 1)) acc h2 := by rw [← e]; exact q2
      exact q2'
    obtain ⟨g1, g2⟩ := it.go w2 h2 x rel q2.1 i _ hd
    refine ⟨g1, C2 K w1 h1 n p ds go (i + 1), fun H' hw => ⟨_, by omega, rfl, hlt, hw⟩, fun y H' hy => ?_⟩
    obtain ⟨w3, rfl, x3, rel3, ry⟩ := g2 y H' hy
    have rs3 : RSl K w3 σd σ := ((rs.mono x1).mono x).mono x3
    refine ⟨w3, wipeD σd vs, h2, ds[i], _, rfl, rel3, rs3.wipe vs, ry, q2.2, fun σd' σ' rs' b' q3 => ⟨(b'.mono hv).wipe, ?_⟩⟩
    refine ⟨w3, σd', h2, _, rfl, rel3, rs', q3, fun w4 h4 b x4 rel4 q4 => ?_⟩
    have n3 : w3.m n = some p := x3.m n p hm
    have d3 := x3.dead n p hm hn hf
    have d4 := x4.dead n p n3 d3.1 d3.2.2
    have n4 := x4.m n p n3
    cases b with
    | false =>
      replace q4 : go (ds.drop (i + 1)) acc h4 := q4
      show C2 K w1 h1 n p ds go (i + 1) w4.H
      exact ⟨w4, h4, acc, xs, rfl, (x.trans x3).trans x4, rel4, n4, d4.1, d4.2.2, by rw [d4.2.1, d3.2.1]; exact hp2, (r.mono x3).mono x4, la, q4⟩
    | true =>
      simp only [if_true] at q4 ⊢
      refine ⟨w4, σd', h4, _, rfl, rel4, rs'.mono x4, q4, fun w5 h5 d v x5 rel5 r5 q5 => ?_⟩
      split at q5
      · rename_i ds1
        obtain ⟨lb, q5⟩ := q5
        cases r5 with
        | @tup a _ xs1 st ll rr =>
          refine ⟨a, rfl, .inr ⟨⟨_, st.sq⟩, ?_⟩⟩
          have d5 := x5.dead n p n4 d4.1 d4.2.2
          have n5 := x5.m n p n4
          have f5 : ¬ w5.fz n := d5.2.2
          have h5p : w5.H p = some (.lst xs) := by rw [d5.2.1, d4.2.1, d3.2.1]; exact hp2
          have xx : Ext w1 w5 h1 h5 := ((x.trans x3).trans x4).trans x5
          have rs5 : RSl K w5 σd' σ' := (rs'.mono x4).mono x5
          have r5 : RDs K w5 acc xs := ((r.mono x3).mono x4).mono x5
          let gL : Hd := fun k => if k = n then some (.lst []) else h5 k
          have gn : gL n ≠ none := by show (if n = n then _ else _) ≠ none; rw [if_pos rfl]; exact Option.some_ne_none _
          have xg : Ext w5 w5 gL h5 := ⟨fun _ _ e => e, fun _ e => e, fun _ _ _ e => e, fun _ e => .inl e, fun k a e q f => by
            have hk : k ≠ n := fun z => gn (z ▸ q)
            have q : (if k = n then some (.lst []) else h5 k) = none := q
            rw [if_neg hk] at q
            exact ⟨q, rfl, f⟩⟩
          let go1 := fun (es acc : List D) (h2 : Hd) => compL (fun d K => gd1 d (wipeD σd' vs1) K) td1 ed (fun _ => True) es acc h2 fun acc' h3 => go (ds.drop (i + 1)) acc' h3
          refine ⟨fun j k H => k = ds1.length - j ∧ j ≤ ds1.length ∧ C3 K w1 w5 h1 gL n p acc.length ds1 go1 j H, ⟨_, rfl, Nat.zero_le _, ⟨w5, h5, acc, xs, rfl, xx, xg, rel5, n5, d5.1, f5, h5p, r5, Nat.le_refl _, q5⟩⟩, ?_⟩
          rintro j k H3 ⟨rfl, hj, ⟨w6, h6, acc6, xs6, rfl, y6, z6, rel6, m6, e6, f6, p6, r6, l6, q6⟩⟩
          have st6 := st.mono z6
          have rr6 := rr.mono z6
          by_cases hl1 : j < ds1.length
          · right
            have hd1 : ds1[j]? = some ds1[j] := List.getElem?_eq_getElem hl1
            have q6 : True ∧ gd1 ds1[j] (wipeD σd' vs1) fun σ' => td1 σ' h6 fun b h3 => if b = true then ed σ' h3 fun v h4 => go1 (ds1.drop (j + 1)) (acc6 ++ [v]) h4 else go1 (ds1.drop (j + 1)) acc6 h3 := by
              have e := List.drop_eq_getElem_cons hl1
              have q2' : go1 (ds1[j] :: ds1.drop (j + 1)) acc6 h6 := by rw [← e]; exact q6
              exact q2'
            obtain ⟨v1, ev1, rv1⟩ := rr6.get hd1
            refine ⟨⟨xs1, v1, st6.sq, ev1⟩, C3 K w1 w5 h1 gL n p acc.length ds1 go1 (j + 1), fun H' hw => ⟨_, by omega, rfl, hl1, hw⟩, fun y H' hy => ?_⟩
            obtain ⟨rfl, hy⟩ := hy
            have := hy xs1 st6.sq
            rw [ev1] at this
            cases this
            refine ⟨w6, wipeD σd' vs1, h6, ds1[j], _, rfl, rel6, (rs5.mono z6).wipe vs1, rv1, q6.2, fun σe τ rs7 b7 q7 => ⟨(b7.mono hv1).wipe, ?_⟩⟩
            refine ⟨w6, σe, h6, _, rfl, rel6, rs7, q7, fun w7 h7 b x7 rel7 q8 => ?_⟩
            have d7 := x7.dead n p m6 e6 f6
            have n7 := x7.m n p m6
            cases b with
            | false =>
              replace q8 : go1 (ds1.drop (j + 1)) acc6 h7 := q8
              show C3 K w1 w5 h1 gL n p acc.length ds1 go1 (j + 1) w7.H
              exact ⟨w7, h7, acc6, xs6, rfl, y6.trans x7, z6.trans x7, rel7, n7, d7.1, d7.2.2, by rw [d7.2.1]; exact p6, r6.mono x7, by omega, q8⟩
            | true =>
              replace q8 : ed σe h7 fun v h4 => go1 (ds1.drop (j + 1)) (acc6 ++ [v]) h4 := q8
              show liftE K ed τ w7.H fun y H4 => ∃ acc', H4 p = some (.lst acc') ∧ acc'.length < sizeLine ∧ C3 K w1 w5 h1 gL n p acc.length ds1 go1 (j + 1) (upd H4 p (.lst (acc' ++ [y])))
              refine ⟨w7, σe, h7, _, rfl, rel7, rs7.mono x7, q8, fun w8 h8 d v x8 rel8 r8 q9 => ?_⟩
              have d8 := x8.dead n p n7 d7.1 d7.2.2
              have n8 := x8.m n p n7
              have f8 : ¬ w8.fz n := d8.2.2
              have h8p : w8.H p = some (.lst xs6) := by rw [d8.2.1, d7.2.1]; exact p6
              obtain ⟨_, rel9, _, rds9⟩ := put_dead (o := .lst (xs6 ++ [v])) rel8 n8 d8.1 f8
              have r9 : RDs K w8 (acc6 ++ [d]) (xs6 ++ [v]) := ((r6.mono x7).mono x8).append (.cons r8 .nil)
              have hl : xs6.length < sizeLine := by
                have := r6.length
                omega
              refine ⟨xs6, h8p, hl, ⟨w8.put p (.lst (xs6 ++ [v])), h8, acc6 ++ [d], xs6 ++ [v], rfl, ext_put_dead ((y6.trans x7).trans x8) rel8 n1 n8 d8.1 f8, ext_put_live ((z6.trans x7).trans x8) rel8 gn n8 d8.1 f8, rel9, n8, d8.1, f8, upd_same, rds9 _ _ r9, ?_, q9⟩⟩
              rw [List.length_append]
              simp only [List.length_cons, List.length_nil]
              omega
          · left
            have ej : j = ds1.length := by omega
            subst ej
            have q6 : True ∧ go (ds.drop (i + 1)) acc6 h6 := by
              have e : ds1.drop ds1.length = [] := List.drop_length
              have q2' : go1 [] acc6 h6 := by rw [← e]; exact q6
              exact q2'
            exact ⟨⟨xs1, st6.sq, by rw [rr.length]; exact Nat.le_refl _⟩, ⟨w6, h6, acc6, xs6, rfl, y6, rel6, m6, e6, f6, p6, r6, by omega, q6.2⟩⟩
      · exact q5.elim
  · left
    have ei : i = ds.length := by omega
    subst ei
    have q2 : stay h2 ∧ listed false acc h2 QD := by
      have e : ds.drop ds.length = [] := List.drop_length
      have q2' : go [] acc h2 := by rw [← e]; exact q2
      exact q2'
    exact ⟨it.stop w2 h2 x rel q2.1, listed_end x rel n1 hm hn hf hp2 r la q2.2 (post.ext x1)⟩
section
variable {X : Cx} {pos : Pos}
theorem l_lc2 {elt tg iter tg1 iter1 : Expr} {ifs ifs1 : List Expr} {scope : Scope} {own : List (Str × Nat)} {wi : WI} {us us1 : List Nat} {gd gd1 : D → Sl → (Sl → Prop) → Prop} {td td1 : WT} {ea ed : WE} (hc : X.calm = true) (hN : X.N.Nodup) (hv : ∀ i ∈ us, i ∈ own.map (·.2)) (hv1 : ∀ i ∈ us1, i ∈ own.map (·.2)) (hpl : pl iter = true) (hpl1 : pl iter1 = true)
    (hi : PI X tg iter (liftI X.K wi)) (ok : BlkOk X.N X.env.scope scope own)
    (hg : ∀ (s : Shared) (H : Hp) (C : Addr) (cl : List (Str × Addr)) (fp : List Addr), PG (X.blk s H scope (compEnvC scope cl C X.env) fp) tg (liftG X.K us gd))
    (ht : ∀ (s : Shared) (H : Hp) (C : Addr) (cl : List (Str × Addr)) (fp : List Addr), PTs (X.blk s H scope (compEnvC scope cl C X.env) fp) ifs (liftT X.K td))
    (ha : ∀ (s : Shared) (H : Hp) (C : Addr) (cl : List (Str × Addr)) (fp : List Addr), PE (X.blk s H scope (compEnvC scope cl C X.env) fp) iter1 (liftE X.K ea))
    (hg1 : ∀ (s : Shared) (H : Hp) (C : Addr) (cl : List (Str × Addr)) (fp : List Addr), PG (X.blk s H scope (compEnvC scope cl C X.env) fp) tg1 (liftG X.K us1 gd1))
    (ht1 : ∀ (s : Shared) (H : Hp) (C : Addr) (cl : List (Str × Addr)) (fp : List Addr), PTs (X.blk s H scope (compEnvC scope cl C X.env) fp) ifs1 (liftT X.K td1))
    (he : ∀ (s : Shared) (H : Hp) (C : Addr) (cl : List (Str × Addr)) (fp : List Addr), PE (X.blk s H scope (compEnvC scope cl C X.env) fp) elt (liftE X.K ed)) :
    PE X (.ListComp elt [⟨tg, iter, ifs, 0⟩, ⟨tg1, iter1, ifs1, 0⟩] scope pos) (liftE X.K fun σ h Q => wi σ h fun ds stay h1 => comp2L (fun d K => gd d (wipeD σ (own.map (·.2))) K) td ea gd1 td1 ed us1 stay ds [] h1 fun acc h2 => Q (.lst acc) h2) :=
  pe_imp (pe_lc2 hc hN hi ok hv1 hg ht (fun s H C cl fp => pi_seq (ha s H C cl fp)) hg1 ht1 he (fold_pl hpl) (fun env x => fold_pl hpl1 x)) (lc2_read hv (fun i h => h))
end
end G

/-! xs[i] += e, whole numbers. -/
namespace G
open PySem PySem.Spec PyProof.Rows L2
section
variable {X : Cx} {e e1 e2 : Expr} {pos : Pos} {wa wb wc : WE}
theorem get_L : PGet X (fun o i H Q => ∃ p xs k z, o = .ref p ∧ i = .int k ∧ SqL X.K H p xs ∧ 0 ≤ k ∧ xs[k.toNat]? = some z ∧ Q z H) := by
  intro pins s σ H o i ov iv Q I ro ri h
  obtain ⟨p, xs, k, z, rfl, rfl, hq, h0, hz, q⟩ := h
  cases ro
  obtain ⟨t, rfl⟩ := ri
  obtain ⟨its, r, pl, hl⟩ := I.list hq
  obtain ⟨w, ew, rw'⟩ := r.get hz
  have hj : k.toNat < its.length := (List.getElem?_eq_some_iff.mp ew).1
  have hn := line63
  have hll := r.length
  exact wpAny_getItem_list pl.isList h0 (by omega) (by simpa using ew) ⟨z, H, I, rw', q⟩
theorem s_augI (hu : X.A.units + 1 < cLine) (hp : pl e2 = true) {tpos : Pos} (ho : PE X e1 (liftE X.K wb)) (hi : PE X e2 (liftE X.K wc)) (he : PE X e (liftE X.K wa)) :
    PS X (.AugAssign (.Subscript e1 e2 tpos) .Add e pos) (liftS X.K fun E σ h => wb σ h fun x h1 => wc σ h1 fun y h2 => augG x y h2 fun a => wa σ h2 fun v h3 => intO v fun b => setD x y (.int (a + b)) h3 fun h4 => E.nx σ h4) := by
  refine ps_imp (ps_augS ho hi get_L he ip_add (o_set hu) (by intro ov iv new; cases e2 <;> first | (cases hp; done) | rfl)) fun D σ H ⟨w, σd, h, E, eH, rel, rs, q, post⟩ => ?_
  refine ⟨w, σd, h, _, eH, rel, rs, q, fun w1 h1 d1 v1 x1 rel1 r1 q1 => ?_⟩
  refine ⟨w1, σd, h1, _, rfl, rel1, rs.mono x1, q1, fun w2 h2 d2 v2 x2 rel2 r2 q2 => ?_⟩
  have r1' := r1.mono x2
  unfold augG at q2
  split at q2
  · rename_i n
    split at q2
    · rename_i ds en
      split at q2
      · rename_i k
        obtain ⟨k0, a, ha, q2⟩ := q2
        cases r2
        obtain ⟨b, e1, xs, e2, rr, ll⟩ := rel2.has n _ en
        cases r1' with
        | ref em =>
          rw [em] at e1
          cases e1
          obtain ⟨z, ez, rz⟩ := rr.get ha
          cases rz
          refine ⟨_, xs, k, _, rfl, rfl, .inl (.inl e2), k0, ez, ?_⟩
          refine ⟨w2, σd, h2, _, rfl, rel2, (rs.mono x1).mono x2, q2, fun w3 h3 d3 v3 x3 rel3 r3 q3 => ?_⟩
          obtain ⟨b2, rfl, q3⟩ := intO_of r3 q3
          exact ⟨a, b2, rfl, rfl, w3, h3, .ref n, .int k, .int (a + b2), _, rfl, rel3, r1.mono (x2.trans x3), .int k, .int _, q3, fun w4 h4 x4 rel4 q4 => post.1 w4 h4 σd σ (((x1.trans x2).trans x3).trans x4) rel4 ((((rs.mono x1).mono x2).mono x3).mono x4) q4⟩
      · exact q2.elim
    · exact q2.elim
  · exact q2.elim
end
end G

/-! The text and the small syntax side by side; the rule for all of it. -/
namespace G
open PySem PySem.Spec PyProof.Rows L2

def Ty.nm : Ty → Str
  | .int => "int"
  | .bool => "bool"
  | .str => "str"
  | .tuple => "tuple"
  | .list => "list"
  | .dict => "dict"
theorem Ty.boot (t : Ty) : bootBuiltins t.nm = some (.type t.name) := by cases t <;> decide +kernel
theorem Ty.nn (t : Ty) : t.nm ≠ "__name__" := by cases t <;> decide
theorem Ty.nd (t : Ty) : (t.nm == ("__debug__" : Str)) = false := by cases t <;> decide

def cstC : D → Const → Bool
  | .non, .none => true
  | .bl b, .bool c => b == c
  | .int i, .int j => i == j
  | .str x, .str y => decide (x = y)
  | _, _ => false
def visC (sc : Scope) (x : Str) : Bool := match sc.names.lookup x with
  | some .local => true
  | some .cell => true
  | some .free => true
  | _ => false
def nodbg (x : Str) : Bool := !(x == ("__debug__" : Str)) && !(x == ("__classdict__" : Str))
def varC (N : List Str) (sc : Scope) (i : Nat) (x : Str) : Bool := decide (N[i]? = some x) && visC sc x && nodbg x
def isDicD : D → Bool
  | .dic _ _ => true
  | _ => false
def glbC (sc : Scope) (x : Str) : Bool := decide (sc.names.lookup x = some .globalImplicit) && nodbg x
def stoC (N : List Str) (sc : Scope) (fn : Str → Bool) (i : Nat) (x : Str) : Bool := decide (N[i]? = some x) && match sc.names.lookup x with
  | some .local => true
  | some .cell => fn x
  | _ => false
def keyC : Key → Option Expr → Bool
  | .inl i, some (.Constant (.int j) _ _) => i == j
  | .inr x, some (.Constant (.str y) _ _) => decide (x = y)
  | _, _ => false
def keysC : List Key → List (Option Expr) → Bool
  | [], [] => true
  | k :: ks, e :: es => keyC k e && keysC ks es
  | _, _ => false
def lenX : Exs → Nat
  | .nil => 0
  | .cons _ es => lenX es + 1
mutual
def tT (N : List Str) (sc : Scope) (fn : Str → Bool) : Tg → Expr → Bool
  | .nm i, e => match e with
    | .Name x _ => stoC N sc fn i x
    | _ => false
  | .tp ts, e => match e with
    | .Tuple es _ _ => tTs N sc fn ts es
    | _ => false
def tTs (N : List Str) (sc : Scope) (fn : Str → Bool) : Tgs → List Expr → Bool
  | .nil, es => match es with
    | [] => true
    | _ :: _ => false
  | .cons t ts, es => match es with
    | [] => false
    | e :: es => pl e && tT N sc fn t e && tTs N sc fn ts es
end
def itT : Ite → Expr → Bool
  | .zip _ _, e => isTupE e
  | .zips _ _, e => isTupE e
  | .enum _ _, e => isTupE e
  | _, _ => true
def strictC : List Keyword → Bool
  | [⟨some y, .Constant (.bool b) _ _, _⟩] => decide (y = "strict") && b
  | _ => false
def startC : Bool → List Keyword → Bool
  | false, [] => true
  | true, [⟨some y, .Constant (.int i) _ _, _⟩] => decide (y = "start") && decide (i = 1)
  | _, _ => false
/-- the star off -/
def unS : Expr → Expr
  | .Starred e _ => e
  | e => e
def isS : Expr → Bool
  | .Starred _ _ => true
  | _ => false
mutual
def tE (N : List Str) : Scope → (Str → Bool) → Ex → Expr → Bool
  | _, _, .cst d, e => match e with
    | .Constant c _ _ => cstC d c
    | _ => false
  | sc, _, .var i, e => match e with
    | .Name x _ => varC N sc i x
    | _ => false
  | sc, _, .glb y d, e => match e with
    | .Name x _ => decide (x = y) && glbC sc x && !isDicD d
    | _ => false
  | sc, _, .typ t, e => match e with
    | .Name x _ => decide (x = t.nm) && glbC sc x
    | _ => false
  | sc, fn, .bin o a b, e => match e with
    | .BinOp l op r _ => decide (op = o) && tE N sc fn a l && tE N sc fn b r
    | _ => false
  | sc, fn, .neg a, e => match e with
    | .UnaryOp op l _ => decide (op = .USub) && tE N sc fn a l
    | _ => false
  | sc, fn, .cmp o a b, e => match e with
    | .Compare l [op] [r] _ => decide (op = o) && !behindInMarks op r && tE N sc fn a l && tE N sc fn b r
    | _ => false
  | sc, fn, .chn o p a b c, e => match e with
    | .Compare l [op, op'] [m, r] _ => decide (op = o) && decide (op' = p) && !lastMarks [op, op'] [m, r] && tE N sc fn a l && tE N sc fn b m && tE N sc fn c r
    | _ => false
  | sc, fn, .not a, e => match e with
    | .UnaryOp op l _ => decide (op = .Not) && tE N sc fn a l
    | _ => false
  | sc, fn, .and a b, e => match e with
    | .BoolOp .And (l :: r :: rest) pos => tE N sc fn a l && (match rest with
      | [] => tE N sc fn b r
      | s :: rest => tE N sc fn b (.BoolOp .And (r :: s :: rest) pos))
    | _ => false
  | sc, fn, .or a b, e => match e with
    | .BoolOp .Or (l :: r :: rest) pos => tE N sc fn a l && (match rest with
      | [] => tE N sc fn b r
      | s :: rest => tE N sc fn b (.BoolOp .Or (r :: s :: rest) pos))
    | _ => false
  | sc, fn, .orV a b, e => match e with
    | .BoolOp .Or (l :: r :: rest) pos => tE N sc fn a l && (match rest with
      | [] => tE N sc fn b r
      | s :: rest => tE N sc fn b (.BoolOp .Or (r :: s :: rest) pos))
    | _ => false
  | sc, fn, .ife c a b, e => match e with
    | .IfExp t l r _ => tX N sc fn c t && tE N sc fn a l && tE N sc fn b r
    | _ => false
  | sc, fn, .tup es, e => match e with
    | .Tuple xs _ _ => decide (lenX es ≤ 1000) && tA N sc fn es xs
    | _ => false
  | sc, fn, .lst es, e => match e with
    | .List xs _ => decide (lenX es ≤ 1000) && tA N sc fn es xs
    | _ => false
  | sc, fn, .new es, e => match e with
    | .List xs _ => decide (lenX es ≤ 1000) && tA N sc fn es xs
    | _ => false
  | sc, fn, .sub a i, e => match e with
    | .Subscript l r _ => pl r && tE N sc fn a l && tE N sc fn i r
    | _ => false
  | sc, fn, .sl a lo hi, e => match e with
    | .Subscript l (.Slice u v none _) _ => tE N sc fn a l && tO N sc fn lo u && tO N sc fn hi v
    | _ => false
  | sc, fn, .slN a lo hi, e => match e with
    | .Subscript l (.Slice u v none _) _ => tE N sc fn a l && tO N sc fn lo u && tO N sc fn hi v
    | _ => false
  | sc, fn, .addN a b, e => match e with
    | .BinOp l op r _ => decide (op = .Add) && tE N sc fn a l && tE N sc fn b r
    | _ => false
  | sc, fn, .rev _ a, e => match e with
    | .Subscript l (.Slice none none (some (.UnaryOp op (.Constant (.int i) _ _) _)) _) _ => decide (op = .USub) && decide (i = 1) && tE N sc fn a l
    | _ => false
  | sc, fn, .call x _ _ es, e => match e with
    | .Call (.Name y _) xs [] _ => decide (y = x) && glbC sc y && tA N sc fn es xs
    | _ => false
  | sc, fn, .callK x ps _ es ks kes pm, e => match e with
    | .Call (.Name y _) xs kws _ => decide (y = x) && glbC sc y && tA N sc fn es xs && tK N sc fn kes kws && decide (kws.map (·.arg) = ks.map some) && kwC ps (lenX es) ks pm
    | _ => false
  | sc, fn, .callP x y _ _ _ _ i es, e => match e with
    | .Call (.Subscript (.List [.Name x' _, .Name y' _] _) j _) (z :: zs) [] _ => decide (x' = x) && decide (y' = y) && glbC sc x' && glbC sc y' && pl j && tE N sc fn i j && tA N sc fn es (z :: zs)
    | _ => false
  | sc, fn, .slS a l k, e => match e with
    | .Subscript b (.Slice (some b1) none (some b2) _) _ => tE N sc fn a b && tE N sc fn l b1 && tE N sc fn k b2
    | _ => false
  | sc, fn, .fdv a b, e => match e with
    | .BinOp l op r _ => decide (op = .FloorDiv) && tE N sc fn a l && tE N sc fn b r
    | _ => false
  | sc, fn, .rgs l a b, e => match e with
    | .Call (.Name y _) [.Call (.Name z _) [u, v] [] _] [] _ => decide (y = if l = true then "list" else "tuple") && glbC sc y && decide (z = "range") && glbC sc z && pl u && pl v && tE N sc fn a u && tE N sc fn b v
    | _ => false
  | sc, fn, .tabAt x _ _ a, e => match e with
    | .Subscript (.Name y _) j _ => decide (y = x) && glbC sc y && pl j && tE N sc fn a j
    | _ => false
  | sc, fn, .tabIn x _ _ a, e => match e with
    | .Compare l [.In] [.Name y _] _ => decide (y = x) && glbC sc y && tE N sc fn a l
    | _ => false
  | sc, fn, .lc2 own tg it c tg1 a1 c1 e, x => match x with
    | .ListComp elt [⟨t, iter, ifs, a⟩, ⟨t1, iter1, ifs1, b⟩] scope _ => decide (a = 0) && decide (b = 0) && itT it t && pl iter && pl iter1 && blkC N sc scope own && (slotsT tg).all (fun i => decide (i ∈ own.map (·.2))) && (slotsT tg1).all (fun i => decide (i ∈ own.map (·.2))) && tI N sc fn it iter &&
        tT N (relS scope sc) (fun x => scope.names.lookup x == some .cell) tg t && tC N (relS scope sc) (fun x => scope.names.lookup x == some .cell) c ifs && tE N (relS scope sc) (fun x => scope.names.lookup x == some .cell) a1 iter1 &&
        tT N (relS scope sc) (fun x => scope.names.lookup x == some .cell) tg1 t1 && tC N (relS scope sc) (fun x => scope.names.lookup x == some .cell) c1 ifs1 && tE N (relS scope sc) (fun x => scope.names.lookup x == some .cell) e elt
    | _ => false
  | sc, fn, .blt b es, e => match e with
    | .Call (.Name y _) (x :: xs) [] _ => decide (y = b.name) && glbC sc y && tA N sc fn es (x :: xs)
    | _ => false
  | sc, fn, .mth m a es, e => match e with
    | .Call (.Attribute o name apos) xs [] cpos => decide (name = m.name) && nsup o && (apos.endLine == cpos.line) && decide (xs.length < 20) && tE N sc fn a o && tA N sc fn es xs
    | _ => false
  | sc, fn, .dct _ ks es, e => match e with
    | .Dict keys values _ => decide ks.Nodup && decide (ks.length ≤ 15) && decide (lenX es = ks.length) && decide (keys.length = values.length) && keysC ks keys && tA N sc fn es values
    | _ => false
  | sc, fn, .lc _ own tg it c e, x => match x with
    | .ListComp elt [⟨t, iter, ifs, a⟩] scope _ => decide (a = 0) && itT it t && pl iter && blkC N sc scope own && (slotsT tg).all (fun i => decide (i ∈ own.map (·.2))) && tI N sc fn it iter &&
        tT N (relS scope sc) (fun x => scope.names.lookup x == some .cell) tg t && tC N (relS scope sc) (fun x => scope.names.lookup x == some .cell) c ifs && tE N (relS scope sc) (fun x => scope.names.lookup x == some .cell) e elt
    | _ => false
def tA (N : List Str) : Scope → (Str → Bool) → Exs → List Expr → Bool
  | _, _, .nil, xs => match xs with
    | [] => true
    | _ :: _ => false
  | sc, fn, .cons e es, xs => match xs with
    | [] => false
    | x :: xs => pl x && tE N sc fn e x && tA N sc fn es xs
def tK (N : List Str) : Scope → (Str → Bool) → Exs → List Keyword → Bool
  | _, _, .nil, xs => match xs with
    | [] => true
    | _ :: _ => false
  | sc, fn, .cons e es, xs => match xs with
    | [] => false
    | x :: xs => tE N sc fn e x.value && tK N sc fn es xs
def tO (N : List Str) : Scope → (Str → Bool) → Exo → Option Expr → Bool
  | _, _, .none, x => x.isNone
  | sc, fn, .some e, x => match x with
    | some y => tE N sc fn e y
    | none => false
def tX (N : List Str) : Scope → (Str → Bool) → Tx → Expr → Bool
  | sc, fn, .val e, x => (ptv x || (match e, x with
      | .cmp _ _ _, .Compare _ _ _ _ => true
      | .chn _ _ _ _ _, .Compare _ _ _ _ => true
      | .tabIn _ _ _ _, .Compare _ _ _ _ => true
      | _, _ => false)) && tE N sc fn e x
  | sc, fn, .not t, x => match x with
    | .UnaryOp op l _ => decide (op = .Not) && tX N sc fn t l
    | _ => false
  | sc, fn, .and t u, x => match x with
    | .BoolOp .And (l :: r :: rest) pos => tX N sc fn t l && (match rest with
      | [] => tX N sc fn u r
      | s :: rest => tX N sc fn u (.BoolOp .And (r :: s :: rest) pos))
    | _ => false
  | sc, fn, .or t u, x => match x with
    | .BoolOp .Or (l :: r :: rest) pos => tX N sc fn t l && (match rest with
      | [] => tX N sc fn u r
      | s :: rest => tX N sc fn u (.BoolOp .Or (r :: s :: rest) pos))
    | _ => false
  | sc, fn, .ch3 o p q a b c d, x => match x with
    | .Compare l [o', p', q'] [m, n, r] _ => decide (o' = o) && decide (p' = p) && decide (q' = q) && !lastMarks [o', p', q'] [m, n, r] && tE N sc fn a l && tE N sc fn b m && tE N sc fn c n && tE N sc fn d r
    | _ => false
def tC (N : List Str) : Scope → (Str → Bool) → Txo → List Expr → Bool
  | _, _, .none, xs => match xs with
    | [] => true
    | _ :: _ => false
  | sc, fn, .some t, xs => match xs with
    | [x] => tX N sc fn t x
    | _ => false
def tI (N : List Str) : Scope → (Str → Bool) → Ite → Expr → Bool
  | sc, fn, .seq e, x => tE N sc fn e x
  | sc, fn, .rng1 e, x => match x with
    | .Call (.Name y _) [z] [] _ => decide (y = "range") && glbC sc y && pl z && tE N sc fn e z
    | _ => false
  | sc, fn, .rng2 a b, x => match x with
    | .Call (.Name y _) [u, v] [] _ => decide (y = "range") && glbC sc y && pl u && pl v && tE N sc fn a u && tE N sc fn b v
    | _ => false
  | sc, fn, .rng3 a b c, x => match x with
    | .Call (.Name y _) [u, v, z] [] _ => decide (y = "range") && glbC sc y && pl u && pl v && pl z && tE N sc fn a u && tE N sc fn b v && tE N sc fn c z
    | _ => false
  | sc, fn, .zip a b, x => match x with
    | .Call (.Name y _) [u, v] [] _ => decide (y = "zip") && glbC sc y && pl u && pl v && tE N sc fn a u && tE N sc fn b v
    | _ => false
  | sc, fn, .revd a, x => match x with
    | .Call (.Name y _) [u] [] _ => decide (y = "reversed") && glbC sc y && pl u && tE N sc fn a u
    | _ => false
  | sc, fn, .zips a b, x => match x with
    | .Call (.Name y _) [u, v] kws _ => decide (y = "zip") && glbC sc y && pl u && pl v && tE N sc fn a u && tE N sc fn b v && strictC kws
    | _ => false
  | sc, fn, .enum k a, x => match x with
    | .Call (.Name y _) [u] kws _ => decide (y = "enumerate") && glbC sc y && pl u && tE N sc fn a u && startC k kws
    | _ => false
end

def parC (N : List Str) (sc : Scope) (is : List Nat) (ts vs : List Expr) : Bool :=
  decide is.Nodup && vs.all pl && !vs.all (foldedForSure 8) && !vs.all (constantsAlone 8) && match is, ts, vs with
    | [i, j], [.Name x px, .Name y py], [_, _] => decide (N[i]? = some x) && decide (N[j]? = some y) && decide (sc.names.lookup x = some .local) && decide (sc.names.lookup y = some .local) && (py.line == px.line) && decide (x ≠ y)
    | [i, j, l], [.Name x px, .Name y py, .Name z pz], [_, _, _] => decide (N[i]? = some x) && decide (N[j]? = some y) && decide (N[l]? = some z) && decide (sc.names.lookup x = some .local) && decide (sc.names.lookup y = some .local) && decide (sc.names.lookup z = some .local) && (py.line == px.line) && (pz.line == px.line) && decide (x ≠ y) && decide (x ≠ z) && decide (y ≠ z)
    | _, _, _ => false
def lcT : Tg → Ex → Bool
  | .nm _, .lc _ _ _ _ _ _ => true
  | _, _ => false
def isLc : Expr → Bool
  | .ListComp _ _ _ _ => true
  | _ => false
def swV (sc : Scope) (ts : List Expr) : Expr → Bool
  | .Tuple vs _ _ => swNo sc ts vs
  | _ => true
def asgC (sc : Scope) (t : Tg) (e : Ex) (tg v : Expr) : Bool := match tg with
  | .Name _ _ => nlc v || (isLc v && lcT t e)
  | .Tuple ts _ _ => nlc v && swV sc ts v
  | _ => false
mutual
def tS (N : List Str) (sc : Scope) (fn : Str → Bool) : St → Stmt → Bool
  | .asg t e, s => match s with
    | .Assign [tg] v _ => tT N sc fn t tg && tE N sc fn e v && asgC sc t e tg v
    | _ => false
  | .par is es, s => match s with
    | .Assign [.Tuple ts _ _] (.Tuple vs _ _) _ => parC N sc is ts vs && decide (is.length = lenX es) && tA N sc fn es vs
    | _ => false
  | .put o i e, s => match s with
    | .Assign [.Subscript x y _] v _ => pl y && nlc v && tE N sc fn o x && tE N sc fn i y && tE N sc fn e v
    | _ => false
  | .aug i o e, s => match s with
    | .AugAssign (.Name x _) op v _ => decide (op = o) && stoC N sc fn i x && tE N sc fn e v
    | _ => false
  | .augI o i e, s => match s with
    | .AugAssign (.Subscript x y _) op v _ => decide (op = .Add) && pl y && tE N sc fn o x && tE N sc fn i y && tE N sc fn e v
    | _ => false
  | .star i _ ts e, s => match s with
    | .Assign [.Tuple es _ _] v _ => decide (i < es.length) && ((es.zipIdx).all fun p => isS p.1 == (p.2 == i)) && tTs N sc fn ts (es.map unS) && nlc v && swV sc es v && tE N sc fn e v
    | _ => false
  | .exp e, s => match s with
    | .Expr v _ => nlc v && tE N sc fn e v
    | _ => false
  | .ret e, s => match s with
    | .Return (some v) _ => tE N sc fn e v
    | _ => false
  | .retN, s => match s with
    | .Return none _ => true
    | _ => false
  | .ite c a b, s => match s with
    | .If t x y _ => tX N sc fn c t && tSs N sc fn a x && tSs N sc fn b y
    | _ => false
  | .whl c b, s => match s with
    | .While t x [] _ => tX N sc fn c t && tSs N sc fn b x
    | _ => false
  | .for t it b, s => match s with
    | .For tg iter x [] _ => itT it tg && pl iter && tT N sc fn t tg && tI N sc fn it iter && tSs N sc fn b x
    | _ => false
  | .pass, s => match s with
    | .Pass _ => true
    | _ => false
  | .brk, s => match s with
    | .Break _ => true
    | _ => false
  | .cont, s => match s with
    | .Continue _ => true
    | _ => false
def tSs (N : List Str) (sc : Scope) (fn : Str → Bool) : Sts → List Stmt → Bool
  | .nil, xs => match xs with
    | [] => true
    | _ :: _ => false
  | .cons s ss, xs => match xs with
    | [] => false
    | x :: xs => tS N sc fn s x && tSs N sc fn ss xs
end
/-! what the code leans on -/
mutual
def hE (A : Str → List Str → Spd → Prop) (B : Str → D → Prop) : Ex → Prop
  | .cst _ => True
  | .var _ => True
  | .glb x d => B x d
  | .typ _ => True
  | .bin _ a b => hE A B a ∧ hE A B b
  | .neg a => hE A B a
  | .cmp _ a b => hE A B a ∧ hE A B b
  | .chn _ _ a b c => hE A B a ∧ hE A B b ∧ hE A B c
  | .not a => hE A B a
  | .and a b => hE A B a ∧ hE A B b
  | .or a b => hE A B a ∧ hE A B b
  | .ife c a b => hX A B c ∧ hE A B a ∧ hE A B b
  | .tup es => hA A B es
  | .lst es => hA A B es
  | .new es => hA A B es
  | .sub a i => hE A B a ∧ hE A B i
  | .sl a lo hi => hE A B a ∧ hO A B lo ∧ hO A B hi
  | .slN a lo hi => hE A B a ∧ hO A B lo ∧ hO A B hi
  | .addN a b => hE A B a ∧ hE A B b
  | .orV a b => hE A B a ∧ hE A B b
  | .rev _ a => hE A B a
  | .call x ps sp es => A x ps sp ∧ hA A B es
  | .callK x ps sp es _ kes _ => A x ps sp ∧ hA A B es ∧ hA A B kes
  | .callP x y ps qs sp sq i es => (A x ps sp ∧ A y qs sq) ∧ hE A B i ∧ hA A B es
  | .slS a l k => hE A B a ∧ hE A B l ∧ hE A B k
  | .fdv a b => hE A B a ∧ hE A B b
  | .rgs _ a b => hE A B a ∧ hE A B b
  | .tabAt x ks ds a => B x (.dic (ks.map .inr) ds) ∧ hE A B a
  | .tabIn x ks ds a => B x (.dic (ks.map .inr) ds) ∧ hE A B a
  | .lc2 _ _ it c _ a1 c1 e => hI A B it ∧ hC A B c ∧ hE A B a1 ∧ hC A B c1 ∧ hE A B e
  | .blt _ es => hA A B es
  | .mth _ a es => hE A B a ∧ hA A B es
  | .dct _ _ es => hA A B es
  | .lc _ _ _ it c e => hI A B it ∧ hC A B c ∧ hE A B e
def hA (A : Str → List Str → Spd → Prop) (B : Str → D → Prop) : Exs → Prop
  | .nil => True
  | .cons e es => hE A B e ∧ hA A B es
def hO (A : Str → List Str → Spd → Prop) (B : Str → D → Prop) : Exo → Prop
  | .none => True
  | .some e => hE A B e
def hX (A : Str → List Str → Spd → Prop) (B : Str → D → Prop) : Tx → Prop
  | .val e => hE A B e
  | .not t => hX A B t
  | .and t u => hX A B t ∧ hX A B u
  | .or t u => hX A B t ∧ hX A B u
  | .ch3 _ _ _ a b c d => hE A B a ∧ hE A B b ∧ hE A B c ∧ hE A B d
def hC (A : Str → List Str → Spd → Prop) (B : Str → D → Prop) : Txo → Prop
  | .none => True
  | .some t => hX A B t
def hI (A : Str → List Str → Spd → Prop) (B : Str → D → Prop) : Ite → Prop
  | .seq e => hE A B e
  | .rng1 e => hE A B e
  | .rng2 a b => hE A B a ∧ hE A B b
  | .rng3 a b c => hE A B a ∧ hE A B b ∧ hE A B c
  | .zip a b => hE A B a ∧ hE A B b
  | .revd a => hE A B a
  | .zips a b => hE A B a ∧ hE A B b
  | .enum _ a => hE A B a
end
mutual
def hS (A : Str → List Str → Spd → Prop) (B : Str → D → Prop) : St → Prop
  | .asg _ e => hE A B e
  | .par _ es => hA A B es
  | .put o i e => hE A B o ∧ hE A B i ∧ hE A B e
  | .augI o i e => hE A B o ∧ hE A B i ∧ hE A B e
  | .aug _ _ e => hE A B e
  | .star _ _ _ e => hE A B e
  | .exp e => hE A B e
  | .ret e => hE A B e
  | .retN => True
  | .ite c a b => hX A B c ∧ hSs A B a ∧ hSs A B b
  | .whl c b => hX A B c ∧ hSs A B b
  | .for _ it b => hI A B it ∧ hSs A B b
  | .pass => True
  | .brk => True
  | .cont => True
def hSs (A : Str → List Str → Spd → Prop) (B : Str → D → Prop) : Sts → Prop
  | .nil => True
  | .cons s ss => hS A B s ∧ hSs A B ss
end
end G

/-! Whatever is written so does so. -/
namespace G
open PySem PySem.Spec PyProof.Rows L2

/-- built-in names beside the others -/
def moreN : List Str := ["zip", "reversed", "enumerate", "sorted", "divmod", "set"]
structure Cxt (X : Cx) (N : List Str) (sc : Scope) (fn : Str → Bool) (k : Nat) : Prop where
  n : X.N = N
  nd : N.Nodup
  sc : X.env.scope = sc
  fn : X.fn = fn
  calm : X.calm = true
  xe : X.xe = fun _ _ => False
  room : Room k X.A
  gd : X.A.guards = some []
  bl : ∀ b : Bl, X.mg b.name = none
  ty : ∀ t : Ty, X.mg t.nm = none
  rng : X.mg "range" = none
  more : ∀ x ∈ moreN, X.mg x = none
  sys : ∃ o, X.base.get? sysModules = some o
def GlAt (W : World) (K : PySem.W.Frag) (mg : Str → Option Value) (x : Str) (d : D) : Prop := match d with
  | .dic ks ds => ∃ ss : List Str, ks = ss.map Sum.inr ∧ TabAt W K mg x ss ds
  | d => ∃ v u, mg x = some u ∧ RelV v u ∧ ∀ w, RD K w d v
theorem GlAt.one {W : World} {K : PySem.W.Frag} {mg : Str → Option Value} {x : Str} {d : D} (h : GlAt W K mg x d) (n : isDicD d = false) : ∃ v u, mg x = some u ∧ RelV v u ∧ ∀ w, RD K w d v := by
  cases d <;> first | exact h | cases n
theorem inr_inj : ∀ {a b : List Str}, a.map (Sum.inr : Str → Key) = b.map Sum.inr → a = b
  | [], [], _ => rfl
  | _ :: _, [], h => by cases h
  | [], _ :: _, h => by cases h
  | x :: a, y :: b, h => by
    rw [List.map_cons, List.map_cons] at h
    injection h with h1 h2
    rw [Sum.inr.inj h1, inr_inj h2]
theorem GlAt.tab {W : World} {K : PySem.W.Frag} {mg : Str → Option Value} {x : Str} {ks : List Str} {ds : List D} (h : GlAt W K mg x (.dic (ks.map .inr) ds)) : TabAt W K mg x ks ds := by
  obtain ⟨ss, e, t⟩ := h
  rw [inr_inj e]
  exact t
abbrev FA (X : Cx) (k : Nat) : Str → List Str → Spd → Prop := FnAt X.prog X.w X.K X.mg X.base k
abbrev GA (X : Cx) : Str → D → Prop := GlAt X.w X.K X.mg
theorem Cxt.blk {X : Cx} {N : List Str} {sc : Scope} {fn : Str → Bool} {k : Nat} (c : Cxt X N sc fn k) (s : Shared) (H : Hp) (scope : Scope) (C : Addr) (cl : List (Str × Addr)) (fp : List Addr) :
    Cxt (X.blk s H scope (compEnvC scope cl C X.env) fp) N (relS scope sc) (fun x => scope.names.lookup x == some .cell) k :=
  ⟨c.n, c.nd, by rw [← c.sc]; rfl, rfl, c.calm, rfl, c.room, c.gd, c.bl, c.ty, c.rng, c.more, c.sys⟩
section
variable {X : Cx} {N : List Str} {sc : Scope} {fn : Str → Bool} {k : Nat}
theorem Cxt.u70 (c : Cxt X N sc fn k) : X.A.units + 70 < cLine := by have := c.room.un; omega
theorem Cxt.u65 (c : Cxt X N sc fn k) : X.A.units + 65 < cLine := by have := c.room.un; omega
theorem Cxt.u1 (c : Cxt X N sc fn k) : X.A.units + 1 < cLine := by have := c.room.un; omega
theorem Cxt.gl (c : Cxt X N sc fn k) {x : Str} (h : glbC sc x = true) : Gl X x ∧ (x == ("__debug__" : Str)) = false := by
  simp only [glbC, nodbg, Bool.and_eq_true, decide_eq_true_eq, Bool.not_eq_true'] at h
  refine ⟨?_, h.2.1⟩
  show X.env.scope.names.lookup x = _
  rw [c.sc]
  exact h.1
theorem Cxt.var (c : Cxt X N sc fn k) {i : Nat} {x : Str} {pos : Pos} (h : varC N sc i x = true) : PE X (.Name x pos) (tVar i) := by
  simp only [varC, nodbg, Bool.and_eq_true, decide_eq_true_eq, Bool.not_eq_true'] at h
  refine pe_var (by rw [c.n]; exact h.1.1) ?_ h.2.1 h.2.2
  have hv := h.1.2
  unfold Vis
  rw [c.sc]
  unfold visC at hv
  split at hv
  · rename_i e; exact .inl e
  · rename_i e; exact .inr (.inl e)
  · rename_i e; exact .inr (.inr e)
  · cases hv
theorem Cxt.sto (c : Cxt X N sc fn k) {i : Nat} {x : Str} (h : stoC N sc fn i x = true) : X.N[i]? = some x ∧ L2.Loc X.env.scope x ∧ (X.fn x = true ∨ X.env.scope.names.lookup x = some .local) := by
  simp only [stoC, Bool.and_eq_true, decide_eq_true_eq] at h
  refine ⟨by rw [c.n]; exact h.1, ?_⟩
  have hv := h.2
  unfold L2.Loc
  rw [c.sc, c.fn]
  split at hv
  · rename_i e; exact ⟨.inl e, .inr e⟩
  · rename_i e; exact ⟨.inr e, .inl hv⟩
  · cases hv
theorem tA_pl : ∀ {es : Exs} {xs : List Expr}, tA N sc fn es xs = true → xs.all pl = true ∧ xs.length = lenX es
  | .nil, [], _ => ⟨rfl, rfl⟩
  | .nil, _ :: _, h => by simp [tA] at h
  | .cons _ _, [], h => by simp [tA] at h
  | .cons e es, x :: xs, h => by
    simp only [tA, Bool.and_eq_true] at h
    obtain ⟨h1, h2⟩ := tA_pl h.2
    exact ⟨by rw [List.all_cons, h.1.1, h1]; rfl, by rw [List.length_cons, h2]; rfl⟩
end
mutual
theorem gT_ex : ∀ (t : Tg) (d : D) (σ : Sl) (Q : Sl → Prop), gT t d σ Q → ∃ σ', Q σ'
  | .nm i, d, σ, Q, q => ⟨_, q⟩
  | .tp ts, d, σ, Q, q => by
    unfold gT at q
    split at q
    · exact (gTs_ex ts _ σ Q q).1
    · exact q.elim
theorem gTs_ex : ∀ (ts : Tgs) (ds : List D) (σ : Sl) (Q : Sl → Prop), gTs ts ds σ Q → (∃ σ', Q σ') ∧ ds.length = lenT ts
  | .nil, ds, σ, Q, q => by
    unfold gTs at q
    split at q
    · exact ⟨⟨_, q⟩, rfl⟩
    · exact q.elim
  | .cons t ts, ds, σ, Q, q => by
    unfold gTs at q
    split at q
    · exact q.elim
    · obtain ⟨σ', q'⟩ := gT_ex t _ σ _ q
      obtain ⟨h1, h2⟩ := gTs_ex ts _ σ' Q q'
      exact ⟨h1, by rw [List.length_cons, h2]; rfl⟩
end
mutual
theorem okT {X : Cx} {N : List Str} {sc : Scope} {fn : Str → Bool} {k : Nat} (c : Cxt X N sc fn k) : ∀ (t : Tg) (e : Expr), tT N sc fn t e = true → PG X e (liftG X.K (slotsT t) (gT t))
  | .nm i, e, h => by
    unfold tT at h
    split at h
    · obtain ⟨h1, h2, h3⟩ := c.sto h
      exact lg_nm (by rw [c.n]; exact c.nd) h1 h2 h3
    · cases h
  | .tp ts, e, h => by
    unfold tT at h
    split at h
    · obtain ⟨h1, h2, h3, h4⟩ := okTs c ts _ h
      exact lg_tp c.calm h2 h3 h4 h1
    · cases h
theorem okTs {X : Cx} {N : List Str} {sc : Scope} {fn : Str → Bool} {k : Nat} (c : Cxt X N sc fn k) : ∀ (ts : Tgs) (es : List Expr), tTs N sc fn ts es = true →
    PGs X es (liftGs X.K (slotsTs ts) (gTs ts)) ∧ (assignEach es X.env).length = lenT ts ∧ (assignEach es X.env).findIdx? (·.1) = none ∧ ∀ ds σ Q, gTs ts ds σ Q → ds.length = lenT ts
  | .nil, es, h => by
    unfold tTs at h
    split at h
    · exact ⟨lgs_nil, rfl, rfl, fun ds σ Q q => (gTs_ex .nil ds σ Q q).2⟩
    · cases h
  | .cons t ts, es, h => by
    unfold tTs at h
    split at h
    · cases h
    · simp only [Bool.and_eq_true] at h
      obtain ⟨h1, h2, h3, h4⟩ := okTs c ts _ h.2
      obtain ⟨q1, q2, q3⟩ := asg_cons (env := X.env) (es := _) h.1.1
      exact ⟨lgs_cons h.1.1 (okT c t _ h.1.2) h1, by rw [q2, h2]; rfl, q3 h3, fun ds σ Q q => (gTs_ex (.cons t ts) ds σ Q q).2⟩
end

theorem cst_ok {X : Cx} {N : List Str} {d : D} {cc : Const} {j : Nat} {pos : Pos} (h : cstC d cc = true) : PE X (.Constant cc j pos) (liftE X.K fun _ h Q => Q d h) := by
  unfold cstC at h
  split at h
  · exact l_cst pe_non fun _ => .non
  · cases eq_of_beq h; exact l_cst pe_bl fun _ => .bl _
  · cases eq_of_beq h; exact l_cst pe_int fun _ => .int _
  · cases of_decide_eq_true h; exact l_cst pe_str fun _ => .str _
  · cases h
theorem strict_of {kws : List Keyword} (h : strictC kws = true) : ∃ (y : Str) (a : Nat) (p q : Pos), kws = [⟨some y, .Constant (.bool true) a p, q⟩] ∧ y = "strict" := by
  unfold strictC at h
  split at h
  · simp only [Bool.and_eq_true, decide_eq_true_eq] at h
    obtain ⟨rfl, rfl⟩ := h
    exact ⟨_, _, _, _, rfl, rfl⟩
  · cases h
theorem start0_of {kws : List Keyword} (h : startC false kws = true) : kws = [] := by
  cases kws with
  | nil => rfl
  | cons _ _ => unfold startC at h; cases h
theorem start1_of {kws : List Keyword} (h : startC true kws = true) : ∃ (y : Str) (a : Nat) (p q : Pos), kws = [⟨some y, .Constant (.int 1) a p, q⟩] ∧ y = "start" := by
  unfold startC at h
  split at h
  · simp at *
  · simp only [Bool.and_eq_true, decide_eq_true_eq] at h
    obtain ⟨rfl, rfl⟩ := h
    exact ⟨_, _, _, _, rfl, rfl⟩
  · cases h
theorem wT_cmp (o : CmpOp) (a b : Ex) : wT (.val (.cmp o a b)) = fun σ h Q => wE a σ h fun x h1 => wE b σ h1 fun y h2 => cmpD o x y h2 fun d h3 => truthD d h3 fun k => Q k h3 := by
  funext σ h Q
  simp only [wT, wE]
theorem wT_tabIn (y : Str) (ks : List Str) (ds : List D) (a : Ex) : wT (.val (.tabIn y ks ds a)) = fun σ h Q => wE a σ h fun x h1 => (match x with
    | .str z => Q (lookT ks ds z).isSome h1
    | _ => False) := by
  funext σ h Q
  first
    | (simp only [wT, wE]; done)
    | (simp only [wT, wE]; rfl)
    | (simp only [wT, wE]
       congr 1
       funext x h1
       cases x <;> rfl)
theorem wT_chn (o p : CmpOp) (a b c : Ex) : wT (.val (.chn o p a b c)) = fun σ h Q => wE a σ h fun x h1 => wE b σ h1 fun y h2 => cmpD o x y h2 fun z h3 => boolD z fun k => if k = true then wE c σ h3 fun v h4 => cmpD p y v h4 fun d h5 => truthD d h5 fun k => Q k h5 else truthD (.bl false) h3 fun k => Q k h3 := by
  funext σ h Q
  simp only [wT, wE]
theorem wT_ch3 (o p r : CmpOp) (a b c d : Ex) : wT (.ch3 o p r a b c d) = fun σ h Q => wE a σ h fun x h1 => wE b σ h1 fun y h2 => cmpD o x y h2 fun z h3 => boolD z fun k => if k = true then wE c σ h3 fun v h4 => cmpD p y v h4 fun z2 h5 => boolD z2 fun k2 => if k2 = true then wE d σ h5 fun u h6 => cmpD r v u h6 fun z3 h7 => boolD z3 fun k3 => Q k3 h7 else Q false h5 else Q false h3 := by
  funext σ h Q
  simp only [wT]
theorem wE_tabAt (y : Str) (ks : List Str) (ds : List D) (a : Ex) : wE (.tabAt y ks ds a) = fun σ h Q => wE a σ h fun x h1 => (match x with
    | .str z => (match lookT ks ds z with
      | some d => Q d h1
      | none => False)
    | _ => False) := by
  funext σ h Q
  first
    | (simp only [wE]; done)
    | (simp only [wE]; rfl)
theorem wE_tabIn (y : Str) (ks : List Str) (ds : List D) (a : Ex) : wE (.tabIn y ks ds a) = fun σ h Q => wE a σ h fun x h1 => (match x with
    | .str z => Q (.bl (lookT ks ds z).isSome) h1
    | _ => False) := by
  funext σ h Q
  first
    | (simp only [wE]; done)
    | (simp only [wE]; rfl)
theorem wE_lc2 (own : List (Str × Nat)) (tg : Tg) (it : Ite) (co : Txo) (tg1 : Tg) (a1 : Ex) (co1 : Txo) (x : Ex) : wE (.lc2 own tg it co tg1 a1 co1 x) = fun σ h Q => wI it σ h fun ds stay h1 => comp2L (fun d K => gT tg d (wipeD σ (own.map (·.2))) K) (wTo co) (wE a1) (gT tg1) (wTo co1) (wE x) (slotsT tg1) stay ds [] h1 fun acc h2 => Q (.lst acc) h2 := by
  funext σ h Q
  simp only [wE]
theorem wE_lc (nw : Bool) (own : List (Str × Nat)) (tg : Tg) (it : Ite) (co : Txo) (x : Ex) : wE (.lc nw own tg it co x) = fun σ h Q => wI it σ h fun ds stay h1 => compL (fun d K => gT tg d (wipeD σ (own.map (·.2))) K) (wTo co) (wE x) stay ds [] h1 fun acc h2 => listed nw acc h2 Q := by
  funext σ h Q
  simp only [wE]
theorem key_of {X : Cx} {k : Key} {o : Option Expr} (h : keyC k o = true) : ∃ e, o = some e ∧ PE X e (L2.tC (kV k)) := by
  unfold keyC at h
  split at h
  · rename_i i j _ _
    have : i = j := by simpa using h
    subst this
    exact ⟨_, rfl, pe_int⟩
  · have := of_decide_eq_true h
    subst this
    exact ⟨_, rfl, pe_str⟩
  · cases h
theorem keysC_len : ∀ {ks : List Key} {keys : List (Option Expr)}, keysC ks keys = true → ks.length = keys.length ∧ keys.all (·.isSome) = true
  | [], [], _ => ⟨rfl, rfl⟩
  | [], _ :: _, h => by simp [keysC] at h
  | _ :: _, [], h => by simp [keysC] at h
  | k :: ks, e :: es, h => by
    simp only [keysC, Bool.and_eq_true] at h
    obtain ⟨a, b⟩ := keysC_len h.2
    refine ⟨by rw [List.length_cons, List.length_cons, a], ?_⟩
    rw [List.all_cons, b, Bool.and_true]
    cases e with
    | none => cases k <;> simp [keyC] at h
    | some _ => rfl
mutual
theorem okE {N : List Str} {k : Nat} : ∀ (x : Ex) {X : Cx} {sc : Scope} {fn : Str → Bool} (c : Cxt X N sc fn k) (e : Expr), tE N sc fn x e = true → hE (FA X k) (GA X) x → PE X e (liftE X.K (wE x))
  | .cst d, X, sc, fn, c, e, h, hs => by
    unfold tE at h
    split at h
    · exact cst_ok (N := N) h
    · cases h
  | .var i, X, sc, fn, c, e, h, hs => by
    unfold tE at h
    split at h
    · exact l_var (c.var h)
    · cases h
  | .glb y d, X, sc, fn, c, e, h, hs => by
    unfold tE at h
    split at h
    · rw [Bool.and_eq_true, Bool.and_eq_true, decide_eq_true_eq, Bool.not_eq_true'] at h
      obtain ⟨⟨rfl, h⟩, hd⟩ := h
      obtain ⟨v, u, e1, e2, e3⟩ := GlAt.one hs hd
      obtain ⟨g1, g2⟩ := c.gl h
      exact l_cst (pe_glob g1 e1 e2 g2) e3
    · cases h
  | .typ t, X, sc, fn, c, e, h, hs => by
    unfold tE at h
    split at h
    · rw [Bool.and_eq_true, decide_eq_true_eq] at h
      obtain ⟨rfl, h⟩ := h
      obtain ⟨g1, g2⟩ := c.gl h
      exact l_cst (pe_bltn (v := .ty t.name) g1 (c.ty t) t.boot rfl t.nn g2) fun _ => .ty t
    · cases h
  | .bin o a b, X, sc, fn, c, e, h, hs => by
    unfold tE at h
    split at h
    · simp only [Bool.and_eq_true, decide_eq_true_eq] at h
      obtain ⟨⟨rfl, h1⟩, h2⟩ := h
      exact l_bin (okE a c _ h1 hs.1) (okE b c _ h2 hs.2)
    · cases h
  | .neg a, X, sc, fn, c, e, h, hs => by
    unfold tE at h
    split at h
    · simp only [Bool.and_eq_true, decide_eq_true_eq] at h
      obtain ⟨rfl, h1⟩ := h
      exact l_neg (okE a c _ h1 hs)
    · cases h
  | .cmp o a b, X, sc, fn, c, e, h, hs => by
    unfold tE at h
    split at h
    · simp only [Bool.and_eq_true, decide_eq_true_eq, Bool.not_eq_true'] at h
      obtain ⟨⟨⟨rfl, h0⟩, h1⟩, h2⟩ := h
      exact l_cmp c.u65 h0 (okE a c _ h1 hs.1) (okE b c _ h2 hs.2)
    · cases h
  | .chn o p a b d, X, sc, fn, c, e, h, hs => by
    unfold tE at h
    split at h
    · simp only [Bool.and_eq_true, decide_eq_true_eq, Bool.not_eq_true'] at h
      obtain ⟨⟨⟨⟨⟨rfl, rfl⟩, h0⟩, h1⟩, h2⟩, h3⟩ := h
      exact l_chn c.u65 h0 (okE a c _ h1 hs.1) (okE b c _ h2 hs.2.1) (okE d c _ h3 hs.2.2)
    · cases h
  | .not a, X, sc, fn, c, e, h, hs => by
    unfold tE at h
    split at h
    · simp only [Bool.and_eq_true, decide_eq_true_eq] at h
      obtain ⟨rfl, h1⟩ := h
      exact l_not (okE a c _ h1 hs)
    · cases h
  | .and a b, X, sc, fn, c, e, h, hs => by
    unfold tE at h
    split at h
    · rw [Bool.and_eq_true] at h
      obtain ⟨h1, h2⟩ := h
      split at h2
      · exact l_and (okE a c _ h1 hs.1) (pe_one (okE b c _ h2 hs.2))
      · exact l_and (okE a c _ h1 hs.1) (okE b c _ h2 hs.2)
    · cases h
  | .or a b, X, sc, fn, c, e, h, hs => by
    unfold tE at h
    split at h
    · rw [Bool.and_eq_true] at h
      obtain ⟨h1, h2⟩ := h
      split at h2
      · exact l_or (okE a c _ h1 hs.1) (pe_one (okE b c _ h2 hs.2))
      · exact l_or (okE a c _ h1 hs.1) (okE b c _ h2 hs.2)
    · cases h
  | .orV a b, X, sc, fn, c, e, h, hs => by
    unfold tE at h
    split at h
    · rw [Bool.and_eq_true] at h
      obtain ⟨h1, h2⟩ := h
      split at h2
      · exact l_orV (okE a c _ h1 hs.1) (pe_one (okE b c _ h2 hs.2))
      · exact l_orV (okE a c _ h1 hs.1) (okE b c _ h2 hs.2)
    · cases h
  | .ife t a b, X, sc, fn, c, e, h, hs => by
    unfold tE at h
    split at h
    · simp only [Bool.and_eq_true] at h
      exact l_ife (okX t c _ h.1.1 hs.1).1 (okE a c _ h.1.2 hs.2.1) (okE b c _ h.2 hs.2.2)
    · cases h
  | .tup es, X, sc, fn, c, e, h, hs => by
    unfold tE at h
    split at h
    · rw [Bool.and_eq_true, decide_eq_true_eq] at h
      exact l_tup h.1 (okA es c _ h.2 hs)
    · cases h
  | .lst es, X, sc, fn, c, e, h, hs => by
    unfold tE at h
    split at h
    · rw [Bool.and_eq_true, decide_eq_true_eq] at h
      exact l_lst h.1 (okA es c _ h.2 hs)
    · cases h
  | .new es, X, sc, fn, c, e, h, hs => by
    unfold tE at h
    split at h
    · rw [Bool.and_eq_true, decide_eq_true_eq] at h
      exact l_new h.1 (okA es c _ h.2 hs)
    · cases h
  | .sub a i, X, sc, fn, c, e, h, hs => by
    unfold tE at h
    split at h
    · simp only [Bool.and_eq_true] at h
      exact l_sub c.u1 h.1.1 (okE a c _ h.1.2 hs.1) (okE i c _ h.2 hs.2)
    · cases h
  | .sl a lo hi, X, sc, fn, c, e, h, hs => by
    unfold tE at h
    split at h
    · simp only [Bool.and_eq_true] at h
      exact l_sl (okE a c _ h.1.1 hs.1) (okO lo c _ h.1.2 hs.2.1) (okO hi c _ h.2 hs.2.2)
    · cases h
  | .slN a lo hi, X, sc, fn, c, e, h, hs => by
    unfold tE at h
    split at h
    · simp only [Bool.and_eq_true] at h
      exact l_slN (okE a c _ h.1.1 hs.1) (okO lo c _ h.1.2 hs.2.1) (okO hi c _ h.2 hs.2.2)
    · cases h
  | .addN a b, X, sc, fn, c, e, h, hs => by
    unfold tE at h
    split at h
    · simp only [Bool.and_eq_true, decide_eq_true_eq] at h
      obtain ⟨⟨rfl, h1⟩, h2⟩ := h
      exact l_addN (okE a c _ h1 hs.1) (okE b c _ h2 hs.2)
    · cases h
  | .rev n a, X, sc, fn, c, e, h, hs => by
    unfold tE at h
    split at h
    · simp only [Bool.and_eq_true, decide_eq_true_eq] at h
      obtain ⟨⟨rfl, rfl⟩, h1⟩ := h
      exact l_rev (okE a c _ h1 hs)
    · cases h
  | .call x ps sp es, X, sc, fn, c, e, h, hs => by
    unfold tE at h
    split at h
    · rename_i y _ xs _
      simp only [Bool.and_eq_true, decide_eq_true_eq] at h
      obtain ⟨⟨rfl, h1⟩, h2⟩ := h
      obtain ⟨g1, g2⟩ := c.gl h1
      have hA := okA es c _ h2 hs.2
      obtain ⟨p1, p2⟩ := tA_pl h2
      cases xs with
      | nil =>
        cases es with
        | nil => exact l_call0 hs.1 c.room c.gd g1 g2
        | cons _ _ => simp [tA] at h2
      | cons z zs =>
        rw [List.all_cons, Bool.and_eq_true] at p1
        exact l_call hs.1 c.room c.gd g1 g2 p1.1 p1.2 hA
    · cases h
  | .callK x ps sp es ks kes pm, X, sc, fn, c, e, h, hs => by
    unfold tE at h
    split at h
    · rename_i y _ xs kws _
      simp only [Bool.and_eq_true, decide_eq_true_eq] at h
      obtain ⟨⟨⟨⟨⟨rfl, h1⟩, h2⟩, h3⟩, h4⟩, h5⟩ := h
      obtain ⟨g1, g2⟩ := c.gl h1
      have hA := okA es c _ h2 hs.2.1
      obtain ⟨hK, lk⟩ := okK kes c _ h3 hs.2.2
      have lks : lenX kes = ks.length := by
        have := congrArg List.length h4
        simp only [List.length_map] at this
        rw [← lk, this]
      rw [lks] at hK
      obtain ⟨p1, p2⟩ := tA_pl h2
      cases xs with
      | nil =>
        cases es with
        | nil => exact l_callK0 hs.1 c.room c.gd g1 g2 h4 h5 hK
        | cons _ _ => simp [tA] at h2
      | cons z zs =>
        rw [List.all_cons, Bool.and_eq_true] at p1
        rw [← p2] at h5 hA
        exact l_callK hs.1 c.room c.gd g1 g2 p1.1 p1.2 h4 h5 hA hK
    · cases h
  | .callP x y ps qs sp sq i es, X, sc, fn, c, e, h, hs => by
    unfold tE at h
    split at h
    · simp only [Bool.and_eq_true, decide_eq_true_eq] at h
      obtain ⟨⟨⟨⟨⟨⟨rfl, rfl⟩, h1⟩, h2⟩, h3⟩, h4⟩, h5⟩ := h
      obtain ⟨g1, g2⟩ := c.gl h1
      obtain ⟨g3, g4⟩ := c.gl h2
      have hA := okA es c _ h5 hs.2.2
      obtain ⟨p1, p2⟩ := tA_pl h5
      rw [List.all_cons, Bool.and_eq_true] at p1
      exact l_callP hs.1.1 hs.1.2 c.room c.gd g1 g2 g3 g4 (okE i c _ h4 hs.2.1) h3 p1.1 p1.2 hA
    · cases h
  | .fdv a b, X, sc, fn, c, e, h, hs => by
    unfold tE at h
    split at h
    · simp only [Bool.and_eq_true, decide_eq_true_eq] at h
      obtain ⟨⟨rfl, h1⟩, h2⟩ := h
      exact l_fdv (okE a c _ h1 hs.1) (okE b c _ h2 hs.2)
    · cases h
  | .rgs l a b, X, sc, fn, c, e, h, hs => by
    unfold tE at h
    split at h
    · simp only [Bool.and_eq_true, decide_eq_true_eq] at h
      obtain ⟨⟨⟨⟨⟨⟨⟨hy, h1⟩, rfl⟩, h2⟩, h3⟩, h4⟩, h5⟩, h6⟩ := h
      obtain ⟨g1, _⟩ := c.gl h1
      obtain ⟨g2, _⟩ := c.gl h2
      refine l_rgs hy c.calm g1 ?_ g2 c.rng h3 h4 (okE a c _ h5 hs.1) (okE b c _ h6 hs.2)
      subst hy
      cases l with
      | true => exact c.bl .list
      | false => exact c.bl .tuple
    · cases h
  | .tabAt x ks ds a, X, sc, fn, c, e, h, hs => by
    unfold tE at h
    split at h
    · simp only [Bool.and_eq_true, decide_eq_true_eq] at h
      obtain ⟨⟨⟨rfl, h1⟩, h2⟩, h3⟩ := h
      obtain ⟨g1, g2⟩ := c.gl h1
      rw [wE_tabAt]
      exact l_tabAt g1 g2 (GlAt.tab hs.1) h2 (okE a c _ h3 hs.2)
    · cases h
  | .tabIn x ks ds a, X, sc, fn, c, e, h, hs => by
    unfold tE at h
    split at h
    · simp only [Bool.and_eq_true, decide_eq_true_eq] at h
      obtain ⟨⟨rfl, h1⟩, h3⟩ := h
      obtain ⟨g1, g2⟩ := c.gl h1
      rw [wE_tabIn]
      exact l_tabIn g1 g2 (GlAt.tab hs.1) (okE a c _ h3 hs.2)
    · cases h
  | .lc2 own tg it co tg1 a1 co1 x, X, sc, fn, c, e, h, hs => by
    unfold tE at h
    split at h
    · simp only [Bool.and_eq_true, decide_eq_true_eq, List.all_eq_true] at h
      obtain ⟨⟨⟨⟨⟨⟨⟨⟨⟨⟨⟨⟨⟨⟨rfl, rfl⟩, h8⟩, h1⟩, h1'⟩, h2⟩, h3⟩, h3'⟩, h4⟩, h5⟩, h6⟩, h9⟩, h5'⟩, h6'⟩, h7⟩ := h
      have hb := blkOk_by h2
      rw [← c.n, ← c.sc] at hb
      have gi := okI it c _ _ h8 h4 hs.1
      have gt := fun s H C cl fp => okT (c.blk s H _ C cl fp) tg _ h5
      have gc := fun s H C cl fp => okC co (c.blk s H _ C cl fp) _ h6 hs.2.1
      have ga := fun s H C cl fp => okE a1 (c.blk s H _ C cl fp) _ h9 hs.2.2.1
      have gt' := fun s H C cl fp => okT (c.blk s H _ C cl fp) tg1 _ h5'
      have gc' := fun s H C cl fp => okC co1 (c.blk s H _ C cl fp) _ h6' hs.2.2.2.1
      have ge := fun s H C cl fp => okE x (c.blk s H _ C cl fp) _ h7 hs.2.2.2.2
      have hN : X.N.Nodup := by rw [c.n]; exact c.nd
      rw [wE_lc2]
      exact l_lc2 c.calm hN h3 h3' h1 h1' gi hb gt gc ga gt' gc' ge
    · cases h
  | .slS a l k, X, sc, fn, c, e, h, hs => by
    unfold tE at h
    split at h
    · simp only [Bool.and_eq_true] at h
      exact l_slS (okE a c _ h.1.1 hs.1) (okE l c _ h.1.2 hs.2.1) (okE k c _ h.2 hs.2.2)
    · cases h
  | .blt b es, X, sc, fn, c, e, h, hs => by
    unfold tE at h
    split at h
    · simp only [Bool.and_eq_true, decide_eq_true_eq] at h
      obtain ⟨⟨rfl, h1⟩, h2⟩ := h
      obtain ⟨g1, g2⟩ := c.gl h1
      obtain ⟨p1, p2⟩ := tA_pl h2
      rw [List.all_cons, Bool.and_eq_true] at p1
      exact l_blt c.sys c.calm c.gd c.u70 g1 (c.bl b) p1.1 p1.2 (okA es c _ h2 hs)
    · cases h
  | .mth m a es, X, sc, fn, c, e, h, hs => by
    unfold tE at h
    split at h
    · rename_i o name apos xs cpos
      simp only [Bool.and_eq_true, decide_eq_true_eq] at h
      obtain ⟨⟨⟨⟨⟨rfl, h1⟩, h2⟩, h3⟩, h4⟩, h5⟩ := h
      have hA := okA es c _ h5 hs.2
      obtain ⟨p1, p2⟩ := tA_pl h5
      cases xs with
      | nil =>
        cases es with
        | nil => exact l_mth0 h1 h2 (okE a c _ h4 hs.1)
        | cons _ _ => simp [tA] at h5
      | cons z zs =>
        rw [List.all_cons, Bool.and_eq_true] at p1
        rw [List.length_cons] at h3
        exact l_mth h1 h2 p1.1 p1.2 (by omega) (okE a c _ h4 hs.1) hA
    · cases h
  | .dct nn ks es, X, sc, fn, c, e, h, hs => by
    unfold tE at h
    split at h
    · simp only [Bool.and_eq_true, decide_eq_true_eq] at h
      obtain ⟨⟨⟨⟨⟨h1, h2⟩, h3⟩, h4⟩, h5⟩, h6⟩ := h
      rename_i keys values pos
      obtain ⟨trs, hp, ok⟩ := okP es c ks keys values pos h4 h5 h6 hs
      obtain ⟨a1, a2⟩ := keysC_len h5
      have e : wE (.dct nn ks es) = fun σ h Q => wA es σ h fun ds h1 => dicted nn ks ds h1 Q := by funext σ h Q; simp only [wE]
      rw [e]
      cases keys with
      | nil =>
        have : ks = [] := List.length_eq_zero_iff.mp a1
        subst this
        have : values = [] := List.length_eq_zero_iff.mp h4.symm
        subst this
        have : wA es = fun _ h Q => Q [] h := by
          cases es with
          | nil => funext σ h Q; simp only [wA]
          | cons _ _ => simp [lenX] at h3
        rw [this]
        cases nn with
        | true => exact l_dct0
        | false => exact l_dcF0
      | cons k0 keys => cases nn with
        | false => exact l_dcF hp (by rw [← h3]; exact ok) a2 h4 (by simp) (by omega) h2 h1
        | true => exact l_dct hp (by rw [← h3]; exact ok) a2 h4 (by simp) (by omega) h2 h1
    · cases h
  | .lc nw own tg it co x, X, sc, fn, c, e, h, hs => by
    unfold tE at h
    split at h
    · simp only [Bool.and_eq_true, decide_eq_true_eq, List.all_eq_true] at h
      obtain ⟨⟨⟨⟨⟨⟨⟨⟨rfl, h8⟩, h1⟩, h2⟩, h3⟩, h4⟩, h5⟩, h6⟩, h7⟩ := h
      have hb := blkOk_by h2
      rw [← c.n, ← c.sc] at hb
      have gi := okI it c _ _ h8 h4 hs.1
      have gt := fun s H C cl fp => okT (c.blk s H _ C cl fp) tg _ h5
      have gc := fun s H C cl fp => okC co (c.blk s H _ C cl fp) _ h6 hs.2.1
      have ge := fun s H C cl fp => okE x (c.blk s H _ C cl fp) _ h7 hs.2.2
      have hN : X.N.Nodup := by rw [c.n]; exact c.nd
      rw [wE_lc]
      exact l_lc c.calm hN h3 h1 gi hb gt gc ge
    · cases h
theorem okA {N : List Str} {k : Nat} : ∀ (es : Exs) {X : Cx} {sc : Scope} {fn : Str → Bool} (c : Cxt X N sc fn k) (xs : List Expr), tA N sc fn es xs = true → hA (FA X k) (GA X) es → PA X xs (liftA X.K (lenX es) (wA es))
  | .nil, X, sc, fn, c, xs, h, hs => by
    unfold tA at h
    split at h
    · exact la_nil
    · cases h
  | .cons e es, X, sc, fn, c, xs, h, hs => by
    unfold tA at h
    split at h
    · cases h
    · simp only [Bool.and_eq_true] at h
      exact la_cons h.1.1 (okE e c _ h.1.2 hs.1) (okA es c _ h.2 hs.2)
theorem okP {N : List Str} {k : Nat} : ∀ (es : Exs) {X : Cx} {sc : Scope} {fn : Str → Bool} (c : Cxt X N sc fn k) (ks : List Key) (keys : List (Option Expr)) (xs : List Expr) (pos : Pos), keys.length = xs.length → keysC ks keys = true → tA N sc fn es xs = true → hA (FA X k) (GA X) es → ∃ trs, PPs X pos keys xs trs ∧ PairsOk X.K ks (lenX es) (wA es) trs
  | .nil, X, sc, fn, c, ks, keys, xs, pos, hl, hk, h, hs => by
    unfold tA at h
    split at h
    · have : keys = [] := List.length_eq_zero_iff.mp hl
      subst this
      have : ks = [] := by
        cases ks with
        | nil => rfl
        | cons _ _ => simp [keysC] at hk
      subst this
      have e : wA .nil = fun _ h Q => Q [] h := by funext σ h Q; simp only [wA]
      rw [e]
      exact ⟨[], pps_nil, pairs_nil⟩
    · cases h
  | .cons e es, X, sc, fn, c, ks, keys, xs, pos, hl, hk, h, hs => by
    unfold tA at h
    split at h
    · cases h
    · simp only [Bool.and_eq_true] at h
      cases keys with
      | nil => simp at hl
      | cons k0 keys =>
        cases ks with
        | nil => simp [keysC] at hk
        | cons q ks =>
          simp only [keysC, Bool.and_eq_true] at hk
          obtain ⟨trs, hp, ok⟩ := okP es c ks keys _ pos (by simpa using hl) hk.2 h.2 hs.2
          obtain ⟨k1, rfl, pk⟩ := key_of (X := X) hk.1
          have e2 : wA (.cons e es) = fun σ h Q => wE e σ h fun d h1 => wA es σ h1 fun ds h2 => Q (d :: ds) h2 := by funext σ h Q; simp only [wA]
          rw [e2]
          exact ⟨_, pps_cons pk (okE e c _ h.1.2 hs.1) hp, pairs_cons ok⟩
theorem okK {N : List Str} {k : Nat} : ∀ (es : Exs) {X : Cx} {sc : Scope} {fn : Str → Bool} (c : Cxt X N sc fn k) (xs : List Keyword), tK N sc fn es xs = true → hA (FA X k) (GA X) es → PK X xs (liftA X.K (lenX es) (wA es)) ∧ xs.length = lenX es
  | .nil, X, sc, fn, c, xs, h, hs => by
    unfold tK at h
    split at h
    · exact ⟨lk_nil, rfl⟩
    · cases h
  | .cons e es, X, sc, fn, c, xs, h, hs => by
    unfold tK at h
    split at h
    · cases h
    · rename_i kw kws
      obtain ⟨nm, v, p⟩ := kw
      simp only [Bool.and_eq_true] at h
      obtain ⟨h1, h2⟩ := okK es c _ h.2 hs.2
      exact ⟨lk_cons (okE e c _ h.1 hs.1) h1, by rw [List.length_cons, h2]; rfl⟩
theorem okO {N : List Str} {k : Nat} : ∀ (o : Exo) {X : Cx} {sc : Scope} {fn : Str → Bool} (c : Cxt X N sc fn k) (x : Option Expr), tO N sc fn o x = true → hO (FA X k) (GA X) o → PO X x (liftO X.K (wO o))
  | .none, X, sc, fn, c, x, h, hs => by
    unfold tO at h
    cases x with
    | none => exact lo_none
    | some _ => cases h
  | .some e, X, sc, fn, c, x, h, hs => by
    unfold tO at h
    split at h
    · exact lo_some (okE e c _ h hs)
    · cases h
theorem okX {N : List Str} {k : Nat} : ∀ (t : Tx) {X : Cx} {sc : Scope} {fn : Str → Bool} (c : Cxt X N sc fn k) (x : Expr), tX N sc fn t x = true → hX (FA X k) (GA X) t → PT X x (liftT X.K (wT t)) ∧ ∀ op vs pos, x = .BoolOp op vs pos → PW X x (liftT X.K (wT t))
  | .val e, X, sc, fn, c, x, h, hs => by
    unfold tX at h
    rw [Bool.and_eq_true, Bool.or_eq_true] at h
    obtain ⟨h1, h2⟩ := h
    rcases h1 with h1 | h1
    · refine ⟨lt_val h1 (okE e c _ h2 hs), fun op vs pos z => ?_⟩
      subst z
      cases h1
    · split at h1
      · rename_i o a b l ops rs pos
        refine ⟨?_, fun op vs pos z => by cases z⟩
        unfold tE at h2
        split at h2
        · rename_i heq
          cases heq
          simp only [Bool.and_eq_true, decide_eq_true_eq, Bool.not_eq_true'] at h2
          obtain ⟨⟨⟨rfl, q0⟩, q1⟩, q2⟩ := h2
          rw [wT_cmp]
          exact lt_cmp c.u65 q0 (okE a c _ q1 hs.1) (okE b c _ q2 hs.2)
        · cases h2
      · rename_i o p a b d l ops rs pos
        refine ⟨?_, fun op vs pos z => by cases z⟩
        unfold tE at h2
        split at h2
        · rename_i heq
          cases heq
          simp only [Bool.and_eq_true, decide_eq_true_eq, Bool.not_eq_true'] at h2
          obtain ⟨⟨⟨⟨⟨rfl, rfl⟩, q0⟩, q1⟩, q2⟩, q3⟩ := h2
          rw [wT_chn]
          exact lt_chn c.u65 q0 (okE a c _ q1 hs.1) (okE b c _ q2 hs.2.1) (okE d c _ q3 hs.2.2)
        · cases h2
      · refine ⟨?_, fun op vs pos z => by cases z⟩
        unfold tE at h2
        split at h2
        · rename_i heq
          cases heq
          simp only [Bool.and_eq_true, decide_eq_true_eq] at h2
          obtain ⟨⟨rfl, q1⟩, q3⟩ := h2
          obtain ⟨g1, g2⟩ := c.gl q1
          rw [wT_tabIn]
          exact lt_tabIn g1 g2 (GlAt.tab hs.1) (okE _ c _ q3 hs.2)
        · cases h2
      · cases h1
  | .not t, X, sc, fn, c, x, h, hs => by
    unfold tX at h
    split at h
    · simp only [Bool.and_eq_true, decide_eq_true_eq] at h
      obtain ⟨rfl, h1⟩ := h
      exact ⟨lt_not (okX t c _ h1 hs).1, fun op vs pos z => by cases z⟩
    · cases h
  | .and t u, X, sc, fn, c, x, h, hs => by
    unfold tX at h
    split at h
    · rw [Bool.and_eq_true] at h
      obtain ⟨h1, h2⟩ := h
      split at h2
      · exact ⟨(lt_and (okX t c _ h1 hs.1).1 (pw_and1 (okX u c _ h2 hs.2).1)).pt, fun _ _ _ _ => lt_and (okX t c _ h1 hs.1).1 (pw_and1 (okX u c _ h2 hs.2).1)⟩
      · exact ⟨(lt_and (okX t c _ h1 hs.1).1 ((okX u c _ h2 hs.2).2 _ _ _ rfl)).pt, fun _ _ _ _ => lt_and (okX t c _ h1 hs.1).1 ((okX u c _ h2 hs.2).2 _ _ _ rfl)⟩
    · cases h
  | .or t u, X, sc, fn, c, x, h, hs => by
    unfold tX at h
    split at h
    · rw [Bool.and_eq_true] at h
      obtain ⟨h1, h2⟩ := h
      split at h2
      · exact ⟨(lt_or (okX t c _ h1 hs.1).1 (pw_or1 (okX u c _ h2 hs.2).1)).pt, fun _ _ _ _ => lt_or (okX t c _ h1 hs.1).1 (pw_or1 (okX u c _ h2 hs.2).1)⟩
      · exact ⟨(lt_or (okX t c _ h1 hs.1).1 ((okX u c _ h2 hs.2).2 _ _ _ rfl)).pt, fun _ _ _ _ => lt_or (okX t c _ h1 hs.1).1 ((okX u c _ h2 hs.2).2 _ _ _ rfl)⟩
    · cases h
  | .ch3 o p q a b d f, X, sc, fn, c, x, h, hs => by
    unfold tX at h
    split at h
    · simp only [Bool.and_eq_true, decide_eq_true_eq, Bool.not_eq_true'] at h
      obtain ⟨⟨⟨⟨⟨⟨⟨rfl, rfl⟩, rfl⟩, h0⟩, h1⟩, h2⟩, h3⟩, h4⟩ := h
      rw [wT_ch3]
      exact ⟨lt_ch3 c.u65 h0 (okE a c _ h1 hs.1) (okE b c _ h2 hs.2.1) (okE d c _ h3 hs.2.2.1) (okE f c _ h4 hs.2.2.2), fun _ _ _ z => by cases z⟩
    · cases h
theorem okC {N : List Str} {k : Nat} : ∀ (t : Txo) {X : Cx} {sc : Scope} {fn : Str → Bool} (c : Cxt X N sc fn k) (xs : List Expr), tC N sc fn t xs = true → hC (FA X k) (GA X) t → PTs X xs (liftT X.K (wTo t))
  | .none, X, sc, fn, c, xs, h, hs => by
    unfold tC at h
    split at h
    · exact ⟨fun pins s σ H Q I ⟨w, σd, hd, QD, eH, rel, rs, q, post⟩ => pts_nil.run pins s σ H Q I (by subst eH; exact post w hd true (Ext.refl _ _) rel q)⟩
    · cases h
  | .some t, X, sc, fn, c, xs, h, hs => by
    unfold tC at h
    split at h
    · exact pts_one (okX t c _ h hs).1
    · cases h
theorem okI {N : List Str} {k : Nat} : ∀ (it : Ite) {X : Cx} {sc : Scope} {fn : Str → Bool} (c : Cxt X N sc fn k) (tg x : Expr), itT it tg = true → tI N sc fn it x = true → hI (FA X k) (GA X) it → PI X tg x (liftI X.K (wI it))
  | .seq e, X, sc, fn, c, tg, x, ht, h, hs => by
    unfold tI at h
    exact li_seq (okE e c _ h hs)
  | .rng1 e, X, sc, fn, c, tg, x, ht, h, hs => by
    unfold tI at h
    split at h
    · simp only [Bool.and_eq_true, decide_eq_true_eq] at h
      obtain ⟨⟨⟨rfl, h1⟩, h2⟩, h3⟩ := h
      exact li_rng1 (c.gl h1).1 c.rng h2 (okE e c _ h3 hs)
    · cases h
  | .rng2 a b, X, sc, fn, c, tg, x, ht, h, hs => by
    unfold tI at h
    split at h
    · simp only [Bool.and_eq_true, decide_eq_true_eq] at h
      obtain ⟨⟨⟨⟨⟨rfl, h1⟩, h2⟩, h3⟩, h4⟩, h5⟩ := h
      exact li_rng2 (c.gl h1).1 c.rng h2 h3 (okE a c _ h4 hs.1) (okE b c _ h5 hs.2)
    · cases h
  | .rng3 a b z, X, sc, fn, c, tg, x, ht, h, hs => by
    unfold tI at h
    split at h
    · simp only [Bool.and_eq_true, decide_eq_true_eq] at h
      obtain ⟨⟨⟨⟨⟨⟨⟨rfl, h1⟩, h2⟩, h3⟩, h6⟩, h4⟩, h5⟩, h7⟩ := h
      exact li_rng3 (c.gl h1).1 c.rng h2 h3 h6 (okE a c _ h4 hs.1) (okE b c _ h5 hs.2.1) (okE z c _ h7 hs.2.2)
    · cases h
  | .zip a b, X, sc, fn, c, tg, x, ht, h, hs => by
    unfold tI at h
    split at h
    · simp only [Bool.and_eq_true, decide_eq_true_eq] at h
      obtain ⟨⟨⟨⟨⟨rfl, h1⟩, h2⟩, h3⟩, h4⟩, h5⟩ := h
      cases tg <;> first | (cases ht; done) | skip
      exact li_zip (c.gl h1).1 (c.more _ (by decide)) h2 h3 (okE a c _ h4 hs.1) (okE b c _ h5 hs.2)
    · cases h
  | .revd a, X, sc, fn, c, tg, x, ht, h, hs => by
    unfold tI at h
    split at h
    · simp only [Bool.and_eq_true, decide_eq_true_eq] at h
      obtain ⟨⟨⟨rfl, h1⟩, h2⟩, h3⟩ := h
      exact li_rev (c.gl h1).1 (c.more _ (by decide)) h2 (okE a c _ h3 hs)
    · cases h
  | .zips a b, X, sc, fn, c, tg, x, ht, h, hs => by
    unfold tI at h
    split at h
    · simp only [Bool.and_eq_true, decide_eq_true_eq] at h
      obtain ⟨⟨⟨⟨⟨⟨rfl, h1⟩, h2⟩, h3⟩, h4⟩, h5⟩, h6⟩ := h
      cases tg <;> first | (cases ht; done) | skip
      obtain ⟨y, z1, z2, z3, rfl, rfl⟩ := strict_of h6
      exact li_zs (c.gl h1).1 (c.more _ (by decide)) h2 h3 (okE a c _ h4 hs.1) (okE b c _ h5 hs.2)
    · cases h
  | .enum b a, X, sc, fn, c, tg, x, ht, h, hs => by
    unfold tI at h
    split at h
    · simp only [Bool.and_eq_true, decide_eq_true_eq] at h
      obtain ⟨⟨⟨⟨rfl, h1⟩, h2⟩, h4⟩, h6⟩ := h
      cases tg <;> first | (cases ht; done) | skip
      cases b with
      | false =>
        cases start0_of h6
        exact li_en0 (c.gl h1).1 (c.more _ (by decide)) h2 (okE a c _ h4 hs)
      | true =>
        obtain ⟨y, z1, z2, z3, rfl, rfl⟩ := start1_of h6
        exact li_en1 (c.gl h1).1 (c.more _ (by decide)) h2 (okE a c _ h4 hs)
    · cases h
end
end G

/-! Statements, defs, the law's end. -/
namespace G
open PySem PySem.Spec PyProof.Rows L2

theorem block_fn {env : Env} (h : env.scope.kind = .function) : env.blockKind = .function := by unfold Env.blockKind; rw [h]; rfl
theorem ok_asg {X : Cx} {N : List Str} {sc : Scope} {fn : Str → Bool} {k : Nat} (c : Cxt X N sc fn k) (hsc : sc.kind = .function) {t : Tg} {e : Ex} {tg v : Expr} {pos : Pos} (h1 : tT N sc fn t tg = true) (h2 : tE N sc fn e v = true)
    (h3 : asgC sc t e tg v = true) (hs : hE (FA X k) (GA X) e) : PS X (.Assign [tg] v pos) (liftS X.K fun E σ h => wE e σ h fun d h1 => gT t d σ fun σ' => E.nx σ' h1) := by
  have hg := okT c t tg h1
  cases tg with
  | Name y py =>
    replace h3 : (nlc v || (isLc v && lcT t e)) = true := h3
    rw [Bool.or_eq_true, Bool.and_eq_true] at h3
    rcases h3 with h3 | ⟨h4, h5⟩
    · exact s_asg (okE e c v h2 hs) hg (show swapsWith v (some (.Name y py)) pos.line X.env = pure false from sw_nlc h3) rfl rfl
    · cases v <;> first | (cases h4; done) | skip
      rename_i elt gens scope lpos
      cases b : swLc sc y py scope lpos with
      | false => exact s_asg (okE e c _ h2 hs) hg (show swapsWith _ (some (.Name y py)) pos.line X.env = pure false from sw_lcF (by rw [c.sc]; exact b)) rfl rfl
      | true =>
        cases t with
        | tp _ => cases h5
        | nm i =>
          cases e <;> first | (cases h5; done) | skip
          rename_i nw own tg' it co x
          unfold tE at h2
          split at h2
          · rename_i heq
            cases heq
            simp only [Bool.and_eq_true, decide_eq_true_eq, List.all_eq_true] at h2
            obtain ⟨⟨⟨⟨⟨⟨⟨⟨rfl, q8⟩, q1⟩, q2⟩, q3⟩, q4⟩, q5⟩, q6⟩, q7⟩ := h2
            have hb := blkOk_by q2
            rw [← c.n, ← c.sc] at hb
            have gi := okI it c _ _ q8 q4 hs.1
            have gt := fun s H C cl fp => okT (c.blk s H _ C cl fp) tg' _ q5
            have gc := fun s H C cl fp => okC co (c.blk s H _ C cl fp) _ q6 hs.2.1
            have ge := fun s H C cl fp => okE x (c.blk s H _ C cl fp) _ q7 hs.2.2
            have hN : X.N.Nodup := by rw [c.n]; exact c.nd
            unfold tT at h1
            obtain ⟨n1, _, _⟩ := c.sto h1
            unfold swLc at b
            simp only [Bool.and_eq_true, decide_eq_true_eq, Bool.not_eq_true'] at b
            have hl : X.env.scope.names.lookup y = some .local := by rw [c.sc]; exact b.1.1
            rw [wE_lc]
            exact s_setLc c.calm hN q3 q1 n1 hl (sw_true (by rw [c.sc]; exact hsc) hl b.1.2 b.2) gi hb gt gc ge
          · cases h2
  | Tuple ts kk tp =>
    replace h3 : (nlc v && swV sc ts v) = true := h3
    rw [Bool.and_eq_true] at h3
    refine s_asg (okE e c v h2 hs) hg (show swapsWith v (some (.Tuple ts kk tp)) pos.line X.env = pure false from sw_nlc h3.1) ?_ rfl
    cases hv : isTupE v with
    | false => exact sw_tup hv
    | true =>
      cases v <;> first | (cases hv; done) | skip
      exact sw_no (by rw [c.sc]; exact h3.2)
  | _ => cases h3
theorem ok_par {X : Cx} {N : List Str} {sc : Scope} {fn : Str → Bool} {k : Nat} (c : Cxt X N sc fn k) (hsc : sc.kind = .function) {is : List Nat} {es : Exs} {ts vs : List Expr} {k1 k2 : Nat} {p1 p2 pos : Pos} (h1 : parC N sc is ts vs = true) (h2 : is.length = lenX es) (h3 : tA N sc fn es vs = true) (hs : hA (FA X k) (GA X) es) :
    PS X (.Assign [.Tuple ts k1 p1] (.Tuple vs k2 p2) pos) (liftS X.K fun E σ h => wA es σ h fun ds h1 => E.nx (setAll σ is ds) h1) := by
  have hA := okA es c vs h3 hs
  have bk : X.env.blockKind = .function := block_fn (by rw [c.sc]; exact hsc)
  unfold parC at h1
  simp only [Bool.and_eq_true, decide_eq_true_eq, Bool.not_eq_true'] at h1
  obtain ⟨⟨⟨⟨nd, hp⟩, hf⟩, hc⟩, h1⟩ := h1
  split at h1
  · rename_i i j x px y py a b
    simp only [Bool.and_eq_true, decide_eq_true_eq] at h1
    obtain ⟨⟨⟨⟨⟨n1, n2⟩, l1⟩, l2⟩, ll⟩, ne⟩ := h1
    simp only [List.all_cons, List.all_nil, Bool.and_true, Bool.and_eq_true] at hp
    rw [← h2] at hA
    rw [← c.sc] at l1 l2
    rw [← c.n] at n1 n2
    have hij : i ≠ j := fun z => by subst z; simp at nd
    exact s_par2 c.calm (by rw [c.n]; exact c.nd) n1 n2 hij l1 l2 hA (sw_2 bk hp.1 hp.2 l1 l2 ll ne hf hc)
  · rename_i i j l x px y py z pz a b d
    simp only [Bool.and_eq_true, decide_eq_true_eq] at h1
    obtain ⟨⟨⟨⟨⟨⟨⟨⟨⟨⟨n1, n2⟩, n3⟩, l1⟩, l2⟩, l3⟩, ll⟩, ll2⟩, ne⟩, ne2⟩, ne3⟩ := h1
    simp only [List.all_cons, List.all_nil, Bool.and_true, Bool.and_eq_true] at hp
    rw [← h2] at hA
    rw [← c.sc] at l1 l2 l3
    rw [← c.n] at n1 n2 n3
    have hij : i ≠ j := fun z => by subst z; simp at nd
    have hil : i ≠ l := fun z => by subst z; simp at nd
    have hjl : j ≠ l := fun z => by subst z; simp at nd
    exact s_par3 c.calm (by rw [c.n]; exact c.nd) n1 n2 n3 hij hil hjl l1 l2 l3 hA (sw_3 bk hp.1 hp.2.1 hp.2.2 l1 l2 l3 ll ll2 ne ne2 ne3 hf hc)
  · cases h1
theorem each_one (e : Expr) (es : List Expr) (env : Env) : assignEach (e :: es) env = (isS e, assign (unS e) env) :: assignEach es env := by cases e <;> rfl
theorem un_map (env : Env) : ∀ es : List Expr, (assignEach es env).map (·.2) = (es.map unS).map fun e => assign e env
  | [] => rfl
  | e :: es => by rw [each_one, List.map_cons, List.map_cons, List.map_cons, un_map env es]
theorem un_len (env : Env) : ∀ es : List Expr, (assignEach es env).length = es.length
  | [] => rfl
  | e :: es => by rw [each_one, List.length_cons, List.length_cons, un_len env es]
theorem un_get (env : Env) : ∀ (es : List Expr) (j : Nat), ((assignEach es env)[j]?).map (·.1) = (es[j]?).map isS
  | [], _ => rfl
  | e :: es, 0 => by rw [each_one]; rfl
  | e :: es, j + 1 => by rw [each_one, List.getElem?_cons_succ, List.getElem?_cons_succ]; exact un_get env es j
theorem pl_un {e : Expr} (h : pl e = true) : unS e = e := by cases e <;> first | rfl | cases h
theorem tTs_pl {N : List Str} {sc : Scope} {fn : Str → Bool} : ∀ {ts : Tgs} {es : List Expr}, tTs N sc fn ts es = true → (∀ e ∈ es, pl e = true) ∧ lenTs ts = es.length
  | .nil, es, h => by
    unfold tTs at h
    split at h
    · exact ⟨fun e he => (by cases he), rfl⟩
    · cases h
  | .cons t ts, es, h => by
    unfold tTs at h
    split at h
    · cases h
    · simp only [Bool.and_eq_true] at h
      obtain ⟨a, b⟩ := tTs_pl h.2
      refine ⟨fun e he => ?_, by rw [lenTs, b, List.length_cons]⟩
      rcases List.mem_cons.mp he with rfl | he
      · exact h.1.1
      · exact a e he
theorem un_find {env : Env} {es : List Expr} {i : Nat} (h1 : i < es.length) (h2 : (es.zipIdx.all fun p => isS p.1 == (p.2 == i)) = true) : (assignEach es env).findIdx? (·.1) = some i := by
  have at_ : ∀ (j : Nat) (hj : j < (assignEach es env).length), (assignEach es env)[j].1 = (j == i) := fun j hj => by
    have hj' : j < es.length := by rw [un_len] at hj; exact hj
    have g := un_get env es j
    rw [List.getElem?_eq_getElem hj, List.getElem?_eq_getElem hj'] at g
    have g : (assignEach es env)[j].1 = isS es[j] := by simpa using g
    rw [g]
    rw [List.all_eq_true] at h2
    have := h2 (es[j], j) (by rw [List.mem_zipIdx_iff_getElem?]; exact List.getElem?_eq_getElem hj')
    simpa using this
  rw [List.findIdx?_eq_some_iff_getElem]
  refine ⟨by rw [un_len]; exact h1, by rw [at_]; simp, fun j hj => ?_⟩
  rw [at_ j (by rw [un_len]; omega)]
  simp; omega
mutual
theorem okS {X : Cx} {N : List Str} {sc : Scope} {fn : Str → Bool} {k : Nat} (c : Cxt X N sc fn k) (hsc : sc.kind = .function) : ∀ (s : St) (st : Stmt), tS N sc fn s st = true → hS (FA X k) (GA X) s → PS X st (liftS X.K (wS s))
  | .asg t e, st, h, hs => by
    unfold tS at h
    split at h
    · simp only [Bool.and_eq_true] at h
      exact ok_asg c hsc h.1.1 h.1.2 h.2 hs
    · cases h
  | .par is es, st, h, hs => by
    unfold tS at h
    split at h
    · simp only [Bool.and_eq_true, decide_eq_true_eq] at h
      exact ok_par c hsc h.1.1 h.1.2 h.2 hs
    · cases h
  | .put o i e, st, h, hs => by
    unfold tS at h
    split at h
    · simp only [Bool.and_eq_true] at h
      exact s_put c.u1 h.1.1.1.1 h.1.1.1.2 (okE e c _ h.2 hs.2.2) (okE o c _ h.1.1.2 hs.1) (okE i c _ h.1.2 hs.2.1)
    · cases h
  | .aug i o e, st, h, hs => by
    unfold tS at h
    split at h
    · simp only [Bool.and_eq_true, decide_eq_true_eq] at h
      obtain ⟨⟨rfl, h1⟩, h2⟩ := h
      obtain ⟨n1, n2, n3⟩ := c.sto h1
      exact s_aug (by rw [c.n]; exact c.nd) n1 n2 n3 (okE e c _ h2 hs)
    · cases h
  | .augI o i e, st, h, hs => by
    unfold tS at h
    split at h
    · simp only [Bool.and_eq_true, decide_eq_true_eq] at h
      obtain ⟨⟨⟨⟨rfl, h1⟩, h2⟩, h3⟩, h4⟩ := h
      exact s_augI c.u1 h1 (okE o c _ h2 hs.1) (okE i c _ h3 hs.2.1) (okE e c _ h4 hs.2.2)
    · cases h
  | .star i nw ts e, st, h, hs => by
    unfold tS at h
    split at h
    · rename_i es kk tp v pos
      simp only [Bool.and_eq_true, decide_eq_true_eq] at h
      obtain ⟨⟨⟨⟨⟨h1, h2⟩, h3⟩, h4⟩, h5⟩, h6⟩ := h
      obtain ⟨hp, hl⟩ := tTs_pl h3
      rw [List.length_map] at hl
      have hg := (okTs c ts (es.map unS) h3).1
      have a1 : (assignEach es X.env).map (·.2) = (assignEach (es.map unS) X.env).map (·.2) := by
        rw [un_map, un_map]
        congr 1
        rw [List.map_map]
        refine (List.map_congr_left fun e he => ?_).symm
        exact pl_un (hp (unS e) (List.mem_map_of_mem he))
      have hg' : PGs X es (liftGs X.K (slotsTs ts) (gTs ts)) := ⟨fun pins s σ H vs us Q I r q => by rw [a1]; exact hg.run pins s σ H vs us Q I r q⟩
      have := s_star (nw := nw) (kk := kk) (tp := tp) (pos := pos) c.calm (okE e c v h6 hs) hg' (n := lenTs ts) (i := i) (by rw [un_len, hl]) (un_find h1 h2) (by rw [hl]; exact h1) (show swapsWith v (some (.Tuple es kk tp)) pos.line X.env = pure false from sw_nlc h4) (by
        cases hv : isTupE v with
        | false => exact sw_tup hv
        | true =>
          cases v <;> first | (cases hv; done) | skip
          exact sw_no (by rw [c.sc]; exact h5))
      exact this
    · cases h
  | .exp e, st, h, hs => by
    unfold tS at h
    split at h
    · rw [Bool.and_eq_true] at h
      exact s_exp h.1 (okE e c _ h.2 hs)
    · cases h
  | .ret e, st, h, hs => by
    unfold tS at h
    split at h
    · exact s_ret (okE e c _ h hs)
    · cases h
  | .retN, st, h, hs => by
    unfold tS at h
    split at h
    · exact s_retN
    · cases h
  | .ite t a b, st, h, hs => by
    unfold tS at h
    split at h
    · simp only [Bool.and_eq_true] at h
      exact s_ite (okX t c _ h.1.1 hs.1).1 (okSs c hsc a _ h.1.2 hs.2.1) (okSs c hsc b _ h.2 hs.2.2)
    · cases h
  | .whl t b, st, h, hs => by
    unfold tS at h
    split at h
    · simp only [Bool.and_eq_true] at h
      exact s_whl c.xe (okX t c _ h.1 hs.1).1 (okSs c hsc b _ h.2 hs.2)
    · cases h
  | .for t it b, st, h, hs => by
    unfold tS at h
    split at h
    · simp only [Bool.and_eq_true] at h
      exact s_for c.xe c.calm h.1.1.1.2 (okI it c _ _ h.1.1.1.1 h.1.2 hs.1) (okT c t _ h.1.1.2) (okSs c hsc b _ h.2 hs.2)
    · cases h
  | .pass, st, h, hs => by
    unfold tS at h
    split at h
    · exact s_pass
    · cases h
  | .brk, st, h, hs => by
    unfold tS at h
    split at h
    · exact s_brk
    · cases h
  | .cont, st, h, hs => by
    unfold tS at h
    split at h
    · exact s_cont
    · cases h
theorem okSs {X : Cx} {N : List Str} {sc : Scope} {fn : Str → Bool} {k : Nat} (c : Cxt X N sc fn k) (hsc : sc.kind = .function) : ∀ (ss : Sts) (sts : List Stmt), tSs N sc fn ss sts = true → hSs (FA X k) (GA X) ss → PSs X sts (liftS X.K (wSs ss))
  | .nil, sts, h, hs => by
    unfold tSs at h
    split at h
    · exact s_nil
    · cases h
  | .cons s ss, sts, h, hs => by
    unfold tSs at h
    split at h
    · cases h
    · rw [Bool.and_eq_true] at h
      have e : wSs (.cons s ss) = fun E σ h => wS s {nx := wSs ss E, rt := E.rt, bk := E.bk, ct := E.ct} σ h := by funext E σ h; simp only [wSs]
      rw [e]
      exact s_cons (okS c hsc s _ h.1 hs.1) (okSs c hsc ss _ h.2 hs.2)
end
end G

/-! Defs by their bodies; what a def may forget; the deck; the law's end. -/
namespace G
open PySem PySem.Spec PyProof.Rows L2

/-- h knows no more than h' -/
def Hd.le (h h' : Hd) : Prop := ∀ n, h n = h' n ∨ h n = none
theorem Hd.le.refl (h : Hd) : h.le h := fun _ => .inl rfl
theorem Hd.le.trans {a b c : Hd} (x : a.le b) (y : b.le c) : a.le c := fun n => by
  rcases x n with e | e
  · rcases y n with f | f
    · exact .inl (e.trans f)
    · exact .inr (e.trans f)
  · exact .inr e
theorem Hd.le.set {h g : Hd} {n : Nat} {c : Cell} (x : h.le g) (e : h n = none) : h.le (g.set n c) := fun k => by
  by_cases hk : k = n
  · rw [hk]; exact .inr e
  · rw [Hd.set_ne hk]; exact x k
theorem Hd.le.some {h g : Hd} {n : Nat} {c : Cell} (x : h.le g) (e : h n = some c) : g n = some c := by
  rcases x n with z | z
  · rw [← z]; exact e
  · rw [z] at e; cases e
theorem Hd.le.none {h g : Hd} {n : Nat} (x : h.le g) (e : g n = none) : h n = none := by
  rcases x n with z | z
  · rw [z]; exact e
  · exact z
theorem rel_le {K : PySem.W.Frag} {w : Wd} {h g : Hd} (x : h.le g) (rel : RelW K w g) : RelW K w h ∧ Ext w w g h :=
  ⟨⟨rel.inj, fun n c e => rel.has n c (x.some e), fun n c e => rel.live n c (x.some e), rel.there, rel.fin, rel.deck, rel.dks⟩,
    ⟨fun _ _ e => e, fun _ e => e, fun _ _ _ e => e, fun _ q => .inl q, fun n a e q f => ⟨x.none q, rfl, f⟩⟩⟩

/-- cells that nobody may change any more -/
def Wd.ice (w : Wd) (p : Nat → Prop) : Wd := { w with fz := fun k => p k ∨ w.fz k }
theorem ice_mut {w : Wd} {p : Nat → Prop} {a : Addr} (q : (w.ice p).mut a) : w.mut a := by
  rcases q with ⟨n, e, f⟩ | q
  · exact .inl ⟨n, e, fun z => f (.inr z)⟩
  · exact .inr q
theorem rel_ice {K : PySem.W.Frag} {w : Wd} {h g : Hd} {p : Nat → Prop} (x : h.le g) (hp : ∀ n, p n → h n = none ∧ ∃ c, g n = some c) (rel : RelW K w g) : RelW K (w.ice p) h ∧ Ext w (w.ice p) g h := by
  have y : Ext w (w.ice p) g h := ⟨fun _ _ e => e, fun _ e => e, fun _ _ _ e => e, fun a q => .inl (ice_mut q), fun n a e q f => ⟨x.none q, rfl, fun z => z.elim (fun z => by
    obtain ⟨_, c, e⟩ := hp n z
    rw [q] at e; cases e) f⟩⟩
  refine ⟨⟨fun n k a e1 e2 f1 f2 => rel.inj n k a e1 e2 (fun z => f1 (.inr z)) fun z => f2 (.inr z), fun n c e => ?_, fun n c e z => z.elim (fun z => ?_) (rel.live n c (x.some e)), rel.there, rel.fin,
    fun q e => ⟨(rel.deck q e).1, fun n f => (rel.deck q e).2 n fun z => f (.inr z)⟩, rel.dks⟩, y⟩
  · obtain ⟨a, e1, rc⟩ := rel.has n c (x.some e)
    refine ⟨a, e1, ?_⟩
    cases c with
    | lst ds =>
      obtain ⟨xs, e2, r, l⟩ := rc
      exact ⟨xs, e2, r.mono y, l⟩
    | dK kvs =>
      obtain ⟨xs, e2, e3, r⟩ := rc
      exact ⟨xs, e2, e3, r.mono y⟩
  · rw [(hp n z).1] at e; cases e
theorem ice_nmut {K : PySem.W.Frag} {w : Wd} {g : Hd} {p : Nat → Prop} {n : Nat} {c : Cell} {a : Addr} (rel : RelW K w g) (e : g n = some c) (ea : w.m n = some a) (hp : p n) : ¬ (w.ice p).mut a := fun q => by
  have f := rel.live n c e
  rcases q with ⟨k, ek, fk⟩ | ⟨q, eq, z⟩
  · have := rel.inj k n a ek ea (fun z => fk (.inr z)) f
    exact fk (.inl (this ▸ hp))
  · have d := (rel.deck q eq).2 n f
    rcases z with z | z
    · exact d.1 (z ▸ ea)
    · exact d.2 (z ▸ ea)
/-- the deck's two cells -/
def DeckC (h : Hd) (n k : Nat) : Prop := ∃ (ns : List Int) (s t : Int), h n = some (.lst [.ref k, .int s, .int t]) ∧ h k = some (.lst (ns.map D.int)) ∧ ns.length ≤ 63
theorem rds_ints {K : PySem.W.Frag} {w : Wd} : ∀ {ns : List Int} {xs : List V}, RDs K w (ns.map D.int) xs → xs = ns.map V.int
  | [], _, .nil => rfl
  | n :: ns, _, .cons (.int _) t => by rw [rds_ints t]; rfl
theorem ints_rds {K : PySem.W.Frag} {w : Wd} : ∀ (ns : List Int), RDs K w (ns.map D.int) (ns.map V.int)
  | [] => .nil
  | n :: ns => .cons (.int n) (ints_rds ns)

/-- an answer, where cells may be forgotten, a list be finished, a deck be made -/
inductive Out (Q : Pq) : D → Hd → Prop
  | is {d : D} {h' h : Hd} (s : h.le h') (q : Q d h) : Out Q d h'
  | fin {n : Nat} {ds : List D} {h' h : Hd} (e : h' n = some (.lst ds)) (s : h.le h') (z : h n = none) (q : Q (.lst ds) h) : Out Q (.ref n) h'
  | deck {n k : Nat} {h' h : Hd} (e : DeckC h' n k) (s : h.le h') (z : h n = none) (zk : h k = none) (q : Q .deck h) : Out Q (.ref n) h'

/-- two cells become a deck -/
def Wd.decked (w : Wd) (n k : Nat) (a b : Addr) : Wd := { w.ice (fun i => i = n ∨ i = k) with dk := fun p => p = (a, b) ∨ w.dk p }
theorem rel_deck {K : PySem.W.Frag} {w : Wd} {h g : Hd} {n k : Nat} {a b : Addr} (rel : RelW K w g) (dc : DeckC g n k) (ea : w.m n = some a) (eb : w.m k = some b) (x : h.le g) (z : h n = none) (zk : h k = none) :
    RelW K (w.decked n k a b) h ∧ Ext w (w.decked n k a b) g h := by
  obtain ⟨ns, s, t, e1, e2, l⟩ := dc
  obtain ⟨a', ea', xs, ha, ra, _⟩ := rel.has n _ e1
  obtain ⟨b', eb', ys, hb, rb, _⟩ := rel.has k _ e2
  cases ea.symm.trans ea'
  cases eb.symm.trans eb'
  have fn := rel.live n _ e1
  have fk := rel.live k _ e2
  have hy := rds_ints rb
  subst hy
  have hx : xs = [.ref b, .int s, .int t] := by
    cases ra with
    | cons r1 ra => cases ra with
      | cons r2 ra => cases ra with
        | cons r3 ra =>
          cases ra
          cases r2; cases r3
          cases r1 with
          | ref e =>
            cases e.symm.trans eb
            rfl
  subst hx
  have nk : n ≠ k := fun z => by
    subst z
    rw [e1] at e2
    cases ns with
    | nil => cases e2
    | cons _ _ => simp at e2
  have nab : a ≠ b := fun z => nk (rel.inj n k a ea (z ▸ eb) fn fk)
  have dk0 : ∀ p, w.dk p → p.1 ≠ a ∧ p.2 ≠ a ∧ p.1 ≠ b ∧ p.2 ≠ b := fun p hp => by
    have d1 := (rel.deck p hp).2 n fn
    have d2 := (rel.deck p hp).2 k fk
    exact ⟨fun z => d1.1 (z ▸ ea), fun z => d1.2 (z ▸ ea), fun z => d2.1 (z ▸ eb), fun z => d2.2 (z ▸ eb)⟩
  let w' := w.decked n k a b
  have mu : ∀ c, w'.mut c → w.mut c := fun c q => by
    rcases q with ⟨i, e, f⟩ | ⟨p, e, q⟩
    · exact .inl ⟨i, e, fun z => f (.inr z)⟩
    · rcases e with rfl | e
      · rcases q with rfl | rfl
        · exact .inl ⟨n, ea, fn⟩
        · exact .inl ⟨k, eb, fk⟩
      · exact .inr ⟨p, e, q⟩
  have y : Ext w w' g h := ⟨fun _ _ e => e, fun _ e => .inr e, fun _ _ _ e => e, fun c q => .inl (mu c q), fun i c e q f => ⟨x.none q, rfl, fun z => z.elim (fun z => z.elim (fun z => by
    rw [z, e1] at q; cases q) fun z => by rw [z, e2] at q; cases q) f⟩⟩
  refine ⟨⟨fun i j c i1 i2 f1 f2 => rel.inj i j c i1 i2 (fun z => f1 (.inr z)) fun z => f2 (.inr z), fun i c e => ?_, fun i c e q => ?_, rel.there, rel.fin, fun p e => ?_, fun p q hp hq i => ?_⟩, y⟩
  · obtain ⟨a, i1, rc⟩ := rel.has i c (x.some e)
    refine ⟨a, i1, ?_⟩
    cases c with
    | lst ds =>
      obtain ⟨xs, i2, r, l⟩ := rc
      exact ⟨xs, i2, r.mono y, l⟩
    | dK kvs =>
      obtain ⟨xs, i2, i3, r⟩ := rc
      exact ⟨xs, i2, i3, r.mono y⟩
  · rcases q with (q | q) | q
    · rw [q, z] at e; cases e
    · rw [q, zk] at e; cases e
    · exact rel.live i c (x.some e) q
  · rcases e with rfl | e
    · refine ⟨⟨nab, ns, s, t, ha, hb, l⟩, fun i f => ⟨fun j => ?_, fun j => ?_⟩⟩
      · exact f (.inl (.inl (rel.inj i n a j ea (fun z => f (.inr z)) fn)))
      · exact f (.inl (.inr (rel.inj i k b j eb (fun z => f (.inr z)) fk)))
    · exact ⟨(rel.deck p e).1, fun i f => (rel.deck p e).2 i fun z => f (.inr z)⟩
  · rcases hp with rfl | hp
    · rcases hq with rfl | hq
      · rfl
      · obtain ⟨d1, d2, d3, d4⟩ := dk0 q hq
        rcases i with i | i | i
        · exact absurd i.symm d1
        · exact absurd i.symm d2
        · exact absurd i.symm d4
    · rcases hq with rfl | hq
      · obtain ⟨d1, d2, d3, d4⟩ := dk0 p hp
        rcases i with i | i | i
        · exact absurd i d1
        · exact absurd i d3
        · exact absurd i d4
      · exact rel.dks p q hp hq i
theorem Out.post {K : PySem.W.Frag} {w : Wd} {h : Hd} {QD : Pq} {Q : VK} (post : Post K w h QD Q) : Post K w h (Out QD) Q := by
  intro w' h' d v x rel r q
  cases q with
  | is s q =>
    obtain ⟨rel2, x2⟩ := rel_le s rel
    exact post w' _ d v (x.trans x2) rel2 r q
  | @fin n ds _ g e s z q =>
    cases r with
    | @ref _ a ea =>
      obtain ⟨rel2, x2⟩ := rel_ice (p := fun i => i = n) s (fun i hi => by rw [hi]; exact ⟨z, _, e⟩) rel
      obtain ⟨a', ea', xs, hx, rx, lx⟩ := rel.has n _ e
      cases ea.symm.trans ea'
      exact post (w'.ice fun i => i = n) g (.lst ds) (.ref a) (x.trans x2) rel2 (.lst ⟨ice_nmut rel e ea rfl, hx⟩ lx (rx.mono x2)) q
  | @deck n k _ g e s z zk q =>
    cases r with
    | @ref _ a ea =>
      obtain ⟨ns, i, j, e1, e2, l⟩ := e
      obtain ⟨b, eb, _⟩ := rel.has k _ e2
      obtain ⟨rel2, x2⟩ := rel_deck rel ⟨ns, i, j, e1, e2, l⟩ ea eb s z zk
      exact post (w'.decked n k a b) g .deck (.ref a) (x.trans x2) rel2 (.deck (p := (a, b)) (.inl rfl)) q

/-! ### a def by its body -/
def startD (N : List Str) (ds : List D) : Sl := ds.map some ++ List.replicate (N.length - ds.length) none
theorem start_rel {K : PySem.W.Frag} {wd : Wd} {N : List Str} {ds : List D} {vs : List V} (r : RDs K wd ds vs) : RSl K wd (startD N ds) (L2.start N vs) := by
  have hl := r.length
  refine ⟨?_, fun i d e => ?_⟩
  · unfold startD L2.start
    simp [hl]
  · unfold startD at e
    by_cases hi : i < ds.length
    · rw [List.getElem?_append_left (by simpa using hi), List.getElem?_map] at e
      cases q : ds[i]? with
      | none => rw [q] at e; cases e
      | some d' =>
        rw [q] at e; cases e
        obtain ⟨v, e1, e2⟩ := r.get q
        refine ⟨v, ?_, e2⟩
        unfold L2.start
        rw [List.getElem?_append_left (by rw [List.length_map, ← hl]; exact hi), List.getElem?_map, e1]
        rfl
    · rw [List.getElem?_append_right (by simpa using hi), List.getElem?_replicate] at e
      split at e <;> cases e
/-- the module has no names of its own where the text means the built-in ones -/
structure NoOwn (mg : Str → Option Value) (base : Heap) : Prop where
  bl : ∀ b : Bl, mg b.name = none
  ty : ∀ t : Ty, mg t.nm = none
  rng : mg "range" = none
  more : ∀ x ∈ moreN, mg x = none
  sys : ∃ o, base.get? sysModules = some o
section
variable {P : Program} {w : World} {K : PySem.W.Frag} {mg : Str → Option Value} {base : Heap}
theorem fn_body {x qual : Str} {st : Stmt} {f : Addr} {fd : FuncData} {N ps : List Str} {k : Nat} {sp : Spd} {code : Sts} (F : Fun K x qual st f fd) (S : FnScope N ps (defScope st)) (hn : NoOwn mg base)
    (ht : tSs N (defScope st) (fun _ => true) code (defBody st) = true) (hh : hSs (FnAt P w K mg base k) (GlAt w K mg) code) (len : ∀ ds h Q, sp ds h Q → ds.length = ps.length)
    (body : ∀ ds h Q, sp ds h Q → wSs code { nx := fun _ h' => Out Q .non h', rt := Out Q } (startD N ds) h) : FnG P w K mg base (k + 1) f fd ps sp := by
  obtain ⟨oc, od, kV, doc, pm, an, cdv, ct, osl, rfl, lk, hcd⟩ := F.ex
  refine ⟨len, fun A outer s wd h ds args us vs QD Q hr hg e0 hb rv rel rd q post => ?_⟩
  have old : ∀ b o, base.get? b = some o → s.heap.get? b = some o := fun b o e => (e0.bs b o e).1
  have inS : K.In s.heap := e0.mod.kin.keeps old
  refine codeAny_call_function hr.depth (inS _ _ lk) rfl S.co S.gen rfl (PySem.W.codeRec_of inS hcd) (hb _ _ _ _ ?_)
  refine wpAny_newFunctionEnv_cells S.kind (fun y hy => ?_) fun env he s1 xc => ?_
  · obtain ⟨n, v⟩ := y
    rcases S.par n (List.of_mem_zip hy).1 with z | z
    · exact .inl z
    · exact .inr ⟨z, PySem.W.cellsFrom_some _ _ _ (.inl z)⟩
  · subst he
    refine ⟨(e0.mod.nolimit.keeps old).keeps xc.toInCall.keep, codeAny_func ?_⟩
    have I := inv_start (CX := CX0) (qual := qual) (f := f) (cd := cdv) (E := E0) S hr.hd e0 (by rw [← rd.length]; exact len _ _ _ q) rv xc
    have c : Cxt (cxOf CX0 P w K mg base N qual (defScope st) f cdv A outer s wd.H E0).nox N (defScope st) (fun _ => true) k := ⟨rfl, S.nd, rfl, rfl, rfl, rfl, hr.deeper _, hg, hn.bl, hn.ty, hn.rng, hn.more, hn.sys⟩
    have go := (okSs c S.kind code _ ht hh).nox
    refine wpAny_mono (go.run [] s1 (L2.start N vs) wd.H { nx := fun _ H' => Q .non H', rt := Q } I ⟨wd, startD N ds, h, _, rfl, rel, start_rel rd, body ds h QD q, ?_, Out.post post, fun _ _ _ _ _ _ _ z => z, fun _ _ _ _ _ _ _ z => z⟩) (fun fl s' hs => ?_) fun e s' hs => hs
    · exact fun w' h' σd σ x' rel' _ q' => Out.post post w' h' .non .non x' rel' .non q'
    · cases fl with
      | ret u =>
        obtain ⟨v, _, H', J, r', q'⟩ := hs
        exact ⟨v, H', J.os, J.bare, J.base, J.hok, r', q'⟩
      | next =>
        obtain ⟨_, H', J, q'⟩ := hs
        exact ⟨.non, H', J.os, J.bare, J.base, J.hok, rfl, q'⟩
      | brk => obtain ⟨_, _, _, z⟩ := hs; exact False.elim z
      | cont => obtain ⟨_, _, _, z⟩ := hs; exact False.elim z
/-- what of a def's parameters is fixed by its text -/
def plainArgs (st : Stmt) (ps : List Str) : Bool := decide ((defArgs st).args.map (·.arg) = ps) && (defArgs st).posonlyargs.isEmpty && (defArgs st).vararg.isNone && (defArgs st).kwonlyargs.isEmpty && (defArgs st).kwarg.isNone && decide ps.Nodup
theorem fn_at {x qual : Str} {st : Stmt} {f : Addr} {fd : FuncData} {N ps : List Str} {k : Nat} {sp : Spd} {code : Sts} (F : Fun K x qual st f fd) (hf : mg x = some (.ref f)) (hp : plainArgs st ps = true) (S : FnScope N ps (defScope st)) (hn : NoOwn mg base)
    (ht : tSs N (defScope st) (fun _ => true) code (defBody st) = true) (hh : hSs (FnAt P w K mg base k) (GlAt w K mg) code) (len : ∀ ds h Q, sp ds h Q → ds.length = ps.length)
    (body : ∀ ds h Q, sp ds h Q → wSs code { nx := fun _ h' => Out Q .non h', rt := Out Q } (startD N ds) h) : FnAt P w K mg base (k + 1) x ps sp := by
  refine ⟨f, fd, hf, F.kp, ?_, fn_body F S hn ht hh len body⟩
  obtain ⟨oc, od, kV, doc, pm, an, cdv, ct, osl, rfl, lk, hcd⟩ := F.ex
  unfold plainArgs at hp
  simp only [Bool.and_eq_true, decide_eq_true_eq, List.isEmpty_iff, Option.isNone_iff_eq_none] at hp
  exact ⟨hp.1.1.1.1.1, hp.1.1.1.1.2, hp.1.1.1.2, hp.1.1.2, hp.1.2, rfl, hp.2⟩
end

/-! ### drawing: a def that turns a deck's cells, called with the deck -/
/-- of the deck's cells alone -/
def spCell : Spd := fun ds h Q => ∃ (n k : Nat) (m : Int), ds = [.ref n, .int m] ∧ (1 ≤ m ∧ m.natAbs.log2 < 9000) ∧ n ≠ k ∧ DeckC h n k ∧ ∀ r h', 0 ≤ r → r < m → DeckC h' n k → Q (.int r) h'
/-- of the deck -/
def spDraw : Spd := fun ds h Q => ∃ m : Int, ds = [.deck, .int m] ∧ (1 ≤ m ∧ m.natAbs.log2 < 9000) ∧ ∀ r, 0 ≤ r → r < m → Q (.int r) h
section
variable {P : Program} {w : World} {K : PySem.W.Frag} {mg : Str → Option Value} {base : Heap}
theorem draw_deck {k : Nat} {x : Str} {ps : List Str} (F : FnAt P w K mg base k x ps spCell) : FnAt P w K mg base k x ps spDraw := by
  obtain ⟨f, fd, a1, a2, a3, F⟩ := F.ex
  refine ⟨f, fd, a1, a2, a3, ?_, ?_⟩
  · rintro ds h Q ⟨m, rfl, hm, q⟩
    exact F.len [.ref 0, .int m] (fun i => if i = 0 then some (.lst [.ref 1, .int 0, .int 0]) else some (.lst [])) (fun _ _ => True) ⟨0, 1, m, rfl, hm, by omega, ⟨[], 0, 0, rfl, rfl, by decide⟩, fun _ _ _ _ _ => trivial⟩
  · rintro A outer s wd h ds args us vs QD Q hr hg e0 hb rv rel rd ⟨m, rfl, hm, q⟩ post
    cases rd with
    | cons r1 rd => cases rd with
      | cons r2 rd =>
        cases rd
        cases r2
        cases r1 with
        | @deck p ep =>
          obtain ⟨⟨np, ns, i, j, e1, e2, l⟩, dn⟩ := rel.deck p ep
          let w1 : Wd := { m := fun i => if i = 0 then some p.1 else if i = 1 then some p.2 else none, fz := fun _ => False, H := wd.H, dk := fun _ => False }
          let h1 : Hd := fun z => if z = 0 then some (.lst [.ref 1, .int i, .int j]) else if z = 1 then some (.lst (ns.map D.int)) else none
          have m0 : w1.m 0 = some p.1 := rfl
          have m1 : w1.m 1 = some p.2 := rfl
          have m2 : ∀ n a, w1.m n = some a → (n = 0 ∧ a = p.1) ∨ (n = 1 ∧ a = p.2) := fun n a e => by
            by_cases h0 : n = 0
            · subst h0
              cases m0.symm.trans e
              exact .inl ⟨rfl, rfl⟩
            · by_cases h1 : n = 1
              · subst h1
                cases m1.symm.trans e
                exact .inr ⟨rfl, rfl⟩
              · have : w1.m n = none := by show (if n = 0 then _ else if n = 1 then _ else _) = _; rw [if_neg h0, if_neg h1]
                rw [this] at e; cases e
          have mu : ∀ a, w1.mut a → a = p.1 ∨ a = p.2 := fun a z => by
            rcases z with ⟨n, e, _⟩ | ⟨_, z, _⟩
            · rcases m2 n a e with z | z
              · exact .inl z.2
              · exact .inr z.2
            · exact z.elim
          have rel1 : RelW K w1 h1 := by
            refine ⟨fun n k a z1 z2 _ _ => ?_, fun n c e => ?_, fun _ _ _ z => z, fun n a e => ?_, ⟨2, fun n hn => ?_⟩, fun _ z => z.elim, fun _ _ z => z.elim⟩
            · rcases m2 n a z1 with ⟨rfl, rfl⟩ | ⟨rfl, rfl⟩
              · rcases m2 k _ z2 with ⟨rfl, _⟩ | ⟨_, z⟩
                · rfl
                · exact absurd z np
              · rcases m2 k _ z2 with ⟨_, z⟩ | ⟨rfl, _⟩
                · exact absurd z.symm np
                · rfl
            · by_cases h0 : n = 0
              · subst h0
                cases (show h1 0 = some (.lst [.ref 1, .int i, .int j]) from rfl).symm.trans e
                exact ⟨p.1, m0, _, e1, .cons (.ref m1) (.cons (.int _) (.cons (.int _) .nil)), by show 3 ≤ _; decide⟩
              · by_cases h1' : n = 1
                · subst h1'
                  cases (show h1 1 = some (.lst (ns.map D.int)) from rfl).symm.trans e
                  exact ⟨p.2, m1, _, e2, ints_rds ns, by rw [List.length_map]; exact Nat.le_trans l (by decide)⟩
                · have : h1 n = none := by show (if n = 0 then _ else if n = 1 then _ else _) = _; rw [if_neg h0, if_neg h1']
                  rw [this] at e; cases e
            · rcases m2 n a e with ⟨_, rfl⟩ | ⟨_, rfl⟩
              · rw [e1]; simp
              · rw [e2]; simp
            · show (if n = 0 then _ else if n = 1 then _ else _) = _
              rw [if_neg (by omega), if_neg (by omega)]
          refine F.run A outer s w1 h1 [.ref 0, .int m] args us _ (fun d h' => ∃ r, d = .int r ∧ 0 ≤ r ∧ r < m ∧ DeckC h' 0 1) Q hr hg e0 hb rv rel1 (.cons (.ref m0) (.cons (.int _) .nil)) ⟨0, 1, m, rfl, hm, by omega, ⟨ns, i, j, rfl, rfl, l⟩, fun r h' z1 z2 z3 => ⟨r, rfl, z1, z2, z3⟩⟩ fun w2 h2 d v x2 rel2 r2 => ?_
          rintro ⟨r, rfl, r0, r3, ns', i', j', g1, g2, l'⟩
          cases r2
          have kp : ∀ a o, a ≠ p.1 → a ≠ p.2 → wd.H a = some o → w2.H a = some o := fun a o z1 z2 e => x2.keep a o (fun z => (mu a z).elim z1 z2) e
          let w3 : Wd := { m := wd.m, fz := wd.fz, H := w2.H, dk := wd.dk }
          have off : ∀ n a, wd.m n = some a → ¬ wd.fz n → a ≠ p.1 ∧ a ≠ p.2 := fun n a e f => ⟨fun z => (dn n f).1 (z ▸ e), fun z => (dn n f).2 (z ▸ e)⟩
          have some_ : ∀ a, wd.H a ≠ none → ∃ o, wd.H a = some o := fun a z => by
            cases e : wd.H a with
            | none => exact absurd e z
            | some o => exact ⟨o, rfl⟩
          have x3 : Ext wd w3 h h := by
            refine ⟨fun _ _ e => e, fun _ e => e, fun a o z e => kp a o (fun y => z (.inr ⟨p, ep, .inl y⟩)) (fun y => z (.inr ⟨p, ep, .inr y⟩)) e, fun _ z => .inl z, fun n a e z f => ⟨z, ?_, f⟩⟩
            obtain ⟨o, eo⟩ := some_ a (rel.there n a e)
            obtain ⟨z1, z2⟩ := off n a e f
            exact (kp a o z1 z2 eo).trans eo.symm
          -- the deck's cells as they are now
          obtain ⟨b1, eb1, xs, hx, rx, _⟩ := rel2.has 0 _ g1
          obtain ⟨b2, eb2, ys, hy, ry, _⟩ := rel2.has 1 _ g2
          cases (x2.m 0 _ m0).symm.trans eb1
          cases (x2.m 1 _ m1).symm.trans eb2
          have hy' := rds_ints ry
          subst hy'
          have hx' : xs = [.ref p.2, .int i', .int j'] := by
            cases rx with
            | cons r1 ra => cases ra with
              | cons r2 ra => cases ra with
                | cons r3 ra =>
                  cases ra
                  cases r2; cases r3
                  cases r1 with
                  | ref e =>
                    cases e.symm.trans (x2.m 1 _ m1)
                    rfl
          subst hx'
          have there : ∀ a, wd.H a ≠ none → w2.H a ≠ none := fun a z => by
            obtain ⟨o, eo⟩ := some_ a z
            by_cases z1 : a = p.1
            · rw [z1, hx]; simp
            · by_cases z2 : a = p.2
              · rw [z2, hy]; simp
              · rw [kp a o z1 z2 eo]; simp
          have rel3 : RelW K w3 h := by
            refine ⟨rel.inj, fun n c e => ?_, rel.live, fun n a e => there a (rel.there n a e), rel.fin, fun q eq => ?_, rel.dks⟩
            · obtain ⟨a, ea, rc⟩ := rel.has n c e
              obtain ⟨z1, z2⟩ := off n a ea (rel.live n c e)
              refine ⟨a, ea, ?_⟩
              cases c with
              | lst ds =>
                obtain ⟨xs, i2, r, l⟩ := rc
                exact ⟨xs, kp a _ z1 z2 i2, r.mono x3, l⟩
              | dK kvs =>
                obtain ⟨xs, i2, i3, r⟩ := rc
                exact ⟨xs, kp a _ z1 z2 i2, i3, r.mono x3⟩
            · obtain ⟨⟨nq, ms, s1, s2, f1, f2, fl⟩, dn'⟩ := rel.deck q eq
              refine ⟨?_, dn'⟩
              by_cases hq : q = p
              · subst hq
                exact ⟨nq, ns', i', j', hx, hy, l'⟩
              · have z1 : q.1 ≠ p.1 := fun z => hq (rel.dks q p eq ep (.inl z))
                have z2 : q.1 ≠ p.2 := fun z => hq (rel.dks q p eq ep (.inr (.inl z)))
                have z3 : q.2 ≠ p.1 := fun z => hq (rel.dks p q ep eq (.inr (.inl z.symm))).symm
                have z4 : q.2 ≠ p.2 := fun z => hq (rel.dks q p eq ep (.inr (.inr z)))
                exact ⟨nq, ms, s1, s2, kp _ _ z1 z2 f1, kp _ _ z3 z4 f2, fl⟩
          exact post w3 h (.int r) (.int r) x3 rel3 (.int r) (q r r0 r3)
end
end G

/-! The law's end. -/
namespace G
open PySem PySem.Spec PyProof.Rows L2

/-- the law's own promise -/
def spLaw : Spd := fun ds _ Q => ds = [.scr] ∧ ∀ h', Q (.bl true) h'
/-- nothing is known but the script -/
def wd0 (H : Hp) : Wd := { m := fun _ => none, fz := fun _ => False, H := H, dk := fun _ => False }
theorem rel0 {K : PySem.W.Frag} {H : Hp} : RelW K (wd0 H) fun _ => none :=
  ⟨fun _ _ _ e => (by cases e), fun _ _ e => (by cases e), fun _ _ e => (by cases e), fun _ _ e => (by cases e), ⟨0, fun _ _ => rfl⟩, fun _ e => e.elim, fun _ _ e => e.elim⟩
theorem mut0 {H : Hp} {a : Addr} : ¬ (wd0 H).mut a := fun q => by
  rcases q with ⟨_, e, _⟩ | ⟨_, e, _⟩
  · cases e
  · exact e
/-- the script's track: none where the module owns it -/
def trackOf (a : Addr) (o : HO) (own : Bool) : Hp := fun b => if own = true then none else if b = a then some o else none
section
variable {P : Program} {w : World} {K : PySem.W.Frag} {mg mb : Str → Option Value} {k : Nat} {fa a : Addr} {x y : Str} {s₁ : Shared} {vs : List Value} {ns : List Int}
theorem end_call (KX : K.In s₁.heap) (hns : s₁.heap.Ns mainGlobals mg) (hb : s₁.heap.Ns builtinsNs mb) (hbb : ∀ x : Str, x ≠ "__name__" → mb x = bootBuiltins x) (hlim : s₁.heap.NoLimit) (hg : s₁.gens = #[])
    (ha : s₁.heap.get? a = some { cls := .type "list", data := .seq vs.toArray }) (hi : IntsAre vs ns) (hl : ns.length ≤ 63) (hr : Room k callerA) (hmg : mg y = some (.ref fa))
    (hsy : ∃ ms, s₁.heap.Ns sysModules ms)
    (F : ∀ base : Heap, K.In base → base.Ns mainGlobals mg → (∃ o, base.get? sysModules = some o) → FnAt P w K mg base k y [x] spLaw) :
    codeAny (model P w) callerA (.call (.ref fa) ⟨[.ref a], []⟩) (fun r s' => r = .ok (.ret (.bool true)) ∧ OldK s₁.heap s'.heap ∧ s'.os = s₁.os ∧ AllBare s'.gens) s₁ := by
  let ob : Obj := { cls := .type "list", data := .seq vs.toArray }
  have line : ns.length ≤ sizeLine := Nat.le_trans hl (by decide)
  let own := (K.lookup a).isSome
  let H : Hp := trackOf a (.frz ob (.lst (ns.map V.int))) own
  have off : ∀ b, b ≠ a → H b = none := fun b n => by
    show (if own = true then _ else if b = a then _ else _) = _
    rw [if_neg n]
    split <;> rfl
  have onOwn : own = true → ∀ b, H b = none := fun e b => if_pos e
  have onA : own = false → H a = some (.frz ob (.lst (ns.map V.int))) := fun e => by
    show (if own = true then _ else if a = a then _ else _) = _
    rw [if_neg (by rw [e]; decide), if_pos rfl]
  have kind : ∀ {b : Addr} {o : Obj} {es : Array DictEntry} {ep : Nat}, s₁.heap.get? b = some o → o.data = .dict es ep → H b = none := fun {b o es ep} e d => by
    by_cases hb : b = a
    · subst hb
      cases ha.symm.trans e
      cases d
    · exact off b hb
  have keepNs : ∀ {b : Addr} {m : Str → Option Value}, s₁.heap.Ns b m → (hidT s₁.heap H).Ns b m := fun ⟨o, es, ep, e, d, r⟩ => ⟨o, es, ep, hidT_get e (kind e d), d, r⟩
  have kin : K.In (hidT s₁.heap H) := fun b o e => hidT_get (KX b o e) (by
    by_cases hb : b = a
    · subst hb
      exact onOwn (by show (K.lookup b).isSome = true; rw [e]; rfl) b
    · exact off b hb)
  have hM : Mod K mg (hidT s₁.heap H) := by
    obtain ⟨mc, l1, l2⟩ := hlim
    exact ⟨kin, keepNs hns, ⟨mb, keepNs hb, hbb⟩, mc, keepNs l1, l2⟩
  have hok : HOk P w H s₁.heap := fun b o e => by
    cases eo : own with
    | true => rw [onOwn eo b] at e; cases e
    | false =>
      by_cases hb : b = a
      · subst hb
        cases (onA eo).symm.trans e
        exact ⟨ha, by rw [List.length_map]; exact line, vs, _, vals_ints hi, ha⟩
      · rw [off b hb] at e; cases e
  have sq : SqL K H a (ns.map V.int) := by
    cases eo : K.lookup a with
    | none => exact .inl (.inr ⟨ob, onA (by show (K.lookup a).isSome = false; rw [eo]; rfl)⟩)
    | some o =>
      cases ha.symm.trans (KX a o eo)
      exact .inr ⟨_, vs.toArray, _, eo, rfl, rfl, rfl, by rw [List.size_toArray, hi.length]; exact line, by simpa using vals_ints hi⟩
  have e0 : Env0 P w K mg (hidT s₁.heap H) callerA [] s₁ H := ⟨rfl, hM, fun _ _ e => of_hidT e, Nat.le_of_eq (hidT_size _ _), trivial, fun _ z => absurd z List.not_mem_nil, hok, .of_eq hg⟩
  have sysin : ∃ o, (hidT s₁.heap H).get? sysModules = some o := by
    obtain ⟨_, o, es, ep, e, d, _⟩ := hsy
    exact ⟨o, hidT_get e (kind e d)⟩
  obtain ⟨f, fd, e1, e2, e3, G⟩ := (F _ kin (keepNs hns) sysin).ex
  cases hmg.symm.trans e1
  refine codeAny_mono (G.run callerA [] s₁ (wd0 H) (fun _ => none) [.scr] ⟨[.ref a], []⟩ [.ref a] [.ref a] (fun d _ => d = .bl true) (fun v _ => v = .bl true) hr rfl e0 (fn_binds e3 rfl) (.cons rfl .nil) rel0 (.cons (.scr sq hl (.inl mut0)) .nil) ⟨rfl, fun _ => rfl⟩ fun w' h' d v _ _ r q => ?_) fun r s' z => ?_
  · subst q
    cases r
    rfl
  · match r, z with
    | .ok (.ret u), z =>
      obtain ⟨v, H', os, bare, un, hok', r', q⟩ := z
      cases (show v = .bl true from q)
      cases (show u = Value.bool true from r')
      refine ⟨rfl, OldK.of_keep fun b o e => ?_, os, bare⟩
      by_cases hb : H b = none
      · exact un.keep b o e hb List.not_mem_nil List.not_mem_nil
      · have hba : b = a := Decidable.byContradiction fun n => hb (off b n)
        subst hba
        have eo : own = false := by
          cases z : own with
          | false => rfl
          | true => exact absurd (onOwn z b) hb
        cases ha.symm.trans e
        exact (hok' b _ (un.frzs b ob _ (onA eo))).1
    | .ok .next, z => exact z.elim
    | .ok .brk, z => exact z.elim
    | .ok .cont, z => exact z.elim
    | .error e, z => exact z.elim
end
theorem walk_end {l : PySem.W.OpenLaw} {n k : Nat} {q : Program} {loose : List Str} {XP : (Str → Option Value) → Heap → Prop} {YP : World → Heap → Prop} {d : DefRec} {K : Params → PySem.W.Frag} {x : Str}
    (hn : l.most = some n) (hn2 : n ≤ 63) (hq : importsNone q = true) (hdf : d.params.defaults = []) (hr : Room k callerA) (hY : ∀ (w : World) (h : Heap), YP w h → (K w.params).In h)
    (F : ∀ (w : World) (mg : Str → Option Value) (h : Heap), (K w.params).In h → h.Ns mainGlobals mg → ∀ base : Heap, (K w.params).In base → base.Ns mainGlobals mg → (∃ o, base.get? sysModules = some o) → FnAt l.prog w (K w.params) mg base k d.name [x] spLaw) :
    PySem.W.WalkO q loose XP YP l.row.toRowW d [] (fun f vs => PySem.call f vs) :=
  Att.attach_call hn hdf fun w s₀ s₁ mg mb fa o pm cd doc a vs ns G Y ho hd hcd hmg hobj hints hlen hg =>
    end_call (hY w _ Y) G.T.g G.T.b G.T.builtins G.T.nolimit hg hobj hints (Nat.le_trans hlen hn2) hr hmg (let ⟨mm, h, _⟩ := (G.T.seer hq).mods; ⟨mm, h⟩) (F w mg _ (hY w _ Y) G.T.g)
end G

/-! Plain helps for readings; the defs that every law has: deck, draw, pick. -/
namespace G
open PySem PySem.Spec PyProof.Rows L2

theorem cut_ints (ns : List Int) (lo hi : Option Int) : ∃ ms : List Int, cutD (ns.map D.int) lo hi = ms.map D.int ∧ ms.length ≤ ns.length := by
  unfold cutD
  rw [← List.map_drop, ← List.map_take]
  refine ⟨_, rfl, ?_⟩
  rw [List.length_take, List.length_drop]
  omega
/-- a comprehension that leaves the heap as it is -/
theorem compL_fm {g : D → (Sl → Prop) → Prop} {t : WT} {e : WE} {stay : Hd → Prop} {h : Hd} {Q : List D → Hd → Prop} (p : D → Bool) (f : D → D) (P : D → Prop) (hs : stay h)
    (step : ∀ d, P d → ∀ (Y : D → Hd → Prop) (Z : Hd → Prop), (p d = true → Y (f d) h) → (p d = false → Z h) → g d fun σ => t σ h fun b h1 => if b = true then e σ h1 Y else Z h1) :
    ∀ (ds acc : List D), (∀ d ∈ ds, P d) → Q (acc ++ (ds.filter p).map f) h → compL g t e stay ds acc h Q
  | [], acc, _, q => ⟨hs, by simpa using q⟩
  | d :: ds, acc, hp, q => by
    refine ⟨hs, step d (hp d (by simp)) _ _ (fun y => ?_) fun z => ?_⟩
    · exact compL_fm p f P hs step ds _ (fun d m => hp d (by simp [m])) (by simpa [y] using q)
    · exact compL_fm p f P hs step ds _ (fun d m => hp d (by simp [m])) (by simpa [z] using q)
/-- the same, each turn's value one of some -/
theorem compL_any {g : D → (Sl → Prop) → Prop} {t : WT} {e : WE} {stay : Hd → Prop} {h : Hd} {Q : List D → Hd → Prop} (R : D → D → Prop) (hs : stay h)
    (step : ∀ d (Y : D → Hd → Prop) (Z : Hd → Prop), (∀ v, R d v → Y v h) → g d fun σ => t σ h fun b h1 => if b = true then e σ h1 Y else Z h1) :
    ∀ (ds acc : List D), (∀ vs : List D, vs.length = ds.length → (∀ (i : Nat) (d v : D), ds[i]? = some d → vs[i]? = some v → R d v) → Q (acc ++ vs) h) → compL g t e stay ds acc h Q
  | [], acc, q => ⟨hs, by simpa using q [] rfl (fun i d v e => by simp at e)⟩
  | d :: ds, acc, q => by
    refine ⟨hs, step d _ _ fun v rv => ?_⟩
    refine compL_any R hs step ds _ fun vs hl hv => ?_
    have := q (v :: vs) (by simp [hl]) (fun i d' v' e1 e2 => by
      cases i with
      | zero => simp at e1 e2; subst e1; subst e2; exact rv
      | succ i => exact hv i d' v' (by simpa using e1) (by simpa using e2))
    simpa using this
/-- a for by what stands ahead of each turn -/
theorem forL_ind {g : D → Sl → (Sl → Prop) → Prop} {b : Ed → Sl → Hd → Prop} {stay : Hd → Prop} {E : Ed} (I : List D → Sl → Hd → Prop) (h0 : ∀ σ h, I [] σ h → stay h ∧ E.nx σ h)
    (h1 : ∀ d ds σ h (C : Sl → Hd → Prop), I (d :: ds) σ h → (∀ σ' h', I ds σ' h' → C σ' h') → stay h ∧ g d σ fun σ' => b { nx := C, ct := C, bk := E.nx, rt := E.rt } σ' h) :
    ∀ ds σ h, I ds σ h → forL g b stay E ds σ h
  | [], σ, h, i => h0 σ h i
  | d :: ds, σ, h, i => h1 d ds σ h _ i fun σ' h' i' => forL_ind I h0 h1 ds σ' h' i'
/-- flat lists of whole numbers -/
theorem areD_ints : ∀ ns : List Int, D.areD (ns.map D.int) = true
  | [] => by simp only [List.map_nil, D.areD]
  | n :: ns => by simp only [List.map_cons, D.areD, D.isD, areD_ints ns, Bool.and_self]
theorem pys_ints : ∀ ns : List Int, D.pys (ns.map D.int) = ns.map PyData.int
  | [] => by simp only [List.map_nil, D.pys]
  | n :: ns => by simp only [List.map_cons, D.pys, D.py, pys_ints ns]
theorem lay_ints : ∀ ns : List Int, PyData.canLayAll0 (ns.map PyData.int) = true
  | [] => by simp only [List.map_nil, PyData.canLayAll0]
  | n :: ns => by simp only [List.map_cons, PyData.canLayAll0, PyData.canLay0, lay_ints ns, Bool.and_self]
theorem dep_ints : ∀ ns : List Int, PyData.depthAll (ns.map PyData.int) = 0
  | [] => by simp only [List.map_nil, PyData.depthAll]
  | n :: ns => by simp only [List.map_cons, PyData.depthAll, PyData.depth, dep_ints ns, Nat.max_self]
theorem shaped_ints (ns : List Int) : SeqAt.shaped (D.lst (ns.map D.int)).py = true := by
  simp only [D.py, SeqAt.shaped, PyData.canLay0, PyData.depth, pys_ints, lay_ints, dep_ints]
  rfl
theorem isD_ints (ns : List Int) : (D.lst (ns.map D.int)).isD = true := by simp only [D.isD, areD_ints]
theorem eqvAll_nil (xs : List PyData) : PyData.eqvAll xs [] = xs.isEmpty := by cases xs <;> simp only [PyData.eqvAll, List.isEmpty]
/-- a list of whole numbers beside the empty list -/
theorem ne_nil_ints {ns : List Int} {h : Hd} {Q : Pq} (q : Q (.bl (!ns.isEmpty)) h) : eqD true (.lst (ns.map D.int)) (.lst []) h Q := by
  unfold eqD
  simp only [view]
  refine ⟨.of ⟨isD_ints ns, by simp only [D.isD, D.areD], shaped_ints ns, by decide⟩, ?_⟩
  have e : PyData.eqv (D.lst (ns.map D.int)).py (D.lst []).py = ns.isEmpty := by
    simp only [D.py, D.pys, PyData.eqv, eqvAll_nil, pys_ints]
    cases ns <;> rfl
  rw [e]
  exact q

/-! ### _law_deck -/
abbrev N__law_deck : List Str := ["_law_script", "_law_cells", "_law_cell"]
def c__law_deck : Sts := (.cons (.asg (.nm 1) (.blt .list (.cons (.sl (.var 0) .none (.some (.cst (.int 63)))) .nil)))
  (.cons (.ret (.new (.cons (.rev true (.var 1)) (.cons (.bin .Add (.blt .sum (.cons (.lc false [("_law_cell", 2)] (.nm 2) (.seq (.var 1)) .none (.bin .Mod (.var 2) (.cst (.int 1000003)))) .nil)) (.bin .Mult (.cst (.int 7919)) (.blt .len (.cons (.var 1) .nil)))) (.cons (.cst (.int 0)) .nil)))))
  .nil))
def sp__law_deck : Spd := fun ds h Q => ds = [.scr] ∧ Q .deck h
theorem b__law_deck (ds : List D) (h : Hd) (Q : Pq) (q : sp__law_deck ds h Q) : wSs c__law_deck { nx := fun _ h' => Out Q .non h', rt := Out Q } (startD N__law_deck ds) h := by
  obtain ⟨rfl, q⟩ := q
  show wSs c__law_deck _ [some .scr, none, none] h
  simp only [c__law_deck, wSs, wS, wT, wTo, wE, wA, wO, wI, getS, gT, gTs, setAll, List.getElem?_cons_zero, List.getElem?_cons_succ, List.set_cons_zero, List.set_cons_succ, binD, augD, iaddD, imulD, addD, subD, mulD, fdivD, modD, powD, negD, cmpD, eqD, ordD, truthD, boolD, intO, view, subsD, sliceD, listed, dicted, bltD, seqD, seqI, zipI, zipSI, anyI, lstI, enumI, revI, starI, lenTs, mthD, lstOf, mAppend, mPop, mExtend, mUpper, mJoin, strsOf, tyD, Mt.T, setD, wipeD, List.map_cons, List.map_nil, Bool.false_eq_true, if_true, if_false, ↓reduceIte]
  intro ns hns k hk
  obtain ⟨ms, e, l⟩ := cut_ints ns none (some 63)
  rw [e]
  refine compL_fm (fun _ => true) (fun d => match d with | .int i => .int (i % 1000003) | d => d) (fun d => ∃ i, d = .int i) trivial ?_ _ _ ?_ ?_
  · rintro d ⟨i, rfl⟩ Y Z y z
    simp only [wSs, wS, wT, wTo, wE, wA, wO, wI, getS, gT, gTs, setAll, List.getElem?_cons_zero, List.getElem?_cons_succ, List.set_cons_zero, List.set_cons_succ, binD, augD, iaddD, imulD, addD, subD, mulD, fdivD, modD, powD, negD, cmpD, eqD, ordD, truthD, boolD, intO, view, subsD, sliceD, listed, dicted, bltD, seqD, seqI, zipI, zipSI, anyI, lstI, enumI, revI, starI, lenTs, mthD, lstOf, mAppend, mPop, mExtend, mUpper, mJoin, strsOf, tyD, Mt.T, setD, wipeD, List.map_cons, List.map_nil, Bool.false_eq_true, if_true, if_false, ↓reduceIte]
    exact ⟨by decide, y rfl⟩
  · intro d hd
    obtain ⟨i, _, rfl⟩ := List.mem_map.mp hd
    exact ⟨i, rfl⟩
  · have e2 : [] ++ List.map (fun d => match d with | .int i => .int (i % 1000003) | d => d) (List.filter (fun _ => true) (ms.map D.int)) = (ms.map (· % 1000003)).map D.int := by
      rw [List.nil_append, List.filter_eq_self.mpr (fun _ _ => rfl), List.map_map, List.map_map]
      rfl
    rw [e2]
    simp only [intsOf_map, wSs, wS, wT, wTo, wE, wA, wO, wI, getS, gT, gTs, setAll, List.getElem?_cons_zero, List.getElem?_cons_succ, List.set_cons_zero, List.set_cons_succ, binD, augD, iaddD, imulD, addD, subD, mulD, fdivD, modD, powD, negD, cmpD, eqD, ordD, truthD, boolD, intO, view, subsD, sliceD, listed, dicted, bltD, seqD, seqI, zipI, zipSI, anyI, lstI, enumI, revI, starI, lenTs, mthD, lstOf, mAppend, mPop, mExtend, mUpper, mJoin, strsOf, tyD, Mt.T, setD, wipeD, List.map_cons, List.map_nil, Bool.false_eq_true, if_true, if_false, ↓reduceIte]
    refine ⟨.inl (by decide), fun n hn => ?_⟩
    have nk : k ≠ n := fun z => by rw [z, Hd.set_same] at hn; cases hn
    have hn' : h n = none := by rw [Hd.set_ne (fun z => nk z.symm)] at hn; exact hn
    refine Out.deck (k := k) (h := h) ⟨ms.reverse, _, _, Hd.set_same, ?_, by rw [List.length_reverse]; omega⟩ ((Hd.le.set (Hd.le.refl h) hk).set hn') hn' hk q
    rw [Hd.set_ne nk, Hd.set_same, List.map_reverse]

/-! ### _law_draw -/
abbrev N__law_draw : List Str := ["_law_deck_here", "_law_many", "_law_cell", "_law_mixed"]
def c_mix : Sts := (.cons (.asg (.nm 3) (.bin .Mod (.bin .Mult (.bin .Add (.bin .Add (.bin .Mod (.var 2) (.cst (.int 2147483629))) (.bin .Mult (.cst (.int 65537)) (.sub (.var 0) (.cst (.int 2))))) (.cst (.int 19))) (.cst (.int 48271))) (.cst (.int 2147483647))))
  (.cons (.asg (.nm 3) (.bin .Mod (.bin .Add (.bin .Add (.bin .Mult (.var 3) (.var 3)) (.bin .Mult (.cst (.int 69621)) (.sub (.var 0) (.cst (.int 2))))) (.cst (.int 23))) (.cst (.int 2147483587))))
  (.cons (.ret (.bin .Mod (.bin .FloorDiv (.bin .Mod (.bin .Add (.bin .Mult (.var 3) (.var 3)) (.bin .Mult (.cst (.int 39373)) (.var 3))) (.cst (.int 2147483563))) (.cst (.int 64))) (.var 1)))
  .nil)))
def c__law_draw : Sts := (.cons (.put (.var 0) (.cst (.int 2)) (.bin .Add (.sub (.var 0) (.cst (.int 2))) (.cst (.int 1))))
  (.cons (.asg (.nm 2) (.sub (.var 0) (.cst (.int 1))))
  (.cons (.ite (.val (.cmp .NotEq (.sub (.var 0) (.cst (.int 0))) (.lst .nil)))
  (.cons (.asg (.nm 2) (.mth .pop (.sub (.var 0) (.cst (.int 0))) .nil))
    (.cons (.ite (.val (.cmp .GtE (.var 2) (.bin .Pow (.cst (.int 10)) (.cst (.int 18)))))
    (.cons (.exp (.mth .append (.sub (.var 0) (.cst (.int 0))) (.cons (.bin .FloorDiv (.var 2) (.var 1)) .nil)))
      (.cons (.ret (.bin .Mod (.var 2) (.var 1)))
      .nil))
    .nil)
    .nil))
  .nil)
  c_mix)))
theorem nil_or_last {α : Type} (ns : List α) : ns = [] ∨ ∃ ms x, ns = ms ++ [x] := by
  rcases List.eq_nil_or_concat ns with h | ⟨ms, x, h⟩
  · exact .inl h
  · exact .inr ⟨ms, x, by rw [h, List.concat_eq_append]⟩
theorem at30 {α : Type} (a b c : α) : atI [a, b, c] 0 = some a := rfl
theorem at31 {α : Type} (a b c : α) : atI [a, b, c] 1 = some b := rfl
theorem at32 {α : Type} (a b c : α) : atI [a, b, c] 2 = some c := rfl
theorem ix32 {α : Type} (a b c : α) : ixN [a, b, c].length 2 = some 2 := rfl
theorem set32 {α : Type} (a b c d : α) : [a, b, c].set 2 d = [a, b, d] := rfl
/-- the mixing behind a draw -/
theorem b_mix {h : Hd} {n k : Nat} {s t c m : Int} {Q : Pq} (hn : h n = some (.lst [.ref k, .int s, .int t])) (hm : 1 ≤ m ∧ m.natAbs.log2 < 9000) {x3 : Option D} (q : ∀ r, 0 ≤ r → r < m → Out Q (.int r) h) :
    wSs c_mix { nx := fun _ h' => Out Q .non h', rt := Out Q } [some (.ref n), some (.int m), some (.int c), x3] h := by
  unfold c_mix
  simp only [hn, at32, wSs, wS, wT, wTo, wE, wA, wO, wI, getS, gT, gTs, setAll, List.getElem?_cons_zero, List.getElem?_cons_succ, List.set_cons_zero, List.set_cons_succ, binD, augD, iaddD, imulD, addD, subD, mulD, fdivD, modD, powD, negD, cmpD, eqD, ordD, truthD, boolD, intO, view, subsD, sliceD, listed, dicted, bltD, seqD, seqI, zipI, zipSI, anyI, lstI, enumI, revI, starI, lenTs, mthD, lstOf, mAppend, mPop, mExtend, mUpper, mJoin, strsOf, tyD, Mt.T, setD, wipeD, List.map_cons, List.map_nil, Bool.false_eq_true, if_true, if_false, ↓reduceIte]
  refine ⟨by decide, .inl (by decide), .inr (.inl (by decide)), by decide, ?_⟩
  generalize hy : ((c % 2147483629 + 65537 * t + 19) * 48271) % 2147483647 = y
  have y1 : 0 ≤ y ∧ y < 2147483647 := by omega
  refine ⟨.inl (by omega), .inl (by decide), by decide, ?_⟩
  generalize hz : ((y * y + 69621 * t + 23) : Int) % 2147483587 = z
  have z1 : 0 ≤ z ∧ z < 2147483587 := by
    generalize y * y + 69621 * t + 23 = u at hz
    omega
  refine ⟨.inl (by omega), .inl (by decide), by decide, ⟨by decide, .inl (by decide)⟩, by omega, ?_⟩
  exact q _ (Int.emod_nonneg _ (by omega)) (Int.emod_lt_of_pos _ (by omega))
theorem b__law_draw (ds : List D) (h : Hd) (Q : Pq) (q : spCell ds h Q) : wSs c__law_draw { nx := fun _ h' => Out Q .non h', rt := Out Q } (startD N__law_draw ds) h := by
  obtain ⟨n, k, m, rfl, hm, nk, ⟨ns, s, t, hn, hk, l⟩, q⟩ := q
  show wSs c__law_draw _ [some (.ref n), some (.int m), none, none] h
  unfold c__law_draw
  simp only [wSs, wS, wT, wE, getS, List.getElem?_cons_zero, List.getElem?_cons_succ, subsD, hn, at32, binD, addD, view, setD, ix32, set32, Hd.set_same, at31, at30, gT, List.set_cons_zero, List.set_cons_succ, cmpD, wA]
  have hk1 : h.set n (.lst [.ref k, .int s, .int (t + 1)]) k = some (.lst (ns.map D.int)) := by rw [Hd.set_ne (fun z => nk z.symm)]; exact hk
  generalize hh : h.set n (.lst [.ref k, .int s, .int (t + 1)]) = h1
  have hn1 : h1 n = some (.lst [.ref k, .int s, .int (t + 1)]) := by rw [← hh]; exact Hd.set_same
  rw [hh] at hk1
  have e1 : ∀ Q', eqD true (.ref k) (.lst []) h1 Q' = eqD true (.lst (ns.map D.int)) (.lst []) h1 Q' := fun Q' => by unfold eqD; simp only [view, hk1]
  rw [e1]
  apply ne_nil_ints
  simp only [truthD, view]
  rcases nil_or_last ns with rfl | ⟨ms, x, rfl⟩
  · simp only [List.isEmpty_nil, Bool.not_true, Bool.false_eq_true, if_false]
    exact b_mix hn1 hm fun r r0 r1 => .is (Hd.le.refl _) (q r h1 r0 r1 ⟨[], s, t + 1, hn1, hk1, by decide⟩)
  · have ne : (ms ++ [x]).isEmpty = false := by cases ms <;> rfl
    have el : (List.map D.int (ms ++ [x]))[(List.map D.int (ms ++ [x])).length - 1]? = some (.int x) := by simp
    have dl : (List.map D.int (ms ++ [x])).dropLast = ms.map D.int := by simp
    simp only [ne, Bool.not_false, if_true, ↓reduceIte, wSs, wS, wE, wA, wT, hn1, at30, mthD, lstOf, hk1, mPop, el, dl, subsD, getS, List.getElem?_cons_zero, List.getElem?_cons_succ, gT, List.set_cons_zero, List.set_cons_succ]
    have l2 : ms.length + 1 ≤ 63 := by simpa using l
    generalize hh2 : h1.set k (.lst (ms.map D.int)) = h2
    have hn2 : h2 n = some (.lst [.ref k, .int s, .int (t + 1)]) := by rw [← hh2, Hd.set_ne nk]; exact hn1
    have hk2 : h2 k = some (.lst (ms.map D.int)) := by rw [← hh2]; exact Hd.set_same
    refine ⟨by simp only [tyD, Mt.T, hk1], ?_⟩
    simp only [wSs, wS, wT, wTo, wE, wA, wO, wI, getS, gT, gTs, setAll, List.getElem?_cons_zero, List.getElem?_cons_succ, List.set_cons_zero, List.set_cons_succ, binD, augD, iaddD, imulD, addD, subD, mulD, fdivD, modD, powD, negD, cmpD, eqD, ordD, truthD, boolD, intO, view, subsD, sliceD, listed, dicted, bltD, seqD, seqI, zipI, zipSI, anyI, lstI, enumI, revI, starI, lenTs, mthD, lstOf, mAppend, mPop, mExtend, mUpper, mJoin, strsOf, tyD, Mt.T, setD, wipeD, List.map_cons, List.map_nil, Bool.false_eq_true, if_true, if_false, ↓reduceIte, hn2, at30, hk2, Mt.T]
    refine ⟨by decide, ?_⟩
    split
    · refine ⟨trivial, ⟨by omega, .inr hm.2⟩, by rw [List.length_map]; exact Nat.lt_of_lt_of_le (by omega : _ < 64) (by decide), by omega, ?_⟩
      refine .is (Hd.le.refl _) (q _ _ (Int.emod_nonneg _ (by omega)) (Int.emod_lt_of_pos _ (by omega)) ⟨ms ++ [x / m], s, t + 1, ?_, ?_, by simpa using l⟩)
      · rw [Hd.set_ne nk]; exact hn2
      · rw [Hd.set_same, List.map_append]; rfl
    · exact b_mix hn2 hm fun r r0 r1 => .is (Hd.le.refl _) (q r h2 r0 r1 ⟨ms, s, t + 1, hn2, hk2, by omega⟩)

/-! ### _law_pick -/
def sp__law_draw : Spd := spDraw
abbrev N__law_pick : List Str := ["_law_deck_here", "_law_some"]
def c__law_pick : Sts := (.cons (.ret (.sub (.var 1) (.call "_law_draw" ["_law_deck_here", "_law_many"] sp__law_draw (.cons (.var 0) (.cons (.blt .len (.cons (.var 1) .nil)) .nil)))))
  .nil)
/-- one of a list or tuple -/
def sp__law_pick : Spd := fun ds h Q => ∃ (x : D) (xs : List D), ds = [.deck, x] ∧ (x = .lst xs ∨ x = .tup xs) ∧ (0 < xs.length ∧ xs.length ≤ 1000000) ∧ ∀ d ∈ xs, Q d h
theorem atI_of {xs : List D} {r : Int} (h0 : 0 ≤ r) (h1 : r < xs.length) : ∃ d ∈ xs, atI xs r = some d := by
  obtain ⟨j, rfl⟩ := Int.eq_ofNat_of_zero_le h0
  have hj : j < xs.length := by omega
  exact ⟨xs[j], List.getElem_mem hj, atI_nat (List.getElem?_eq_getElem hj)⟩
theorem b__law_pick (ds : List D) (h : Hd) (Q : Pq) (q : sp__law_pick ds h Q) : wSs c__law_pick { nx := fun _ h' => Out Q .non h', rt := Out Q } (startD N__law_pick ds) h := by
  obtain ⟨x, xs, rfl, hx, hl, q⟩ := q
  show wSs c__law_pick _ [some .deck, some x] h
  rcases hx with rfl | rfl
  all_goals
    simp only [c__law_pick, wSs, wS, wT, wTo, wE, wA, wO, wI, getS, gT, gTs, setAll, List.getElem?_cons_zero, List.getElem?_cons_succ, List.set_cons_zero, List.set_cons_succ, binD, augD, iaddD, imulD, addD, subD, mulD, fdivD, modD, powD, negD, cmpD, eqD, ordD, truthD, boolD, intO, view, subsD, sliceD, listed, dicted, bltD, seqD, seqI, zipI, zipSI, anyI, lstI, enumI, revI, starI, lenTs, mthD, lstOf, mAppend, mPop, mExtend, mUpper, mJoin, strsOf, tyD, Mt.T, setD, wipeD, List.map_cons, List.map_nil, Bool.false_eq_true, if_true, if_false, ↓reduceIte]
    refine ⟨_, rfl, ⟨by omega, Nat.lt_trans (log2_small (by omega)) (by decide)⟩, fun r r0 r1 => ?_⟩
    obtain ⟨d, hd, e⟩ := atI_of r0 r1
    simp only [e]
    exact .is (Hd.le.refl _) (q d hd)
end G

/-! What repr can show; whole numbers, primes by trial. -/
namespace G
open PySem PySem.Spec PyProof.Rows L2

/-- data that repr can show: at most dp deep, of weight at most wt, whole numbers of at most B signs -/
structure Fit (B dp wt : Nat) (d : D) : Prop where
  isD : d.isD = true
  sh : d.py.showable = true
  ly : d.py.canLay0 = true
  is : d.py.intsShort B = true
  dep : d.py.depth ≤ dp
  wgt : d.py.weight ≤ wt
theorem Fit.up {B dp wt dp' wt' : Nat} {d : D} (f : Fit B dp wt d) (h1 : dp ≤ dp') (h2 : wt ≤ wt') : Fit B dp' wt' d := ⟨f.isD, f.sh, f.ly, f.is, Nat.le_trans f.dep h1, Nat.le_trans f.wgt h2⟩
theorem Fit.int {i : Int} (h : i.natAbs < 10 ^ 12) : Fit 13 0 40 (.int i) := by
  have hl : i.natAbs ≠ 0 → i.natAbs.log2 < 40 := fun n => (Nat.log2_lt n).mpr (Nat.lt_of_lt_of_le h (by decide))
  have h0 : i.natAbs.log2 < 1920 := by
    by_cases n : i.natAbs = 0
    · rw [n]; decide
    · exact Nat.lt_trans (hl n) (by decide)
  refine ⟨by simp only [D.isD], by simp only [D.py, PyData.showable, h0, decide_true], by simp only [D.py, PyData.canLay0], ?_, by simp only [D.py, PyData.depth]; exact Nat.le_refl _, ?_⟩
  · simp only [D.py, PyData.intsShort, decide_eq_true_eq]
    exact PyData.shown_int_le h
  · simp only [D.py, PyData.weight]
    split
    · omega
    · rename_i z
      have : i.natAbs ≠ 0 := fun y => z (by rw [Int.natAbs_eq_zero.mp y]; rfl)
      exact hl this
theorem Fit.bl {b : Bool} {B : Nat} : Fit B 0 0 (.bl b) := ⟨by simp only [D.isD], by simp only [D.py, PyData.showable], by simp only [D.py, PyData.canLay0], by simp only [D.py, PyData.intsShort], by simp only [D.py, PyData.depth]; exact Nat.le_refl _, by simp only [D.py, PyData.weight]; exact Nat.le_refl _⟩
theorem Fit.non {B : Nat} : Fit B 0 0 .non := ⟨by simp only [D.isD], by simp only [D.py, PyData.showable], by simp only [D.py, PyData.canLay0], by simp only [D.py, PyData.intsShort], by simp only [D.py, PyData.depth]; exact Nat.le_refl _, by simp only [D.py, PyData.weight]; exact Nat.le_refl _⟩
theorem Fit.str {x : Str} {B n : Nat} (h : PyData.canLay0 (.str x) = true) (hn : x.cps.size ≤ n) : Fit B 0 n (.str x) := ⟨by simp only [D.isD], by simp only [D.py, PyData.showable], by simp only [D.py]; exact h, by simp only [D.py, PyData.intsShort], by simp only [D.py, PyData.depth]; exact Nat.le_refl _, by simp only [D.py, PyData.weight]; exact hn⟩
structure Fits (B dp wt : Nat) (ds : List D) : Prop where
  isD : D.areD ds = true
  sh : PyData.showableAll (D.pys ds) = true
  ly : PyData.canLayAll0 (D.pys ds) = true
  is : PyData.intsShortAll B (D.pys ds) = true
  dep : PyData.depthAll (D.pys ds) ≤ dp
  wgt : PyData.weightAll (D.pys ds) ≤ ds.length * (wt + 1)
theorem fits {B dp wt : Nat} : ∀ {ds : List D}, (∀ d ∈ ds, Fit B dp wt d) → Fits B dp wt ds
  | [], _ => ⟨by simp only [D.areD], by simp only [D.pys, PyData.showableAll], by simp only [D.pys, PyData.canLayAll0], by simp only [D.pys, PyData.intsShortAll], by simp only [D.pys, PyData.depthAll]; exact Nat.zero_le _, by simp only [D.pys, PyData.weightAll]; exact Nat.zero_le _⟩
  | d :: ds, h => by
    have f := h d (by simp)
    have g := fits (ds := ds) fun e he => h e (by simp [he])
    refine ⟨by simp only [D.areD, f.isD, g.isD, Bool.and_self], by simp only [D.pys, PyData.showableAll, f.sh, g.sh, Bool.and_self], by simp only [D.pys, PyData.canLayAll0, f.ly, g.ly, Bool.and_self], by simp only [D.pys, PyData.intsShortAll, f.is, g.is, Bool.and_self], ?_, ?_⟩
    · simp only [D.pys, PyData.depthAll]
      exact Nat.max_le.mpr ⟨f.dep, g.dep⟩
    · simp only [D.pys, PyData.weightAll, List.length_cons]
      have := f.wgt
      have := g.wgt
      rw [Nat.add_mul]
      omega
theorem Fit.tup {B dp wt : Nat} {ds : List D} (h : ∀ d ∈ ds, Fit B dp wt d) : Fit B (dp + 1) (ds.length * (wt + 1)) (.tup ds) := by
  have g := fits h
  exact ⟨by simp only [D.isD, g.isD], by simp only [D.py, PyData.showable, g.sh], by simp only [D.py, PyData.canLay0, g.ly], by simp only [D.py, PyData.intsShort, g.is], by simp only [D.py, PyData.depth]; exact Nat.succ_le_succ g.dep, by simp only [D.py, PyData.weight]; exact g.wgt⟩
theorem Fit.lst {B dp wt : Nat} {ds : List D} (h : ∀ d ∈ ds, Fit B dp wt d) : Fit B (dp + 1) (ds.length * (wt + 1)) (.lst ds) := by
  have g := fits h
  exact ⟨by simp only [D.isD, g.isD], by simp only [D.py, PyData.showable, g.sh], by simp only [D.py, PyData.canLay0, g.ly], by simp only [D.py, PyData.intsShort, g.is], by simp only [D.py, PyData.depth]; exact Nat.succ_le_succ g.dep, by simp only [D.py, PyData.weight]; exact g.wgt⟩
theorem Fit.shows {B dp wt : Nat} {d : D} (f : Fit B dp wt d) (hB : 8 ≤ B) (hd : dp ≤ 64) (hw : (B + 2) * wt + B ≤ 16777216) : Shows d := by
  refine ⟨isF_of d f.isD, f.sh, Nat.le_trans f.dep hd, ?_⟩
  have h1 := PyData.shown_le B hB d.py (PyData.leavesShort_of_canLay0 B d.py f.ly f.is)
  have h2 : (B + 2) * d.py.weight ≤ (B + 2) * wt := Nat.mul_le_mul_left _ f.wgt
  show _ ≤ 2 ^ 24
  omega

/-! ### _law_is_whole, _law_is_prime -/
abbrev N__law_is_whole : List Str := ["_law_it"]
def c__law_is_whole : Sts := (.cons (.ret (.and (.blt .isinst (.cons (.var 0) (.cons (.typ .int) .nil))) (.not (.blt .isinst (.cons (.var 0) (.cons (.typ .bool) .nil))))))
  .nil)
/-- the class of plain data -/
def isT (d : D) (t : Ty) : Bool := match d with
  | .bl _ => t == .bool || t == .int
  | .int _ => t == .int
  | .str _ => t == .str
  | .tup _ => t == .tuple
  | .lst _ => t == .list
  | .dic _ _ => t == .dict
  | _ => false
theorem isTy_F {h : Hd} {d : D} (hd : d.isF = true) (t : Ty) : isTy h d t = some (isT d t) := by
  cases d <;> first | rfl | (simp only [D.isF] at hd; cases hd)
theorem isTy_D {h : Hd} {d : D} (hd : d.isD = true) (t : Ty) : isTy h d t = some (isT d t) := by
  cases d <;> first | rfl | (simp only [D.isD] at hd; cases hd)
theorem isT_tup {d : D} (h : isT d .tuple = true) : ∃ ds, d = .tup ds := by
  cases d <;> first | exact ⟨_, rfl⟩ | cases h
theorem isT_lst {d : D} (h : isT d .list = true) : ∃ ds, d = .lst ds := by
  cases d <;> first | exact ⟨_, rfl⟩ | cases h
theorem isT_str {d : D} (h : isT d .str = true) : ∃ x, d = .str x := by
  cases d <;> first | exact ⟨_, rfl⟩ | cases h
def isWholeD : D → Bool
  | .int _ => true
  | _ => false
theorem isWholeD_eq (d : D) : isWholeD d = (isT d .int && !isT d .bool) := by cases d <;> rfl
theorem isWhole_int {d : D} (h : isWholeD d = true) : ∃ i, d = .int i := by
  cases d <;> first | exact ⟨_, rfl⟩ | cases h
def sp__law_is_whole : Spd := fun ds h Q => match ds with
  | [d] => d.isF = true ∧ Q (.bl (isWholeD d)) h
  | _ => False
theorem b__law_is_whole (ds : List D) (h : Hd) (Q : Pq) (q : sp__law_is_whole ds h Q) : wSs c__law_is_whole { nx := fun _ h' => Out Q .non h', rt := Out Q } (startD N__law_is_whole ds) h := by
  unfold sp__law_is_whole at q
  split at q
  · obtain ⟨hd, q⟩ := q
    rename_i d
    rw [isWholeD_eq] at q
    show wSs c__law_is_whole _ [some d] h
    simp only [c__law_is_whole, wSs, wS, wT, wTo, wE, wA, wO, wI, getS, gT, gTs, setAll, List.getElem?_cons_zero, List.getElem?_cons_succ, List.set_cons_zero, List.set_cons_succ, binD, augD, iaddD, imulD, addD, subD, mulD, fdivD, modD, powD, negD, cmpD, eqD, ordD, truthD, boolD, intO, view, subsD, sliceD, listed, dicted, bltD, seqD, seqI, zipI, zipSI, anyI, lstI, enumI, revI, starI, lenTs, mthD, lstOf, mAppend, mPop, mExtend, mUpper, mJoin, strsOf, tyD, Mt.T, setD, wipeD, List.map_cons, List.map_nil, Bool.false_eq_true, if_true, if_false, ↓reduceIte, isTy_F hd]
    cases e : isT d .int
    · rw [e] at q
      simp only [wSs, wS, wT, wTo, wE, wA, wO, wI, getS, gT, gTs, setAll, List.getElem?_cons_zero, List.getElem?_cons_succ, List.set_cons_zero, List.set_cons_succ, binD, augD, iaddD, imulD, addD, subD, mulD, fdivD, modD, powD, negD, cmpD, eqD, ordD, truthD, boolD, intO, view, subsD, sliceD, listed, dicted, bltD, seqD, seqI, zipI, zipSI, anyI, lstI, enumI, revI, starI, lenTs, mthD, lstOf, mAppend, mPop, mExtend, mUpper, mJoin, strsOf, tyD, Mt.T, setD, wipeD, List.map_cons, List.map_nil, Bool.false_eq_true, if_true, if_false, ↓reduceIte]
      exact .is (Hd.le.refl _) q
    · rw [e] at q
      simp only [wSs, wS, wT, wTo, wE, wA, wO, wI, getS, gT, gTs, setAll, List.getElem?_cons_zero, List.getElem?_cons_succ, List.set_cons_zero, List.set_cons_succ, binD, augD, iaddD, imulD, addD, subD, mulD, fdivD, modD, powD, negD, cmpD, eqD, ordD, truthD, boolD, intO, view, subsD, sliceD, listed, dicted, bltD, seqD, seqI, zipI, zipSI, anyI, lstI, enumI, revI, starI, lenTs, mthD, lstOf, mAppend, mPop, mExtend, mUpper, mJoin, strsOf, tyD, Mt.T, setD, wipeD, List.map_cons, List.map_nil, Bool.false_eq_true, if_true, if_false, ↓reduceIte]
      exact .is (Hd.le.refl _) q
  · exact q.elim
abbrev N__law_is_prime : List Str := ["_law_n", "_law_d"]
def c__law_is_prime_r1 : Sts := (.cons (.ret (.cst (.bl true)))
  .nil)
def c__law_is_prime_r2 : Sts := (.cons (.asg (.nm 1) (.bin .Add (.var 1) (.cst (.int 1))))
    .nil)
def c__law_is_prime_b3 : Sts := (.cons (.ite (.val (.cmp .Eq (.bin .Mod (.var 0) (.var 1)) (.cst (.int 0))))
    (.cons (.ret (.cst (.bl false)))
      .nil)
    .nil)
    c__law_is_prime_r2)
def c__law_is_prime_r4 : Sts := (.cons (.asg (.nm 1) (.cst (.int 2)))
  (.cons (.whl (.val (.cmp .LtE (.bin .Mult (.var 1) (.var 1)) (.var 0)))
  c__law_is_prime_b3)
  c__law_is_prime_r1))
def c__law_is_prime : Sts := (.cons (.ite (.val (.cmp .Lt (.var 0) (.cst (.int 2))))
  (.cons (.ret (.cst (.bl false)))
    .nil)
  .nil)
  c__law_is_prime_r4)
/-- no divisor by trial -/
def Trial (q : Int) : Prop := 2 ≤ q ∧ ∀ d : Int, 2 ≤ d → d * d ≤ q → q % d ≠ 0
/-- prime, by trial -/
noncomputable def trialB (q : Int) : Bool := @decide (Trial q) (Classical.propDecidable _)
theorem trialB_true {q : Int} (h : Trial q) : trialB q = true := @decide_eq_true _ (Classical.propDecidable _) h
theorem trialB_false {q : Int} (h : ¬ Trial q) : trialB q = false := @decide_eq_false _ (Classical.propDecidable _) h
def sp__law_is_prime : Spd := fun ds h Q => match ds with
  | [.int q] => q < 1000000000000000000 ∧ Q (.bl (trialB q)) h
  | _ => False
theorem b__law_is_prime (ds : List D) (h : Hd) (Q : Pq) (q : sp__law_is_prime ds h Q) : wSs c__law_is_prime { nx := fun _ h' => Out Q .non h', rt := Out Q } (startD N__law_is_prime ds) h := by
  unfold sp__law_is_prime at q
  split at q
  · rename_i n
    obtain ⟨hn, q⟩ := q
    show wSs c__law_is_prime _ [some (.int n), none] h
    simp only [c__law_is_prime, wSs, wS, wT, wTo, wE, wA, wO, wI, getS, gT, gTs, setAll, List.getElem?_cons_zero, List.getElem?_cons_succ, List.set_cons_zero, List.set_cons_succ, binD, augD, iaddD, imulD, addD, subD, mulD, fdivD, modD, powD, negD, cmpD, eqD, ordD, truthD, boolD, intO, view, subsD, sliceD, listed, dicted, bltD, seqD, seqI, zipI, zipSI, anyI, lstI, enumI, revI, starI, lenTs, mthD, lstOf, mAppend, mPop, mExtend, mUpper, mJoin, strsOf, tyD, Mt.T, setD, wipeD, List.map_cons, List.map_nil, Bool.false_eq_true, if_true, if_false, ↓reduceIte, decide_eq_true_eq]
    by_cases h2 : n < 2
    · rw [if_pos h2]
      rw [trialB_false fun t => by have := t.1; omega] at q
      exact .is (Hd.le.refl _) q
    · rw [if_neg h2]
      simp only [c__law_is_prime_r4, wSs, wS, wT, wTo, wE, wA, wO, wI, getS, gT, gTs, setAll, List.getElem?_cons_zero, List.getElem?_cons_succ, List.set_cons_zero, List.set_cons_succ, binD, augD, iaddD, imulD, addD, subD, mulD, fdivD, modD, powD, negD, cmpD, eqD, ordD, truthD, boolD, intO, view, subsD, sliceD, listed, dicted, bltD, seqD, seqI, zipI, zipSI, anyI, lstI, enumI, revI, starI, lenTs, mthD, lstOf, mAppend, mPop, mExtend, mUpper, mJoin, strsOf, tyD, Mt.T, setD, wipeD, List.map_cons, List.map_nil, Bool.false_eq_true, if_true, if_false, ↓reduceIte]
      refine ⟨fun m σ g => ∃ d : Int, σ = [some (.int n), some (.int d)] ∧ h = g ∧ 2 ≤ d ∧ d ≤ n + 1 ∧ (∀ e : Int, 2 ≤ e → e < d → n % e ≠ 0) ∧ (m : Int) = n + 1 - d, ⟨(n - 1).toNat, 2, rfl, rfl, by omega, by omega, fun e e1 e2 => by omega, by omega⟩, ?_⟩
      rintro m σ g ⟨d, rfl, rfl, d2, dn, hd, hm⟩
      simp only [wSs, wS, wT, wTo, wE, wA, wO, wI, getS, gT, gTs, setAll, List.getElem?_cons_zero, List.getElem?_cons_succ, List.set_cons_zero, List.set_cons_succ, binD, augD, iaddD, imulD, addD, subD, mulD, fdivD, modD, powD, negD, cmpD, eqD, ordD, truthD, boolD, intO, view, subsD, sliceD, listed, dicted, bltD, seqD, seqI, zipI, zipSI, anyI, lstI, enumI, revI, starI, lenTs, mthD, lstOf, mAppend, mPop, mExtend, mUpper, mJoin, strsOf, tyD, Mt.T, setD, wipeD, List.map_cons, List.map_nil, Bool.false_eq_true, if_true, if_false, ↓reduceIte, decide_eq_true_eq]
      refine ⟨.inl (by omega), ?_⟩
      split
      · rename_i dd
        have hdn : d ≤ n := by
          have : d * 1 ≤ d * d := Int.mul_le_mul_of_nonneg_left (by omega) (by omega)
          omega
        simp only [c__law_is_prime_b3, wSs, wS, wT, wTo, wE, wA, wO, wI, getS, gT, gTs, setAll, List.getElem?_cons_zero, List.getElem?_cons_succ, List.set_cons_zero, List.set_cons_succ, binD, augD, iaddD, imulD, addD, subD, mulD, fdivD, modD, powD, negD, cmpD, eqD, ordD, truthD, boolD, intO, view, subsD, sliceD, listed, dicted, bltD, seqD, seqI, zipI, zipSI, anyI, lstI, enumI, revI, starI, lenTs, mthD, lstOf, mAppend, mPop, mExtend, mUpper, mJoin, strsOf, tyD, Mt.T, setD, wipeD, List.map_cons, List.map_nil, Bool.false_eq_true, if_true, if_false, ↓reduceIte, decide_eq_true_eq]
        refine ⟨by omega, ?_⟩
        by_cases hz : n % d = 0
        · rw [if_pos hz]
          rw [trialB_false fun t => t.2 d d2 dd hz] at q
          exact .is (Hd.le.refl _) q
        · rw [if_neg hz]
          simp only [c__law_is_prime_r2, wSs, wS, wT, wTo, wE, wA, wO, wI, getS, gT, gTs, setAll, List.getElem?_cons_zero, List.getElem?_cons_succ, List.set_cons_zero, List.set_cons_succ, binD, augD, iaddD, imulD, addD, subD, mulD, fdivD, modD, powD, negD, cmpD, eqD, ordD, truthD, boolD, intO, view, subsD, sliceD, listed, dicted, bltD, seqD, seqI, zipI, zipSI, anyI, lstI, enumI, revI, starI, lenTs, mthD, lstOf, mAppend, mPop, mExtend, mUpper, mJoin, strsOf, tyD, Mt.T, setD, wipeD, List.map_cons, List.map_nil, Bool.false_eq_true, if_true, if_false, ↓reduceIte]
          refine ⟨m - 1, by omega, d + 1, by trivial, by trivial, by omega, by omega, fun e e1 e2 => ?_, by omega⟩
          by_cases ed : e = d
          · rw [ed]; exact hz
          · exact hd e e1 (by omega)
      · rename_i dd
        simp only [c__law_is_prime_r1, wSs, wS, wT, wTo, wE, wA, wO, wI, getS, gT, gTs, setAll, List.getElem?_cons_zero, List.getElem?_cons_succ, List.set_cons_zero, List.set_cons_succ, binD, augD, iaddD, imulD, addD, subD, mulD, fdivD, modD, powD, negD, cmpD, eqD, ordD, truthD, boolD, intO, view, subsD, sliceD, listed, dicted, bltD, seqD, seqI, zipI, zipSI, anyI, lstI, enumI, revI, starI, lenTs, mthD, lstOf, mAppend, mPop, mExtend, mUpper, mJoin, strsOf, tyD, Mt.T, setD, wipeD, List.map_cons, List.map_nil, Bool.false_eq_true, if_true, if_false, ↓reduceIte]
        have t : Trial n := ⟨by omega, fun e e1 e2 => hd e e1 (by
          rcases Int.lt_or_le e d with z | z
          · exact z
          · exact absurd (Int.le_trans (Int.mul_le_mul z z (by omega) (by omega)) e2) dd)⟩
        rw [trialB_true t] at q
        exact .is (Hd.le.refl _) q
  · exact q.elim
end G

/-! More helps for readings. -/
namespace G
open PySem PySem.Spec PyProof.Rows L2

theorem pickD {x : D} {xs : List D} {h : Hd} {Q : Pq} (hx : x = .lst xs ∨ x = .tup xs) (hl : 0 < xs.length ∧ xs.length ≤ 1000000) (q : ∀ d ∈ xs, Q d h) : sp__law_pick [.deck, x] h Q := ⟨x, xs, rfl, hx, hl, q⟩
theorem drawD {m : Int} {h : Hd} {Q : Pq} (hm : 1 ≤ m ∧ m < 4611686018427387904) (q : ∀ r, 0 ≤ r → r < m → Q (.int r) h) : sp__law_draw [.deck, .int m] h Q := ⟨m, rfl, ⟨hm.1, Nat.lt_trans (log2_small (by omega)) (by decide)⟩, q⟩
theorem drawG {m : Int} {h : Hd} {Q : Pq} (m0 : 1 ≤ m) (m1 : m.natAbs < 2 ^ 200) (q : ∀ r, 0 ≤ r → r < m → Q (.int r) h) : sp__law_draw [.deck, .int m] h Q := ⟨m, rfl, ⟨m0, by
  have : m.natAbs ≠ 0 := by omega
  exact Nat.lt_trans ((Nat.log2_lt this).mpr m1) (by decide)⟩, q⟩
/-- a for, turn by turn -/
theorem forL_ix {g : D → Sl → (Sl → Prop) → Prop} {b : Ed → Sl → Hd → Prop} {stay : Hd → Prop} {E : Ed} (ds : List D) (I : Nat → Sl → Hd → Prop) (h0 : ∀ σ h, I ds.length σ h → stay h ∧ E.nx σ h)
    (h1 : ∀ i d σ h (C : Sl → Hd → Prop), ds[i]? = some d → i < ds.length → I i σ h → (∀ σ' h', I (i + 1) σ' h' → C σ' h') → stay h ∧ g d σ fun σ' => b { nx := C, ct := C, bk := E.nx, rt := E.rt } σ' h) {σ : Sl} {h : Hd} (i0 : I 0 σ h) : forL g b stay E ds σ h := by
  refine forL_ind (fun es σ h => ∃ i, i + es.length = ds.length ∧ es = ds.drop i ∧ I i σ h) ?_ ?_ ds σ h ⟨0, by simp, by simp, i0⟩
  · rintro σ h ⟨i, l, e, q⟩
    have : i = ds.length := by simpa using l
    subst this
    exact h0 σ h q
  · rintro d es σ h C ⟨i, l, e, q⟩ hC
    have hi : i < ds.length := by simp at l; omega
    have hd : ds[i]? = some d := by
      have : (ds.drop i)[0]? = some d := by rw [← e]; rfl
      simpa using this
    have he : es = ds.drop (i + 1) := by
      have : (ds.drop i).drop 1 = es := by rw [← e]; rfl
      rw [← this, List.drop_drop]
    exact h1 i d σ h C hd hi q fun σ' h' q' => hC σ' h' ⟨i + 1, by simp at l; omega, he, q'⟩
theorem rngD_get {lo : Int} {n i : Nat} {d : D} (e : (rngD lo n)[i]? = some d) : d = .int (lo + (i : Nat)) ∧ i < n := by
  unfold rngD at e
  rw [List.getElem?_map] at e
  obtain ⟨j, ej, rfl⟩ := Option.map_eq_some_iff.mp e
  have hi : i < n := by
    have := (List.getElem?_eq_some_iff.mp ej).1
    simpa using this
  rw [List.getElem?_range hi] at ej
  cases ej
  exact ⟨rfl, hi⟩
theorem rngD_len (lo : Int) (n : Nat) : (rngD lo n).length = n := by unfold rngD; rw [List.length_map, List.length_range]
theorem rngD_mem {lo : Int} {n : Nat} {d : D} (h : d ∈ rngD lo n) : ∃ i : Nat, i < n ∧ d = .int (lo + (i : Nat)) := by
  unfold rngD at h
  obtain ⟨i, hi, rfl⟩ := List.mem_map.mp h
  exact ⟨i, List.mem_range.mp hi, rfl⟩
theorem forL_rng {g : D → Sl → (Sl → Prop) → Prop} {b : Ed → Sl → Hd → Prop} {stay : Hd → Prop} {E : Ed} {lo : Int} {n : Nat} (I : Nat → Sl → Hd → Prop) (h0 : ∀ σ h, I n σ h → stay h ∧ E.nx σ h)
    (h1 : ∀ i σ h (C : Sl → Hd → Prop), i < n → I i σ h → (∀ σ' h', I (i + 1) σ' h' → C σ' h') → stay h ∧ g (.int (lo + (i : Nat))) σ fun σ' => b { nx := C, ct := C, bk := E.nx, rt := E.rt } σ' h) {σ : Sl} {h : Hd} (i0 : I 0 σ h) : forL g b stay E (rngD lo n) σ h :=
  forL_ix (rngD lo n) I (by rw [rngD_len]; exact h0) (fun i d σ h C e hi q hC => by obtain ⟨rfl, hi⟩ := rngD_get e; exact h1 i σ h C hi q hC) i0
/-- each of some by a function -/
theorem compL_map {g : D → (Sl → Prop) → Prop} {t : WT} {e : WE} {stay : Hd → Prop} {h : Hd} {Q : List D → Hd → Prop} (f : D → D) (hs : stay h) : ∀ (ds acc : List D),
    (∀ d ∈ ds, ∀ (Y : D → Hd → Prop) (Z : Hd → Prop), Y (f d) h → g d fun σ => t σ h fun b h1 => if b = true then e σ h1 Y else Z h1) → Q (acc ++ ds.map f) h → compL g t e stay ds acc h Q
  | [], acc, _, q => ⟨hs, by simpa using q⟩
  | d :: ds, acc, step, q => ⟨hs, step d (by simp) _ _ (compL_map f hs ds _ (fun d m => step d (by simp [m])) (by simpa using q))⟩
theorem compL_flt {g : D → (Sl → Prop) → Prop} {t : WT} {e : WE} {stay : Hd → Prop} {h : Hd} {Q : List D → Hd → Prop} (p : D → Bool) (f : D → D) (hs : stay h) : ∀ (ds acc : List D),
    (∀ d ∈ ds, ∀ (Y : D → Hd → Prop) (Z : Hd → Prop), (p d = true → Y (f d) h) → (p d = false → Z h) → g d fun σ => t σ h fun b h1 => if b = true then e σ h1 Y else Z h1) → Q (acc ++ (ds.filter p).map f) h → compL g t e stay ds acc h Q
  | [], acc, _, q => ⟨hs, by simpa using q⟩
  | d :: ds, acc, step, q => ⟨hs, step d (by simp) _ _ (fun y => compL_flt p f hs ds _ (fun d m => step d (by simp [m])) (by simpa [y] using q)) fun z => compL_flt p f hs ds _ (fun d m => step d (by simp [m])) (by simpa [z] using q)⟩
theorem rg_up {i j c : Int} (c0 : 0 < c) (c1 : c < 1073741824) (i0 : -1000000000000000 ≤ i) (ij : i < j) (j0 : j < 1000000000000000) : RgC i j c ((j - i - 1) / c + 1).toNat := by
  have h0 : 0 ≤ (j - i - 1) / c := Int.ediv_nonneg (by omega) (by omega)
  have h1 : (j - i - 1) / c ≤ j - i - 1 := Int.ediv_le_self _ (by omega)
  have hr : Builtin.Range.rangeSize i j c = (j - i - 1) / c + 1 := by unfold Builtin.Range.rangeSize; rw [if_pos c0, if_pos ij]
  refine ⟨by omega, by omega, ?_, ?_⟩
  · unfold Builtin.Range.small
    rw [hr]
    have cp : c > 0 := c0
    simp only [Builtin.Range.rangeFitsLong, Bool.and_eq_true, Bool.or_eq_true, decide_eq_true_eq, beq_iff_eq, cp, if_true]
    generalize (j - i - 1) / c = q at *
    omega
  · rw [hr]; omega
theorem rg_none {i j c : Int} (c0 : 0 < c) (c1 : c < 1073741824) (i0 : -1000000000000000 ≤ i) (i1 : i < 1000000000000000) (ij : j ≤ i) (j0 : -1000000000000000 ≤ j) : RgC i j c 0 := by
  have hr : Builtin.Range.rangeSize i j c = 0 := by unfold Builtin.Range.rangeSize; rw [if_pos c0, if_neg (by omega)]
  refine ⟨by omega, by omega, ?_, ?_⟩
  · unfold Builtin.Range.small
    rw [hr]
    have cp : c > 0 := c0
    simp only [Builtin.Range.rangeFitsLong, Bool.and_eq_true, Bool.or_eq_true, decide_eq_true_eq, beq_iff_eq, cp, if_true]
    omega
  · rw [hr]; rfl
/-- whole numbers of k figures -/
theorem Fit.intK {i : Int} {k : Nat} (k0 : 0 < k) (k1 : k ≤ 570) (h : i.natAbs < 10 ^ k) : Fit (k + 1) 0 (4 * k) (.int i) := by
  have h16 : i.natAbs < 2 ^ (4 * k) := Nat.lt_of_lt_of_le h (by rw [Nat.pow_mul]; exact Nat.pow_le_pow_left (by decide) k)
  have p570 : 10 ^ k < 2 ^ 1920 := Nat.lt_of_le_of_lt (Nat.pow_le_pow_right (by decide) k1) (by decide +kernel)
  have h0 : i.natAbs.log2 < 1920 := by
    by_cases n : i.natAbs = 0
    · rw [n]; decide
    · exact (Nat.log2_lt n).mpr (Nat.lt_trans h p570)
  refine ⟨by simp only [D.isD], by simp only [D.py, PyData.showable, h0, decide_true], by simp only [D.py, PyData.canLay0], ?_, by simp only [D.py, PyData.depth]; exact Nat.le_refl _, ?_⟩
  · simp only [D.py, PyData.intsShort, decide_eq_true_eq]
    have e := int_text_length_le10 (k := k) k0 h
    show (Str.ofString (toString i)).length ≤ k + 1
    rw [PySem.ofString_length]; exact e
  · simp only [D.py, PyData.weight]
    split
    · omega
    · rename_i z
      have n0 : i.natAbs ≠ 0 := fun y => z (by rw [Int.natAbs_eq_zero.mp y]; rfl)
      exact (Nat.log2_lt n0).mpr h16
/-- a list of the same thing -/
theorem shows_same {B dp wt n : Nat} {d : D} {ds : List D} (f : Fit B dp wt d) (hB : 8 ≤ B) (hd : dp ≤ 63) (hs : ∀ e ∈ ds, e = d) (hn : ds.length ≤ n) (hw : (B + 2) * (n * (wt + 1)) + B ≤ 16777216) : Shows (.lst ds) :=
  ((Fit.lst (ds := ds) fun e he => by rw [hs e he]; exact f).up (Nat.le_refl _) (Nat.mul_le_mul_right _ hn)).shows hB (by omega) hw
theorem enum_mem {k : Nat} {ds : List D} {d : D} (h : d ∈ enumD k ds) : ∃ (i : Nat) (x : D), x ∈ ds ∧ d = .tup [.int (i : Nat), x] ∧ k ≤ i ∧ i < k + ds.length := by
  obtain ⟨j, hj⟩ := List.mem_iff_getElem?.mp h
  obtain ⟨a, ea, rfl⟩ := enumD_get hj
  have := (List.getElem?_eq_some_iff.mp ea).1
  exact ⟨j + k, a, List.mem_of_getElem? ea, rfl, by omega, by omega⟩
theorem mem_ints {ns : List Int} {d : D} (h : d ∈ ns.map D.int) : ∃ n ∈ ns, d = .int n := by
  obtain ⟨n, a, rfl⟩ := List.mem_map.mp h
  exact ⟨n, a, rfl⟩
theorem ints_get {ns : List Int} {i : Nat} {d : D} (e : (ns.map D.int)[i]? = some d) : ∃ n, ns[i]? = some n ∧ d = .int n := by
  rw [List.getElem?_map] at e
  obtain ⟨n, a, rfl⟩ := Option.map_eq_some_iff.mp e
  exact ⟨n, a, rfl⟩
theorem take_succ_get {α : Type} {xs : List α} {i : Nat} {x : α} (e : xs[i]? = some x) : xs.take (i + 1) = xs.take i ++ [x] := by
  rw [List.take_add_one, e]; rfl
theorem zip_mem {ds es : List D} {d : D} (h : d ∈ zipD ds es) : ∃ a b, a ∈ ds ∧ b ∈ es ∧ d = .tup [a, b] := by
  obtain ⟨i, e⟩ := List.mem_iff_getElem?.mp h
  obtain ⟨a, b, ea, eb, rfl⟩ := zipD_get e
  exact ⟨a, b, List.mem_of_getElem? ea, List.mem_of_getElem? eb, rfl⟩
/-- whole numbers from nought -/
def intsN (ns : List Nat) : List D := ns.map fun n => D.int ((n : Nat) : Int)
theorem intsN_len (ns : List Nat) : (intsN ns).length = ns.length := List.length_map _
theorem intsN_get {ns : List Nat} {i : Nat} {d : D} (e : (intsN ns)[i]? = some d) : ∃ n, ns[i]? = some n ∧ d = .int ((n : Nat) : Int) := by
  unfold intsN at e
  rw [List.getElem?_map] at e
  obtain ⟨n, a, rfl⟩ := Option.map_eq_some_iff.mp e
  exact ⟨n, a, rfl⟩
theorem intsN_mem {ns : List Nat} {d : D} (h : d ∈ intsN ns) : ∃ n ∈ ns, d = .int ((n : Nat) : Int) := by
  obtain ⟨n, a, rfl⟩ := List.mem_map.mp h
  exact ⟨n, a, rfl⟩
theorem intsN_ints (ns : List Nat) : intsN ns = (ns.map fun n : Nat => (n : Int)).map D.int := by
  unfold intsN
  rw [List.map_map]
  rfl
theorem eqv_nil (ds : List D) : PyData.eqv (D.lst ds).py (D.lst []).py = ds.isEmpty := by
  simp only [D.py, D.pys, PyData.eqv, eqvAll_nil]
  cases ds <;> simp only [D.pys, List.isEmpty_nil, List.isEmpty_cons]
theorem nilD : (D.lst []).isD = true := by simp only [D.isD, D.areD]
/-- a list of whole numbers beside the empty list: what is asked ahead -/
theorem cmp_nil (ns : List Int) : EqOk (D.lst (ns.map D.int)) (D.lst []) := .of ⟨isD_ints ns, nilD, shaped_ints ns, by decide⟩
theorem cmp_nilN (ns : List Nat) : EqOk (D.lst (intsN ns)) (D.lst []) := by
  rw [intsN_ints]
  exact cmp_nil _
theorem intsN_nil (ns : List Nat) : (intsN ns).isEmpty = ns.isEmpty := List.isEmpty_map
end G

/-! What operations come to, as sentences of their own (a proof that needs no unfolding). -/
namespace G
open PySem PySem.Spec PyProof.Rows L2
section
variable {h : Hd}
theorem vw_non : view h .non = .non := rfl
theorem vw_bl {b : Bool} : view h (.bl b) = .bl b := rfl
theorem vw_int {i : Int} : view h (.int i) = .int i := rfl
theorem vw_str {x : Str} : view h (.str x) = .str x := rfl
theorem vw_tup {ds : List D} : view h (.tup ds) = .tup ds := rfl
theorem vw_lst {ds : List D} : view h (.lst ds) = .lst ds := rfl
theorem vw_dic {ks : List Key} {ds : List D} : view h (.dic ks ds) = .dic ks ds := rfl
theorem vw_ref {n : Nat} : view h (.ref n) = match h n with | some (.lst ds) => .lst ds | _ => .ref n := rfl
theorem vw_F {d : D} (hd : d.isF = true) : view h d = d := by
  cases d <;> first | rfl | (simp [D.isF] at hd)
end
section
variable {i j : Int} {x y : Str} {xs ys : List D} {h : Hd} {Q : Pq} {b : Bool}
theorem w_add : binD .Add (.int i) (.int j) h Q ↔ Q (.int (i + j)) h := Iff.rfl
theorem w_sub : binD .Sub (.int i) (.int j) h Q ↔ Q (.int (i - j)) h := Iff.rfl
theorem w_mul : binD .Mult (.int i) (.int j) h Q ↔ MulOk i j ∧ Q (.int (i * j)) h := Iff.rfl
theorem w_div : binD .FloorDiv (.int i) (.int j) h Q ↔ DivOk j ∧ Q (.int (i / j)) h := Iff.rfl
theorem w_mod : binD .Mod (.int i) (.int j) h Q ↔ 0 < j ∧ Q (.int (i % j)) h := Iff.rfl
theorem w_addT : binD .Add (.tup xs) (.tup ys) h Q ↔ xs.length + ys.length ≤ sizeLine ∧ Q (.tup (xs ++ ys)) h := Iff.rfl
theorem w_addL : binD .Add (.lst xs) (.lst ys) h Q ↔ xs.length + ys.length ≤ sizeLine ∧ Q (.lst (xs ++ ys)) h := Iff.rfl
theorem w_neg : negD (.int i) h Q ↔ Q (.int (-i)) h := Iff.rfl
theorem w_eq : cmpD .Eq (.int i) (.int j) h Q ↔ Q (.bl (decide (i = j))) h := Iff.rfl
theorem w_ne : cmpD .NotEq (.int i) (.int j) h Q ↔ Q (.bl (!decide (i = j))) h := Iff.rfl
theorem w_eqS : cmpD .Eq (.str x) (.str y) h Q ↔ Q (.bl (decide (x = y))) h := Iff.rfl
theorem w_neS : cmpD .NotEq (.str x) (.str y) h Q ↔ Q (.bl (!decide (x = y))) h := Iff.rfl
theorem w_lt : cmpD .Lt (.int i) (.int j) h Q ↔ Q (.bl (decide (i < j))) h := Iff.rfl
theorem w_le : cmpD .LtE (.int i) (.int j) h Q ↔ Q (.bl (decide (i ≤ j))) h := Iff.rfl
theorem w_gt : cmpD .Gt (.int i) (.int j) h Q ↔ Q (.bl (decide (j < i))) h := Iff.rfl
theorem w_ge : cmpD .GtE (.int i) (.int j) h Q ↔ Q (.bl (decide (j ≤ i))) h := Iff.rfl
theorem w_isN {d : D} : cmpD .Is d .non h Q ↔ Q (.bl (isNon d)) h := Iff.rfl
theorem w_isNt {d : D} : cmpD .IsNot d .non h Q ↔ Q (.bl (!isNon d)) h := Iff.rfl
theorem w_subT {d : D} (e : atI xs i = some d) : subsD (.tup xs) (.int i) h Q ↔ Q d h := by simp only [subsD, view, e]
theorem w_subL {d : D} (e : atI xs i = some d) : subsD (.lst xs) (.int i) h Q ↔ Q d h := by simp only [subsD, view, e]
theorem w_lenT : bltD .len [.tup xs] h Q ↔ Q (.int (xs.length : Nat)) h := Iff.rfl
theorem w_lenL : bltD .len [.lst xs] h Q ↔ Q (.int (xs.length : Nat)) h := Iff.rfl
theorem w_tupL : bltD .tuple [.lst xs] h Q ↔ Q (.tup xs) h := Iff.rfl
theorem w_boolD {P : Bool → Prop} : boolD (.bl b) P ↔ P b := Iff.rfl
theorem w_truth {P : Bool → Prop} : truthD (.bl b) h P ↔ P b := Iff.rfl
theorem w_intO {P : Int → Prop} : intO (.int i) P ↔ P i := Iff.rfl
theorem w_gt0 {k : Nat} {d : D} {σ : Sl} {P : D → Prop} (e : σ[k]? = some (some d)) : getS σ k P ↔ P d := by unfold getS; rw [e]
theorem w_seqT {R : List D → (Hd → Prop) → Prop} : seqI (.tup xs) h R ↔ R xs fun _ => True := Iff.rfl
theorem w_seqL {R : List D → (Hd → Prop) → Prop} : seqI (.lst xs) h R ↔ R xs fun _ => True := Iff.rfl
theorem w_g0 {d : D} {σ : Sl} {P : D → Prop} : getS (some d :: σ) 0 P ↔ P d := Iff.rfl
theorem w_g1 {o : Option D} {k : Nat} {σ : Sl} {P : D → Prop} : getS (o :: σ) (k + 1) P ↔ getS σ k P := by unfold getS; rw [List.getElem?_cons_succ]
theorem w_tp {ts : Tgs} {σ : Sl} {P : Sl → Prop} : gT (.tp ts) (.tup xs) σ P ↔ gTs ts xs σ P := by simp only [gT]
theorem w_tn {σ : Sl} {P : Sl → Prop} : gTs .nil [] σ P ↔ P σ := by simp only [gTs]
theorem w_tc {t : Tg} {ts : Tgs} {d : D} {σ : Sl} {P : Sl → Prop} : gTs (.cons t ts) (d :: xs) σ P ↔ gT t d σ fun σ' => gTs ts xs σ' P := by simp only [gTs]
theorem w_nm {k : Nat} {d : D} {σ : Sl} {P : Sl → Prop} : gT (.nm k) d σ P ↔ P (σ.set k (some d)) := by simp only [gT]
end
end G

/-! Defs that are never called; defs that call themselves. -/
namespace G
open PySem PySem.Spec PyProof.Rows L2
/-- no call is right -/
def never : Spd := fun _ _ _ => False
section
variable {P : Program} {w : World} {K : PySem.W.Frag} {mg : Str → Option Value} {base : Heap}
theorem fn_never {x qual : Str} {st : Stmt} {f : Addr} {fd : FuncData} {ps : List Str} {k : Nat} (F : Fun K x qual st f fd) (hf : mg x = some (.ref f)) (hp : plainArgs st ps = true) : FnAt P w K mg base k x ps never := by
  refine ⟨f, fd, hf, F.kp, ?_, fun _ _ _ q => q.elim, fun _ _ _ _ _ _ _ _ _ _ _ _ _ _ _ _ _ _ q => q.elim⟩
  obtain ⟨oc, od, kV, doc, pm, an, cdv, ct, osl, rfl, lk, hcd⟩ := F.ex
  unfold plainArgs at hp
  simp only [Bool.and_eq_true, decide_eq_true_eq, List.isEmpty_iff, Option.isNone_iff_eq_none] at hp
  exact ⟨hp.1.1.1.1.1, hp.1.1.1.1.2, hp.1.1.1.2, hp.1.1.2, hp.1.2, rfl, hp.2⟩
/-- a def that calls itself: sp n is what it keeps of things of a depth below n -/
theorem fn_rec {x qual : Str} {st : Stmt} {f : Addr} {fd : FuncData} {N ps : List Str} {k : Nat} {sp : Nat → Spd} {code : Spd → Sts} (F : Fun K x qual st f fd) (hf : mg x = some (.ref f)) (hp : plainArgs st ps = true) (S : FnScope N ps (defScope st)) (hn : NoOwn mg base)
    (h0 : ∀ ds h Q, ¬ sp 0 ds h Q) (ht : ∀ s, tSs N (defScope st) (fun _ => true) (code s) (defBody st) = true) (hh : ∀ n, FnAt P w K mg base (k + n) x ps (sp n) → hSs (FnAt P w K mg base (k + n)) (GlAt w K mg) (code (sp n)))
    (len : ∀ n ds h Q, sp n ds h Q → ds.length = ps.length) (body : ∀ n ds h Q, sp (n + 1) ds h Q → wSs (code (sp n)) { nx := fun _ h' => Out Q .non h', rt := Out Q } (startD N ds) h) : ∀ n, FnAt P w K mg base (k + n) x ps (sp n)
  | 0 => (fn_never F hf hp).weak fun ds h Q q => h0 ds h Q q
  | n + 1 => fn_at F hf hp S hn (ht _) (hh n (fn_rec F hf hp S hn h0 ht hh len body n)) (len _) (body n)
end
end G

/-! Plain data by their size: what repr can show of them. -/
namespace G
open PySem PySem.Spec PyProof.Rows L2

mutual
/-- how many parts -/
def D.cnt : D → Nat
  | .tup ds => D.cnts ds + 1
  | .lst ds => D.cnts ds + 1
  | .dic ks ds => D.cnts ds + ks.length + 1
  | _ => 1
def D.cnts : List D → Nat
  | [] => 0
  | d :: ds => D.cnt d + D.cnts ds
end
mutual
/-- how deep -/
def D.dep : D → Nat
  | .tup ds => D.deps ds + 1
  | .lst ds => D.deps ds + 1
  | .dic _ ds => D.deps ds + 1
  | _ => 0
def D.deps : List D → Nat
  | [] => 0
  | d :: ds => max (D.dep d) (D.deps ds)
end
def strSmall (B : Nat) (x : Str) : Bool := PyData.canLay0 (.str x) && decide (x.cps.size ≤ 4 * B)
def keySmall (B : Nat) : Key → Bool
  | .inl i => decide (i.natAbs < 10 ^ B)
  | .inr x => strSmall B x
mutual
/-- whole numbers of at most B figures, texts of at most B signs -/
def D.small (B : Nat) : D → Bool
  | .non => true
  | .bl _ => true
  | .int i => decide (i.natAbs < 10 ^ B)
  | .str x => strSmall B x
  | .tup ds => D.smalls B ds
  | .lst ds => D.smalls B ds
  | .dic ks ds => ks.all (keySmall B) && D.smalls B ds
  | _ => false
def D.smalls (B : Nat) : List D → Bool
  | [] => true
  | d :: ds => D.small B d && D.smalls B ds
end
theorem D.cnt_pos (d : D) : 1 ≤ d.cnt := by cases d <;> simp only [D.cnt] <;> omega
structure FF (B : Nat) (d : D) : Prop where
  isF : d.isF = true
  sh : d.py.showable = true
  ls : d.py.leavesShort (B + 1) = true
  dep : d.py.depth ≤ d.dep
  wgt : d.py.weight + 1 ≤ d.cnt * (4 * B + 1)
structure FFs (B : Nat) (ds : List D) : Prop where
  isF : D.areF ds = true
  sh : PyData.showableAll (D.pys ds) = true
  ls : PyData.leavesShortAll (B + 1) (D.pys ds) = true
  dep : PyData.depthAll (D.pys ds) ≤ D.deps ds
  wgt : PyData.weightAll (D.pys ds) ≤ D.cnts ds * (4 * B + 1)
theorem strLs {B : Nat} {x : Str} (h : PyData.canLay0 (.str x) = true) : PyData.leavesShort (B + 1) (.str x) = true :=
  PyData.leavesShort_of_canLay0 (B + 1) (.str x) h (by simp only [PyData.intsShort])
theorem key_ff {B : Nat} (b0 : 0 < B) (b1 : B ≤ 570) (k : Key) (h : keySmall B k = true) : (keyP k).showable = true ∧ (keyP k).leavesShort (B + 1) = true ∧ (keyP k).depth = 0 ∧ (keyP k).weight ≤ 4 * B := by
  cases k with
  | inl i =>
    simp only [keySmall, decide_eq_true_eq] at h
    have f := Fit.intK b0 b1 h
    exact ⟨by simpa only [D.py, keyP] using f.sh, PyData.leavesShort_of_canLay0 _ _ (by simp only [keyP, PyData.canLay0]) (by simpa only [D.py, keyP] using f.is), by simp only [keyP, PyData.depth], by simpa only [D.py, keyP] using f.wgt⟩
  | inr x =>
    simp only [keySmall, strSmall, Bool.and_eq_true, decide_eq_true_eq] at h
    exact ⟨by simp only [keyP, PyData.showable], strLs h.1, by simp only [keyP, PyData.depth], by simp only [keyP, PyData.weight]; exact h.2⟩
theorem kv_ff {B : Nat} (b0 : 0 < B) (b1 : B ≤ 570) : ∀ (ks : List Key) (ps : List PyData), ks.all (keySmall B) = true → PyData.showableAll ps = true → PyData.leavesShortAll (B + 1) ps = true →
    PyData.showableKv ((ks.map keyP).zip ps) = true ∧ PyData.leavesShortKv (B + 1) ((ks.map keyP).zip ps) = true ∧ PyData.depthKv ((ks.map keyP).zip ps) ≤ PyData.depthAll ps ∧ PyData.weightKv ((ks.map keyP).zip ps) ≤ ks.length * (4 * B + 1) + PyData.weightAll ps
  | [], ps, _, _, _ => by simp [PyData.showableKv, PyData.leavesShortKv, PyData.depthKv, PyData.weightKv]
  | _ :: _, [], _, _, _ => by simp [PyData.showableKv, PyData.leavesShortKv, PyData.depthKv, PyData.weightKv]
  | k :: ks, p :: ps, hk, h1, h2 => by
    simp only [List.all_cons, Bool.and_eq_true] at hk
    simp only [PyData.showableAll, PyData.leavesShortAll, Bool.and_eq_true] at h1 h2
    obtain ⟨a1, a2, a3, a4⟩ := kv_ff b0 b1 ks ps hk.2 h1.2 h2.2
    obtain ⟨c1, c2, c3, c4⟩ := key_ff b0 b1 k hk.1
    simp only [List.map_cons, List.zip_cons_cons, PyData.showableKv, PyData.leavesShortKv, PyData.depthKv, PyData.weightKv, PyData.depthAll, PyData.weightAll, a1, a2, c1, c2, h1.1, h2.1, Bool.and_self, List.length_cons]
    refine ⟨trivial, trivial, by omega, ?_⟩
    rw [Nat.add_mul]
    omega
mutual
theorem ff_of {B : Nat} (b0 : 0 < B) (b1 : B ≤ 570) : ∀ d : D, d.small B = true → FF B d
  | .non, _ => ⟨by simp only [D.isF], by simp only [D.py, PyData.showable], by simp only [D.py, PyData.leavesShort], by simp only [D.py, PyData.depth]; exact Nat.zero_le _, by simp only [D.py, PyData.weight, D.cnt]; omega⟩
  | .bl _, _ => ⟨by simp only [D.isF], by simp only [D.py, PyData.showable], by simp only [D.py, PyData.leavesShort], by simp only [D.py, PyData.depth]; exact Nat.zero_le _, by simp only [D.py, PyData.weight, D.cnt]; omega⟩
  | .int i, h => by
    simp only [D.small, decide_eq_true_eq] at h
    have f := Fit.intK b0 b1 h
    exact ⟨by simp only [D.isF], f.sh, PyData.leavesShort_of_canLay0 _ _ f.ly f.is, by simp only [D.py, PyData.depth]; exact Nat.zero_le _, by
      have := f.wgt
      simp only [D.cnt]
      omega⟩
  | .str x, h => by
    simp only [D.small, strSmall, Bool.and_eq_true, decide_eq_true_eq] at h
    exact ⟨by simp only [D.isF], by simp only [D.py, PyData.showable], strLs h.1, by simp only [D.py, PyData.depth]; exact Nat.zero_le _, by simp only [D.py, PyData.weight, D.cnt]; omega⟩
  | .tup ds, h => by
    have f := ffs_of b0 b1 ds (by simpa only [D.small] using h)
    exact ⟨by simp only [D.isF, f.isF], by simp only [D.py, PyData.showable, f.sh], by simp only [D.py, PyData.leavesShort, f.ls], by simp only [D.py, PyData.depth, D.dep]; exact Nat.succ_le_succ f.dep, by
      simp only [D.py, PyData.weight, D.cnt]
      have := f.wgt
      rw [Nat.add_mul]
      omega⟩
  | .lst ds, h => by
    have f := ffs_of b0 b1 ds (by simpa only [D.small] using h)
    exact ⟨by simp only [D.isF, f.isF], by simp only [D.py, PyData.showable, f.sh], by simp only [D.py, PyData.leavesShort, f.ls], by simp only [D.py, PyData.depth, D.dep]; exact Nat.succ_le_succ f.dep, by
      simp only [D.py, PyData.weight, D.cnt]
      have := f.wgt
      rw [Nat.add_mul]
      omega⟩
  | .dic ks ds, h => by
    simp only [D.small, Bool.and_eq_true] at h
    have f := ffs_of b0 b1 ds h.2
    obtain ⟨a1, a2, a3, a4⟩ := kv_ff b0 b1 ks (D.pys ds) h.1 f.sh f.ls
    exact ⟨by simp only [D.isF, f.isF], by simp only [D.py, PyData.showable, a1], by simp only [D.py, PyData.leavesShort, a2], by simp only [D.py, PyData.depth, D.dep]; exact Nat.succ_le_succ (Nat.le_trans a3 f.dep), by
      simp only [D.py, PyData.weight, D.cnt]
      have := f.wgt
      rw [Nat.add_mul, Nat.add_mul]
      omega⟩
  | .ref _, h => by simp [D.small] at h
  | .deck, h => by simp [D.small] at h
  | .scr, h => by simp [D.small] at h
  | .ty _, h => by simp [D.small] at h
theorem ffs_of {B : Nat} (b0 : 0 < B) (b1 : B ≤ 570) : ∀ ds : List D, D.smalls B ds = true → FFs B ds
  | [], _ => ⟨by simp only [D.areF], by simp only [D.pys, PyData.showableAll], by simp only [D.pys, PyData.leavesShortAll], by simp only [D.pys, PyData.depthAll]; exact Nat.zero_le _, by simp only [D.pys, PyData.weightAll]; exact Nat.zero_le _⟩
  | d :: ds, h => by
    simp only [D.smalls, Bool.and_eq_true] at h
    have f := ff_of b0 b1 d h.1
    have g := ffs_of b0 b1 ds h.2
    refine ⟨by simp only [D.areF, f.isF, g.isF, Bool.and_self], by simp only [D.pys, PyData.showableAll, f.sh, g.sh, Bool.and_self], by simp only [D.pys, PyData.leavesShortAll, f.ls, g.ls, Bool.and_self], ?_, ?_⟩
    · simp only [D.pys, PyData.depthAll, D.deps]
      have := f.dep
      have := g.dep
      omega
    · simp only [D.pys, PyData.weightAll, D.cnts]
      have h1 := f.wgt
      have h2 := g.wgt
      rw [Nat.add_mul]
      omega
end
mutual
theorem ly_of {B : Nat} : ∀ d : D, d.small B = true → d.isD = true → d.py.canLay0 = true
  | .non, _, _ => by simp only [D.py, PyData.canLay0]
  | .bl _, _, _ => by simp only [D.py, PyData.canLay0]
  | .int i, _, _ => by simp only [D.py, PyData.canLay0]
  | .str x, h, _ => by
    simp only [D.small, strSmall, Bool.and_eq_true] at h
    simpa only [D.py] using h.1
  | .tup ds, h, i => by
    simp only [D.py, PyData.canLay0]
    exact lys_of ds (by simpa only [D.small] using h) (by simpa only [D.isD] using i)
  | .lst ds, h, i => by
    simp only [D.py, PyData.canLay0]
    exact lys_of ds (by simpa only [D.small] using h) (by simpa only [D.isD] using i)
  | .dic _ _, _, i => by simp [D.isD] at i
  | .ref _, h, _ => by simp [D.small] at h
  | .deck, h, _ => by simp [D.small] at h
  | .scr, h, _ => by simp [D.small] at h
  | .ty _, h, _ => by simp [D.small] at h
theorem lys_of {B : Nat} : ∀ ds : List D, D.smalls B ds = true → D.areD ds = true → PyData.canLayAll0 (D.pys ds) = true
  | [], _, _ => by simp only [D.pys, PyData.canLayAll0]
  | d :: ds, h, i => by
    simp only [D.smalls, D.areD, Bool.and_eq_true] at h i
    simp only [D.pys, PyData.canLayAll0, ly_of d h.1 i.1, lys_of ds h.2 i.2, Bool.and_self]
end
theorem isF_small {B : Nat} (b0 : 0 < B) (b1 : B ≤ 570) {d : D} (h : d.small B = true) : d.isF = true := (ff_of b0 b1 d h).isF
theorem shaped_small {B : Nat} (b0 : 0 < B) (b1 : B ≤ 570) {d : D} (h : d.small B = true) (i : d.isD = true) (hd : d.dep ≤ 64) : SeqAt.shaped d.py = true := by
  have f := ff_of b0 b1 d h
  unfold SeqAt.shaped
  rw [ly_of d h i, Bool.true_and, decide_eq_true_eq]
  exact Nat.le_trans f.dep hd
/-- repr shows data of at most n parts -/
theorem shows_small {B n : Nat} (b0 : 7 ≤ B) (b1 : B ≤ 570) {d : D} (h : d.small B = true) (hd : d.dep ≤ 64) (hc : d.cnt ≤ n) (hn : (B + 3) * (n * (4 * B + 1)) + (B + 1) ≤ 16777216) : Shows d := by
  have f := ff_of (by omega) b1 d h
  have m1 : d.cnt * (4 * B + 1) ≤ n * (4 * B + 1) := Nat.mul_le_mul_right _ hc
  refine ⟨f.isF, f.sh, Nat.le_trans f.dep hd, ?_⟩
  have h1 := PyData.shown_le (B + 1) (by omega) d.py f.ls
  have h2 : (B + 1 + 2) * d.py.weight ≤ (B + 3) * (n * (4 * B + 1)) := Nat.mul_le_mul_left _ (by have := f.wgt; omega)
  show _ ≤ 2 ^ 24
  omega
theorem smalls_mem {B : Nat} : ∀ {ds : List D}, D.smalls B ds = true ↔ ∀ d ∈ ds, d.small B = true
  | [] => by simp [D.smalls]
  | d :: ds => by simp only [D.smalls, Bool.and_eq_true, List.mem_cons, forall_eq_or_imp, smalls_mem]
theorem cnts_append : ∀ (a b : List D), D.cnts (a ++ b) = D.cnts a + D.cnts b
  | [], b => by simp [D.cnts]
  | d :: a, b => by simp only [List.cons_append, D.cnts, cnts_append]; omega
theorem deps_append : ∀ (a b : List D), D.deps (a ++ b) = max (D.deps a) (D.deps b)
  | [], b => by simp [D.deps]
  | d :: a, b => by simp only [List.cons_append, D.deps, deps_append]; omega
theorem smalls_append {B : Nat} (a b : List D) : D.smalls B (a ++ b) = (D.smalls B a && D.smalls B b) := by
  induction a with
  | nil => simp [D.smalls]
  | cons d a ih => simp only [List.cons_append, D.smalls, ih, Bool.and_assoc]
mutual
theorem small_up {B C : Nat} (h : B ≤ C) : ∀ d : D, d.small B = true → d.small C = true
  | .non, _ => by simp only [D.small]
  | .bl _, _ => by simp only [D.small]
  | .int i, s => by
    simp only [D.small, decide_eq_true_eq] at s ⊢
    exact Nat.lt_of_lt_of_le s (Nat.pow_le_pow_right (by decide) h)
  | .str x, s => by
    simp only [D.small, strSmall, Bool.and_eq_true, decide_eq_true_eq] at s ⊢
    exact ⟨s.1, by omega⟩
  | .tup ds, s => by simp only [D.small] at s ⊢; exact smalls_up h ds s
  | .lst ds, s => by simp only [D.small] at s ⊢; exact smalls_up h ds s
  | .dic ks ds, s => by
    simp only [D.small, Bool.and_eq_true] at s ⊢
    refine ⟨?_, smalls_up h ds s.2⟩
    rw [List.all_eq_true] at s ⊢
    intro k hk
    have := s.1 k hk
    cases k with
    | inl i =>
      simp only [keySmall, decide_eq_true_eq] at this ⊢
      exact Nat.lt_of_lt_of_le this (Nat.pow_le_pow_right (by decide) h)
    | inr x =>
      simp only [keySmall, strSmall, Bool.and_eq_true, decide_eq_true_eq] at this ⊢
      exact ⟨this.1, by omega⟩
  | .ref _, s => by simp [D.small] at s
  | .deck, s => by simp [D.small] at s
  | .scr, s => by simp [D.small] at s
  | .ty _, s => by simp [D.small] at s
theorem smalls_up {B C : Nat} (h : B ≤ C) : ∀ ds : List D, D.smalls B ds = true → D.smalls C ds = true
  | [], _ => by simp only [D.smalls]
  | d :: ds, s => by
    simp only [D.smalls, Bool.and_eq_true] at s ⊢
    exact ⟨small_up h d s.1, smalls_up h ds s.2⟩
end
end G

/-! What str shows is a text that repr can show. -/
namespace G
open PySem PySem.Spec PyProof.Rows L2

def txtOk (x : Str) : Prop := ∀ c ∈ x.cps.toList, c < 0x110000
theorem txtOk_iff {x : Str} : PyData.canLay0 (.str x) = true ↔ txtOk x := by
  simp only [PyData.canLay0, PyData.strOk, txtOk]
  rw [← Array.all_toList, List.all_eq_true]
  simp only [decide_eq_true_eq]
theorem char_lt (c : Char) : c.toNat < 0x110000 := by
  have := c.valid
  rcases this with h | h
  · exact Nat.lt_trans h (by decide)
  · exact h.2
theorem txtOk_ofString (s : String) : txtOk (Str.ofString s) := by
  intro c hc
  rw [Str.ofString_eq_toList] at hc
  simp only [List.mem_map] at hc
  obtain ⟨k, _, rfl⟩ := hc
  exact char_lt k
theorem txtOk_append {x y : Str} (hx : txtOk x) (hy : txtOk y) : txtOk (x ++ y) := by
  intro c hc
  have : (x ++ y).cps.toList = x.cps.toList ++ y.cps.toList := by
    show (x.cps ++ y.cps).toList = _
    simp
  rw [this, List.mem_append] at hc
  rcases hc with h | h
  · exact hx c h
  · exact hy c h
theorem txtOk_char {q c : Nat} (hq : q < 0x110000) (hc : c < 0x110000) : ∀ k ∈ Builtin.Str.reprChar q c, k < 0x110000 := by
  have hex : ∀ w : Nat, ∀ k ∈ List.replicate (w - ((Nat.toDigits 16 c).map Char.toNat).length) 48 ++ (Nat.toDigits 16 c).map Char.toNat, k < 0x110000 := by
    intro w k hk
    rw [List.mem_append] at hk
    rcases hk with hk | hk
    · rw [(List.mem_replicate.mp hk).2]; decide
    · obtain ⟨z, _, rfl⟩ := List.mem_map.mp hk
      exact char_lt z
  have hex2 : ∀ (a b w : Nat), a < 0x110000 → b < 0x110000 → ∀ k ∈ [a, b] ++ (List.replicate (w - ((Nat.toDigits 16 c).map Char.toNat).length) 48 ++ (Nat.toDigits 16 c).map Char.toNat), k < 0x110000 := by
    intro a b w ha hb k hk
    rw [List.mem_append] at hk
    rcases hk with hk | hk
    · rcases List.mem_cons.mp hk with rfl | hk
      · exact ha
      · rw [List.mem_singleton.mp hk]; exact hb
    · exact hex w k hk
  have two : ∀ (a b : Nat), a < 0x110000 → b < 0x110000 → ∀ k ∈ [a, b], k < 0x110000 := by
    intro a b ha hb k hk
    rcases List.mem_cons.mp hk with rfl | hk
    · exact ha
    · rw [List.mem_singleton.mp hk]; exact hb
  unfold Builtin.Str.reprChar
  dsimp only
  repeat' split
  · exact two _ _ (by decide) hc
  · exact two _ _ (by decide) (by decide)
  · exact two _ _ (by decide) (by decide)
  · exact two _ _ (by decide) (by decide)
  · intro k hk
    rw [List.mem_singleton.mp hk]
    exact hc
  · exact hex2 _ _ _ (by decide) (by decide)
  · exact hex2 _ _ _ (by decide) (by decide)
  · exact hex2 _ _ _ (by decide) (by decide)
theorem txtOk_fold {q : Nat} (hq : q < 0x110000) : ∀ (l : List Nat) (acc : Array Nat), (∀ c ∈ l, c < 0x110000) → (∀ c ∈ acc.toList, c < 0x110000) → ∀ c ∈ (l.foldl (fun out c => out ++ (Builtin.Str.reprChar q c).toArray) acc).toList, c < 0x110000
  | [], acc, _, ha => ha
  | c :: l, acc, hl, ha => by
    rw [List.foldl_cons]
    refine txtOk_fold hq l _ (fun k hk => hl k (List.mem_cons_of_mem _ hk)) fun k hk => ?_
    simp only [Array.toList_append, List.mem_append] at hk
    rcases hk with hk | hk
    · exact ha k hk
    · exact txtOk_char hq (hl c (List.mem_cons_self ..)) k hk
theorem quote_lt (x : Str) : reprQuote x < 0x110000 := by
  unfold reprQuote
  split <;> decide
theorem txtOk_repr {x : Str} (hx : txtOk x) : txtOk (reprText x) := by
  intro c hc
  unfold reprText at hc
  simp only [Array.toList_push, List.mem_append, List.mem_singleton] at hc
  rcases hc with hc | rfl
  · rw [← Array.foldl_toList] at hc
    refine txtOk_fold (quote_lt x) x.cps.toList _ hx (fun k hk => ?_) c hc
    simp only [List.mem_singleton] at hk
    rw [hk]
    exact quote_lt x
  · exact quote_lt x
theorem txtOk_join (sep : Str) (hs : txtOk sep) : ∀ ts : List Str, (∀ t ∈ ts, txtOk t) → txtOk (Str.join sep ts)
  | [], _ => by intro c hc; exact absurd hc (by simp [Str.join, Str.empty])
  | [x], h => h x (List.mem_cons_self ..)
  | x :: y :: r, h => by
    show txtOk (x ++ sep ++ Str.join sep (y :: r))
    exact txtOk_append (txtOk_append (h x (List.mem_cons_self ..)) hs) (txtOk_join sep hs (y :: r) fun t ht => h t (List.mem_cons_of_mem _ ht))
theorem txtOk_textFrom : ∀ (ts : List Str) (k : Nat) (acc : Str), txtOk acc → (∀ t ∈ ts, txtOk t) → txtOk (textFrom k acc ts)
  | [], _, _, ha, _ => ha
  | t :: ts, k, acc, ha, h => by
    show txtOk (textFrom (k + 1) (acc ++ (if k > 0 then ", " else "" : String) ++ t) ts)
    refine txtOk_textFrom ts _ _ (txtOk_append (txtOk_append ha ?_) (h t (List.mem_cons_self ..))) fun u hu => h u (List.mem_cons_of_mem _ hu)
    exact txtOk_ofString _
mutual
theorem txtOk_shown : ∀ d : PyData, d.canLay0 = true → txtOk d.shown
  | .none, _ => txtOk_ofString "None"
  | .bool b, _ => by
    simp only [PyData.shown]
    split <;> exact txtOk_ofString _
  | .int i, _ => txtOk_ofString _
  | .str x, h => txtOk_repr (txtOk_iff.mp h)
  | .list xs, h => by
    simp only [PyData.shown, listText]
    exact txtOk_append (txtOk_textFrom _ _ _ (txtOk_ofString "[") (txtOk_showns xs (by simpa only [PyData.canLay0] using h))) (txtOk_ofString "]")
  | .tuple xs, h => by
    simp only [PyData.shown, tupleText]
    exact txtOk_append (txtOk_append (txtOk_ofString "(") (txtOk_join _ (txtOk_ofString ", ") _ (txtOk_showns xs (by simpa only [PyData.canLay0] using h)))) (txtOk_ofString _)
  | .dict _, h => by simp [PyData.canLay0] at h
theorem txtOk_showns : ∀ xs : List PyData, PyData.canLayAll0 xs = true → ∀ t ∈ PyData.shownAll xs, txtOk t
  | [], _ => by intro t ht; simp [PyData.shownAll] at ht
  | x :: xs, h => by
    simp only [PyData.canLayAll0, Bool.and_eq_true] at h
    intro t ht
    simp only [PyData.shownAll, List.mem_cons] at ht
    rcases ht with rfl | ht
    · exact txtOk_shown x h.1
    · exact txtOk_showns xs h.2 t ht
end
end G

/-! A word's repr is no other thing's. -/
namespace G
open PySem PySem.Spec PyProof.Rows L2

theorem str_ext {x y : Str} (h : x.cps.toList = y.cps.toList) : x = y := by
  obtain ⟨⟨x⟩⟩ := x
  obtain ⟨⟨y⟩⟩ := y
  simp at h
  rw [h]
theorem cps_append (x y : Str) : (x ++ y).cps.toList = x.cps.toList ++ y.cps.toList := by
  show (x.cps ++ y.cps).toList = _
  simp
theorem foldl_app (f : Nat → List Nat) : ∀ (l : List Nat) (acc : Array Nat), (l.foldl (fun out c => out ++ (f c).toArray) acc).toList = acc.toList ++ l.flatMap f
  | [], acc => by simp
  | c :: l, acc => by rw [List.foldl_cons, foldl_app f l]; simp
theorem reprText_list (x : Str) : (reprText x).cps.toList = reprQuote x :: (x.cps.toList.flatMap (Builtin.Str.reprChar (reprQuote x)) ++ [reprQuote x]) := by
  unfold reprText
  simp only [Array.toList_push]
  rw [← Array.foldl_toList, foldl_app]
  simp
def letter (c : Nat) : Bool := decide (97 ≤ c) && decide (c ≤ 122) || decide (65 ≤ c) && decide (c ≤ 90)
def wordy (y : Str) : Bool := y.cps.toList.all letter
theorem letter_repr {c : Nat} (h : letter c = true) : Builtin.Str.reprChar 39 c = [c] ∧ c ≠ 39 ∧ c ≠ 92 := by
  have all : ((List.range 123).all fun c => !letter c || (decide (Builtin.Str.reprChar 39 c = [c]) && decide (c ≠ 39) && decide (c ≠ 92))) = true := by decide +kernel
  have hc : c < 123 := by
    unfold letter at h
    simp only [Bool.or_eq_true, Bool.and_eq_true, decide_eq_true_eq] at h
    omega
  have := List.all_eq_true.mp all c (List.mem_range.mpr hc)
  rw [h] at this
  simpa [and_assoc] using this
theorem wordy_quote {y : Str} (h : wordy y = true) : reprQuote y = 39 := by
  unfold reprQuote
  have : y.cps.contains 39 = false := by
    rw [Bool.eq_false_iff]
    intro z
    have m : 39 ∈ y.cps.toList := by simpa using z
    exact (letter_repr (List.all_eq_true.mp h _ m)).2.1 rfl
  rw [this]
  rfl
theorem flat_word : ∀ (l : List Nat), l.all letter = true → l.flatMap (Builtin.Str.reprChar 39) = l
  | [], _ => rfl
  | c :: l, h => by
    rw [List.all_cons, Bool.and_eq_true] at h
    rw [List.flatMap_cons, (letter_repr h.1).1, flat_word l h.2]
    rfl
theorem char_head (c : Nat) : (Builtin.Str.reprChar 39 c = [c]) ∨ ∃ t, Builtin.Str.reprChar 39 c = 92 :: t := by
  unfold Builtin.Str.reprChar
  dsimp only
  repeat' split
  · exact .inr ⟨_, rfl⟩
  · exact .inr ⟨_, rfl⟩
  · exact .inr ⟨_, rfl⟩
  · exact .inr ⟨_, rfl⟩
  · exact .inl rfl
  · exact .inr ⟨_, rfl⟩
  · exact .inr ⟨_, rfl⟩
  · exact .inr ⟨_, rfl⟩
theorem flat_inj : ∀ (l y : List Nat), y.all letter = true → l.flatMap (Builtin.Str.reprChar 39) ++ [39] = y ++ [39] → l = y
  | [], [], _, _ => rfl
  | [], c :: y, h, e => by
    rw [List.all_cons, Bool.and_eq_true] at h
    have h1 := letter_repr h.1
    simp only [List.flatMap_nil, List.nil_append, List.cons_append, List.cons.injEq] at e
    exact absurd e.1.symm h1.2.1
  | c :: l, [], _, e => by
    rw [List.flatMap_cons] at e
    rcases char_head c with z | ⟨t, z⟩
    · rw [z] at e
      have := congrArg List.length e
      simp at this
    · rw [z] at e
      simp at e
  | c :: l, d :: y, h, e => by
    rw [List.all_cons, Bool.and_eq_true] at h
    rw [List.flatMap_cons] at e
    rcases char_head c with z | ⟨t, z⟩
    · rw [z] at e
      simp only [List.singleton_append, List.cons_append, List.cons.injEq, List.nil_append] at e
      rw [flat_inj l y h.2 e.2, e.1]
    · rw [z] at e
      simp only [List.cons_append, List.cons.injEq] at e
      exact absurd e.1.symm (letter_repr h.1).2.2
theorem digit_char (n : Nat) (h : n < 10) : (Nat.digitChar n).toNat ≠ 39 := by
  have : ((List.range 10).all fun n => decide ((Nat.digitChar n).toNat ≠ 39)) = true := by decide +kernel
  simpa using List.all_eq_true.mp this n (List.mem_range.mpr h)
theorem digits_core : ∀ (fuel n : Nat) (ds : List Char), (∀ c ∈ ds, c.toNat ≠ 39) → ∀ c ∈ Nat.toDigitsCore 10 fuel n ds, c.toNat ≠ 39
  | 0, n, ds, h => by simpa [Nat.toDigitsCore] using h
  | fuel + 1, n, ds, h => by
    have h2 : ∀ c ∈ Nat.digitChar (n % 10) :: ds, c.toNat ≠ 39 := by
      intro c hc
      rcases List.mem_cons.mp hc with rfl | hc
      · exact digit_char _ (Nat.mod_lt _ (by decide))
      · exact h c hc
    unfold Nat.toDigitsCore
    dsimp only
    split
    · exact h2
    · exact digits_core fuel _ _ h2
theorem int_no_quote (i : Int) : ∀ c ∈ (PyData.shown (.int i)).cps.toList, c ≠ 39 := by
  intro c hc
  simp only [PyData.shown] at hc
  have nat : ∀ m : Nat, ∀ c ∈ (Str.ofString (toString (Int.ofNat m))).cps.toList, c ≠ 39 := by
    intro m c hc
    rw [text_ofNat] at hc
    simp only [List.mem_map] at hc
    obtain ⟨k, hk, rfl⟩ := hc
    exact digits_core _ _ [] (by simp) k hk
  cases i with
  | ofNat m => exact nat m c hc
  | negSucc m =>
    have e : Str.ofString (toString (Int.negSucc m)) = Str.ofString "-" ++ Str.ofString (toString (Int.ofNat (m + 1))) := by
      refine str_ext ?_
      rw [cps_append, Str.ofString_eq_toList, Str.ofString_eq_toList, Str.ofString_eq_toList]
      have : toString (Int.negSucc m) = "-" ++ toString (Int.ofNat (m + 1)) := rfl
      rw [this]
      simp
    rw [show (Str.ofString (toString (Int.negSucc m))).cps.toList = _ from congrArg (fun x : Str => x.cps.toList) e, cps_append, List.mem_append] at hc
    rcases hc with hc | hc
    · have : c ∈ [45] := hc
      simp at this
      omega
    · exact nat _ c hc
theorem textFrom_head : ∀ (ts : List Str) (k : Nat) (acc : Str), ∃ t, (textFrom k acc ts).cps.toList = acc.cps.toList ++ t
  | [], _, acc => ⟨[], by simp [textFrom]⟩
  | x :: ts, k, acc => by
    obtain ⟨t, e⟩ := textFrom_head ts (k + 1) (acc ++ (if k > 0 then ", " else "" : String) ++ x)
    refine ⟨(((if k > 0 then ", " else "" : String) : Str).cps.toList ++ x.cps.toList) ++ t, ?_⟩
    show (textFrom (k + 1) (acc ++ (if k > 0 then ", " else "" : String) ++ x) ts).cps.toList = _
    rw [e, cps_append, cps_append]
    simp
/-- only a text's repr begins so -/
theorem shown_head (d : PyData) (h : d.shown.cps.toList.head? = some 39) : ∃ x, d = .str x := by
  cases d with
  | str x => exact ⟨x, rfl⟩
  | none =>
    have e : (PyData.shown .none).cps.toList = [78, 111, 110, 101] := by decide +kernel
    rw [e] at h
    cases h
  | bool b =>
    cases b with
    | false =>
      have e : (PyData.shown (.bool false)).cps.toList.head? = some 70 := by decide +kernel
      rw [e] at h
      cases h
    | true =>
      have e : (PyData.shown (.bool true)).cps.toList.head? = some 84 := by decide +kernel
      rw [e] at h
      cases h
  | int i =>
    have := int_no_quote i 39 (List.mem_of_mem_head? (by rw [h]; rfl))
    exact absurd rfl this
  | list xs =>
    simp only [PyData.shown, listText] at h
    obtain ⟨t, e⟩ := textFrom_head (PyData.shownAll xs) 0 "["
    rw [cps_append, e] at h
    have e2 : ("[" : Str).cps.toList = [91] := rfl
    rw [e2] at h
    cases h
  | tuple xs =>
    simp only [PyData.shown, tupleText] at h
    rw [cps_append, cps_append] at h
    have e2 : ("(" : Str).cps.toList = [40] := rfl
    rw [e2] at h
    cases h
  | dict kvs =>
    simp only [PyData.shown, dictText] at h
    rw [cps_append, cps_append] at h
    have e2 : ("{" : Str).cps.toList = [123] := rfl
    rw [e2] at h
    cases h
theorem shown_word {y : Str} (hy : wordy y = true) {d : PyData} (h : d.shown = (PyData.str y).shown) : d = .str y := by
  have q := wordy_quote hy
  have e : (PyData.str y).shown.cps.toList = 39 :: (y.cps.toList ++ [39]) := by
    show (reprText y).cps.toList = _
    rw [reprText_list, q, flat_word _ hy]
  obtain ⟨x, rfl⟩ := shown_head d (by rw [h, e]; rfl)
  have e2 : (PyData.str x).shown.cps.toList = reprQuote x :: (x.cps.toList.flatMap (Builtin.Str.reprChar (reprQuote x)) ++ [reprQuote x]) := reprText_list x
  rw [h, e] at e2
  simp only [List.cons.injEq] at e2
  obtain ⟨q2, e2⟩ := e2
  rw [← q2] at e2
  rw [str_ext (flat_inj _ _ hy e2.symm)]
theorem py_str {d : D} {y : Str} (h : d.py = .str y) : d = .str y := by
  cases d <;> simp only [D.py] at h <;> first | (cases h; done) | (cases h; rfl)
/-- whether it is this text -/
def isW (d : D) (y : Str) : Bool := match d with
  | .str x => decide (x = y)
  | _ => false
theorem isW_iff {d : D} {y : Str} : isW d y = true ↔ d = .str y := by
  cases d <;> simp [isW]
/-- repr(d) == repr("word") -/
theorem word_dec {y : Str} (hy : wordy y = true) (d : D) : decide (d.py.shown = (D.str y).py.shown) = isW d y := by
  rw [Bool.eq_iff_iff, isW_iff]
  exact ⟨fun e => py_str (shown_word hy (by have := of_decide_eq_true e; simpa only [D.py] using this)), fun e => decide_eq_true (by rw [e])⟩
end G

/-! Expressions that only read and reckon: their value, and what must be shown, reckoned at once. -/
namespace G
open PySem PySem.Spec PyProof.Rows L2

abbrev Ev := Option (D × List Prop)
def evB (o : Operator) (x y : D) : Ev := match o with
  | .Add => match x, y with
    | .int i, .int j => some (.int (i + j), [])
    | .str a, .str b => some (.str (a ++ b), [a.length + b.length ≤ sizeLine])
    | .lst a, .lst b => some (.lst (a ++ b), [a.length + b.length ≤ sizeLine])
    | .tup a, .tup b => some (.tup (a ++ b), [a.length + b.length ≤ sizeLine])
    | _, _ => none
  | .Sub => match x, y with
    | .int i, .int j => some (.int (i - j), [])
    | _, _ => none
  | .Mult => match x, y with
    | .int i, .int j => some (.int (i * j), [MulOk i j])
    | .lst ds, .int j => some (.lst (List.replicate j.toNat ds).flatten, [-(9223372036854775808) ≤ j ∧ j < 9223372036854775808 ∧ ds.length * j.toNat ≤ sizeLine])
    | .tup ds, .int j => some (.tup (List.replicate j.toNat ds).flatten, [ds ≠ [] ∧ 1 ≤ j ∧ j ≤ 1000 ∧ ds.length ≤ 1000])
    | _, _ => none
  | .FloorDiv => match x, y with
    | .int i, .int j => some (.int (i / j), [DivOk j])
    | _, _ => none
  | .Mod => match x, y with
    | .int i, .int j => some (.int (i % j), [0 < j])
    | _, _ => none
  | .Pow => match x, y with
    | .int i, .int j => some (.int (i ^ j.toNat), [0 ≤ j ∧ j ≤ 1000000 ∧ i.natAbs < 18446744073709551616])
    | _, _ => none
  | _ => none
def evS (x y : D) : Ev := match x, y with
  | .lst ds, .int i => match atI ds i with
    | some d => some (d, [])
    | none => none
  | .tup ds, .int i => match atI ds i with
    | some d => some (d, [])
    | none => none
  | _, _ => none
def evStr (x : D) : Ev := match x with
  | .int i => some (.str (toString i), [i.natAbs.log2 < 1920])
  | .str y => some (.str y, [])
  | _ => none
def evL (x : D) : Ev := match x with
  | .lst ds => some (.int (ds.length : Nat), [])
  | .tup ds => some (.int (ds.length : Nat), [])
  | _ => none
def evT (x : D) : Ev := match x with
  | .lst ds => some (.tup ds, [])
  | .tup ds => some (.tup ds, [])
  | _ => none
def evG (x : D) : Ev := match x with
  | .lst ds => some (.lst ds, [])
  | .tup ds => some (.lst ds, [])
  | _ => none
def evF (b : Bl) (xs : List D) : Ev := match b, xs with
  | .str, [x] => evStr x
  | .len, [x] => evL x
  | .tuple, [x] => evT x
  | .list, [x] => evG x
  | .min, [.int i, .int j] => some (.int (if j < i then j else i), [])
  | .max, [.int i, .int j] => some (.int (if j > i then j else i), [])
  | _, _ => none
def evN (x : D) : Ev := match x with
  | .int i => some (.int (-i), [])
  | _ => none
def evC (o : CmpOp) (x y : D) : Option Bool := match o with
  | .Eq => match x, y with
    | .int i, .int j => some (decide (i = j))
    | .str i, .str j => some (decide (i = j))
    | _, _ => none
  | .NotEq => match x, y with
    | .int i, .int j => some (!decide (i = j))
    | .str i, .str j => some (!decide (i = j))
    | _, _ => none
  | .Lt => match x, y with
    | .int i, .int j => some (decide (i < j))
    | _, _ => none
  | .LtE => match x, y with
    | .int i, .int j => some (decide (i ≤ j))
    | _, _ => none
  | .Gt => match x, y with
    | .int i, .int j => some (decide (j < i))
    | _, _ => none
  | .GtE => match x, y with
    | .int i, .int j => some (decide (j ≤ i))
    | _, _ => none
  | _ => none
def All : List Prop → Prop
  | [] => True
  | p :: ps => p ∧ All ps
mutual
def ev : Ex → Sl → Ev
  | .cmp o a b, σ => match ev a σ with
    | some (x, cs) => match ev b σ with
      | some (y, ds) => match evC o x y with
        | some k => some (.bl k, cs ++ ds)
        | none => none
      | none => none
    | none => none
  | .chn o p a b c, σ => match ev a σ with
    | some (x, cs) => match ev b σ with
      | some (y, ds) => match ev c σ with
        | some (z, es) => match evC o x y with
          | some k => match evC p y z with
            | some m => some (.bl (k && m), cs ++ (ds ++ [k = true → All es]))
            | none => none
          | none => none
        | none => none
      | none => none
    | none => none
  | .not a, σ => match ev a σ with
    | some (.bl k, cs) => some (.bl (!k), cs)
    | _ => none
  | .and a b, σ => match ev a σ with
    | some (.bl k, cs) => match ev b σ with
      | some (.bl m, ds) => some (.bl (k && m), cs ++ [k = true → All ds])
      | _ => none
    | _ => none
  | .or a b, σ => match ev a σ with
    | some (.bl k, cs) => match ev b σ with
      | some (.bl m, ds) => some (.bl (k || m), cs ++ [k = false → All ds])
      | _ => none
    | _ => none
  | .ife c a b, σ => match evt c σ with
    | some (k, cs) => match ev a σ with
      | some (x, ds) => match ev b σ with
        | some (y, es) => some (if k = true then x else y, cs ++ [k = true → All ds, k = false → All es])
        | none => none
      | none => none
    | none => none
  | .cst d, _ => some (d, [])
  | .glb _ d, _ => some (d, [])
  | .var i, σ => match σ[i]? with
    | some (some d) => some (d, [])
    | _ => none
  | .bin o a b, σ => match ev a σ with
    | some (x, cs) => match ev b σ with
      | some (y, ds) => match evB o x y with
        | some (z, es) => some (z, cs ++ (ds ++ es))
        | none => none
      | none => none
    | none => none
  | .sub a b, σ => match ev a σ with
    | some (x, cs) => match ev b σ with
      | some (y, ds) => match evS x y with
        | some (z, es) => some (z, cs ++ (ds ++ es))
        | none => none
      | none => none
    | none => none
  | .neg a, σ => match ev a σ with
    | some (x, cs) => match evN x with
      | some (z, es) => some (z, cs ++ es)
      | none => none
    | none => none
  | .tup es, σ => match evs es σ with
    | some (ds, cs) => some (.tup ds, cs)
    | none => none
  | .lst es, σ => match evs es σ with
    | some (ds, cs) => some (.lst ds, cs)
    | none => none
  | .dct false ks es, σ => match evs es σ with
    | some (ds, cs) => some (.dic ks ds, cs)
    | none => none
  | .blt b es, σ => match evs es σ with
    | some (ds, cs) => match evF b ds with
      | some (z, es) => some (z, cs ++ es)
      | none => none
    | none => none
  | _, _ => none
def evs : Exs → Sl → Option (List D × List Prop)
  | .nil, _ => some ([], [])
  | .cons e es, σ => match ev e σ with
    | some (d, cs) => match evs es σ with
      | some (ds, ps) => some (d :: ds, cs ++ ps)
      | none => none
    | none => none
def evt : Tx → Sl → Option (Bool × List Prop)
  | .val e, σ => match ev e σ with
    | some (.bl k, cs) => some (k, cs)
    | _ => none
  | .not t, σ => match evt t σ with
    | some (k, cs) => some (!k, cs)
    | none => none
  | .and t u, σ => match evt t σ with
    | some (k, cs) => match evt u σ with
      | some (m, ds) => some (k && m, cs ++ [k = true → All ds])
      | none => none
    | none => none
  | .or t u, σ => match evt t σ with
    | some (k, cs) => match evt u σ with
      | some (m, ds) => some (k || m, cs ++ [k = false → All ds])
      | none => none
    | none => none
  | _, _ => none
end
theorem All.app : ∀ {ps qs : List Prop}, All (ps ++ qs) → All ps ∧ All qs
  | [], _, h => ⟨trivial, h⟩
  | _ :: ps, _, h => ⟨⟨h.1, (All.app h.2).1⟩, (All.app h.2).2⟩
theorem evB_ok {o : Operator} {x y z : D} {cs : List Prop} {h : Hd} {Q : Pq} (e : evB o x y = some (z, cs)) (c : All cs) (q : Q z h) : binD o x y h Q := by
  unfold evB at e
  split at e <;> (try split at e) <;> first | (cases e; done) | skip
  all_goals
    injection e with e
    injection e with e1 e2
    subst e1
    subst e2
    first | exact q | exact ⟨c.1, q⟩
theorem evC_ok {o : CmpOp} {x y : D} {k : Bool} {h : Hd} {Q : Pq} (e : evC o x y = some k) (q : Q (.bl k) h) : cmpD o x y h Q := by
  unfold evC at e
  split at e <;> (try split at e) <;> first | (cases e; done) | skip
  all_goals
    injection e with e
    subst e
    exact q
theorem evS_ok {x y z : D} {cs : List Prop} {h : Hd} {Q : Pq} (e : evS x y = some (z, cs)) (c : All cs) (q : Q z h) : subsD x y h Q := by
  unfold evS at e
  split at e <;> (try split at e) <;> first | (cases e; done) | skip
  all_goals
    rename_i ed
    injection e with e
    injection e with e1 e2
    subst e1
    simp only [subsD, ed]
    exact q
theorem evN_ok {x z : D} {cs : List Prop} {h : Hd} {Q : Pq} (e : evN x = some (z, cs)) (c : All cs) (q : Q z h) : negD x h Q := by
  unfold evN at e
  split at e <;> first | (cases e; done) | skip
  injection e with e
  injection e with e1 e2
  subst e1
  exact q
theorem evF_ok {b : Bl} {xs : List D} {z : D} {cs : List Prop} {h : Hd} {Q : Pq} (e : evF b xs = some (z, cs)) (c : All cs) (q : Q z h) : bltD b xs h Q := by
  unfold evF at e
  split at e
  · unfold evStr at e
    split at e <;> first | (cases e; done) | skip
    all_goals
      injection e with e
      injection e with e1 e2
      subst e1
      subst e2
      first | exact q | exact ⟨c.1, q⟩
  · unfold evL at e
    split at e <;> first | (cases e; done) | skip
    all_goals
      injection e with e
      injection e with e1 e2
      subst e1
      exact q
  · unfold evT at e
    split at e <;> first | (cases e; done) | skip
    all_goals
      injection e with e
      injection e with e1 e2
      subst e1
      exact q
  · unfold evG at e
    split at e <;> first | (cases e; done) | skip
    all_goals
      injection e with e
      injection e with e1 e2
      subst e1
      exact q
  · injection e with e
    injection e with e1 e2
    subst e1
    exact q
  · injection e with e
    injection e with e1 e2
    subst e1
    exact q
  · cases e
mutual
theorem ev_ok : ∀ (e : Ex) {σ : Sl} {d : D} {cs : List Prop} {h : Hd} {Q : Pq}, ev e σ = some (d, cs) → All cs → Q d h → wE e σ h Q
  | .cst _, σ, d, cs, h, Q, e, c, q => by
    simp only [ev, Option.some.injEq, Prod.mk.injEq] at e
    simp only [wE, e.1]
    exact q
  | .glb _ _, σ, d, cs, h, Q, e, c, q => by
    simp only [ev, Option.some.injEq, Prod.mk.injEq] at e
    simp only [wE, e.1]
    exact q
  | .var i, σ, d, cs, h, Q, e, c, q => by
    simp only [ev] at e
    split at e
    · rename_i ed
      injection e with e
      injection e with e1 e2
      subst e1
      simp only [wE, getS, ed]
      exact q
    · cases e
  | .bin o a b, σ, d, cs, h, Q, e, c, q => by
    simp only [ev] at e
    split at e
    · rename_i x c1 ea
      split at e
      · rename_i y c2 eb
        split at e
        · rename_i z c3 ez
          injection e with e
          injection e with e1 e2
          subst e1
          subst e2
          simp only [wE]
          exact ev_ok a ea c.app.1 (ev_ok b eb c.app.2.app.1 (evB_ok ez c.app.2.app.2 q))
        · cases e
      · cases e
    · cases e
  | .sub a b, σ, d, cs, h, Q, e, c, q => by
    simp only [ev] at e
    split at e
    · rename_i x c1 ea
      split at e
      · rename_i y c2 eb
        split at e
        · rename_i z c3 ez
          injection e with e
          injection e with e1 e2
          subst e1
          subst e2
          simp only [wE]
          exact ev_ok a ea c.app.1 (ev_ok b eb c.app.2.app.1 (evS_ok ez c.app.2.app.2 q))
        · cases e
      · cases e
    · cases e
  | .neg a, σ, d, cs, h, Q, e, c, q => by
    simp only [ev] at e
    split at e
    · rename_i x c1 ea
      split at e
      · rename_i z c3 ez
        injection e with e
        injection e with e1 e2
        subst e1
        subst e2
        simp only [wE]
        exact ev_ok a ea c.app.1 (evN_ok ez c.app.2 q)
      · cases e
    · cases e
  | .tup es, σ, d, cs, h, Q, e, c, q => by
    simp only [ev] at e
    split at e
    · rename_i ds c1 ea
      injection e with e
      injection e with e1 e2
      subst e1
      subst e2
      simp only [wE]
      exact evs_ok es ea c q
    · cases e
  | .lst es, σ, d, cs, h, Q, e, c, q => by
    simp only [ev] at e
    split at e
    · rename_i ds c1 ea
      injection e with e
      injection e with e1 e2
      subst e1
      subst e2
      simp only [wE]
      exact evs_ok es ea c q
    · cases e
  | .dct false ks es, σ, d, cs, h, Q, e, c, q => by
    simp only [ev] at e
    split at e
    · rename_i ds c1 ea
      injection e with e
      injection e with e1 e2
      subst e1
      subst e2
      simp only [wE]
      exact evs_ok es ea c q
    · cases e
  | .blt b es, σ, d, cs, h, Q, e, c, q => by
    simp only [ev] at e
    split at e
    · rename_i ds c1 ea
      split at e
      · rename_i z c3 ez
        injection e with e
        injection e with e1 e2
        subst e1
        subst e2
        simp only [wE]
        exact evs_ok es ea c.app.1 (evF_ok ez c.app.2 q)
      · cases e
    · cases e
  | .cmp o a b, σ, d, cs, h, Q, e, c, q => by
    simp only [ev] at e
    split at e
    · rename_i x c1 ea
      split at e
      · rename_i y c2 eb
        split at e
        · rename_i k ez
          injection e with e
          injection e with e1 e2
          subst e1
          subst e2
          simp only [wE]
          exact ev_ok a ea c.app.1 (ev_ok b eb c.app.2 (evC_ok ez q))
        · cases e
      · cases e
    · cases e
  | .chn o p a b cc, σ, d, cs, h, Q, e, c, q => by
    simp only [ev] at e
    split at e
    · rename_i x c1 ea
      split at e
      · rename_i y c2 eb
        split at e
        · rename_i z c3 ec
          split at e
          · rename_i k ek
            split at e
            · rename_i m em
              injection e with e
              injection e with e1 e2
              subst e1
              subst e2
              simp only [wE]
              refine ev_ok a ea c.app.1 (ev_ok b eb c.app.2.app.1 (evC_ok ek ?_))
              simp only [boolD]
              cases k with
              | true =>
                rw [if_pos rfl]
                exact ev_ok cc ec (c.app.2.app.2.1 rfl) (evC_ok em (by simpa using q))
              | false =>
                rw [if_neg (by decide)]
                simpa using q
            · cases e
          · cases e
        · cases e
      · cases e
    · cases e
  | .not a, σ, d, cs, h, Q, e, c, q => by
    simp only [ev] at e
    split at e
    · rename_i k c1 ea
      injection e with e
      injection e with e1 e2
      subst e1
      subst e2
      simp only [wE]
      exact ev_ok a ea c q
    · cases e
  | .and a b, σ, d, cs, h, Q, e, c, q => by
    simp only [ev] at e
    split at e
    · rename_i k c1 ea
      split at e
      · rename_i m c2 eb
        injection e with e
        injection e with e1 e2
        subst e1
        subst e2
        simp only [wE]
        refine ev_ok a ea c.app.1 ?_
        simp only [boolD]
        cases k with
        | true =>
          rw [if_pos rfl]
          exact ev_ok b eb (c.app.2.1 rfl) (by simpa using q)
        | false =>
          rw [if_neg (by decide)]
          simpa using q
      · cases e
    · cases e
  | .or a b, σ, d, cs, h, Q, e, c, q => by
    simp only [ev] at e
    split at e
    · rename_i k c1 ea
      split at e
      · rename_i m c2 eb
        injection e with e
        injection e with e1 e2
        subst e1
        subst e2
        simp only [wE]
        refine ev_ok a ea c.app.1 ?_
        simp only [boolD]
        cases k with
        | true =>
          rw [if_pos rfl]
          simpa using q
        | false =>
          rw [if_neg (by decide)]
          exact ev_ok b eb (c.app.2.1 rfl) (by simpa using q)
      · cases e
    · cases e
  | .ife cc a b, σ, d, cs, h, Q, e, c, q => by
    simp only [ev] at e
    split at e
    · rename_i k c1 ec
      split at e
      · rename_i x c2 ea
        split at e
        · rename_i y c3 eb
          injection e with e
          injection e with e1 e2
          subst e1
          subst e2
          simp only [wE]
          refine evt_ok cc ec c.app.1 ?_
          cases k with
          | true =>
            rw [if_pos rfl]
            exact ev_ok a ea (c.app.2.1 rfl) (by simpa using q)
          | false =>
            rw [if_neg (by decide)]
            exact ev_ok b eb (c.app.2.2.1 rfl) (by simpa using q)
        · cases e
      · cases e
    · cases e
  | .typ _, _, _, _, _, _, e, _, _ => by simp [ev] at e
  | .new _, _, _, _, _, _, e, _, _ => by simp [ev] at e
  | .sl _ _ _, _, _, _, _, _, e, _, _ => by simp [ev] at e
  | .slN _ _ _, _, _, _, _, _, e, _, _ => by simp [ev] at e
  | .addN _ _, _, _, _, _, _, e, _, _ => by simp [ev] at e
  | .orV _ _, _, _, _, _, _, e, _, _ => by simp [ev] at e
  | .rev _ _, _, _, _, _, _, e, _, _ => by simp [ev] at e
  | .call _ _ _ _, _, _, _, _, _, e, _, _ => by simp [ev] at e
  | .callK _ _ _ _ _ _ _, _, _, _, _, _, e, _, _ => by simp [ev] at e
  | .mth _ _ _, _, _, _, _, _, e, _, _ => by simp [ev] at e
  | .dct true _ _, _, _, _, _, _, e, _, _ => by simp [ev] at e
  | .tabAt _ _ _ _, _, _, _, _, _, e, _, _ => by simp [ev] at e
  | .tabIn _ _ _ _, _, _, _, _, _, e, _, _ => by simp [ev] at e
  | .lc2 _ _ _ _ _ _ _ _, _, _, _, _, _, e, _, _ => by simp [ev] at e
  | .lc _ _ _ _ _ _, _, _, _, _, _, e, _, _ => by simp [ev] at e
theorem evs_ok : ∀ (es : Exs) {σ : Sl} {ds : List D} {cs : List Prop} {h : Hd} {Q : List D → Hd → Prop}, evs es σ = some (ds, cs) → All cs → Q ds h → wA es σ h Q
  | .nil, σ, d, cs, h, Q, e, c, q => by
    simp only [evs, Option.some.injEq, Prod.mk.injEq] at e
    simp only [wA, e.1]
    exact q
  | .cons x xs, σ, d, cs, h, Q, e, c, q => by
    simp only [evs] at e
    split at e
    · rename_i y c1 ea
      split at e
      · rename_i ys c2 eb
        injection e with e
        injection e with e1 e2
        subst e1
        subst e2
        simp only [wA]
        exact ev_ok x ea c.app.1 (evs_ok xs eb c.app.2 q)
      · cases e
    · cases e
theorem evt_ok : ∀ (t : Tx) {σ : Sl} {k : Bool} {cs : List Prop} {h : Hd} {Q : Bool → Hd → Prop}, evt t σ = some (k, cs) → All cs → Q k h → wT t σ h Q
  | .val x, σ, d, cs, h, Q, e, c, q => by
    simp only [evt] at e
    split at e
    · rename_i k c1 ea
      injection e with e
      injection e with e1 e2
      subst e1
      subst e2
      simp only [wT]
      exact ev_ok x ea c q
    · cases e
  | .not t, σ, d, cs, h, Q, e, c, q => by
    simp only [evt] at e
    split at e
    · rename_i k c1 ea
      injection e with e
      injection e with e1 e2
      subst e1
      subst e2
      simp only [wT]
      exact evt_ok t ea c q
    · cases e
  | .and a b, σ, d, cs, h, Q, e, c, q => by
    simp only [evt] at e
    split at e
    · rename_i k c1 ea
      split at e
      · rename_i m c2 eb
        injection e with e
        injection e with e1 e2
        subst e1
        subst e2
        simp only [wT]
        refine evt_ok a ea c.app.1 ?_
        cases k with
        | true =>
          rw [if_pos rfl]
          exact evt_ok b eb (c.app.2.1 rfl) (by simpa using q)
        | false =>
          rw [if_neg (by decide)]
          simpa using q
      · cases e
    · cases e
  | .or a b, σ, d, cs, h, Q, e, c, q => by
    simp only [evt] at e
    split at e
    · rename_i k c1 ea
      split at e
      · rename_i m c2 eb
        injection e with e
        injection e with e1 e2
        subst e1
        subst e2
        simp only [wT]
        refine evt_ok a ea c.app.1 ?_
        cases k with
        | true =>
          rw [if_pos rfl]
          simpa using q
        | false =>
          rw [if_neg (by decide)]
          exact evt_ok b eb (c.app.2.1 rfl) (by simpa using q)
      · cases e
    · cases e
  | .ch3 _ _ _ _ _ _ _, _, _, _, _, _, e, _, _ => by simp [evt] at e
end
section
variable {i : Nat} {e : Ex} {ss : Sts} {E : Ed} {σ : Sl} {h : Hd} {d : D} {cs : List Prop}
theorem st_asg (v : ev e σ = some (d, cs)) (c : All cs) (k : wSs ss E (σ.set i (some d)) h) : wSs (.cons (.asg (.nm i) e) ss) E σ h := by
  rw [wSs, wS]
  refine ev_ok e v c ?_
  simp only [gT]
  exact k
theorem st_ret (v : ev e σ = some (d, cs)) (c : All cs) (k : E.rt d h) : wSs (.cons (.ret e) ss) E σ h := by
  rw [wSs, wS]
  exact ev_ok e v c k
theorem st_asgE (k : wE e σ h fun d h1 => wSs ss E (σ.set i (some d)) h1) : wSs (.cons (.asg (.nm i) e) ss) E σ h := by
  rw [wSs, wS]
  simp only [gT]
  exact k
theorem st_retE (k : wE e σ h E.rt) : wSs (.cons (.ret e) ss) E σ h := by
  rw [wSs, wS]
  exact k
theorem st_expE (k : wE e σ h fun _ h1 => wSs ss E σ h1) : wSs (.cons (.exp e) ss) E σ h := by
  rw [wSs, wS]
  exact k
theorem st_parE {is : List Nat} {es : Exs} (k : wA es σ h fun ds h1 => wSs ss E (setAll σ is ds) h1) : wSs (.cons (.par is es) ss) E σ h := by
  rw [wSs, wS]
  exact k
theorem st_iteE {t : Tx} {a b : Sts} (k : wT t σ h fun y h1 => if y = true then wSs a { nx := wSs ss E, rt := E.rt, bk := E.bk, ct := E.ct } σ h1 else wSs b { nx := wSs ss E, rt := E.rt, bk := E.bk, ct := E.ct } σ h1) : wSs (.cons (.ite t a b) ss) E σ h := by
  rw [wSs, wS]
  exact k
theorem st_forE {t : Tg} {it : Ite} {b : Sts} (k : wI it σ h fun ds stay h1 => forL (gT t) (wSs b) stay { nx := wSs ss E, rt := E.rt, bk := E.bk, ct := E.ct } ds σ h1) : wSs (.cons (.for t it b) ss) E σ h := by
  rw [wSs, wS]
  exact k
theorem e_call {x : Str} {ps : List Str} {sp : Spd} {es : Exs} {ds : List D} {Q : Pq} (v : evs es σ = some (ds, cs)) (c : All cs) (k : sp ds h Q) : wE (.call x ps sp es) σ h Q := by
  rw [wE]
  exact evs_ok es v c k
theorem e_callK {x : Str} {ps ks : List Str} {pm : List Nat} {sp : Spd} {es kes : Exs} {ds fs gs : List D} {ds' : List Prop} {Q : Pq} (v : evs es σ = some (ds, cs)) (c : All cs) (v2 : evs kes σ = some (fs, ds')) (c2 : All ds') (hp : pick (ds ++ fs) pm = gs) (k : sp gs h Q) : wE (.callK x ps sp es ks kes pm) σ h Q := by
  rw [wE]
  refine evs_ok es v c (evs_ok kes v2 c2 ?_)
  rw [hp]
  exact k
theorem e_bin {o : Operator} {a b : Ex} {Q : Pq} (k : wE a σ h fun x h1 => wE b σ h1 fun y h2 => binD o x y h2 Q) : wE (.bin o a b) σ h Q := by
  rw [wE]
  exact k
theorem e_sub {a b : Ex} {Q : Pq} (k : wE a σ h fun x h1 => wE b σ h1 fun y h2 => subsD x y h2 Q) : wE (.sub a b) σ h Q := by
  rw [wE]
  exact k
theorem e_cmp {o : CmpOp} {a b : Ex} {Q : Pq} (k : wE a σ h fun x h1 => wE b σ h1 fun y h2 => cmpD o x y h2 Q) : wE (.cmp o a b) σ h Q := by
  rw [wE]
  exact k
theorem e_tup {es : Exs} {Q : Pq} (k : wA es σ h fun ds h1 => Q (.tup ds) h1) : wE (.tup es) σ h Q := by
  rw [wE]
  exact k
theorem e_lst {es : Exs} {Q : Pq} (k : wA es σ h fun ds h1 => Q (.lst ds) h1) : wE (.lst es) σ h Q := by
  rw [wE]
  exact k
theorem e_blt {b : Bl} {es : Exs} {Q : Pq} (k : wA es σ h fun ds h1 => bltD b ds h1 Q) : wE (.blt b es) σ h Q := by
  rw [wE]
  exact k
theorem a_cons {x : Ex} {es : Exs} {Q : List D → Hd → Prop} (k : wE x σ h fun d h1 => wA es σ h1 fun ds h2 => Q (d :: ds) h2) : wA (.cons x es) σ h Q := by
  rw [wA]
  exact k
theorem a_nil {Q : List D → Hd → Prop} (k : Q [] h) : wA .nil σ h Q := by
  rw [wA]
  exact k
theorem t_val {x : Ex} {Q : Bool → Hd → Prop} (k : wE x σ h fun d h1 => truthD d h1 fun b => Q b h1) : wT (.val x) σ h Q := by
  rw [wT]
  exact k
theorem t_not {t : Tx} {Q : Bool → Hd → Prop} (k : wT t σ h fun b h1 => Q (!b) h1) : wT (.not t) σ h Q := by
  rw [wT]
  exact k
theorem t_or {t u : Tx} {Q : Bool → Hd → Prop} (k : wT t σ h fun b h1 => if b = true then Q true h1 else wT u σ h1 Q) : wT (.or t u) σ h Q := by
  rw [wT]
  exact k
theorem t_and {t u : Tx} {Q : Bool → Hd → Prop} (k : wT t σ h fun b h1 => if b = true then wT u σ h1 Q else Q false h1) : wT (.and t u) σ h Q := by
  rw [wT]
  exact k
/-- repr of data -/
theorem e_repr {d : D} {x : Ex} {Q : Pq} (v : ev x σ = some (d, cs)) (c : All cs) (f : d.isF = true) (s : Shows d) (k : Q (.str d.py.shown) h) : wE (.blt .repr (.cons x .nil)) σ h Q := by
  rw [wE]
  refine evs_ok (ds := [d]) (cs := cs ++ []) _ (by simp only [evs, v]) (by rw [List.append_nil]; exact c) ?_
  simp only [bltD]
  rw [vw_F f]
  exact ⟨s, k⟩
/-- a test that is reckoned at once -/
theorem st_ite {t : Tx} {a b : Sts} {k : Bool} (v : evt t σ = some (k, cs)) (c : All cs) (y : k = true → wSs a { nx := wSs ss E, rt := E.rt, bk := E.bk, ct := E.ct } σ h) (n : k = false → wSs b { nx := wSs ss E, rt := E.rt, bk := E.bk, ct := E.ct } σ h) : wSs (.cons (.ite t a b) ss) E σ h := by
  rw [wSs, wS]
  refine evt_ok t v c ?_
  cases k with
  | true => rw [if_pos rfl]; exact y rfl
  | false => rw [if_neg (by decide)]; exact n rfl
theorem st_par {is : List Nat} {es : Exs} {ds : List D} (v : evs es σ = some (ds, cs)) (c : All cs) (k : wSs ss E (setAll σ is ds) h) : wSs (.cons (.par is es) ss) E σ h := by
  rw [wSs, wS]
  exact evs_ok es v c k
theorem st_grow (P : D → Prop) {x : Ex} {xs ys : List D} (v : ev x σ = some (.lst (xs ++ ys), cs)) (c : All cs) (hx : ∀ t ∈ xs, P t) (hy : ∀ t ∈ ys, P t)
    (k : ∀ zs : List D, zs.length = xs.length + ys.length → (∀ t ∈ zs, P t) → wSs ss E (σ.set i (some (.lst zs))) h) : wSs (.cons (.asg (.nm i) x) ss) E σ h :=
  st_asg v c (k _ List.length_append fun t ht => (List.mem_append.mp ht).elim (hx t) (hy t))
end
end G

/-! More steps. -/
namespace G
open PySem PySem.Spec PyProof.Rows L2

theorem e_isinst {x : Ex} {t : Ty} {d : D} {σ : Sl} {h : Hd} {Q : Pq} (v : ev x σ = some (d, [])) (f : d.isF = true) (k : Q (.bl (isT d t)) h) : wE (.blt .isinst (.cons x (.cons (.typ t) .nil))) σ h Q := by
  refine e_blt (a_cons (ev_ok _ v trivial (a_cons ?_)))
  rw [wE]
  refine a_nil ?_
  simp only [bltD, isTy_F f]
  exact k
theorem e_callA {x : Str} {ps : List Str} {sp : Spd} {es : Exs} {σ : Sl} {h : Hd} {Q : Pq} (k : wA es σ h fun ds h1 => sp ds h1 Q) : wE (.call x ps sp es) σ h Q := by
  rw [wE]
  exact k
theorem o_int {x : Ex} {σ : Sl} {h : Hd} {i : Int} {cs : List Prop} {Q : Option Int → Hd → Prop} (v : ev x σ = some (.int i, cs)) (c : All cs) (q : Q (some i) h) : wO (.some x) σ h Q := by
  rw [wO]
  exact ev_ok x v c q
theorem o_none {σ : Sl} {h : Hd} {Q : Option Int → Hd → Prop} (q : Q none h) : wO .none σ h Q := by
  rw [wO]
  exact q
theorem e_sl {a : Ex} {lo hi : Exo} {σ : Sl} {h : Hd} {Q : Pq} (k : wE a σ h fun x h1 => wO lo σ h1 fun l h2 => wO hi σ h2 fun u h3 => sliceD x l u h3 Q) : wE (.sl a lo hi) σ h Q := by
  rw [wE]
  exact k
theorem e_slN {a : Ex} {lo hi : Exo} {σ : Sl} {h : Hd} {Q : Pq} (k : wE a σ h fun x h1 => wO lo σ h1 fun l h2 => wO hi σ h2 fun u h3 => sliceN x l u h3 Q) : wE (.slN a lo hi) σ h Q := by
  rw [wE]
  exact k
theorem e_addN {a b : Ex} {σ : Sl} {h : Hd} {Q : Pq} (k : wE a σ h fun x h1 => wE b σ h1 fun y h2 => catN x y h2 Q) : wE (.addN a b) σ h Q := by
  rw [wE]
  exact k
theorem e_ife {t : Tx} {a b : Ex} {σ : Sl} {h : Hd} {Q : Pq} (k : wT t σ h fun y h1 => if y = true then wE a σ h1 Q else wE b σ h1 Q) : wE (.ife t a b) σ h Q := by
  rw [wE]
  exact k
theorem e_and {a b : Ex} {σ : Sl} {h : Hd} {Q : Pq} (k : wE a σ h fun x h1 => boolD x fun k => if k = true then wE b σ h1 Q else Q (.bl false) h1) : wE (.and a b) σ h Q := by
  rw [wE]
  exact k
theorem sl_lst {ds : List D} {lo hi : Option Int} {h : Hd} {Q : Pq} (q : Q (.lst (cutD ds lo hi)) h) : sliceD (.lst ds) lo hi h Q := q
theorem sl_tup {ds : List D} {lo hi : Option Int} {h : Hd} {Q : Pq} (q : Q (.tup (cutD ds lo hi)) h) : sliceD (.tup ds) lo hi h Q := q
theorem slN_lst {ds : List D} {lo hi : Option Int} {h : Hd} {Q : Pq} (q : ∀ k, h k = none → Q (.ref k) (h.set k (.lst (cutD ds lo hi)))) : sliceN (.lst ds) lo hi h Q := q
theorem sl_str {x : Str} {lo hi : Option Int} {h : Hd} {Q : Pq} (l : x.length ≤ sizeLine) (q : Q (.str (cutS x lo hi)) h) : sliceD (.str x) lo hi h Q := ⟨l, q⟩
theorem cut_sub {ds : List D} {lo hi : Option Int} {d : D} (h : d ∈ cutD ds lo hi) : d ∈ ds := by
  unfold G.cutD at h
  exact List.mem_of_mem_drop (List.mem_of_mem_take h)
theorem cut_3 {ds : List D} {a : Int} (a0 : 0 ≤ a) (k : Nat) : (cutD ds (some a) (some (a + (k : Nat)))).length ≤ k := by
  obtain ⟨n, rfl⟩ := Int.eq_ofNat_of_zero_le a0
  unfold G.cutD
  rw [← Int.natCast_add, HT.sIx_nat, HT.sIx_nat, List.length_take]
  omega
theorem ne_same {x : Str} {h : Hd} {Q : Pq} (q : Q (.bl false) h) : cmpD .NotEq (.str x) (.str x) h Q := by
  rw [w_neS, decide_eq_true rfl]
  exact q
theorem eq_same {x : Str} {h : Hd} {Q : Pq} (q : Q (.bl true) h) : cmpD .Eq (.str x) (.str x) h Q := by
  rw [w_eqS, decide_eq_true rfl]
  exact q
theorem repr_w {d : D} {h : Hd} {Q : Pq} (f : d.isF = true) (s : Shows d) (q : Q (.str d.py.shown) h) : bltD .repr [d] h Q := by
  simp only [bltD, vw_F f]
  exact ⟨s, q⟩
theorem int_bl {b : Bool} {h : Hd} {Q : Pq} (q : Q (.int (if b = true then 1 else 0)) h) : bltD .int [.bl b] h Q := by
  simp only [bltD]
  exact q
theorem eqT_nil {ds : List D} {h : Hd} {Q : Pq} (i : (D.tup ds).isF = true) (q : Q (.bl ds.isEmpty) h) : cmpD .Eq (.tup ds) (.tup []) h Q := by
  have e2 : PyData.eqv (D.tup ds).py (D.tup []).py = ds.isEmpty := by
    simp only [D.py, D.pys, PyData.eqv, eqvAll_nil]
    cases ds <;> simp only [D.pys, List.isEmpty_nil, List.isEmpty_cons]
  have go : EqOk (D.tup ds) (D.tup []) ∧ Q (.bl (PyData.eqv (D.tup ds).py (D.tup []).py)) h := ⟨⟨i, by simp only [D.isF, D.areF], .inr (by decide +kernel)⟩, by rw [e2]; exact q⟩
  exact go
theorem sub_any {xs : List D} {i : Int} (P : D → Prop) {h : Hd} {Q : Pq} (i0 : 0 ≤ i) (i1 : i < xs.length) (hp : ∀ d ∈ xs, P d) (q : ∀ d, P d → Q d h) : subsD (.lst xs) (.int i) h Q := by
  obtain ⟨d, hd, e⟩ := atI_of i0 i1
  exact (w_subL e).mpr (q d (hp d hd))
theorem compL_in {g : D → (Sl → Prop) → Prop} {t : WT} {e : WE} {stay : Hd → Prop} {h : Hd} {Q : List D → Hd → Prop} (P : D → Prop) (hs : stay h) : ∀ (ds acc : List D),
    (∀ d ∈ ds, ∀ (Y : D → Hd → Prop) (Z : Hd → Prop), (∀ v, P v → Y v h) → g d fun σ => t σ h fun b h1 => if b = true then e σ h1 Y else Z h1) → (∀ vs : List D, vs.length = ds.length → (∀ v ∈ vs, P v) → Q (acc ++ vs) h) → compL g t e stay ds acc h Q
  | [], acc, _, q => ⟨hs, by simpa using q [] rfl (by simp)⟩
  | d :: ds, acc, step, q => ⟨hs, step d (by simp) _ _ fun v pv => compL_in P hs ds _ (fun d m => step d (by simp [m])) fun vs hl hv => by
      have := q (v :: vs) (by simp [hl]) (by simpa using ⟨pv, hv⟩)
      simpa using this⟩
theorem e_dct {ks : List Key} {es : Exs} {σ : Sl} {h : Hd} {Q : Pq} (k : wA es σ h fun ds h1 => Q (.dic ks ds) h1) : wE (.dct false ks es) σ h Q := by
  rw [wE]
  exact k
theorem st_app {x : Ex} {i k : Nat} {xs : List D} {σ : Sl} {h : Hd} {ss : Sts} {E : Ed} (hi : ev (.var i) σ = some (.ref k, [])) (hk : h k = some (.lst xs))
    (nx : wE x σ h fun d h1 => mthD .append (.ref k) [d] h1 fun _ h2 => wSs ss E σ h2) : wSs (.cons (.exp (.mth .append (.var i) (.cons x .nil))) ss) E σ h := by
  refine st_expE ?_
  rw [wE]
  refine ev_ok _ hi trivial ?_
  refine ⟨by simp only [tyD, Mt.T, hk], ?_⟩
  refine a_cons ?_
  simp only [wA]
  exact nx
theorem m_app {k : Nat} {xs : List D} {d : D} {h : Hd} {Q : Pq} (hk : h k = some (.lst xs)) (l : xs.length ≤ 100000) (q : Q .non (h.set k (.lst (xs ++ [d])))) : mthD .append (.ref k) [d] h Q := by
  have hs : sizeLine = 16777216 := sizeLine_eq
  simp only [mthD, lstOf, hk, mAppend]
  exact ⟨by omega, q⟩
theorem len_txt {x : Str} {h : Hd} {Q : Pq} (l : x.length ≤ sizeLine) (q : Q (.int x.length) h) : bltD .len [.str x] h Q := ⟨l, q⟩
theorem sub_ref {k : Nat} {xs : List D} {i : Int} {d : D} {h : Hd} {Q : Pq} (hk : h k = some (.lst xs)) (e : atI xs i = some d) (q : Q d h) : subsD (.ref k) (.int i) h Q := by
  simp only [subsD, hk, e]
  exact q
theorem e_callP {x y : Str} {ps qs : List Str} {sp sq : Spd} {i : Ex} {es : Exs} {σ : Sl} {h : Hd} {Q : Pq} (k : wE i σ h fun d h1 => intO d fun k => (k = 0 ∧ wA es σ h1 fun ds h2 => sp ds h2 Q) ∨ (k = 1 ∧ wA es σ h1 fun ds h2 => sq ds h2 Q)) : wE (.callP x y ps qs sp sq i es) σ h Q := by
  rw [wE]
  exact k
end G

/-! Kinds of anything; whole numbers and what they share. -/
namespace G
open PySem PySem.Spec PyProof.Rows L2

theorem areD_mem : ∀ {ds : List D}, D.areD ds = true → ∀ d ∈ ds, d.isD = true
  | [], _, d, hd => by cases hd
  | x :: xs, h, d, hd => by
    simp only [D.areD, Bool.and_eq_true] at h
    rcases List.mem_cons.mp hd with rfl | hd
    · exact h.1
    · exact areD_mem h.2 d hd
theorem areD_of : ∀ {ds : List D}, (∀ d ∈ ds, d.isD = true) → D.areD ds = true
  | [], _ => by simp only [D.areD]
  | x :: xs, h => by
    simp only [D.areD, Bool.and_eq_true]
    exact ⟨h x (by simp), areD_of fun d hd => h d (by simp [hd])⟩
theorem isD_tup {ds : List D} : (D.tup ds).isD = true ↔ ∀ d ∈ ds, d.isD = true := by
  simp only [D.isD]
  exact ⟨areD_mem, areD_of⟩
theorem areF_mem : ∀ {ds : List D}, D.areF ds = true → ∀ d ∈ ds, d.isF = true
  | [], _, d, hd => by cases hd
  | x :: xs, h, d, hd => by
    simp only [D.areF, Bool.and_eq_true] at h
    rcases List.mem_cons.mp hd with rfl | hd
    · exact h.1
    · exact areF_mem h.2 d hd
theorem areF_ofm : ∀ {ds : List D}, (∀ d ∈ ds, d.isF = true) → D.areF ds = true
  | [], _ => by simp only [D.areF]
  | x :: xs, h => by
    simp only [D.areF, Bool.and_eq_true]
    exact ⟨h x (by simp), areF_ofm fun d hd => h d (by simp [hd])⟩
theorem isF_tup {ds : List D} : (D.tup ds).isF = true ↔ ∀ d ∈ ds, d.isF = true := by
  simp only [D.isF]
  exact ⟨areF_mem, areF_ofm⟩
/-! ### is_whole, is_within, is_from, are_wholes -/
abbrev N_is_whole : List Str := ["thing"]
def c_is_whole : Sts := (.cons (.ret (.and (.blt .isinst (.cons (.var 0) (.cons (.typ .int) .nil))) (.not (.blt .isinst (.cons (.var 0) (.cons (.typ .bool) .nil))))))
  .nil)
def sp_is_whole : Spd := fun ds h Q => match ds with
  | [d] => d.isF = true ∧ Q (.bl (isWholeD d)) h
  | _ => False
theorem b_is_whole (ds : List D) (h : Hd) (Q : Pq) (q : sp_is_whole ds h Q) : wSs c_is_whole { nx := fun _ h' => Out Q .non h', rt := Out Q } (startD N_is_whole ds) h := by
  unfold sp_is_whole at q
  split at q
  · obtain ⟨hd, q⟩ := q
    rename_i d
    rw [isWholeD_eq] at q
    show wSs c_is_whole _ [some d] h
    simp only [c_is_whole, wSs, wS, wT, wTo, wE, wA, wO, wI, getS, gT, gTs, setAll, List.getElem?_cons_zero, List.getElem?_cons_succ, List.set_cons_zero, List.set_cons_succ, binD, augD, iaddD, imulD, addD, subD, mulD, fdivD, modD, powD, negD, cmpD, eqD, ordD, truthD, boolD, intO, view, subsD, sliceD, listed, dicted, bltD, seqD, seqI, zipI, zipSI, anyI, lstI, enumI, revI, starI, lenTs, mthD, lstOf, mAppend, mPop, mExtend, mUpper, mJoin, strsOf, tyD, Mt.T, setD, wipeD, List.map_cons, List.map_nil, Bool.false_eq_true, if_true, if_false, ↓reduceIte, isTy_F hd]
    cases e : isT d .int <;> rw [e] at q <;> simp only [wSs, wS, wT, wTo, wE, wA, wO, wI, getS, gT, gTs, setAll, List.getElem?_cons_zero, List.getElem?_cons_succ, List.set_cons_zero, List.set_cons_succ, binD, augD, iaddD, imulD, addD, subD, mulD, fdivD, modD, powD, negD, cmpD, eqD, ordD, truthD, boolD, intO, view, subsD, sliceD, listed, dicted, bltD, seqD, seqI, zipI, zipSI, anyI, lstI, enumI, revI, starI, lenTs, mthD, lstOf, mAppend, mPop, mExtend, mUpper, mJoin, strsOf, tyD, Mt.T, setD, wipeD, List.map_cons, List.map_nil, Bool.false_eq_true, if_true, if_false, ↓reduceIte] <;> exact .is (Hd.le.refl _) q
  · exact q.elim
abbrev N_is_within : List Str := ["thing", "low", "high"]
def c_is_within : Sts := (.cons (.ret (.and (.call "is_whole" ["thing"] sp_is_whole (.cons (.var 0) .nil)) (.chn .LtE .LtE (.var 1) (.var 0) (.var 2))))
  .nil)
def withinD (d : D) (lo hi : Int) : Bool := match d with
  | .int i => decide (lo ≤ i) && decide (i ≤ hi)
  | _ => false
def sp_is_within : Spd := fun ds h Q => match ds with
  | [d, .int lo, .int hi] => d.isF = true ∧ Q (.bl (withinD d lo hi)) h
  | _ => False
theorem b_is_within (ds : List D) (h : Hd) (Q : Pq) (q : sp_is_within ds h Q) : wSs c_is_within { nx := fun _ h' => Out Q .non h', rt := Out Q } (startD N_is_within ds) h := by
  unfold sp_is_within at q
  split at q
  · obtain ⟨hd, q⟩ := q
    rename_i d lo hi
    show wSs c_is_within _ [some d, some (.int lo), some (.int hi)] h
    simp only [c_is_within, wSs, wS, wT, wTo, wE, wA, wO, wI, getS, gT, gTs, setAll, List.getElem?_cons_zero, List.getElem?_cons_succ, List.set_cons_zero, List.set_cons_succ, binD, augD, iaddD, imulD, addD, subD, mulD, fdivD, modD, powD, negD, cmpD, eqD, ordD, truthD, boolD, intO, view, subsD, sliceD, listed, dicted, bltD, seqD, seqI, zipI, zipSI, anyI, lstI, enumI, revI, starI, lenTs, mthD, lstOf, mAppend, mPop, mExtend, mUpper, mJoin, strsOf, tyD, Mt.T, setD, wipeD, List.map_cons, List.map_nil, Bool.false_eq_true, if_true, if_false, ↓reduceIte, sp_is_whole]
    refine ⟨hd, ?_⟩
    cases e : isWholeD d
    · have e2 : withinD d lo hi = false := by cases d <;> first | rfl | cases e
      rw [e2] at q
      simp only [wSs, wS, wT, wTo, wE, wA, wO, wI, getS, gT, gTs, setAll, List.getElem?_cons_zero, List.getElem?_cons_succ, List.set_cons_zero, List.set_cons_succ, binD, augD, iaddD, imulD, addD, subD, mulD, fdivD, modD, powD, negD, cmpD, eqD, ordD, truthD, boolD, intO, view, subsD, sliceD, listed, dicted, bltD, seqD, seqI, zipI, zipSI, anyI, lstI, enumI, revI, starI, lenTs, mthD, lstOf, mAppend, mPop, mExtend, mUpper, mJoin, strsOf, tyD, Mt.T, setD, wipeD, List.map_cons, List.map_nil, Bool.false_eq_true, if_true, if_false, ↓reduceIte]
      exact .is (Hd.le.refl _) q
    · obtain ⟨i, rfl⟩ := isWhole_int e
      simp only [wSs, wS, wT, wTo, wE, wA, wO, wI, getS, gT, gTs, setAll, List.getElem?_cons_zero, List.getElem?_cons_succ, List.set_cons_zero, List.set_cons_succ, binD, augD, iaddD, imulD, addD, subD, mulD, fdivD, modD, powD, negD, cmpD, eqD, ordD, truthD, boolD, intO, view, subsD, sliceD, listed, dicted, bltD, seqD, seqI, zipI, zipSI, anyI, lstI, enumI, revI, starI, lenTs, mthD, lstOf, mAppend, mPop, mExtend, mUpper, mJoin, strsOf, tyD, Mt.T, setD, wipeD, List.map_cons, List.map_nil, Bool.false_eq_true, if_true, if_false, ↓reduceIte]
      by_cases h1 : lo ≤ i
      · simp only [h1, decide_true, if_true]
        simp only [withinD, h1, decide_true, Bool.true_and] at q
        exact .is (Hd.le.refl _) q
      · simp only [h1, decide_false, Bool.false_eq_true, if_false]
        simp only [withinD, h1, decide_false, Bool.false_and] at q
        exact .is (Hd.le.refl _) q
  · exact q.elim
abbrev N_is_from : List Str := ["thing", "low"]
def c_is_from : Sts := (.cons (.ret (.and (.call "is_whole" ["thing"] sp_is_whole (.cons (.var 0) .nil)) (.cmp .GtE (.var 0) (.var 1))))
  .nil)
def fromD (d : D) (lo : Int) : Bool := match d with
  | .int i => decide (lo ≤ i)
  | _ => false
def sp_is_from : Spd := fun ds h Q => match ds with
  | [d, .int lo] => d.isF = true ∧ Q (.bl (fromD d lo)) h
  | _ => False
theorem b_is_from (ds : List D) (h : Hd) (Q : Pq) (q : sp_is_from ds h Q) : wSs c_is_from { nx := fun _ h' => Out Q .non h', rt := Out Q } (startD N_is_from ds) h := by
  unfold sp_is_from at q
  split at q
  · obtain ⟨hd, q⟩ := q
    rename_i d lo
    show wSs c_is_from _ [some d, some (.int lo)] h
    simp only [c_is_from, wSs, wS, wT, wTo, wE, wA, wO, wI, getS, gT, gTs, setAll, List.getElem?_cons_zero, List.getElem?_cons_succ, List.set_cons_zero, List.set_cons_succ, binD, augD, iaddD, imulD, addD, subD, mulD, fdivD, modD, powD, negD, cmpD, eqD, ordD, truthD, boolD, intO, view, subsD, sliceD, listed, dicted, bltD, seqD, seqI, zipI, zipSI, anyI, lstI, enumI, revI, starI, lenTs, mthD, lstOf, mAppend, mPop, mExtend, mUpper, mJoin, strsOf, tyD, Mt.T, setD, wipeD, List.map_cons, List.map_nil, Bool.false_eq_true, if_true, if_false, ↓reduceIte, sp_is_whole]
    refine ⟨hd, ?_⟩
    cases e : isWholeD d
    · have e2 : fromD d lo = false := by cases d <;> first | rfl | cases e
      rw [e2] at q
      simp only [wSs, wS, wT, wTo, wE, wA, wO, wI, getS, gT, gTs, setAll, List.getElem?_cons_zero, List.getElem?_cons_succ, List.set_cons_zero, List.set_cons_succ, binD, augD, iaddD, imulD, addD, subD, mulD, fdivD, modD, powD, negD, cmpD, eqD, ordD, truthD, boolD, intO, view, subsD, sliceD, listed, dicted, bltD, seqD, seqI, zipI, zipSI, anyI, lstI, enumI, revI, starI, lenTs, mthD, lstOf, mAppend, mPop, mExtend, mUpper, mJoin, strsOf, tyD, Mt.T, setD, wipeD, List.map_cons, List.map_nil, Bool.false_eq_true, if_true, if_false, ↓reduceIte]
      exact .is (Hd.le.refl _) q
    · obtain ⟨i, rfl⟩ := isWhole_int e
      simp only [wSs, wS, wT, wTo, wE, wA, wO, wI, getS, gT, gTs, setAll, List.getElem?_cons_zero, List.getElem?_cons_succ, List.set_cons_zero, List.set_cons_succ, binD, augD, iaddD, imulD, addD, subD, mulD, fdivD, modD, powD, negD, cmpD, eqD, ordD, truthD, boolD, intO, view, subsD, sliceD, listed, dicted, bltD, seqD, seqI, zipI, zipSI, anyI, lstI, enumI, revI, starI, lenTs, mthD, lstOf, mAppend, mPop, mExtend, mUpper, mJoin, strsOf, tyD, Mt.T, setD, wipeD, List.map_cons, List.map_nil, Bool.false_eq_true, if_true, if_false, ↓reduceIte]
      exact .is (Hd.le.refl _) q
  · exact q.elim
abbrev N_are_wholes : List Str := ["thing", "one"]
def c_are_wholes : Sts := (.cons (.ret (.and (.blt .isinst (.cons (.var 0) (.cons (.typ .tuple) .nil))) (.blt .all (.cons (.lc false [("one", 1)] (.nm 1) (.seq (.var 0)) .none (.call "is_whole" ["thing"] sp_is_whole (.cons (.var 1) .nil))) .nil))))
  .nil)
def wholesD : D → Bool
  | .tup ds => ds.all isWholeD
  | _ => false
theorem wholes_ints {ds : List D} (h : ds.all isWholeD = true) : ∃ ns : List Int, ds = ns.map D.int := by
  induction ds with
  | nil => exact ⟨[], rfl⟩
  | cons d ds ih =>
    rw [List.all_cons, Bool.and_eq_true] at h
    obtain ⟨i, rfl⟩ := isWhole_int h.1
    obtain ⟨ns, rfl⟩ := ih h.2
    exact ⟨i :: ns, rfl⟩
theorem wholesD_ints (ns : List Int) : (ns.map D.int).all isWholeD = true := by
  rw [List.all_eq_true]
  intro d hd
  obtain ⟨i, _, rfl⟩ := List.mem_map.mp hd
  rfl
def sp_are_wholes : Spd := fun ds h Q => match ds with
  | [d] => d.isF = true ∧ Q (.bl (wholesD d)) h
  | _ => False
theorem blsOf_fun (f : D → Bool) (ds : List D) : blsOf (ds.map fun d => D.bl (f d)) = some (ds.map f) := by
  have := blsOf_map (ds.map f)
  rwa [List.map_map] at this
theorem all_id_map (f : D → Bool) (ds : List D) : (ds.map f).all id = ds.all f := by
  rw [List.all_map]; rfl
theorem b_are_wholes (ds : List D) (h : Hd) (Q : Pq) (q : sp_are_wholes ds h Q) : wSs c_are_wholes { nx := fun _ h' => Out Q .non h', rt := Out Q } (startD N_are_wholes ds) h := by
  unfold sp_are_wholes at q
  split at q
  · obtain ⟨hd, q⟩ := q
    rename_i d
    show wSs c_are_wholes _ [some d, none] h
    simp only [c_are_wholes, wSs, wS, wT, wTo, wE, wA, wO, wI, getS, gT, gTs, setAll, List.getElem?_cons_zero, List.getElem?_cons_succ, List.set_cons_zero, List.set_cons_succ, binD, augD, iaddD, imulD, addD, subD, mulD, fdivD, modD, powD, negD, cmpD, eqD, ordD, truthD, boolD, intO, view, subsD, sliceD, listed, dicted, bltD, seqD, seqI, zipI, zipSI, anyI, lstI, enumI, revI, starI, lenTs, mthD, lstOf, mAppend, mPop, mExtend, mUpper, mJoin, strsOf, tyD, Mt.T, setD, wipeD, List.map_cons, List.map_nil, Bool.false_eq_true, if_true, if_false, ↓reduceIte, isTy_F hd]
    cases e : isT d .tuple
    · have e2 : wholesD d = false := by cases d <;> first | rfl | cases e
      rw [e2] at q
      simp only [wSs, wS, wT, wTo, wE, wA, wO, wI, getS, gT, gTs, setAll, List.getElem?_cons_zero, List.getElem?_cons_succ, List.set_cons_zero, List.set_cons_succ, binD, augD, iaddD, imulD, addD, subD, mulD, fdivD, modD, powD, negD, cmpD, eqD, ordD, truthD, boolD, intO, view, subsD, sliceD, listed, dicted, bltD, seqD, seqI, zipI, zipSI, anyI, lstI, enumI, revI, starI, lenTs, mthD, lstOf, mAppend, mPop, mExtend, mUpper, mJoin, strsOf, tyD, Mt.T, setD, wipeD, List.map_cons, List.map_nil, Bool.false_eq_true, if_true, if_false, ↓reduceIte]
      exact .is (Hd.le.refl _) q
    · obtain ⟨ds, rfl⟩ := isT_tup e
      simp only [wSs, wS, wT, wTo, wE, wA, wO, wI, getS, gT, gTs, setAll, List.getElem?_cons_zero, List.getElem?_cons_succ, List.set_cons_zero, List.set_cons_succ, binD, augD, iaddD, imulD, addD, subD, mulD, fdivD, modD, powD, negD, cmpD, eqD, ordD, truthD, boolD, intO, view, subsD, sliceD, listed, dicted, bltD, seqD, seqI, zipI, zipSI, anyI, lstI, enumI, revI, starI, lenTs, mthD, lstOf, mAppend, mPop, mExtend, mUpper, mJoin, strsOf, tyD, Mt.T, setD, wipeD, List.map_cons, List.map_nil, Bool.false_eq_true, if_true, if_false, ↓reduceIte]
      refine compL_map (fun d => D.bl (isWholeD d)) trivial _ _ ?_ ?_
      · intro d hm Y Z y
        simp only [wSs, wS, wT, wTo, wE, wA, wO, wI, getS, gT, gTs, setAll, List.getElem?_cons_zero, List.getElem?_cons_succ, List.set_cons_zero, List.set_cons_succ, binD, augD, iaddD, imulD, addD, subD, mulD, fdivD, modD, powD, negD, cmpD, eqD, ordD, truthD, boolD, intO, view, subsD, sliceD, listed, dicted, bltD, seqD, seqI, zipI, zipSI, anyI, lstI, enumI, revI, starI, lenTs, mthD, lstOf, mAppend, mPop, mExtend, mUpper, mJoin, strsOf, tyD, Mt.T, setD, wipeD, List.map_cons, List.map_nil, Bool.false_eq_true, if_true, if_false, ↓reduceIte, sp_is_whole]
        exact ⟨isF_tup.mp hd d hm, y⟩
      · rw [List.nil_append, blsOf_fun]
        simp only [all_id_map]
        exact .is (Hd.le.refl _) q
  · exact q.elim
/-! ### shared_divisor, shared_sum -/
abbrev N_shared_divisor : List Str := ["one", "other"]
def c_shared_divisor_r1 : Sts := (.cons (.ret (.var 0))
  .nil)
def c_shared_divisor_b2 : Sts := (.cons (.par [0, 1] (.cons (.var 1) (.cons (.bin .Mod (.var 0) (.var 1)) .nil)))
    .nil)
def c_shared_divisor : Sts := (.cons (.whl (.val (.cmp .NotEq (.var 1) (.cst (.int 0))))
  c_shared_divisor_b2)
  c_shared_divisor_r1)
def sp_shared_divisor : Spd := fun ds h Q => match ds with
  | [.int a, .int b] => (0 ≤ a ∧ 0 ≤ b) ∧ Q (.int ((Nat.gcd a.toNat b.toNat : Nat) : Int)) h
  | _ => False
theorem b_shared_divisor (ds : List D) (h : Hd) (Q : Pq) (q : sp_shared_divisor ds h Q) : wSs c_shared_divisor { nx := fun _ h' => Out Q .non h', rt := Out Q } (startD N_shared_divisor ds) h := by
  unfold sp_shared_divisor at q
  split at q
  · rename_i a b
    obtain ⟨⟨a0, b0⟩, q⟩ := q
    obtain ⟨a, rfl⟩ := Int.eq_ofNat_of_zero_le a0
    obtain ⟨b, rfl⟩ := Int.eq_ofNat_of_zero_le b0
    show wSs c_shared_divisor _ [some (.int (a : Nat)), some (.int (b : Nat))] h
    simp only [c_shared_divisor, wSs, wS, wT, wTo, wE, wA, wO, wI, getS, gT, gTs, setAll, List.getElem?_cons_zero, List.getElem?_cons_succ, List.set_cons_zero, List.set_cons_succ, binD, augD, iaddD, imulD, addD, subD, mulD, fdivD, modD, powD, negD, cmpD, eqD, ordD, truthD, boolD, intO, view, subsD, sliceD, listed, dicted, bltD, seqD, seqI, zipI, zipSI, anyI, lstI, enumI, revI, starI, lenTs, mthD, lstOf, mAppend, mPop, mExtend, mUpper, mJoin, strsOf, tyD, Mt.T, setD, wipeD, List.map_cons, List.map_nil, Bool.false_eq_true, if_true, if_false, ↓reduceIte]
    refine ⟨fun m σ g => ∃ x y : Nat, σ = [some (.int (x : Nat)), some (.int (y : Nat))] ∧ g = h ∧ Nat.gcd x y = Nat.gcd a b ∧ m = y, ⟨_, a, b, rfl, rfl, rfl, rfl⟩, ?_⟩
    rintro m σ g ⟨x, y, rfl, rfl, e, rfl⟩
    simp only [wSs, wS, wT, wTo, wE, wA, wO, wI, getS, gT, gTs, setAll, List.getElem?_cons_zero, List.getElem?_cons_succ, List.set_cons_zero, List.set_cons_succ, binD, augD, iaddD, imulD, addD, subD, mulD, fdivD, modD, powD, negD, cmpD, eqD, ordD, truthD, boolD, intO, view, subsD, sliceD, listed, dicted, bltD, seqD, seqI, zipI, zipSI, anyI, lstI, enumI, revI, starI, lenTs, mthD, lstOf, mAppend, mPop, mExtend, mUpper, mJoin, strsOf, tyD, Mt.T, setD, wipeD, List.map_cons, List.map_nil, Bool.false_eq_true, if_true, if_false, ↓reduceIte, Bool.not_eq_true', decide_eq_false_iff_not]
    split
    · rename_i y0
      simp only [c_shared_divisor_b2, wSs, wS, wT, wTo, wE, wA, wO, wI, getS, gT, gTs, setAll, List.getElem?_cons_zero, List.getElem?_cons_succ, List.set_cons_zero, List.set_cons_succ, binD, augD, iaddD, imulD, addD, subD, mulD, fdivD, modD, powD, negD, cmpD, eqD, ordD, truthD, boolD, intO, view, subsD, sliceD, listed, dicted, bltD, seqD, seqI, zipI, zipSI, anyI, lstI, enumI, revI, starI, lenTs, mthD, lstOf, mAppend, mPop, mExtend, mUpper, mJoin, strsOf, tyD, Mt.T, setD, wipeD, List.map_cons, List.map_nil, Bool.false_eq_true, if_true, if_false, ↓reduceIte]
      refine ⟨by omega, x % m, Nat.mod_lt _ (by omega), m, x % m, by rw [Int.natCast_emod], trivial, ?_, rfl⟩
      rw [← e, Nat.gcd_comm m, ← Nat.gcd_rec, Nat.gcd_comm]
    · rename_i y0
      have : m = 0 := by omega
      subst this
      simp only [c_shared_divisor_r1, wSs, wS, wT, wTo, wE, wA, wO, wI, getS, gT, gTs, setAll, List.getElem?_cons_zero, List.getElem?_cons_succ, List.set_cons_zero, List.set_cons_succ, binD, augD, iaddD, imulD, addD, subD, mulD, fdivD, modD, powD, negD, cmpD, eqD, ordD, truthD, boolD, intO, view, subsD, sliceD, listed, dicted, bltD, seqD, seqI, zipI, zipSI, anyI, lstI, enumI, revI, starI, lenTs, mthD, lstOf, mAppend, mPop, mExtend, mUpper, mJoin, strsOf, tyD, Mt.T, setD, wipeD, List.map_cons, List.map_nil, Bool.false_eq_true, if_true, if_false, ↓reduceIte]
      simp only [Nat.gcd_zero_right] at e
      rw [e]
      exact .is (Hd.le.refl _) q
  · exact q.elim
end G

/-! Powers, and sums by powers. -/
namespace G
open PySem PySem.Spec PyProof.Rows L2

theorem natAbs_pow (B : Int) : ∀ e : Nat, (B ^ e).natAbs = B.natAbs ^ e
  | 0 => by rw [Int.pow_zero, Nat.pow_zero]; rfl
  | e + 1 => by rw [Int.pow_succ, Int.natAbs_mul, natAbs_pow B e, Nat.pow_succ]
theorem log2_le {n k : Nat} (h : n ≤ 2 ^ k) : n.log2 ≤ k := by
  by_cases z : n = 0
  · rw [z]; exact Nat.zero_le _
  · have : n.log2 < k + 1 := (Nat.log2_lt z).mpr (Nat.lt_of_le_of_lt h (Nat.pow_lt_pow_right (by decide) (Nat.lt_succ_self k)))
    omega
theorem log2_pow {B : Int} {b : Nat} (h : B.natAbs < 2 ^ b) (e : Nat) : (B ^ e).natAbs.log2 ≤ b * e := by
  refine log2_le ?_
  rw [natAbs_pow, Nat.pow_mul]
  exact Nat.pow_le_pow_left (Nat.le_of_lt h) e
theorem mulOk_pow {B : Int} {b e f : Nat} (h : B.natAbs < 2 ^ b) (hl : b * (e + f) < 1000000) : MulOk (B ^ e) (B ^ f) := by
  have h1 := log2_pow h e
  have h2 := log2_pow h f
  rw [Nat.mul_add] at hl
  exact .inr (.inr (by omega))
abbrev N_power_of : List Str := ["base", "many", "found"]
def c_power_of_r1 : Sts := (.cons (.ret (.var 2))
  .nil)
def c_power_of_r2 : Sts := (.cons (.asg (.nm 1) (.bin .FloorDiv (.var 1) (.cst (.int 2))))
    (.cons (.ite (.val (.cmp .Gt (.var 1) (.cst (.int 0))))
    (.cons (.asg (.nm 0) (.bin .Mult (.var 0) (.var 0)))
      .nil)
    .nil)
    .nil))
def c_power_of_b3 : Sts := (.cons (.ite (.val (.cmp .Eq (.bin .Mod (.var 1) (.cst (.int 2))) (.cst (.int 1))))
    (.cons (.asg (.nm 2) (.bin .Mult (.var 2) (.var 0)))
      .nil)
    .nil)
    c_power_of_r2)
def c_power_of : Sts := (.cons (.asg (.nm 2) (.cst (.int 1)))
  (.cons (.whl (.val (.cmp .Gt (.var 1) (.cst (.int 0))))
  c_power_of_b3)
  c_power_of_r1))
def sp_power_of : Spd := fun ds h Q => match ds with
  | [.int B, .int M] => (∃ b : Nat, B.natAbs < 2 ^ b ∧ b * M.toNat < 1000000) ∧ Q (.int (B ^ M.toNat)) h
  | _ => False
theorem b_power_of (ds : List D) (h : Hd) (Q : Pq) (q : sp_power_of ds h Q) : wSs c_power_of { nx := fun _ h' => Out Q .non h', rt := Out Q } (startD N_power_of ds) h := by
  unfold sp_power_of at q
  split at q
  · rename_i B M
    obtain ⟨⟨b, hb, hl⟩, q⟩ := q
    show wSs c_power_of _ [some (.int B), some (.int M), none] h
    simp only [c_power_of, wSs, wS, wT, wTo, wE, wA, wO, wI, getS, gT, gTs, setAll, List.getElem?_cons_zero, List.getElem?_cons_succ, List.set_cons_zero, List.set_cons_succ, binD, augD, iaddD, imulD, addD, subD, mulD, fdivD, modD, powD, negD, cmpD, eqD, ordD, truthD, boolD, intO, view, subsD, sliceD, listed, dicted, bltD, seqD, seqI, zipI, zipSI, anyI, lstI, enumI, revI, starI, lenTs, mthD, lstOf, mAppend, mPop, mExtend, mUpper, mJoin, strsOf, tyD, Mt.T, setD, wipeD, List.map_cons, List.map_nil, Bool.false_eq_true, if_true, if_false, ↓reduceIte]
    refine ⟨fun m σ g => ∃ (e f k : Nat) (z : Int), σ = [some (.int (B ^ f)), some (.int z), some (.int (B ^ e))] ∧ g = h ∧ z.toNat = k ∧ e + f * k = M.toNat ∧ m = k, ⟨_, 0, 1, M.toNat, M, by rw [Int.pow_zero, Int.pow_succ, Int.pow_zero, Int.one_mul], rfl, rfl, by omega, rfl⟩, ?_⟩
    rintro m σ g ⟨e, f, k, z, rfl, rfl, hz, he, rfl⟩
    simp only [wSs, wS, wT, wTo, wE, wA, wO, wI, getS, gT, gTs, setAll, List.getElem?_cons_zero, List.getElem?_cons_succ, List.set_cons_zero, List.set_cons_succ, binD, augD, iaddD, imulD, addD, subD, mulD, fdivD, modD, powD, negD, cmpD, eqD, ordD, truthD, boolD, intO, view, subsD, sliceD, listed, dicted, bltD, seqD, seqI, zipI, zipSI, anyI, lstI, enumI, revI, starI, lenTs, mthD, lstOf, mAppend, mPop, mExtend, mUpper, mJoin, strsOf, tyD, Mt.T, setD, wipeD, List.map_cons, List.map_nil, Bool.false_eq_true, if_true, if_false, ↓reduceIte, decide_eq_true_eq]
    split
    · rename_i zp
      have kp : 1 ≤ m := by omega
      have ef : e + f ≤ M.toNat := by rw [← he]; exact Nat.add_le_add_left (Nat.le_mul_of_pos_right f kp) e
      have bef : b * (e + f) < 1000000 := Nat.lt_of_le_of_lt (Nat.mul_le_mul_left b ef) hl
      have ok1 : MulOk (B ^ e) (B ^ f) := mulOk_pow hb bef
      have ok2 : 0 < z / 2 → MulOk (B ^ f) (B ^ f) := fun z2 => by
        have : f * 2 ≤ f * m := Nat.mul_le_mul_left f (by omega)
        have : f + f ≤ M.toNat := by omega
        exact mulOk_pow hb (Nat.lt_of_le_of_lt (Nat.mul_le_mul_left b this) hl)
      have hm2 : m = 2 * (m / 2) + m % 2 := by omega
      have he2 : e + f * (2 * (m / 2)) + f * (m % 2) = M.toNat := by rw [Nat.add_assoc, ← Nat.mul_add, ← hm2]; exact he
      have ff : ∀ x : Nat, f * (2 * x) = (f + f) * x := fun x => by rw [Nat.add_mul, ← Nat.mul_add, Nat.two_mul]
      rw [ff] at he2
      simp only [c_power_of_b3, c_power_of_r2, wSs, wS, wT, wTo, wE, wA, wO, wI, getS, gT, gTs, setAll, List.getElem?_cons_zero, List.getElem?_cons_succ, List.set_cons_zero, List.set_cons_succ, binD, augD, iaddD, imulD, addD, subD, mulD, fdivD, modD, powD, negD, cmpD, eqD, ordD, truthD, boolD, intO, view, subsD, sliceD, listed, dicted, bltD, seqD, seqI, zipI, zipSI, anyI, lstI, enumI, revI, starI, lenTs, mthD, lstOf, mAppend, mPop, mExtend, mUpper, mJoin, strsOf, tyD, Mt.T, setD, wipeD, List.map_cons, List.map_nil, Bool.false_eq_true, if_true, if_false, ↓reduceIte, decide_eq_true_eq]
      refine ⟨by decide, ?_⟩
      split
      · rename_i odd
        have odd : m % 2 = 1 := by omega
        rw [odd, Nat.mul_one] at he2
        refine ⟨ok1, ⟨by decide, .inl (by decide)⟩, ?_⟩
        split
        · rename_i z2
          exact ⟨ok2 z2, m / 2, by omega, e + f, f + f, m / 2, z / 2, by rw [Int.pow_add, Int.pow_add], trivial, by omega, by omega, rfl⟩
        · rename_i z2
          have z3 : m / 2 = 0 := by omega
          rw [z3] at he2
          exact ⟨m / 2, by omega, e + f, f, m / 2, z / 2, by rw [Int.pow_add], trivial, by omega, by rw [z3]; omega, rfl⟩
      · rename_i odd
        have odd : m % 2 = 0 := by omega
        rw [odd, Nat.mul_zero] at he2
        refine ⟨⟨by decide, .inl (by decide)⟩, ?_⟩
        split
        · rename_i z2
          exact ⟨ok2 z2, m / 2, by omega, e, f + f, m / 2, z / 2, by rw [Int.pow_add], trivial, by omega, by omega, rfl⟩
        · rename_i z2
          have z3 : m / 2 = 0 := by omega
          rw [z3] at he2
          exact ⟨m / 2, by omega, e, f, m / 2, z / 2, rfl, trivial, by omega, by rw [z3]; omega, rfl⟩
    · have z0 : m = 0 := by omega
      subst z0
      simp only [c_power_of_r1, wSs, wS, wT, wTo, wE, wA, wO, wI, getS, gT, gTs, setAll, List.getElem?_cons_zero, List.getElem?_cons_succ, List.set_cons_zero, List.set_cons_succ, binD, augD, iaddD, imulD, addD, subD, mulD, fdivD, modD, powD, negD, cmpD, eqD, ordD, truthD, boolD, intO, view, subsD, sliceD, listed, dicted, bltD, seqD, seqI, zipI, zipSI, anyI, lstI, enumI, revI, starI, lenTs, mthD, lstOf, mAppend, mPop, mExtend, mUpper, mJoin, strsOf, tyD, Mt.T, setD, wipeD, List.map_cons, List.map_nil, Bool.false_eq_true, if_true, if_false, ↓reduceIte]
      have ee : e = M.toNat := by omega
      subst ee
      exact .is (Hd.le.refl _) q
  · exact q.elim
end G

/-! Rows of divisors: divisors_of, row_of, table_of, and what the laws hold against them. -/
namespace G
open PySem PySem.Spec PyProof.Rows L2

theorem self_le_sq {n d : Nat} (h : d * d ≤ n) : d ≤ n := by
  rcases Nat.eq_zero_or_pos d with z | z
  · omega
  · exact Nat.le_trans (Nat.le_mul_of_pos_right d z) h
/-- divisors from d on, up to the root -/
def lows (n d : Nat) : List Nat := if h : d * d ≤ n ∧ 0 < d then (if n % d = 0 then [d] else []) ++ lows n (d + 1) else []
termination_by n + 1 - d
decreasing_by
  have := self_le_sq h.1
  omega
theorem lows_in {n d : Nat} (h : d * d ≤ n) (h0 : 0 < d) : lows n d = (if n % d = 0 then [d] else []) ++ lows n (d + 1) := by rw [lows, dif_pos ⟨h, h0⟩]
theorem lows_end {n d : Nat} (h : ¬ d * d ≤ n) : lows n d = [] := by rw [lows, dif_neg (fun z => h z.1)]
def his (n : Nat) (L : List Nat) : List Nat := (L.filter fun d => decide (d * d ≠ n)).map (n / ·)
def divs (n : Nat) : List Nat := lows n 1 ++ (his n (lows n 1)).reverse
def intsD (L : List Nat) : List D := L.map fun d => D.int (d : Nat)
def words3 : List Str := ["many", "total", "least"]
def rowV (s : Str) (n : Nat) : Nat := if s = "many" then (divs n).length else if s = "total" then (divs n).sum else if 1 < (divs n).length then (divs n).getD 1 0 else 1
theorem lows_ge : ∀ (k n d : Nat), n + 1 - d ≤ k → ∀ e ∈ lows n d, d ≤ e ∧ e * e ≤ n ∧ n % e = 0
  | k, n, d, hk, e, he => by
    by_cases h : d * d ≤ n ∧ 0 < d
    · rw [lows_in h.1 h.2] at he
      rcases List.mem_append.mp he with he | he
      · split at he
        · rename_i hz
          rw [List.mem_singleton.mp he]
          exact ⟨Nat.le_refl _, h.1, hz⟩
        · cases he
      · have dn := self_le_sq h.1
        cases k with
        | zero => omega
        | succ k =>
          obtain ⟨a, b, c⟩ := lows_ge k n (d + 1) (by omega) e he
          exact ⟨by omega, b, c⟩
    · rw [lows, dif_neg h] at he
      cases he
theorem lows_len : ∀ (k n d : Nat), n + 1 - d ≤ k → (lows n d).length ≤ n + 1 - d
  | k, n, d, hk => by
    by_cases h : d * d ≤ n ∧ 0 < d
    · rw [lows_in h.1 h.2, List.length_append]
      have dn := self_le_sq h.1
      cases k with
      | zero => omega
      | succ k =>
        have := lows_len k n (d + 1) (by omega)
        have : (if n % d = 0 then [d] else []).length ≤ 1 := by split <;> simp
        omega
    · rw [lows, dif_neg h]
      simp
theorem his_len (n : Nat) (L : List Nat) : (his n L).length ≤ L.length := by
  unfold his
  rw [List.length_map]
  exact List.length_filter_le _ _
theorem divs_len (n : Nat) : (divs n).length ≤ 2 * n := by
  unfold divs
  rw [List.length_append, List.length_reverse]
  have := his_len n (lows n 1)
  have := lows_len n n 1 (by omega)
  omega
theorem divs_le {n : Nat} : ∀ d ∈ divs n, d ≤ n := by
  intro d hd
  rcases List.mem_append.mp hd with h | h
  · exact self_le_sq (lows_ge _ n 1 (Nat.le_refl _) d h).2.1
  · obtain ⟨e, _, rfl⟩ := List.mem_map.mp (List.mem_reverse.mp h)
    exact Nat.div_le_self _ _
theorem sum_le {m : Nat} : ∀ (L : List Nat), (∀ d ∈ L, d ≤ m) → L.sum ≤ L.length * m
  | [], _ => Nat.zero_le _
  | d :: L, h => by
    have := sum_le L fun e he => h e (by simp [he])
    have := h d (by simp)
    rw [List.sum_cons, List.length_cons, Nat.add_mul]
    omega
theorem rowV_le {s : Str} {n : Nat} (hn : n ≤ 2000) (n1 : 1 ≤ n) : rowV s n ≤ 8000000 := by
  unfold rowV
  have h1 := divs_len n
  have h2 := sum_le (divs n) divs_le
  have h3 : (divs n).length * n ≤ 4000 * 2000 := Nat.mul_le_mul (by omega) hn
  split
  · omega
  · split
    · omega
    · split
      · rename_i hl
        have : (divs n).getD 1 0 = (divs n)[1] := by simp [List.getD, hl]
        rw [this]
        have := divs_le _ (List.getElem_mem hl)
        omega
      · omega

/-! ### divisors_of -/
abbrev N_divisors_of : List Str := ["number", "low", "high", "at"]
def c_divisors_of_r1 : Sts := (.cons (.ret (.bin .Add (.var 1) (.rev false (.var 2))))
  .nil)
def c_divisors_of_r2 : Sts := (.cons (.aug 3 .Add (.cst (.int 1)))
    .nil)
def c_divisors_of_b3 : Sts := (.cons (.ite (.val (.cmp .Eq (.bin .Mod (.var 0) (.var 3)) (.cst (.int 0))))
    (.cons (.exp (.mth .append (.var 1) (.cons (.var 3) .nil)))
      (.cons (.ite (.val (.cmp .NotEq (.bin .Mult (.var 3) (.var 3)) (.var 0)))
      (.cons (.exp (.mth .append (.var 2) (.cons (.bin .FloorDiv (.var 0) (.var 3)) .nil)))
        .nil)
      .nil)
      .nil))
    .nil)
    c_divisors_of_r2)
def c_divisors_of : Sts := (.cons (.par [1, 2, 3] (.cons (.new .nil) (.cons (.new .nil) (.cons (.cst (.int 1)) .nil))))
  (.cons (.whl (.val (.cmp .LtE (.bin .Mult (.var 3) (.var 3)) (.var 0)))
  c_divisors_of_b3)
  c_divisors_of_r1))
def sp_divisors_of : Spd := fun ds h Q => ∃ n : Nat, ds = [.int n] ∧ 1 ≤ n ∧ n ≤ 2000 ∧ Q (.lst (intsD (divs n))) h
theorem intsD_append (a b : List Nat) : intsD (a ++ b) = intsD a ++ intsD b := List.map_append
theorem intsD_length (a : List Nat) : (intsD a).length = a.length := List.length_map _
theorem b_divisors_of (ds : List D) (h : Hd) (Q : Pq) (q : sp_divisors_of ds h Q) : wSs c_divisors_of { nx := fun _ h' => Out Q .non h', rt := Out Q } (startD N_divisors_of ds) h := by
  obtain ⟨n, rfl, n1, n2, q⟩ := q
  show wSs c_divisors_of _ [some (.int n), none, none, none] h
  simp only [c_divisors_of, wSs, wS, wT, wTo, wE, wA, wO, wI, getS, gT, gTs, setAll, List.getElem?_cons_zero, List.getElem?_cons_succ, List.set_cons_zero, List.set_cons_succ, binD, augD, iaddD, imulD, addD, subD, mulD, fdivD, modD, powD, negD, cmpD, eqD, ordD, truthD, boolD, intO, view, subsD, sliceD, listed, dicted, bltD, seqD, seqI, zipI, zipSI, anyI, lstI, enumI, revI, starI, lenTs, mthD, lstOf, mAppend, mPop, mExtend, mUpper, mJoin, strsOf, tyD, Mt.T, setD, wipeD, List.map_cons, List.map_nil, Bool.false_eq_true, if_true, if_false, ↓reduceIte]
  intro a ha b hb
  have ab : a ≠ b := fun z => by rw [← z, Hd.set_same] at hb; cases hb
  have hb0 : h b = none := by rw [Hd.set_ne (fun z => ab z.symm)] at hb; exact hb
  refine ⟨fun m σ g => ∃ (d : Nat) (A B : List Nat), σ = [some (.int n), some (.ref a), some (.ref b), some (.int d)] ∧ h.le g ∧ g a = some (.lst (intsD A)) ∧ g b = some (.lst (intsD B)) ∧ 1 ≤ d ∧ d ≤ n + 1 ∧ A.length < d ∧ B.length < d ∧ A ++ lows n d = lows n 1 ∧ B ++ his n (lows n d) = his n (lows n 1) ∧ m = n + 1 - d,
    ⟨_, 1, [], [], rfl, ((Hd.le.refl h).set ha).set hb0, ?_, Hd.set_same, by omega, by omega, by simp, by simp, rfl, rfl, rfl⟩, ?_⟩
  · rw [Hd.set_ne ab]; exact Hd.set_same
  · rintro m σ g ⟨d, A, B, rfl, le, ga, gb, d1, dn, lA, lB, eA, eB, rfl⟩
    simp only [wSs, wS, wT, wTo, wE, wA, wO, wI, getS, gT, gTs, setAll, List.getElem?_cons_zero, List.getElem?_cons_succ, List.set_cons_zero, List.set_cons_succ, binD, augD, iaddD, imulD, addD, subD, mulD, fdivD, modD, powD, negD, cmpD, eqD, ordD, truthD, boolD, intO, view, subsD, sliceD, listed, dicted, bltD, seqD, seqI, zipI, zipSI, anyI, lstI, enumI, revI, starI, lenTs, mthD, lstOf, mAppend, mPop, mExtend, mUpper, mJoin, strsOf, tyD, Mt.T, setD, wipeD, List.map_cons, List.map_nil, Bool.false_eq_true, if_true, if_false, ↓reduceIte, decide_eq_true_eq]
    refine ⟨.inl (by omega), ?_⟩
    split
    · rename_i hd
      have hd : d * d ≤ n := by exact_mod_cast hd
      have dn := self_le_sq hd
      rw [lows_in hd d1] at eA eB
      simp only [c_divisors_of_b3, wSs, wS, wT, wTo, wE, wA, wO, wI, getS, gT, gTs, setAll, List.getElem?_cons_zero, List.getElem?_cons_succ, List.set_cons_zero, List.set_cons_succ, binD, augD, iaddD, imulD, addD, subD, mulD, fdivD, modD, powD, negD, cmpD, eqD, ordD, truthD, boolD, intO, view, subsD, sliceD, listed, dicted, bltD, seqD, seqI, zipI, zipSI, anyI, lstI, enumI, revI, starI, lenTs, mthD, lstOf, mAppend, mPop, mExtend, mUpper, mJoin, strsOf, tyD, Mt.T, setD, wipeD, List.map_cons, List.map_nil, Bool.false_eq_true, if_true, if_false, ↓reduceIte, decide_eq_true_eq]
      refine ⟨by omega, ?_⟩
      split
      · rename_i hz
        have hz : n % d = 0 := by exact_mod_cast hz
        rw [if_pos hz] at eA eB
        simp only [ga, wSs, wS, wT, wTo, wE, wA, wO, wI, getS, gT, gTs, setAll, List.getElem?_cons_zero, List.getElem?_cons_succ, List.set_cons_zero, List.set_cons_succ, binD, augD, iaddD, imulD, addD, subD, mulD, fdivD, modD, powD, negD, cmpD, eqD, ordD, truthD, boolD, intO, view, subsD, sliceD, listed, dicted, bltD, seqD, seqI, zipI, zipSI, anyI, lstI, enumI, revI, starI, lenTs, mthD, lstOf, mAppend, mPop, mExtend, mUpper, mJoin, strsOf, tyD, Mt.T, setD, wipeD, List.map_cons, List.map_nil, Bool.false_eq_true, if_true, if_false, ↓reduceIte]
        refine ⟨trivial, by rw [intsD_length]; exact Nat.lt_of_lt_of_le (show A.length < 2001 by omega) (by decide), .inl (by omega), ?_⟩
        have ga2 : g.set a (.lst (intsD A ++ [.int d])) a = some (.lst (intsD (A ++ [d]))) := by rw [Hd.set_same, intsD_append]; rfl
        have gb2 : g.set a (.lst (intsD A ++ [.int d])) b = some (.lst (intsD B)) := by rw [Hd.set_ne (fun z => ab z.symm)]; exact gb
        have le2 : h.le (g.set a (.lst (intsD A ++ [.int d]))) := le.set ha
        generalize g.set a (.lst (intsD A ++ [.int d])) = g2 at ga2 gb2 le2
        have cast : ((n : Int) / (d : Int)) = ((n / d : Nat) : Int) := (Int.natCast_ediv n d).symm
        by_cases hs : d * d = n
        · have hs' : (d : Int) * d = n := by exact_mod_cast hs
          rw [hs']
          simp only [decide_true, Bool.not_true, Bool.false_eq_true, if_false, c_divisors_of_r2, wSs, wS, wT, wTo, wE, wA, wO, wI, getS, gT, gTs, setAll, List.getElem?_cons_zero, List.getElem?_cons_succ, List.set_cons_zero, List.set_cons_succ, binD, augD, iaddD, imulD, addD, subD, mulD, fdivD, modD, powD, negD, cmpD, eqD, ordD, truthD, boolD, intO, view, subsD, sliceD, listed, dicted, bltD, seqD, seqI, zipI, zipSI, anyI, lstI, enumI, revI, starI, lenTs, mthD, lstOf, mAppend, mPop, mExtend, mUpper, mJoin, strsOf, tyD, Mt.T, setD, wipeD, List.map_cons, List.map_nil, Bool.false_eq_true, if_true, if_false, ↓reduceIte]
          have e2 : his n ([d] ++ lows n (d + 1)) = his n (lows n (d + 1)) := by
            unfold his
            rw [List.singleton_append, List.filter_cons_of_neg (by simp [hs])]
          rw [e2] at eB
          exact ⟨n + 1 - (d + 1), by omega, d + 1, A ++ [d], B, rfl, le2, ga2, gb2, by omega, by omega, by simp; omega, by omega, by simpa using eA, eB, rfl⟩
        · have hs' : ¬ (d : Int) * d = n := fun z => hs (by exact_mod_cast z)
          simp only [decide_eq_false hs', Bool.not_false, ↓reduceIte, gb2, c_divisors_of_r2, wSs, wS, wT, wTo, wE, wA, wO, wI, getS, gT, gTs, setAll, List.getElem?_cons_zero, List.getElem?_cons_succ, List.set_cons_zero, List.set_cons_succ, binD, augD, iaddD, imulD, addD, subD, mulD, fdivD, modD, powD, negD, cmpD, eqD, ordD, truthD, boolD, intO, view, subsD, sliceD, listed, dicted, bltD, seqD, seqI, zipI, zipSI, anyI, lstI, enumI, revI, starI, lenTs, mthD, lstOf, mAppend, mPop, mExtend, mUpper, mJoin, strsOf, tyD, Mt.T, setD, wipeD, List.map_cons, List.map_nil, Bool.false_eq_true, if_true, if_false, ↓reduceIte]
          have e2 : his n ([d] ++ lows n (d + 1)) = (n / d) :: his n (lows n (d + 1)) := by
            unfold his
            rw [List.singleton_append, List.filter_cons_of_pos (by simp [hs])]
            rfl
          rw [e2] at eB
          refine ⟨trivial, ⟨by omega, .inl (by omega)⟩, by rw [intsD_length]; exact Nat.lt_of_lt_of_le (show B.length < 2001 by omega) (by decide), n + 1 - (d + 1), by omega, d + 1, A ++ [d], B ++ [n / d], rfl, le2.set hb0, ?_, ?_, by omega, by omega, by simp; omega, by simp; omega, by simpa using eA, by simpa using eB, rfl⟩
          · rw [Hd.set_ne ab]; exact ga2
          · rw [Hd.set_same, intsD_append, cast]; rfl
      · rename_i hz
        have hz : ¬ n % d = 0 := fun z => hz (by exact_mod_cast z)
        rw [if_neg hz, List.nil_append] at eA eB
        simp only [c_divisors_of_r2, wSs, wS, wT, wTo, wE, wA, wO, wI, getS, gT, gTs, setAll, List.getElem?_cons_zero, List.getElem?_cons_succ, List.set_cons_zero, List.set_cons_succ, binD, augD, iaddD, imulD, addD, subD, mulD, fdivD, modD, powD, negD, cmpD, eqD, ordD, truthD, boolD, intO, view, subsD, sliceD, listed, dicted, bltD, seqD, seqI, zipI, zipSI, anyI, lstI, enumI, revI, starI, lenTs, mthD, lstOf, mAppend, mPop, mExtend, mUpper, mJoin, strsOf, tyD, Mt.T, setD, wipeD, List.map_cons, List.map_nil, Bool.false_eq_true, if_true, if_false, ↓reduceIte]
        exact ⟨n + 1 - (d + 1), by omega, d + 1, A, B, rfl, le, ga, gb, by omega, by omega, by omega, by omega, eA, eB, rfl⟩
    · rename_i hd
      have hd : ¬ d * d ≤ n := fun z => hd (by exact_mod_cast z)
      rw [lows_end hd] at eA eB
      have eB' : B = his n (lows n 1) := by rw [← eB]; exact (List.append_nil B).symm
      rw [List.append_nil] at eA
      simp only [c_divisors_of_r1, ga, gb, wSs, wS, wT, wTo, wE, wA, wO, wI, getS, gT, gTs, setAll, List.getElem?_cons_zero, List.getElem?_cons_succ, List.set_cons_zero, List.set_cons_succ, binD, augD, iaddD, imulD, addD, subD, mulD, fdivD, modD, powD, negD, cmpD, eqD, ordD, truthD, boolD, intO, view, subsD, sliceD, listed, dicted, bltD, seqD, seqI, zipI, zipSI, anyI, lstI, enumI, revI, starI, lenTs, mthD, lstOf, mAppend, mPop, mExtend, mUpper, mJoin, strsOf, tyD, Mt.T, setD, wipeD, List.map_cons, List.map_nil, Bool.false_eq_true, if_true, if_false, ↓reduceIte]
      have e : intsD A ++ (intsD B).reverse = intsD (divs n) := by
        unfold divs
        rw [intsD_append, eA, eB']
        unfold intsD
        rw [List.map_reverse]
      refine ⟨?_, ?_⟩
      · rw [List.length_reverse, intsD_length, intsD_length]
        exact Nat.le_trans (show A.length + B.length ≤ 4002 by omega) (by decide)
      · rw [e]
        exact .is le q

/-! ### row_of -/
abbrev N_row_of : List Str := ["word", "number", "some"]
def c_row_of_r1 : Sts := (.cons (.ret (.ife (.val (.cmp .Gt (.blt .len (.cons (.var 2) .nil)) (.cst (.int 1)))) (.sub (.var 2) (.cst (.int 1))) (.cst (.int 1))))
  .nil)
def c_row_of_r2 : Sts := (.cons (.ite (.val (.cmp .Eq (.var 0) (.cst (.str "total"))))
  (.cons (.ret (.blt .sum (.cons (.var 2) .nil)))
    .nil)
  .nil)
  c_row_of_r1)
def c_row_of : Sts := (.cons (.asg (.nm 2) (.call "divisors_of" ["number"] sp_divisors_of (.cons (.var 1) .nil)))
  (.cons (.ite (.val (.cmp .Eq (.var 0) (.cst (.str "many"))))
  (.cons (.ret (.blt .len (.cons (.var 2) .nil)))
    .nil)
  .nil)
  c_row_of_r2))
def sp_row_of : Spd := fun ds h Q => ∃ (s : Str) (n : Nat), ds = [.str s, .int n] ∧ 1 ≤ n ∧ n ≤ 2000 ∧ Q (.int (rowV s n)) h
theorem intsOf_D (L : List Nat) : intsOf (intsD L) = some (L.map fun d : Nat => (d : Int)) := by
  unfold intsD
  have := intsOf_map (L.map fun d : Nat => (d : Int))
  rw [List.map_map] at this
  exact this
theorem sum_cast : ∀ L : List Nat, (L.map fun d : Nat => (d : Int)).sum = ((L.sum : Nat) : Int)
  | [] => rfl
  | d :: L => by rw [List.map_cons, List.sum_cons, List.sum_cons, sum_cast L]; omega
theorem b_row_of (ds : List D) (h : Hd) (Q : Pq) (q : sp_row_of ds h Q) : wSs c_row_of { nx := fun _ h' => Out Q .non h', rt := Out Q } (startD N_row_of ds) h := by
  obtain ⟨s, n, rfl, n1, n2, q⟩ := q
  show wSs c_row_of _ [some (.str s), some (.int n), none] h
  simp only [c_row_of, wSs, wS, wT, wTo, wE, wA, wO, wI, getS, gT, gTs, setAll, List.getElem?_cons_zero, List.getElem?_cons_succ, List.set_cons_zero, List.set_cons_succ, binD, augD, iaddD, imulD, addD, subD, mulD, fdivD, modD, powD, negD, cmpD, eqD, ordD, truthD, boolD, intO, view, subsD, sliceD, listed, dicted, bltD, seqD, seqI, zipI, zipSI, anyI, lstI, enumI, revI, starI, lenTs, mthD, lstOf, mAppend, mPop, mExtend, mUpper, mJoin, strsOf, tyD, Mt.T, setD, wipeD, List.map_cons, List.map_nil, Bool.false_eq_true, if_true, if_false, ↓reduceIte]
  refine ⟨n, rfl, n1, n2, ?_⟩
  unfold rowV at q
  simp only [wSs, wS, wT, wTo, wE, wA, wO, wI, getS, gT, gTs, setAll, List.getElem?_cons_zero, List.getElem?_cons_succ, List.set_cons_zero, List.set_cons_succ, binD, augD, iaddD, imulD, addD, subD, mulD, fdivD, modD, powD, negD, cmpD, eqD, ordD, truthD, boolD, intO, view, subsD, sliceD, listed, dicted, bltD, seqD, seqI, zipI, zipSI, anyI, lstI, enumI, revI, starI, lenTs, mthD, lstOf, mAppend, mPop, mExtend, mUpper, mJoin, strsOf, tyD, Mt.T, setD, wipeD, List.map_cons, List.map_nil, Bool.false_eq_true, if_true, if_false, ↓reduceIte, decide_eq_true_eq]
  split
  · rename_i hs
    rw [if_pos hs] at q
    rw [intsD_length]
    exact .is (Hd.le.refl _) q
  · rename_i hs
    rw [if_neg hs] at q
    simp only [c_row_of_r2, wSs, wS, wT, wTo, wE, wA, wO, wI, getS, gT, gTs, setAll, List.getElem?_cons_zero, List.getElem?_cons_succ, List.set_cons_zero, List.set_cons_succ, binD, augD, iaddD, imulD, addD, subD, mulD, fdivD, modD, powD, negD, cmpD, eqD, ordD, truthD, boolD, intO, view, subsD, sliceD, listed, dicted, bltD, seqD, seqI, zipI, zipSI, anyI, lstI, enumI, revI, starI, lenTs, mthD, lstOf, mAppend, mPop, mExtend, mUpper, mJoin, strsOf, tyD, Mt.T, setD, wipeD, List.map_cons, List.map_nil, Bool.false_eq_true, if_true, if_false, ↓reduceIte, decide_eq_true_eq]
    split
    · rename_i hs
      rw [if_pos hs] at q
      simp only [intsOf_D, sum_cast]
      exact .is (Hd.le.refl _) q
    · rename_i hs
      rw [if_neg hs] at q
      simp only [c_row_of_r1, wSs, wS, wT, wTo, wE, wA, wO, wI, getS, gT, gTs, setAll, List.getElem?_cons_zero, List.getElem?_cons_succ, List.set_cons_zero, List.set_cons_succ, binD, augD, iaddD, imulD, addD, subD, mulD, fdivD, modD, powD, negD, cmpD, eqD, ordD, truthD, boolD, intO, view, subsD, sliceD, listed, dicted, bltD, seqD, seqI, zipI, zipSI, anyI, lstI, enumI, revI, starI, lenTs, mthD, lstOf, mAppend, mPop, mExtend, mUpper, mJoin, strsOf, tyD, Mt.T, setD, wipeD, List.map_cons, List.map_nil, Bool.false_eq_true, if_true, if_false, ↓reduceIte, decide_eq_true_eq, intsD_length]
      by_cases hl : 1 < (divs n).length
      · rw [if_pos (by omega)]
        rw [if_pos hl] at q
        have e1 : atI (intsD (divs n)) 1 = some (.int ((divs n).getD 1 0 : Nat)) := by
          refine atI_nat (j := 1) ?_
          unfold intsD
          rw [List.getElem?_map, List.getElem?_eq_getElem hl]
          simp [List.getD, hl]
        simp only [e1]
        exact .is (Hd.le.refl _) q
      · rw [if_neg (by omega)]
        rw [if_neg hl] at q
        exact .is (Hd.le.refl _) q

/-! ### table_of -/
abbrev N_table_of : List Str := ["word", "size", "number"]
def c_table_of : Sts := (.cons (.ret (.blt .tuple (.cons (.lc false [("number", 2)] (.nm 2) (.rng2 (.cst (.int 1)) (.bin .Add (.var 1) (.cst (.int 1)))) .none (.call "row_of" ["word", "number"] sp_row_of (.cons (.var 0) (.cons (.var 2) .nil)))) .nil)))
  .nil)
def tabD (s : Str) (n : Nat) : List D := (List.range n).map fun i => D.int (rowV s (i + 1) : Nat)
def sp_table_of : Spd := fun ds h Q => ∃ (s : Str) (n : Nat), ds = [.str s, .int n] ∧ n ≤ 2000 ∧ Q (.tup (tabD s n)) h
theorem b_table_of (ds : List D) (h : Hd) (Q : Pq) (q : sp_table_of ds h Q) : wSs c_table_of { nx := fun _ h' => Out Q .non h', rt := Out Q } (startD N_table_of ds) h := by
  obtain ⟨s, n, rfl, n2, q⟩ := q
  show wSs c_table_of _ [some (.str s), some (.int n), none] h
  simp only [c_table_of, wSs, wS, wT, wTo, wE, wA, wO, wI, getS, gT, gTs, setAll, List.getElem?_cons_zero, List.getElem?_cons_succ, List.set_cons_zero, List.set_cons_succ, binD, augD, iaddD, imulD, addD, subD, mulD, fdivD, modD, powD, negD, cmpD, eqD, ordD, truthD, boolD, intO, view, subsD, sliceD, listed, dicted, bltD, seqD, seqI, zipI, zipSI, anyI, lstI, enumI, revI, starI, lenTs, mthD, lstOf, mAppend, mPop, mExtend, mUpper, mJoin, strsOf, tyD, Mt.T, setD, wipeD, List.map_cons, List.map_nil, Bool.false_eq_true, if_true, if_false, ↓reduceIte]
  refine ⟨by omega, ?_⟩
  refine compL_fm (fun _ => true) (fun d => match d with | .int i => .int (rowV s i.toNat : Nat) | d => d) (fun d => ∃ i : Nat, d = .int i ∧ 1 ≤ i ∧ i ≤ 2000) trivial ?_ _ _ ?_ ?_
  · rintro d ⟨i, rfl, i1, i2⟩ Y Z y z
    simp only [wSs, wS, wT, wTo, wE, wA, wO, wI, getS, gT, gTs, setAll, List.getElem?_cons_zero, List.getElem?_cons_succ, List.set_cons_zero, List.set_cons_succ, binD, augD, iaddD, imulD, addD, subD, mulD, fdivD, modD, powD, negD, cmpD, eqD, ordD, truthD, boolD, intO, view, subsD, sliceD, listed, dicted, bltD, seqD, seqI, zipI, zipSI, anyI, lstI, enumI, revI, starI, lenTs, mthD, lstOf, mAppend, mPop, mExtend, mUpper, mJoin, strsOf, tyD, Mt.T, setD, wipeD, List.map_cons, List.map_nil, Bool.false_eq_true, if_true, if_false, ↓reduceIte]
    exact ⟨s, i, rfl, i1, i2, by simpa using y rfl⟩
  · intro d hd
    unfold rngD at hd
    obtain ⟨i, hi, rfl⟩ := List.mem_map.mp hd
    have := List.mem_range.mp hi
    exact ⟨i + 1, by congr 1; omega, by omega, by omega⟩
  · have e : [] ++ List.map (fun d => match d with | .int i => .int (rowV s i.toNat : Nat) | d => d) (List.filter (fun _ => true) (rngD 1 ((n : Int) + 1 - 1).toNat)) = tabD s n := by
      rw [List.nil_append, List.filter_eq_self.mpr (fun _ _ => rfl)]
      unfold rngD tabD
      rw [List.map_map, show ((n : Int) + 1 - 1).toNat = n by omega]
      refine List.map_congr_left fun i _ => ?_
      show D.int (rowV s ((1 : Int) + (i : Nat)).toNat : Nat) = _
      rw [show ((1 : Int) + (i : Nat)).toNat = i + 1 by omega]
    rw [e]
    exact .is (Hd.le.refl _) q

/-! ### _law_due -/
abbrev N__law_due : List Str := ["_law_sort", "_law_n", "_law_many", "_law_total", "_law_least", "_law_d", "_law_far"]
def c__law_due_r1 : Sts := (.cons (.ret (.sub (.dct true [.inr "many", .inr "total", .inr "least"] (.cons (.var 2) (.cons (.var 3) (.cons (.var 4) .nil)))) (.var 0)))
  .nil)
def c__law_due_r2 : Sts := (.cons (.asg (.nm 5) (.bin .Add (.var 5) (.cst (.int 1))))
    .nil)
def c__law_due_b3 : Sts := (.cons (.ite (.val (.cmp .Eq (.bin .Mod (.var 1) (.var 5)) (.cst (.int 0))))
    (.cons (.asg (.nm 6) (.blt .int (.cons (.cmp .NotEq (.bin .FloorDiv (.var 1) (.var 5)) (.var 5)) .nil)))
      (.cons (.par [2, 3] (.cons (.bin .Add (.bin .Add (.var 2) (.cst (.int 1))) (.var 6)) (.cons (.bin .Add (.bin .Add (.var 3) (.var 5)) (.bin .Mult (.var 6) (.bin .FloorDiv (.var 1) (.var 5)))) .nil)))
      (.cons (.asg (.nm 4) (.ife (.val (.cmp .Gt (.var 5) (.cst (.int 1)))) (.blt .min (.cons (.var 4) (.cons (.var 5) .nil))) (.var 4)))
      .nil)))
    .nil)
    c__law_due_r2)
def c__law_due : Sts := (.cons (.asg (.tp (.cons (.nm 2) (.cons (.nm 3) (.cons (.nm 4) (.cons (.nm 5) .nil))))) (.tup (.cons (.cst (.int 0)) (.cons (.cst (.int 0)) (.cons (.var 1) (.cons (.cst (.int 1)) .nil))))))
  (.cons (.whl (.val (.cmp .LtE (.bin .Mult (.var 5) (.var 5)) (.var 1)))
  c__law_due_b3)
  c__law_due_r1))
def mM (n : Nat) (L : List Nat) : Nat := L.length + (his n L).length
def tT' (n : Nat) (L : List Nat) : Nat := L.sum + (his n L).sum
def lstF (a : Nat) : List Nat → Nat
  | [] => a
  | d :: L => lstF (if 1 < d then min a d else a) L
theorem lstF_stay {a : Nat} : ∀ {L : List Nat}, (∀ e ∈ L, a ≤ e) → lstF a L = a
  | [], _ => rfl
  | d :: L, h => by
    have hd := h d (by simp)
    unfold lstF
    rw [show (if 1 < d then min a d else a) = a by split <;> omega]
    exact lstF_stay fun e he => h e (by simp [he])
theorem lows_shape : ∀ (k n d : Nat), n + 1 - d ≤ k → 0 < d → lows n d = [] ∨ ∃ e, d ≤ e ∧ e * e ≤ n ∧ lows n d = e :: lows n (e + 1)
  | k, n, d, hk, d0 => by
    by_cases h : d * d ≤ n
    · rw [lows_in h d0]
      by_cases hz : n % d = 0
      · rw [if_pos hz]
        exact .inr ⟨d, Nat.le_refl _, h, rfl⟩
      · rw [if_neg hz, List.nil_append]
        have dn := self_le_sq h
        cases k with
        | zero => omega
        | succ k =>
          rcases lows_shape k n (d + 1) (by omega) (by omega) with z | ⟨e, a, b, c⟩
          · exact .inl z
          · exact .inr ⟨e, by omega, b, c⟩
    · exact .inl (lows_end h)
theorem divs_len_eq (n : Nat) : (divs n).length = mM n (lows n 1) := by unfold divs mM; rw [List.length_append, List.length_reverse]
theorem divs_sum_eq (n : Nat) : (divs n).sum = tT' n (lows n 1) := by unfold divs tT'; rw [List.sum_append_nat, List.sum_reverse_nat]
theorem least_eq {n : Nat} (n1 : 1 ≤ n) : lstF n (lows n 1) = if 1 < (divs n).length then (divs n).getD 1 0 else 1 := by
  have e1 : lows n 1 = 1 :: lows n 2 := by rw [lows_in (by omega) (by omega), if_pos (Nat.mod_one n)]; rfl
  have e2 : lstF n (1 :: lows n 2) = lstF n (lows n 2) := rfl
  unfold divs
  rw [e1, e2]
  rcases lows_shape n n 2 (by omega) (by omega) with z | ⟨d, d2, dd, z⟩
  · rw [z]
    unfold lstF his
    by_cases h1 : n = 1
    · subst h1
      decide
    · rw [List.filter_cons_of_pos (by simp; omega)]
      simp
  · rw [z]
    have dn := self_le_sq dd
    have : lstF n (d :: lows n (d + 1)) = d := by
      unfold lstF
      rw [if_pos (by omega), Nat.min_eq_right dn]
      exact lstF_stay fun e he => by
        have := (lows_ge _ n (d + 1) (Nat.le_refl _) e he).1
        omega
    rw [this, if_pos (by simp)]
    rfl
theorem mM_cons {n d : Nat} {L : List Nat} : mM n (d :: L) = mM n L + 1 + (if d * d = n then 0 else 1) := by
  unfold mM his
  by_cases h : d * d = n
  · rw [List.filter_cons_of_neg (by simp [h]), if_pos h, List.length_cons]
    omega
  · rw [List.filter_cons_of_pos (by simp [h]), if_neg h, List.length_cons, List.map_cons, List.length_cons]
    omega
theorem tT_cons {n d : Nat} {L : List Nat} : tT' n (d :: L) = tT' n L + d + (if d * d = n then 0 else 1) * (n / d) := by
  unfold tT' his
  by_cases h : d * d = n
  · rw [List.filter_cons_of_neg (by simp [h]), if_pos h, List.sum_cons]
    omega
  · rw [List.filter_cons_of_pos (by simp [h]), if_neg h, List.sum_cons, List.map_cons, List.sum_cons]
    omega
theorem div_self_iff {n d : Nat} (hz : n % d = 0) (h0 : 0 < d) : n / d = d ↔ d * d = n := by
  have := Nat.div_add_mod n d
  rw [hz, Nat.add_zero] at this
  constructor
  · intro e
    rw [e] at this
    exact this
  · intro e
    exact Nat.eq_of_mul_eq_mul_left h0 (this.trans e.symm)
def sp__law_due : Spd := fun ds h Q => ∃ (s : Str) (n : Nat), ds = [.str s, .int n] ∧ s ∈ words3 ∧ 1 ≤ n ∧ n ≤ 2000 ∧ Q (.int (rowV s n)) h
theorem b__law_due (ds : List D) (h : Hd) (Q : Pq) (q : sp__law_due ds h Q) : wSs c__law_due { nx := fun _ h' => Out Q .non h', rt := Out Q } (startD N__law_due ds) h := by
  obtain ⟨s, n, rfl, hs, n1, n2, q⟩ := q
  show wSs c__law_due _ [some (.str s), some (.int n), none, none, none, none, none] h
  simp only [c__law_due, wSs, wS, wT, wTo, wE, wA, wO, wI, getS, gT, gTs, setAll, List.getElem?_cons_zero, List.getElem?_cons_succ, List.set_cons_zero, List.set_cons_succ, binD, augD, iaddD, imulD, addD, subD, mulD, fdivD, modD, powD, negD, cmpD, eqD, ordD, truthD, boolD, intO, view, subsD, sliceD, listed, dicted, bltD, seqD, seqI, zipI, zipSI, anyI, lstI, enumI, revI, starI, lenTs, mthD, lstOf, mAppend, mPop, mExtend, mUpper, mJoin, strsOf, tyD, Mt.T, setD, wipeD, List.map_cons, List.map_nil, Bool.false_eq_true, if_true, if_false, ↓reduceIte]
  refine ⟨fun m σ g => ∃ (d a t l : Nat) (x : Option D), σ = [some (.str s), some (.int n), some (.int a), some (.int t), some (.int l), some (.int d), x] ∧ g = h ∧ 1 ≤ d ∧ d ≤ n + 1 ∧ a + mM n (lows n d) = mM n (lows n 1) ∧ t + tT' n (lows n d) = tT' n (lows n 1) ∧ lstF l (lows n d) = lstF n (lows n 1) ∧ m = n + 1 - d,
    ⟨_, 1, 0, 0, n, none, rfl, rfl, by omega, by omega, by omega, by omega, rfl, rfl⟩, ?_⟩
  rintro m σ g ⟨d, a, t, l, x, rfl, rfl, d1, dn, ea, et, el, rfl⟩
  simp only [wSs, wS, wT, wTo, wE, wA, wO, wI, getS, gT, gTs, setAll, List.getElem?_cons_zero, List.getElem?_cons_succ, List.set_cons_zero, List.set_cons_succ, binD, augD, iaddD, imulD, addD, subD, mulD, fdivD, modD, powD, negD, cmpD, eqD, ordD, truthD, boolD, intO, view, subsD, sliceD, listed, dicted, bltD, seqD, seqI, zipI, zipSI, anyI, lstI, enumI, revI, starI, lenTs, mthD, lstOf, mAppend, mPop, mExtend, mUpper, mJoin, strsOf, tyD, Mt.T, setD, wipeD, List.map_cons, List.map_nil, Bool.false_eq_true, if_true, if_false, ↓reduceIte, decide_eq_true_eq]
  refine ⟨.inl (by omega), ?_⟩
  split
  · rename_i hd
    have hd : d * d ≤ n := by exact_mod_cast hd
    have dn := self_le_sq hd
    rw [lows_in hd d1] at ea et el
    have cast : ((n : Int) / (d : Int)) = ((n / d : Nat) : Int) := (Int.natCast_ediv n d).symm
    simp only [c__law_due_b3, wSs, wS, wT, wTo, wE, wA, wO, wI, getS, gT, gTs, setAll, List.getElem?_cons_zero, List.getElem?_cons_succ, List.set_cons_zero, List.set_cons_succ, binD, augD, iaddD, imulD, addD, subD, mulD, fdivD, modD, powD, negD, cmpD, eqD, ordD, truthD, boolD, intO, view, subsD, sliceD, listed, dicted, bltD, seqD, seqI, zipI, zipSI, anyI, lstI, enumI, revI, starI, lenTs, mthD, lstOf, mAppend, mPop, mExtend, mUpper, mJoin, strsOf, tyD, Mt.T, setD, wipeD, List.map_cons, List.map_nil, Bool.false_eq_true, if_true, if_false, ↓reduceIte, decide_eq_true_eq]
    refine ⟨by omega, ?_⟩
    split
    · rename_i hz
      have hz : n % d = 0 := by exact_mod_cast hz
      rw [if_pos hz, List.singleton_append] at ea et el
      rw [mM_cons] at ea
      rw [tT_cons] at et
      replace el : lstF (if 1 < d then min l d else l) (lows n (d + 1)) = lstF n (lows n 1) := el
      have dv : DivOk (d : Int) := ⟨by omega, .inl (by omega)⟩
      have far : (if (!decide ((n : Int) / (d : Int) = (d : Int))) = true then (1 : Int) else 0) = ((if d * d = n then 0 else 1 : Nat) : Int) := by
        rw [cast]
        by_cases e : d * d = n
        · rw [if_pos e, (div_self_iff hz d1).mpr e]
          simp
        · rw [if_neg e, if_pos]
          · rfl
          · rw [decide_eq_false (fun z => e ((div_self_iff hz d1).mp (by exact_mod_cast z)))]
            rfl
      refine ⟨dv, ?_⟩
      rw [far]
      refine ⟨dv, .inl (by split <;> decide), ?_⟩
      rw [cast]
      have goal : ∀ l' : Nat, lstF l' (lows n (d + 1)) = lstF n (lows n 1) → ∃ m', m' < n + 1 - d ∧ ∃ (d' a' t' l'' : Nat) (x : Option D), [some (D.str s), some (.int n), some (.int ((a : Int) + 1 + ((if d * d = n then 0 else 1 : Nat) : Int))), some (.int ((t : Int) + d + ((if d * d = n then 0 else 1 : Nat) : Int) * ((n / d : Nat) : Int))), some (.int l'), some (.int ((d : Int) + 1)), some (.int ((if d * d = n then 0 else 1 : Nat) : Int))] = [some (.str s), some (.int n), some (.int a'), some (.int t'), some (.int l''), some (.int d'), x] ∧ True ∧ 1 ≤ d' ∧ d' ≤ n + 1 ∧ a' + mM n (lows n d') = mM n (lows n 1) ∧ t' + tT' n (lows n d') = tT' n (lows n 1) ∧ lstF l'' (lows n d') = lstF n (lows n 1) ∧ m' = n + 1 - d' := fun l' hl' =>
        ⟨n + 1 - (d + 1), by omega, d + 1, a + 1 + (if d * d = n then 0 else 1), t + d + (if d * d = n then 0 else 1) * (n / d), l', _, by simp only [Int.natCast_add, Int.natCast_mul, Int.natCast_one]; rfl, trivial, by omega, by omega, by omega, by omega, hl', rfl⟩
      split
      · rename_i h1
        rw [if_pos (by omega)] at el
        simp only [c__law_due_r2, wSs, wS, wT, wTo, wE, wA, wO, wI, getS, gT, gTs, setAll, List.getElem?_cons_zero, List.getElem?_cons_succ, List.set_cons_zero, List.set_cons_succ, binD, augD, iaddD, imulD, addD, subD, mulD, fdivD, modD, powD, negD, cmpD, eqD, ordD, truthD, boolD, intO, view, subsD, sliceD, listed, dicted, bltD, seqD, seqI, zipI, zipSI, anyI, lstI, enumI, revI, starI, lenTs, mthD, lstOf, mAppend, mPop, mExtend, mUpper, mJoin, strsOf, tyD, Mt.T, setD, wipeD, List.map_cons, List.map_nil, Bool.false_eq_true, if_true, if_false, ↓reduceIte]
        have e2 : (if (d : Int) < (l : Int) then (d : Int) else (l : Int)) = ((min l d : Nat) : Int) := by split <;> omega
        rw [e2]
        exact goal _ el
      · rename_i h1
        rw [if_neg (by omega)] at el
        simp only [c__law_due_r2, wSs, wS, wT, wTo, wE, wA, wO, wI, getS, gT, gTs, setAll, List.getElem?_cons_zero, List.getElem?_cons_succ, List.set_cons_zero, List.set_cons_succ, binD, augD, iaddD, imulD, addD, subD, mulD, fdivD, modD, powD, negD, cmpD, eqD, ordD, truthD, boolD, intO, view, subsD, sliceD, listed, dicted, bltD, seqD, seqI, zipI, zipSI, anyI, lstI, enumI, revI, starI, lenTs, mthD, lstOf, mAppend, mPop, mExtend, mUpper, mJoin, strsOf, tyD, Mt.T, setD, wipeD, List.map_cons, List.map_nil, Bool.false_eq_true, if_true, if_false, ↓reduceIte]
        exact goal _ el
    · rename_i hz
      have hz : ¬ n % d = 0 := fun z => hz (by exact_mod_cast z)
      rw [if_neg hz, List.nil_append] at ea et el
      simp only [c__law_due_r2, wSs, wS, wT, wTo, wE, wA, wO, wI, getS, gT, gTs, setAll, List.getElem?_cons_zero, List.getElem?_cons_succ, List.set_cons_zero, List.set_cons_succ, binD, augD, iaddD, imulD, addD, subD, mulD, fdivD, modD, powD, negD, cmpD, eqD, ordD, truthD, boolD, intO, view, subsD, sliceD, listed, dicted, bltD, seqD, seqI, zipI, zipSI, anyI, lstI, enumI, revI, starI, lenTs, mthD, lstOf, mAppend, mPop, mExtend, mUpper, mJoin, strsOf, tyD, Mt.T, setD, wipeD, List.map_cons, List.map_nil, Bool.false_eq_true, if_true, if_false, ↓reduceIte]
      exact ⟨n + 1 - (d + 1), by omega, d + 1, a, t, l, x, by trivial, by trivial, by omega, by omega, ea, et, el, rfl⟩
  · rename_i hd
    have hd : ¬ d * d ≤ n := fun z => hd (by exact_mod_cast z)
    rw [lows_end hd] at ea et el
    simp only [c__law_due_r1, wSs, wS, wT, wTo, wE, wA, wO, wI, getS, gT, gTs, setAll, List.getElem?_cons_zero, List.getElem?_cons_succ, List.set_cons_zero, List.set_cons_succ, binD, augD, iaddD, imulD, addD, subD, mulD, fdivD, modD, powD, negD, cmpD, eqD, ordD, truthD, boolD, intO, view, subsD, sliceD, listed, dicted, bltD, seqD, seqI, zipI, zipSI, anyI, lstI, enumI, revI, starI, lenTs, mthD, lstOf, mAppend, mPop, mExtend, mUpper, mJoin, strsOf, tyD, Mt.T, setD, wipeD, List.map_cons, List.map_nil, Bool.false_eq_true, if_true, if_false, ↓reduceIte]
    intro c hc
    have le : g.le (g.set c (.dK (List.zip [.inr "many", .inr "total", .inr "least"] [.int a, .int t, .int l]))) := (Hd.le.refl g).set hc
    simp only [Hd.set_same, keyD]
    have e1 : a = (divs n).length := by rw [divs_len_eq, ← ea]; rfl
    have e2 : t = (divs n).sum := by rw [divs_sum_eq, ← et]; rfl
    have e3 : l = if 1 < (divs n).length then (divs n).getD 1 0 else 1 := by rw [← least_eq n1, ← el]; rfl
    unfold rowV at q
    simp only [words3, List.mem_cons, List.not_mem_nil, or_false] at hs
    rcases hs with rfl | rfl | rfl
    · rw [if_pos rfl, ← e1] at q
      exact .is le q
    · rw [if_neg (by decide), if_pos rfl, ← e2] at q
      exact .is le q
    · rw [if_neg (by decide), if_neg (by decide), ← e3] at q
      exact .is le q
end G

/-! Sums by powers: of any numbers, of the right table. -/
namespace G
open PySem PySem.Spec PyProof.Rows L2

/-! the mathematics -/
def wt (s : Str) (d : Nat) : Nat := if s = "total" then d else 1
def sumTo (f : Nat → Nat) : Nat → Nat
  | 0 => 0
  | n + 1 => sumTo f n + f (n + 1)
theorem sumTo_congr {f g : Nat → Nat} : ∀ {n : Nat}, (∀ j, 1 ≤ j → j ≤ n → f j = g j) → sumTo f n = sumTo g n
  | 0, _ => rfl
  | n + 1, h => by rw [sumTo, sumTo, sumTo_congr fun j a b => h j a (by omega), h (n + 1) (by omega) (Nat.le_refl _)]
theorem sumTo_add {f g : Nat → Nat} : ∀ {n : Nat}, sumTo (fun j => f j + g j) n = sumTo f n + sumTo g n
  | 0 => rfl
  | n + 1 => by rw [sumTo, sumTo, sumTo, sumTo_add]; omega
theorem sumTo_mul {f : Nat → Nat} {c : Nat} : ∀ {n : Nat}, sumTo (fun j => c * f j) n = c * sumTo f n
  | 0 => rfl
  | n + 1 => by rw [sumTo, sumTo, sumTo_mul, Nat.mul_add]
theorem sumTo_zero {f : Nat → Nat} : ∀ {n : Nat}, (∀ j, 1 ≤ j → j ≤ n → f j = 0) → sumTo f n = 0
  | 0, _ => rfl
  | n + 1, h => by rw [sumTo, sumTo_zero fun j a b => h j a (by omega), h (n + 1) (by omega) (Nat.le_refl _)]
theorem sumTo_step (f : Nat → Nat) {d : Nat} (hd : 0 < d) : ∀ N : Nat, sumTo (fun t => f (d * t)) (N / d) = sumTo (fun j => if j % d = 0 then f j else 0) N
  | 0 => by rw [Nat.zero_div]; rfl
  | N + 1 => by
    rw [sumTo, ← sumTo_step f hd N, Nat.succ_div]
    by_cases h : d ∣ N + 1
    · rw [if_pos h, if_pos (Nat.mod_eq_zero_of_dvd h), sumTo]
      have : d * (N / d + 1) = N + 1 := by
        have e := Nat.succ_div_of_dvd h
        rw [← e]
        exact Nat.mul_div_cancel' h
      rw [this]
    · rw [if_neg h, if_neg (fun z => h (Nat.dvd_of_mod_eq_zero z))]
      rfl
def dueN (s : Str) (N p : Nat) : Nat := sumTo (fun d => wt s d * sumTo (fun t => (d * t) ^ p) (N / d)) N
def rowN (s : Str) (n : Nat) : Nat := sumTo (fun d => if n % d = 0 then wt s d else 0) n
def mulsN (p d N : Nat) : Nat := sumTo (fun j => if j % d = 0 then j ^ p else 0) N
theorem dueN_eq (s : Str) (p : Nat) : ∀ N : Nat, sumTo (fun d => wt s d * mulsN p d N) N = sumTo (fun n => n ^ p * rowN s n) N
  | 0 => rfl
  | N + 1 => by
    rw [sumTo, sumTo, ← dueN_eq s p N]
    have e1 : mulsN p (N + 1) (N + 1) = (N + 1) ^ p := by
      unfold mulsN
      rw [sumTo, sumTo_zero, if_pos (Nat.mod_self _), Nat.zero_add]
      intro j a b
      rw [if_neg]
      rw [Nat.mod_eq_of_lt (by omega)]
      omega
    have e2 : sumTo (fun d => wt s d * mulsN p d (N + 1)) N = sumTo (fun d => wt s d * mulsN p d N) N + (N + 1) ^ p * sumTo (fun d => if (N + 1) % d = 0 then wt s d else 0) N := by
      rw [← sumTo_mul, ← sumTo_add]
      refine sumTo_congr fun j a b => ?_
      unfold mulsN
      rw [sumTo, Nat.mul_add]
      split
      · rw [Nat.mul_comm (wt s j) ((N + 1) ^ p)]
      · rw [Nat.mul_zero, Nat.mul_zero]
    rw [e1, e2]
    unfold rowN
    rw [sumTo, if_pos (Nat.mod_self _), Nat.mul_add, Nat.mul_comm (wt s (N + 1))]
    omega
theorem due_rows (s : Str) (N p : Nat) : dueN s N p = sumTo (fun n => n ^ p * rowN s n) N := by
  rw [← dueN_eq]
  refine sumTo_congr fun d a b => ?_
  rw [sumTo_step (fun x => x ^ p) (by omega)]
  rfl
/-! all divisors, once each -/
theorem lows_up : ∀ (k n d : Nat), n + 1 - d ≤ k → (lows n d).Pairwise (· < ·)
  | k, n, d, hk => by
    by_cases h : d * d ≤ n ∧ 0 < d
    · rw [lows_in h.1 h.2]
      have dn := self_le_sq h.1
      cases k with
      | zero => omega
      | succ k =>
        rw [List.pairwise_append]
        refine ⟨by split <;> simp, lows_up k n (d + 1) (by omega), fun a ha b hb => ?_⟩
        have := (lows_ge k n (d + 1) (by omega) b hb).1
        split at ha
        · rw [List.mem_singleton.mp ha]; omega
        · cases ha
    · rw [lows, dif_neg h]
      exact .nil
theorem lows_has {n e : Nat} (he : e * e ≤ n) (hd : n % e = 0) : ∀ (k d : Nat), e - d ≤ k → 0 < d → d ≤ e → e ∈ lows n d
  | k, d, hk, d0, de => by
    have hdd : d * d ≤ n := Nat.le_trans (Nat.mul_le_mul de de) he
    rw [lows_in hdd d0]
    by_cases z : d = e
    · subst z
      rw [if_pos hd]
      simp
    · cases k with
      | zero => omega
      | succ k => exact List.mem_append_right _ (lows_has he hd k (d + 1) (by omega) (by omega) (by omega))
theorem divs_mem {n e : Nat} (hn : 1 ≤ n) : e ∈ divs n ↔ 1 ≤ e ∧ e ≤ n ∧ n % e = 0 := by
  unfold divs
  rw [List.mem_append, List.mem_reverse]
  constructor
  · rintro (h | h)
    · obtain ⟨a, b, c⟩ := lows_ge _ n 1 (Nat.le_refl _) e h
      exact ⟨a, self_le_sq b, c⟩
    · obtain ⟨d, hd, rfl⟩ := List.mem_map.mp h
      obtain ⟨a, b, c⟩ := lows_ge _ n 1 (Nat.le_refl _) d (List.mem_filter.mp hd).1
      have dd : d ∣ n := Nat.dvd_of_mod_eq_zero c
      refine ⟨Nat.div_pos (self_le_sq b) (by omega), Nat.div_le_self _ _, Nat.mod_eq_zero_of_dvd (Nat.div_dvd_of_dvd dd)⟩
  · rintro ⟨a, b, c⟩
    by_cases h : e * e ≤ n
    · exact .inl (lows_has h c _ 1 (Nat.le_refl _) (by omega) a)
    · refine .inr (List.mem_map.mpr ⟨n / e, List.mem_filter.mpr ⟨?_, ?_⟩, ?_⟩)
      · have de : e ∣ n := Nat.dvd_of_mod_eq_zero c
        have e1 : e * (n / e) = n := Nat.mul_div_cancel' de
        have lt : n / e < e := Nat.div_lt_of_lt_mul (by omega)
        refine lows_has (e := n / e) ?_ (Nat.mod_eq_zero_of_dvd (Nat.div_dvd_of_dvd de)) _ 1 (Nat.le_refl _) (by omega) (Nat.div_pos b (by omega))
        rw [← e1, Nat.mul_div_cancel_left _ (by omega : 0 < e)]
        exact Nat.mul_le_mul_right _ (Nat.le_of_lt lt)
      · have de : e ∣ n := Nat.dvd_of_mod_eq_zero c
        have e1 : e * (n / e) = n := Nat.mul_div_cancel' de
        have lt : n / e < e := Nat.div_lt_of_lt_mul (by omega)
        have p0 : 0 < n / e := Nat.div_pos b (by omega)
        simp only [decide_eq_true_eq]
        intro z
        have : n / e * (n / e) < e * (n / e) := Nat.mul_lt_mul_of_pos_right lt p0
        omega
      · exact Nat.div_div_self (Nat.dvd_of_mod_eq_zero c) (by omega)
theorem divs_up {n : Nat} (hn : 1 ≤ n) : (divs n).Pairwise (· < ·) := by
  unfold divs
  have hl := lows_up _ n 1 (Nat.le_refl _)
  have hg := lows_ge _ n 1 (Nat.le_refl _)
  rw [List.pairwise_append]
  refine ⟨hl, ?_, ?_⟩
  · rw [List.pairwise_reverse]
    unfold his
    rw [List.pairwise_map]
    refine List.Pairwise.imp_of_mem ?_ (hl.filter _)
    intro a b ha hb hab
    obtain ⟨a1, a2, a3⟩ := hg a (List.mem_filter.mp ha).1
    obtain ⟨b1, b2, b3⟩ := hg b (List.mem_filter.mp hb).1
    have ea : a * (n / a) = n := Nat.mul_div_cancel' (Nat.dvd_of_mod_eq_zero a3)
    have eb : b * (n / b) = n := Nat.mul_div_cancel' (Nat.dvd_of_mod_eq_zero b3)
    show n / b < n / a
    rcases Nat.lt_or_ge (n / b) (n / a) with h | h
    · exact h
    · have q0 : 0 < n / b := Nat.div_pos (self_le_sq b2) (by omega)
      have : a * (n / a) ≤ a * (n / b) := Nat.mul_le_mul_left _ h
      have : a * (n / b) < b * (n / b) := Nat.mul_lt_mul_of_pos_right hab q0
      omega
  · intro a ha b hb
    obtain ⟨a1, a2, a3⟩ := hg a ha
    obtain ⟨d, hd, rfl⟩ := List.mem_map.mp (List.mem_reverse.mp hb)
    obtain ⟨d1, d2, d3⟩ := hg d (List.mem_filter.mp hd).1
    have nd : d * d ≠ n := by simpa using (List.mem_filter.mp hd).2
    have ed : d * (n / d) = n := Nat.mul_div_cancel' (Nat.dvd_of_mod_eq_zero d3)
    rcases Nat.lt_or_ge a (n / d) with h | h
    · exact h
    · have : d < n / d := by
        rcases Nat.lt_or_ge d (n / d) with h | h
        · exact h
        · have : d * (n / d) ≤ d * d := Nat.mul_le_mul_left _ h
          omega
      have h1 : d * (n / d) < (n / d) * (n / d) := Nat.mul_lt_mul_of_pos_right this (by omega)
      have h2 : (n / d) * (n / d) ≤ a * a := Nat.mul_le_mul h h
      omega
def allDivs (n : Nat) : List Nat := ((List.range n).map (· + 1)).filter fun d => n % d == 0
theorem divs_perm {n : Nat} (hn : 1 ≤ n) : (divs n).Perm (allDivs n) := by
  refine (List.perm_ext_iff_of_nodup ((divs_up hn).imp (by omega)) ?_).mpr fun a => ?_
  · refine List.Pairwise.filter _ ?_
    rw [List.pairwise_map]
    exact List.nodup_range.imp (by omega)
  · rw [divs_mem hn]
    unfold allDivs
    rw [List.mem_filter, List.mem_map]
    constructor
    · rintro ⟨a1, a2, a3⟩
      exact ⟨⟨a - 1, List.mem_range.mpr (by omega), by omega⟩, by simpa using a3⟩
    · rintro ⟨⟨b, hb, rfl⟩, h⟩
      have := List.mem_range.mp hb
      exact ⟨by omega, by omega, by simpa using h⟩
theorem sum_filter_to (f : Nat → Nat) (p : Nat → Bool) : ∀ N : Nat, ((((List.range N).map (· + 1)).filter p).map f).sum = sumTo (fun j => if p j = true then f j else 0) N
  | 0 => rfl
  | N + 1 => by
    rw [List.range_succ, List.map_append, List.filter_append, List.map_append, List.sum_append_nat, sum_filter_to f p N, sumTo]
    congr 1
    simp only [List.map_cons, List.map_nil, List.filter_cons, List.filter_nil]
    split <;> simp
theorem rowV_eq {s : Str} (hs : s = "many" ∨ s = "total") {n : Nat} (hn : 1 ≤ n) : rowV s n = rowN s n := by
  have P := divs_perm hn
  have key : ∀ f : Nat → Nat, ((divs n).map f).sum = sumTo (fun j => if n % j = 0 then f j else 0) n := fun f => by
    rw [(P.map f).sum_nat]
    unfold allDivs
    rw [sum_filter_to]
    exact sumTo_congr fun j _ _ => by simp
  unfold rowN rowV
  rcases hs with rfl | rfl
  · rw [if_pos rfl]
    have := key fun _ => 1
    rw [List.map_const', List.sum_replicate_nat, Nat.mul_one] at this
    rw [this]
    have ne : ¬ (Str.ofString "many" = Str.ofString "total") := by decide
    exact sumTo_congr fun j _ _ => by simp only [wt, ne, if_false]
  · rw [if_neg (by decide), if_pos rfl]
    have := key fun d => d
    rw [List.map_id'] at this
    rw [this]
    exact sumTo_congr fun j _ _ => by unfold wt; rw [if_pos rfl]
/-- each by the power of its number from k on -/
def sumP (p : Nat) : Nat → List Int → Int
  | _, [] => 0
  | k, n :: ns => ((k : Nat) : Int) ^ p * n + sumP p (k + 1) ns
theorem sumP_append (p : Nat) : ∀ (k : Nat) (a b : List Int), sumP p k (a ++ b) = sumP p k a + sumP p (k + a.length) b
  | k, [], b => by simp [sumP]
  | k, n :: a, b => by
    rw [List.cons_append, sumP, sumP, sumP_append p (k + 1) a b, List.length_cons, Int.add_assoc]
    congr 3
    omega
theorem sumP_rows {s : Str} (hs : s = "many" ∨ s = "total") (p : Nat) : ∀ N : Nat, sumP p 1 ((List.range N).map fun i => ((rowV s (i + 1) : Nat) : Int)) = ((dueN s N p : Nat) : Int) := by
  intro N
  rw [due_rows]
  induction N with
  | zero => rfl
  | succ N ih =>
    rw [List.range_succ, List.map_append, sumP_append, ih, sumTo, List.length_map, List.length_range]
    simp only [List.map_cons, List.map_nil, sumP, Int.add_zero]
    rw [rowV_eq hs (by omega), Nat.add_comm 1 N]
    simp only [Int.natCast_add, Int.natCast_mul, Int.natCast_pow]

/-! ### sum_of -/
abbrev N_sum_of : List Str := ["rows", "power", "at", "row"]
def c_sum_of : Sts := (.cons (.ret (.blt .sum (.cons (.lc false [("at", 2), ("row", 3)] (.tp (.cons (.nm 2) (.cons (.nm 3) .nil))) (.enum true (.var 0)) .none (.bin .Mult (.call "power_of" ["base", "many"] sp_power_of (.cons (.var 2) (.cons (.var 1) .nil))) (.var 3))) .nil)))
  .nil)
def sp_sum_of : Spd := fun ds h Q => match ds with
  | [x, .int p] => ∃ ns : List Int, x = .tup (ns.map D.int) ∧ (0 ≤ p ∧ p ≤ 9) ∧ ns.length ≤ 2000 ∧ (∀ n ∈ ns, n.natAbs.log2 < 900000) ∧ Q (.int (sumP p.toNat 1 ns)) h
  | _ => False
/-- numbers by the powers of theirs -/
def powsL (p : Nat) : Nat → List Int → List Int
  | _, [] => []
  | k, n :: ns => (((k : Nat) : Int) ^ p * n) :: powsL p (k + 1) ns
theorem powsL_sum (p : Nat) : ∀ (k : Nat) (ns : List Int), (powsL p k ns).sum = sumP p k ns
  | _, [] => rfl
  | k, n :: ns => by rw [powsL, sumP, List.sum_cons, powsL_sum]
def fPow (p : Nat) : D → D
  | .tup [.int a, .int r] => .int (a ^ p * r)
  | d => d
theorem powsL_map (p : Nat) : ∀ (k : Nat) (ns : List Int), (enumD k (ns.map D.int)).map (fPow p) = (powsL p k ns).map D.int
  | _, [] => rfl
  | k, n :: ns => by
    have := powsL_map p (k + 1) ns
    unfold enumD at this ⊢
    simp only [List.map_cons, List.zipIdx_cons, powsL, this, fPow]
theorem pow_log {i p : Nat} (hi : i < 4096) (hp : p ≤ 9) : (((i : Nat) : Int) ^ p).natAbs.log2 ≤ 108 := by
  have := log2_pow (B := ((i : Nat) : Int)) (b := 12) (by omega) p
  omega
theorem b_sum_of (ds : List D) (h : Hd) (Q : Pq) (q : sp_sum_of ds h Q) : wSs c_sum_of { nx := fun _ h' => Out Q .non h', rt := Out Q } (startD N_sum_of ds) h := by
  unfold sp_sum_of at q
  split at q
  · obtain ⟨ns, rfl, ⟨p0, p1⟩, hl, hs, q⟩ := q
    rename_i p
    show wSs c_sum_of _ [some (.tup (ns.map D.int)), some (.int p), none, none] h
    simp only [c_sum_of, wSs, wS, wT, wTo, wE, wA, wO, wI, getS, gT, gTs, setAll, List.getElem?_cons_zero, List.getElem?_cons_succ, List.set_cons_zero, List.set_cons_succ, binD, augD, iaddD, imulD, addD, subD, mulD, fdivD, modD, powD, negD, cmpD, eqD, ordD, truthD, boolD, intO, view, subsD, sliceD, listed, dicted, bltD, seqD, seqI, zipI, zipSI, anyI, lstI, enumI, revI, starI, lenTs, mthD, lstOf, mAppend, mPop, mExtend, mUpper, mJoin, strsOf, tyD, Mt.T, setD, wipeD, List.map_cons, List.map_nil, Bool.false_eq_true, if_true, if_false, ↓reduceIte]
    refine compL_fm (fun _ => true) (fPow p.toNat) (fun d => ∃ (i : Nat) (n : Int), d = .tup [.int (i : Nat), .int n] ∧ i < 4096 ∧ n.natAbs.log2 < 900000) trivial ?_ _ _ ?_ ?_
    · rintro d ⟨i, n, rfl, hi, hn⟩ Y Z y z
      simp only [sp_power_of, wSs, wS, wT, wTo, wE, wA, wO, wI, getS, gT, gTs, setAll, List.getElem?_cons_zero, List.getElem?_cons_succ, List.set_cons_zero, List.set_cons_succ, binD, augD, iaddD, imulD, addD, subD, mulD, fdivD, modD, powD, negD, cmpD, eqD, ordD, truthD, boolD, intO, view, subsD, sliceD, listed, dicted, bltD, seqD, seqI, zipI, zipSI, anyI, lstI, enumI, revI, starI, lenTs, mthD, lstOf, mAppend, mPop, mExtend, mUpper, mJoin, strsOf, tyD, Mt.T, setD, wipeD, List.map_cons, List.map_nil, Bool.false_eq_true, if_true, if_false, ↓reduceIte]
      refine ⟨⟨12, by omega, by omega⟩, ?_, y rfl⟩
      have := pow_log (i := i) (p := p.toNat) hi (by omega)
      exact .inr (.inr (by omega))
    · intro d hd
      obtain ⟨i, x, hx, rfl, i1, i2⟩ := enum_mem hd
      obtain ⟨n, hn, rfl⟩ := mem_ints hx
      rw [List.length_map] at i2
      exact ⟨i, n, rfl, by omega, hs n hn⟩
    · rw [List.nil_append, List.filter_eq_self.mpr (fun _ _ => rfl), powsL_map]
      simp only [intsOf_map, wSs, wS, wT, wTo, wE, wA, wO, wI, getS, gT, gTs, setAll, List.getElem?_cons_zero, List.getElem?_cons_succ, List.set_cons_zero, List.set_cons_succ, binD, augD, iaddD, imulD, addD, subD, mulD, fdivD, modD, powD, negD, cmpD, eqD, ordD, truthD, boolD, intO, view, subsD, sliceD, listed, dicted, bltD, seqD, seqI, zipI, zipSI, anyI, lstI, enumI, revI, starI, lenTs, mthD, lstOf, mAppend, mPop, mExtend, mUpper, mJoin, strsOf, tyD, Mt.T, setD, wipeD, List.map_cons, List.map_nil, Bool.false_eq_true, if_true, if_false, ↓reduceIte, powsL_sum]
      exact .is (Hd.le.refl _) q
  · exact q.elim

/-! ### due_sum -/
abbrev N_due_sum : List Str := ["word", "size", "power", "found", "divisor", "worth", "number"]
def c_due_sum_r1 : Sts := (.cons (.ret (.var 3))
  .nil)
def c_due_sum_b2 : Sts := (.cons (.asg (.nm 5) (.ife (.val (.cmp .Eq (.var 0) (.cst (.str "total")))) (.var 4) (.cst (.int 1))))
    (.cons (.aug 3 .Add (.bin .Mult (.var 5) (.blt .sum (.cons (.lc false [("number", 6)] (.nm 6) (.rng3 (.var 4) (.bin .Add (.var 1) (.cst (.int 1))) (.var 4)) .none (.call "power_of" ["base", "many"] sp_power_of (.cons (.var 6) (.cons (.var 2) .nil)))) .nil))))
    .nil))
def c_due_sum : Sts := (.cons (.asg (.nm 3) (.cst (.int 0)))
  (.cons (.for (.nm 4) (.rng2 (.cst (.int 1)) (.bin .Add (.var 1) (.cst (.int 1))))
  c_due_sum_b2)
  c_due_sum_r1))
def sp_due_sum : Spd := fun ds h Q => match ds with
  | [.str s, .int N, .int p] => (0 ≤ N ∧ N ≤ 2000) ∧ (0 ≤ p ∧ p ≤ 9) ∧ Q (.int ((dueN s N.toNat p.toNat : Nat) : Int)) h
  | _ => False
def mulsI (d : Nat) (p n : Nat) : List Int := (List.range n).map fun i => (((d : Nat) : Int) + (i : Nat) * ((d : Nat) : Int)) ^ p
theorem mulsI_sum (d p : Nat) : ∀ n : Nat, (mulsI d p n).sum = ((sumTo (fun t => (d * t) ^ p) n : Nat) : Int)
  | 0 => rfl
  | n + 1 => by
    have := mulsI_sum d p n
    unfold mulsI at this ⊢
    rw [List.range_succ, List.map_append, List.sum_append_int, this, sumTo]
    simp only [List.map_cons, List.map_nil, List.sum_cons, List.sum_nil, Int.add_zero]
    rw [show ((d : Nat) : Int) + ((n : Nat) : Int) * ((d : Nat) : Int) = ((d * (n + 1) : Nat) : Int) by rw [Nat.mul_add, Nat.mul_one, Nat.mul_comm]; simp only [Int.natCast_add, Int.natCast_mul]; omega]
    simp only [Int.natCast_add, Int.natCast_pow]
theorem sumTo_le {f : Nat → Nat} {c : Nat} : ∀ {n : Nat}, (∀ j, 1 ≤ j → j ≤ n → f j ≤ c) → sumTo f n ≤ n * c
  | 0, _ => Nat.zero_le _
  | n + 1, h => by
    have := sumTo_le (n := n) fun j a b => h j a (by omega)
    have := h (n + 1) (by omega) (Nat.le_refl _)
    rw [sumTo, Nat.add_mul]
    omega
theorem b_due_sum (ds : List D) (h : Hd) (Q : Pq) (q : sp_due_sum ds h Q) : wSs c_due_sum { nx := fun _ h' => Out Q .non h', rt := Out Q } (startD N_due_sum ds) h := by
  unfold sp_due_sum at q
  split at q
  · rename_i s N p
    obtain ⟨⟨N0, N1⟩, ⟨p0, p1⟩, q⟩ := q
    obtain ⟨N, rfl⟩ := Int.eq_ofNat_of_zero_le N0
    obtain ⟨p, rfl⟩ := Int.eq_ofNat_of_zero_le p0
    show wSs c_due_sum _ [some (.str s), some (.int (N : Nat)), some (.int (p : Nat)), none, none, none, none] h
    simp only [c_due_sum, wSs, wS, wT, wTo, wE, wA, wO, wI, getS, gT, gTs, setAll, List.getElem?_cons_zero, List.getElem?_cons_succ, List.set_cons_zero, List.set_cons_succ, binD, augD, iaddD, imulD, addD, subD, mulD, fdivD, modD, powD, negD, cmpD, eqD, ordD, truthD, boolD, intO, view, subsD, sliceD, listed, dicted, bltD, seqD, seqI, zipI, zipSI, anyI, lstI, enumI, revI, starI, lenTs, mthD, lstOf, mAppend, mPop, mExtend, mUpper, mJoin, strsOf, tyD, Mt.T, setD, wipeD, List.map_cons, List.map_nil, Bool.false_eq_true, if_true, if_false, ↓reduceIte]
    refine ⟨by omega, ?_⟩
    rw [show (((N : Nat) : Int) + 1 - 1).toNat = N by omega]
    refine forL_rng (fun i σ g => ∃ (a b c : Option D), σ = [some (.str s), some (.int (N : Nat)), some (.int (p : Nat)), some (.int ((sumTo (fun d => wt s d * sumTo (fun t => (d * t) ^ p) (N / d)) i : Nat) : Int)), a, b, c] ∧ g = h) ?_ ?_ ⟨none, none, none, rfl, rfl⟩
    · rintro σ g ⟨a, b, c, rfl, rfl⟩
      refine ⟨trivial, ?_⟩
      simp only [c_due_sum_r1, wSs, wS, wT, wTo, wE, wA, wO, wI, getS, gT, gTs, setAll, List.getElem?_cons_zero, List.getElem?_cons_succ, List.set_cons_zero, List.set_cons_succ, binD, augD, iaddD, imulD, addD, subD, mulD, fdivD, modD, powD, negD, cmpD, eqD, ordD, truthD, boolD, intO, view, subsD, sliceD, listed, dicted, bltD, seqD, seqI, zipI, zipSI, anyI, lstI, enumI, revI, starI, lenTs, mthD, lstOf, mAppend, mPop, mExtend, mUpper, mJoin, strsOf, tyD, Mt.T, setD, wipeD, List.map_cons, List.map_nil, Bool.false_eq_true, if_true, if_false, ↓reduceIte]
      exact .is (Hd.le.refl _) q
    · rintro i σ g C hi ⟨a, b, c, rfl, rfl⟩ hC
      refine ⟨trivial, ?_⟩
      rw [show ((1 : Int) + (i : Nat)) = ((i + 1 : Nat) : Int) by omega]
      have fin : ∀ w : Int, w = ((wt s (i + 1) : Nat) : Int) → ∀ b' : Option D, wS (.aug 3 .Add (.bin .Mult (.var 5) (.blt .sum (.cons (.lc false [("number", 6)] (.nm 6) (.rng3 (.var 4) (.bin .Add (.var 1) (.cst (.int 1))) (.var 4)) .none (.call "power_of" ["base", "many"] sp_power_of (.cons (.var 6) (.cons (.var 2) .nil)))) .nil))))
          { nx := C, rt := Out Q, bk := fun σ h => wSs c_due_sum_r1 { nx := fun x h' => Out Q D.non h', rt := Out Q } σ h, ct := C } [some (.str s), some (.int (N : Nat)), some (.int (p : Nat)), some (.int ((sumTo (fun d => wt s d * sumTo (fun t => (d * t) ^ p) (N / d)) i : Nat) : Int)), some (.int ((i + 1 : Nat) : Int)), some (.int w), c] g := by
        intro w hw b'
        simp only [wSs, wS, wT, wTo, wE, wA, wO, wI, getS, gT, gTs, setAll, List.getElem?_cons_zero, List.getElem?_cons_succ, List.set_cons_zero, List.set_cons_succ, binD, augD, iaddD, imulD, addD, subD, mulD, fdivD, modD, powD, negD, cmpD, eqD, ordD, truthD, boolD, intO, view, subsD, sliceD, listed, dicted, bltD, seqD, seqI, zipI, zipSI, anyI, lstI, enumI, revI, starI, lenTs, mthD, lstOf, mAppend, mPop, mExtend, mUpper, mJoin, strsOf, tyD, Mt.T, setD, wipeD, List.map_cons, List.map_nil, Bool.false_eq_true, if_true, if_false, ↓reduceIte, rng3]
        have hdiv : (((N : Nat) : Int) + 1 - ((i + 1 : Nat) : Int) - 1) / ((i + 1 : Nat) : Int) + 1 = ((N / (i + 1) : Nat) : Int) := by
          have e1 : N / (i + 1) = (N - (i + 1)) / (i + 1) + 1 := Nat.div_eq_sub_div (by omega) (by omega)
          rw [e1, show ((N : Nat) : Int) + 1 - ((i + 1 : Nat) : Int) - 1 = ((N - (i + 1) : Nat) : Int) by omega, ← Int.natCast_ediv]
          omega
        have rg := rg_up (i := ((i + 1 : Nat) : Int)) (j := ((N : Nat) : Int) + 1) (c := ((i + 1 : Nat) : Int)) (by omega) (by omega) (by omega) (by omega) (by omega)
        rw [hdiv, Int.toNat_natCast] at rg
        have hq : N / (i + 1) ≤ N := Nat.div_le_self _ _
        refine ⟨_, _, _, N / (i + 1), rfl, rfl, rfl, rg, by omega, ?_⟩
        refine compL_map (fun d => match d with | .int j => .int (j ^ p) | d => d) trivial _ _ ?_ ?_
        · intro d hd Y Z y
          unfold stepD at hd
          obtain ⟨t, ht, rfl⟩ := List.mem_map.mp hd
          have ht := List.mem_range.mp ht
          have hm : (t + 1) * (i + 1) ≤ N := Nat.le_trans (Nat.mul_le_mul_right _ (show t + 1 ≤ N / (i + 1) by omega)) (Nat.div_mul_le_self _ _)
          have hm2 : ((i + 1 : Nat) : Int) + (t : Nat) * ((i + 1 : Nat) : Int) = (((t + 1) * (i + 1) : Nat) : Int) := by
            rw [Nat.add_mul, Nat.one_mul]; simp only [Int.natCast_add, Int.natCast_mul]; omega
          simp only [sp_power_of, wSs, wS, wT, wTo, wE, wA, wO, wI, getS, gT, gTs, setAll, List.getElem?_cons_zero, List.getElem?_cons_succ, List.set_cons_zero, List.set_cons_succ, binD, augD, iaddD, imulD, addD, subD, mulD, fdivD, modD, powD, negD, cmpD, eqD, ordD, truthD, boolD, intO, view, subsD, sliceD, listed, dicted, bltD, seqD, seqI, zipI, zipSI, anyI, lstI, enumI, revI, starI, lenTs, mthD, lstOf, mAppend, mPop, mExtend, mUpper, mJoin, strsOf, tyD, Mt.T, setD, wipeD, List.map_cons, List.map_nil, Bool.false_eq_true, if_true, if_false, ↓reduceIte]
          refine ⟨⟨12, by rw [hm2]; omega, by omega⟩, ?_⟩
          rw [Int.toNat_natCast]
          exact y
        · have e : [] ++ List.map (fun d => match d with | .int j => .int (j ^ p) | d => d) (stepD ((i + 1 : Nat) : Int) ((i + 1 : Nat) : Int) (N / (i + 1))) = (mulsI (i + 1) p (N / (i + 1))).map D.int := by
            unfold stepD mulsI
            rw [List.nil_append, List.map_map, List.map_map]
            rfl
          rw [e]
          simp only [intsOf_map, wSs, wS, wT, wTo, wE, wA, wO, wI, getS, gT, gTs, setAll, List.getElem?_cons_zero, List.getElem?_cons_succ, List.set_cons_zero, List.set_cons_succ, binD, augD, iaddD, imulD, addD, subD, mulD, fdivD, modD, powD, negD, cmpD, eqD, ordD, truthD, boolD, intO, view, subsD, sliceD, listed, dicted, bltD, seqD, seqI, zipI, zipSI, anyI, lstI, enumI, revI, starI, lenTs, mthD, lstOf, mAppend, mPop, mExtend, mUpper, mJoin, strsOf, tyD, Mt.T, setD, wipeD, List.map_cons, List.map_nil, Bool.false_eq_true, if_true, if_false, ↓reduceIte, mulsI_sum]
          have wl : wt s (i + 1) ≤ 2000 := by unfold wt; split <;> omega
          refine ⟨.inl (by omega), ?_⟩
          have e3 : ((sumTo (fun d => wt s d * sumTo (fun t => (d * t) ^ p) (N / d)) i : Nat) : Int) + w * ((sumTo (fun t => ((i + 1) * t) ^ p) (N / (i + 1)) : Nat) : Int) = ((sumTo (fun d => wt s d * sumTo (fun t => (d * t) ^ p) (N / d)) (i + 1) : Nat) : Int) := by
            rw [hw, sumTo]
            simp only [Int.natCast_add, Int.natCast_mul]
          rw [e3]
          exact hC _ _ ⟨_, _, _, rfl, rfl⟩
      simp only [c_due_sum_b2, wSs]
      have fin2 := fun w hw => fin w hw none
      simp only [wS, wE, wT, getS, List.getElem?_cons_zero, List.getElem?_cons_succ, gT, cmpD, eqD, view, truthD, List.set_cons_zero, List.set_cons_succ, Bool.false_eq_true, if_false, decide_eq_true_eq] at fin2 ⊢
      split
      · rename_i hs
        exact fin2 _ (by unfold wt; rw [if_pos hs])
      · rename_i hs
        exact fin2 _ (by unfold wt; rw [if_neg hs]; rfl)
  · exact q.elim

/-! ### _law_sum -/
abbrev N__law_sum : List Str := ["_law_some", "_law_k", "_law_total", "_law_at", "_law_here", "_law_turn"]
def c__law_sum_r1 : Sts := (.cons (.ret (.var 2))
  .nil)
def c__law_sum_r2 : Sts := (.cons (.asg (.nm 2) (.bin .Add (.var 2) (.var 4)))
    .nil)
def c__law_sum_b3 : Sts := (.cons (.asg (.nm 4) (.bin .Mult (.var 4) (.bin .Add (.var 3) (.cst (.int 1)))))
      .nil)
def c__law_sum_b4 : Sts := (.cons (.for (.nm 5) (.rng1 (.var 1))
    c__law_sum_b3)
    c__law_sum_r2)
def c__law_sum : Sts := (.cons (.asg (.nm 2) (.cst (.int 0)))
  (.cons (.for (.tp (.cons (.nm 3) (.cons (.nm 4) .nil))) (.enum false (.var 0))
  c__law_sum_b4)
  c__law_sum_r1))
def sp__law_sum : Spd := fun ds h Q => match ds with
  | [x, .int p] => ∃ ns : List Int, (x = .tup (ns.map D.int) ∨ x = .lst (ns.map D.int)) ∧ (0 ≤ p ∧ p ≤ 9) ∧ ns.length ≤ 2000 ∧ Q (.int (sumP p.toNat 1 ns)) h
  | _ => False
theorem sumP_take {p i : Nat} {ns : List Int} {n : Int} (e : ns[i]? = some n) : sumP p 1 (ns.take (i + 1)) = sumP p 1 (ns.take i) + ((i + 1 : Nat) : Int) ^ p * n := by
  have := (List.getElem?_eq_some_iff.mp e).1
  rw [take_succ_get e, sumP_append, List.length_take, show 1 + min i ns.length = i + 1 by omega]
  simp only [sumP, Int.add_zero]
theorem b__law_sum (ds : List D) (h : Hd) (Q : Pq) (q : sp__law_sum ds h Q) : wSs c__law_sum { nx := fun _ h' => Out Q .non h', rt := Out Q } (startD N__law_sum ds) h := by
  unfold sp__law_sum at q
  split at q
  · obtain ⟨ns, hx, ⟨p0, p1⟩, hl, q⟩ := q
    rename_i x p
    obtain ⟨p, rfl⟩ := Int.eq_ofNat_of_zero_le p0
    have go : wSs c__law_sum { nx := fun _ h' => Out Q .non h', rt := Out Q } [some x, some (.int (p : Nat)), none, none, none, none] h ↔ forL (gT (.tp (.cons (.nm 3) (.cons (.nm 4) .nil)))) (wSs c__law_sum_b4) (fun _ => True) { nx := wSs c__law_sum_r1 { nx := fun _ h' => Out Q .non h', rt := Out Q }, rt := Out Q } (enumD 0 (ns.map D.int)) [some x, some (.int (p : Nat)), some (.int 0), none, none, none] h := by
      rcases hx with rfl | rfl <;> simp only [c__law_sum, wSs, wS, wT, wTo, wE, wA, wO, wI, getS, gT, gTs, setAll, List.getElem?_cons_zero, List.getElem?_cons_succ, List.set_cons_zero, List.set_cons_succ, binD, augD, iaddD, imulD, addD, subD, mulD, fdivD, modD, powD, negD, cmpD, eqD, ordD, truthD, boolD, intO, view, subsD, sliceD, listed, dicted, bltD, seqD, seqI, zipI, zipSI, anyI, lstI, enumI, revI, starI, lenTs, mthD, lstOf, mAppend, mPop, mExtend, mUpper, mJoin, strsOf, tyD, Mt.T, setD, wipeD, List.map_cons, List.map_nil, Bool.false_eq_true, if_true, if_false, ↓reduceIte]
    refine go.mpr ?_
    refine forL_ix _ (fun i σ g => ∃ (a b c : Option D), σ = [some x, some (.int (p : Nat)), some (.int (sumP p 1 (ns.take i))), a, b, c] ∧ g = h) ?_ ?_ ⟨none, none, none, rfl, rfl⟩
    · rintro σ g ⟨a, b, c, rfl, rfl⟩
      refine ⟨trivial, ?_⟩
      simp only [c__law_sum_r1, wSs, wS, wT, wTo, wE, wA, wO, wI, getS, gT, gTs, setAll, List.getElem?_cons_zero, List.getElem?_cons_succ, List.set_cons_zero, List.set_cons_succ, binD, augD, iaddD, imulD, addD, subD, mulD, fdivD, modD, powD, negD, cmpD, eqD, ordD, truthD, boolD, intO, view, subsD, sliceD, listed, dicted, bltD, seqD, seqI, zipI, zipSI, anyI, lstI, enumI, revI, starI, lenTs, mthD, lstOf, mAppend, mPop, mExtend, mUpper, mJoin, strsOf, tyD, Mt.T, setD, wipeD, List.map_cons, List.map_nil, Bool.false_eq_true, if_true, if_false, ↓reduceIte]
      rw [enumD_len, List.length_map, List.take_length]
      exact .is (Hd.le.refl _) q
    · rintro i d σ g C e hi ⟨a, b, c, rfl, rfl⟩ hC
      refine ⟨trivial, ?_⟩
      obtain ⟨y, ey, rfl⟩ := enumD_get e
      obtain ⟨n, en, rfl⟩ := ints_get ey
      have il : i < 2000 := by
        have := (List.getElem?_eq_some_iff.mp en).1
        omega
      simp only [c__law_sum_b4, wSs, wS, wT, wTo, wE, wA, wO, wI, getS, gT, gTs, setAll, List.getElem?_cons_zero, List.getElem?_cons_succ, List.set_cons_zero, List.set_cons_succ, binD, augD, iaddD, imulD, addD, subD, mulD, fdivD, modD, powD, negD, cmpD, eqD, ordD, truthD, boolD, intO, view, subsD, sliceD, listed, dicted, bltD, seqD, seqI, zipI, zipSI, anyI, lstI, enumI, revI, starI, lenTs, mthD, lstOf, mAppend, mPop, mExtend, mUpper, mJoin, strsOf, tyD, Mt.T, setD, wipeD, List.map_cons, List.map_nil, Bool.false_eq_true, if_true, if_false, ↓reduceIte]
      refine ⟨by omega, ?_⟩
      rw [Int.toNat_natCast]
      refine forL_rng (fun j σ g' => ∃ (c : Option D), σ = [some x, some (.int (p : Nat)), some (.int (sumP p 1 (ns.take i))), some (.int ((i + 0 : Nat) : Int)), some (.int (((i + 1 : Nat) : Int) ^ j * n)), c] ∧ g' = g) ?_ ?_ ⟨c, by rw [Int.pow_zero, Int.one_mul], rfl⟩
      · rintro σ g ⟨c, rfl, rfl⟩
        refine ⟨trivial, ?_⟩
        simp only [c__law_sum_r2, wSs, wS, wT, wTo, wE, wA, wO, wI, getS, gT, gTs, setAll, List.getElem?_cons_zero, List.getElem?_cons_succ, List.set_cons_zero, List.set_cons_succ, binD, augD, iaddD, imulD, addD, subD, mulD, fdivD, modD, powD, negD, cmpD, eqD, ordD, truthD, boolD, intO, view, subsD, sliceD, listed, dicted, bltD, seqD, seqI, zipI, zipSI, anyI, lstI, enumI, revI, starI, lenTs, mthD, lstOf, mAppend, mPop, mExtend, mUpper, mJoin, strsOf, tyD, Mt.T, setD, wipeD, List.map_cons, List.map_nil, Bool.false_eq_true, if_true, if_false, ↓reduceIte]
        rw [← sumP_take en]
        exact hC _ _ ⟨_, _, _, rfl, rfl⟩
      · rintro j σ g C' hj ⟨c, rfl, rfl⟩ hC'
        refine ⟨trivial, ?_⟩
        simp only [c__law_sum_b3, wSs, wS, wT, wTo, wE, wA, wO, wI, getS, gT, gTs, setAll, List.getElem?_cons_zero, List.getElem?_cons_succ, List.set_cons_zero, List.set_cons_succ, binD, augD, iaddD, imulD, addD, subD, mulD, fdivD, modD, powD, negD, cmpD, eqD, ordD, truthD, boolD, intO, view, subsD, sliceD, listed, dicted, bltD, seqD, seqI, zipI, zipSI, anyI, lstI, enumI, revI, starI, lenTs, mthD, lstOf, mAppend, mPop, mExtend, mUpper, mJoin, strsOf, tyD, Mt.T, setD, wipeD, List.map_cons, List.map_nil, Bool.false_eq_true, if_true, if_false, ↓reduceIte]
        rw [show ((i + 0 : Nat) : Int) + 1 = ((i + 1 : Nat) : Int) by omega]
        have e4 : ((i + 1 : Nat) : Int) ^ j * n * ((i + 1 : Nat) : Int) = ((i + 1 : Nat) : Int) ^ (j + 1) * n := by rw [Int.pow_succ, Int.mul_assoc, Int.mul_comm n, ← Int.mul_assoc]
        rw [e4]
        exact ⟨.inr (.inl (by omega)), hC' _ _ ⟨_, rfl, rfl⟩⟩
  · exact q.elim

theorem sumP_bound {p m c : Nat} : ∀ {k : Nat} {ns : List Int}, (∀ n ∈ ns, n.natAbs ≤ c) → k + ns.length ≤ m + 1 → (sumP p k ns).natAbs ≤ ns.length * (m ^ p * c)
  | _, [], _, _ => by simp [sumP]
  | k, n :: ns, h, l => by
    rw [sumP, List.length_cons, Nat.add_mul]
    rw [List.length_cons] at l
    have h1 := sumP_bound (p := p) (m := m) (c := c) (k := k + 1) (ns := ns) (fun x hx => h x (by simp [hx])) (by omega)
    have h2 : (((k : Nat) : Int) ^ p * n).natAbs ≤ m ^ p * c := by
      rw [Int.natAbs_mul, natAbs_pow]
      exact Nat.mul_le_mul (Nat.pow_le_pow_left (by omega) p) (h n (by simp))
    have := Int.natAbs_add_le (((k : Nat) : Int) ^ p * n) (sumP p (k + 1) ns)
    omega
end G

/-! Law k30: samples, by the program and by the law. -/
namespace K30
open PySem PySem.Spec PyProof.Rows G
open L2 hiding wE wT

theorem any_ints (ks : List Int) (q : Int) : ((ks.map D.int).any fun z => PyData.eqv z.py (D.int q).py) = decide (q ∈ ks) := by
  induction ks with
  | nil => rfl
  | cons k ks ih =>
    rw [List.map_cons, List.any_cons, ih]
    have e : PyData.eqv (D.int k).py (D.int q).py = decide (q = k) := by
      simp only [D.py, PyData.eqv]
      by_cases z : q = k
      · subst z
        simp
      · rw [decide_eq_false z]
        have : ¬ k = q := fun y => z y.symm
        simp [this]
    rw [e, Bool.eq_iff_iff, Bool.or_eq_true, decide_eq_true_eq, decide_eq_true_eq, decide_eq_true_eq, List.mem_cons]
theorem shapedI (q : Int) : SeqAt.shaped (D.int q).py = true := by
  simp only [D.py]
  rfl
theorem notInT {ks : List Int} {q : Int} {h : Hd} {Q : Pq} (k : Q (.bl (!decide (q ∈ ks))) h) : cmpD .NotIn (.int q) (.tup (ks.map D.int)) h Q := by
  show inD true (.int q) (.tup (ks.map D.int)) h Q
  unfold inD
  refine ⟨.inl ⟨rfl, List.all_eq_true.mpr fun d hd => ?_⟩, ?_⟩
  · obtain ⟨i, _, rfl⟩ := List.mem_map.mp hd
    rfl
  · simp only [if_true, any_ints]
    exact k
theorem notInL {ks : List Int} {q : Int} {h : Hd} {Q : Pq} (k : Q (.bl (!decide (q ∈ ks))) h) : cmpD .NotIn (.int q) (.lst (ks.map D.int)) h Q := by
  show inD true (.int q) (.lst (ks.map D.int)) h Q
  unfold inD
  have sh := shaped_ints ks
  simp only [D.py] at sh
  refine ⟨⟨by simp only [D.isD], areD_ints ks, shapedI q, sh⟩, ?_⟩
  simp only [if_true, any_ints]
  exact k
/-- 1 .. n -/
def upto (n : Nat) : List Int := (List.range n).map fun i => (1 : Int) + ((i : Nat) : Int)
theorem upto_D (n : Nat) : rngD 1 n = (upto n).map D.int := by
  unfold rngD upto
  rw [List.map_map]
  rfl
theorem upto_mem {n : Nat} {x : Int} (h : x ∈ upto n) : ∃ k : Nat, x = (k : Nat) ∧ 1 ≤ k ∧ k ≤ n := by
  obtain ⟨i, hi, rfl⟩ := List.mem_map.mp h
  have := List.mem_range.mp hi
  exact ⟨1 + i, by omega, by omega, by omega⟩
theorem upto_len (n : Nat) : (upto n).length = n := by unfold upto; rw [List.length_map, List.length_range]
def intI : D → Int
  | .int i => i
  | _ => 0
theorem flt_ints (f : Int → Bool) (ns : List Int) : (((ns.map D.int).filter fun d => f (intI d)).map id) = (ns.filter f).map D.int := by
  induction ns with
  | nil => rfl
  | cons n ns ih =>
    rw [List.map_cons, List.filter_cons, List.filter_cons]
    show (if f n = true then _ else _ : List D).map id = _
    split
    · rw [List.map_cons, List.map_cons, ih]
      rfl
    · exact ih
theorem compL_pick {g : D → (Sl → Prop) → Prop} {t : WT} {e : WE} {h : Hd} {Q : List D → Hd → Prop} (f : Int → Bool) (ns : List Int) (step : ∀ i ∈ ns, ∀ (Y : D → Hd → Prop) (Z : Hd → Prop), (f i = true → Y (.int i) h) → (f i = false → Z h) → g (.int i) fun σ => t σ h fun b h1 => if b = true then e σ h1 Y else Z h1) (q : Q ((ns.filter f).map D.int) h) : compL g t e (fun _ => True) (ns.map D.int) [] h Q := by
  refine compL_flt (fun d => f (intI d)) id trivial _ _ (fun d hd Y Z y z => ?_) ?_
  · obtain ⟨i, hi, rfl⟩ := List.mem_map.mp hd
    exact step i hi Y Z y z
  · rw [List.nil_append, flt_ints]
    exact q
/-! ### the places that are missed -/
def oth (n : Nat) (ss : List Int) : List Int := (upto n).filter fun x => !decide (x ∈ ss)
def misD (n : Nat) (ss : List Int) (m : Int) : D := .tup (if m < ((oth n ss).length : Nat) then (oth n ss).map D.int else [])
abbrev N_missed : List Str := ["size", "places", "sums", "others", "place"]
def c_missed_r1 : Sts := (.cons (.ret (.ife (.val (.cmp .Gt (.blt .len (.cons (.var 3) .nil)) (.var 2))) (.var 3) (.tup .nil)))
  .nil)
def c_missed : Sts := (.cons (.asg (.nm 3) (.blt .tuple (.cons (.lc false [("place", 4)] (.nm 4) (.rng2 (.cst (.int 1)) (.bin .Add (.var 0) (.cst (.int 1)))) (.some (.val (.cmp .NotIn (.var 4) (.var 1)))) (.var 4)) .nil)))
  c_missed_r1)
def sp_missed : Spd := fun ds h Q => match ds with
  | [.int x, .tup ts, .int m] => ∃ (n : Nat) (ss : List Int), (x = (n : Nat) ∧ n ≤ 200 ∧ ts = ss.map D.int) ∧ Q (misD n ss m) h
  | _ => False
theorem b_missed (ds : List D) (h : Hd) (Q : Pq) (q : sp_missed ds h Q) : wSs c_missed { nx := fun _ h' => Out Q .non h', rt := Out Q } (startD N_missed ds) h := by
  unfold sp_missed at q
  split at q
  · rename_i x ts m
    obtain ⟨n, ss, ⟨rfl, nl, rfl⟩, q⟩ := q
    show wSs c_missed _ [some (.int (n : Nat)), some (.tup (ss.map D.int)), some (.int m), none, none] h
    unfold c_missed
    refine st_asgE (e_blt (a_cons ?_))
    rw [wE, wI]
    refine ev_ok _ rfl trivial (ev_ok _ rfl trivial ⟨⟨⟨by omega, by omega⟩, ⟨by omega, by omega⟩, by omega⟩, ?_⟩)
    have e : (((n : Nat) : Int) + 1 - 1).toNat = n := by omega
    rw [e, upto_D]
    refine compL_pick (fun x => !decide (x ∈ ss)) _ (fun i hi Y Z y z => ?_) ?_
    · simp only [gT, wipeD, List.map_cons, List.map_nil, List.set_cons_succ, List.set_cons_zero]
      rw [wTo]
      refine t_val (e_cmp (ev_ok _ rfl trivial (ev_ok _ rfl trivial (notInT (w_truth.mpr ?_)))))
      cases ei : !decide (i ∈ ss)
      · rw [if_neg (by decide)]
        exact z ei
      · rw [if_pos rfl]
        exact ev_ok _ rfl trivial (y ei)
    · simp only [listed]
      refine a_nil (w_tupL.mpr ?_)
      simp only [List.set_cons_succ, List.set_cons_zero]
      unfold c_missed_r1
      refine st_retE (e_ife (evt_ok _ rfl trivial ?_))
      have q : Q (.tup (if m < ((oth n ss).length : Nat) then (oth n ss).map D.int else [])) h := q
      by_cases c : m < ((oth n ss).length : Nat)
      · rw [if_pos c] at q
        rw [if_pos (decide_eq_true (by rw [List.length_map]; exact c))]
        exact ev_ok _ rfl trivial (.is (Hd.le.refl _) q)
      · rw [if_neg c] at q
        rw [if_neg (fun z => c (by have := of_decide_eq_true z; rw [List.length_map] at this; exact this))]
        exact ev_ok _ rfl trivial (.is (Hd.le.refl _) q)
  · exact q.elim
/-! ### a world -/
structure Wo (s : Str) (n : Nat) (ss : List Int) (m : Nat) : Prop where
  w : s ∈ words3
  n1 : 1 ≤ n
  n2 : n ≤ 200
  sp : ∀ x ∈ ss, x ∈ upto n
  m9 : m ≤ 9
  lm : s = "least" → m = 0
def woD (s : Str) (n : Nat) (ss : List Int) (m : Nat) : D := .tup [.str s, .int (n : Nat), .tup (ss.map D.int), .int (m : Nat)]
abbrev N__law_gone : List Str := ["_law_world_here", "_law_sort", "_law_top", "_law_spots", "_law_many", "_law_others", "_law_n"]
def c__law_gone_r1 : Sts := (.cons (.ret (.ife (.val (.cmp .Gt (.blt .len (.cons (.var 5) .nil)) (.var 4))) (.var 5) (.tup .nil)))
  .nil)
def c__law_gone_r2 : Sts := (.cons (.asg (.nm 5) (.blt .tuple (.cons (.lc false [("_law_n", 6)] (.nm 6) (.rng2 (.cst (.int 1)) (.bin .Add (.var 2) (.cst (.int 1)))) (.some (.val (.cmp .NotIn (.var 6) (.var 3)))) (.var 6)) .nil)))
  c__law_gone_r1)
def c__law_gone : Sts := (.cons (.asg (.tp (.cons (.nm 1) (.cons (.nm 2) (.cons (.nm 3) (.cons (.nm 4) .nil))))) (.var 0))
  c__law_gone_r2)
def sp__law_gone : Spd := fun ds h Q => match ds with
  | [d] => ∃ (s : Str) (n : Nat) (ss : List Int) (m : Nat), (d = woD s n ss m ∧ n ≤ 200) ∧ Q (misD n ss (m : Nat)) h
  | _ => False
theorem b__law_gone (ds : List D) (h : Hd) (Q : Pq) (q : sp__law_gone ds h Q) : wSs c__law_gone { nx := fun _ h' => Out Q .non h', rt := Out Q } (startD N__law_gone ds) h := by
  unfold sp__law_gone at q
  split at q
  · obtain ⟨s, n, ss, m, ⟨rfl, nl⟩, q⟩ := q
    show wSs c__law_gone _ [some (woD s n ss m), none, none, none, none, none, none] h
    unfold c__law_gone
    rw [wSs, wS]
    refine ev_ok _ rfl trivial ?_
    simp only [woD, gT, gTs, List.set_cons_succ, List.set_cons_zero]
    unfold c__law_gone_r2
    refine st_asgE (e_blt (a_cons ?_))
    rw [wE, wI]
    refine ev_ok _ rfl trivial (ev_ok _ rfl trivial ⟨⟨⟨by omega, by omega⟩, ⟨by omega, by omega⟩, by omega⟩, ?_⟩)
    have e : (((n : Nat) : Int) + 1 - 1).toNat = n := by omega
    rw [e, upto_D]
    refine compL_pick (fun x => !decide (x ∈ ss)) _ (fun i hi Y Z y z => ?_) ?_
    · simp only [gT, wipeD, List.map_cons, List.map_nil, List.set_cons_succ, List.set_cons_zero]
      rw [wTo]
      refine t_val (e_cmp (ev_ok _ rfl trivial (ev_ok _ rfl trivial (notInT (w_truth.mpr ?_)))))
      cases ei : !decide (i ∈ ss)
      · rw [if_neg (by decide)]
        exact z ei
      · rw [if_pos rfl]
        exact ev_ok _ rfl trivial (y ei)
    · simp only [listed]
      refine a_nil (w_tupL.mpr ?_)
      simp only [List.set_cons_succ, List.set_cons_zero]
      unfold c__law_gone_r1
      refine st_retE (e_ife (evt_ok _ rfl trivial ?_))
      have q : Q (.tup (if ((m : Nat) : Int) < ((oth n ss).length : Nat) then (oth n ss).map D.int else [])) h := q
      by_cases c : ((m : Nat) : Int) < ((oth n ss).length : Nat)
      · rw [if_pos c] at q
        rw [if_pos (decide_eq_true (by rw [List.length_map]; exact c))]
        exact ev_ok _ rfl trivial (.is (Hd.le.refl _) q)
      · rw [if_neg c] at q
        rw [if_neg (fun z => c (by have := of_decide_eq_true z; rw [List.length_map] at this; exact this))]
        exact ev_ok _ rfl trivial (.is (Hd.le.refl _) q)
  · exact q.elim
/-! ### what a sample is held against -/
def rowI (s : Str) (x : Int) : Int := ((rowV s x.toNat : Nat) : Int)
def placeB (s : Str) (ns : List Int) (x : Int) : Bool := decide (ns.getD (x - 1).toNat 0 = rowI s x)
def holdN (s : Str) (n : Nat) (ss : List Int) (m : Nat) (ns : List Int) : Bool := decide (ns.length = n) && (ss.all (placeB s ns) && (List.range m).all fun k => decide (sumP k 1 ns = ((dueN s n k : Nat) : Int)))
def holdB (s : Str) (n : Nat) (ss : List Int) (m : Nat) (d : D) : Bool := match d with
  | .tup ds => (match intsOf ds with
    | some ns => holdN s n ss m ns
    | none => false)
  | _ => false
theorem holdB_ints (s : Str) (n : Nat) (ss : List Int) (m : Nat) (ns : List Int) : holdB s n ss m (.tup (ns.map D.int)) = holdN s n ss m ns := by
  unfold holdB
  simp only [intsOf_map]
theorem intsOf_none {ds : List D} (h : ds.all isWholeD = false) : intsOf ds = none := by
  cases e : intsOf ds with
  | none => rfl
  | some ns =>
    exfalso
    have : ds = ns.map D.int := by
      clear h
      induction ds generalizing ns with
      | nil => simp [intsOf] at e; subst e; rfl
      | cons d ds ih =>
        cases d <;> simp only [intsOf] at e <;> try cases e
        obtain ⟨ms, em, rfl⟩ := Option.map_eq_some_iff.mp e
        rw [ih ms em]
        rfl
    rw [this, wholesD_ints] at h
    cases h
theorem holdB_no {s : Str} {n : Nat} {ss : List Int} {m : Nat} {d : D} (h : wholesD d = false) : holdB s n ss m d = false := by
  cases d <;> try rfl
  unfold holdB
  simp only [intsOf_none h]
/-- numbers of a size -/
def Bd (d : D) : Prop := d.isF = true ∧ ∀ ns : List Int, d = .tup (ns.map D.int) → ns.length ≤ 2000 ∧ ∀ i ∈ ns, i.natAbs.log2 < 900000
theorem atI_getD {ns : List Int} {x : Int} (h0 : 1 ≤ x) (h1 : x ≤ ns.length) : atI (ns.map D.int) (x - 1) = some (.int (ns.getD (x - 1).toNat 0)) := by
  obtain ⟨k, rfl⟩ := Int.eq_ofNat_of_zero_le (show 0 ≤ x by omega)
  have e : ((k : Nat) : Int) - 1 = ((k - 1 : Nat) : Int) := by omega
  rw [e, Int.toNat_natCast]
  refine atI_nat ?_
  have hk : k - 1 < ns.length := by omega
  rw [List.getElem?_map, List.getElem?_eq_getElem hk, List.getD_eq_getElem?_getD, List.getElem?_eq_getElem hk]
  rfl
theorem any_not (f : Int → Bool) : ∀ ss : List Int, ((ss.map fun i => !f i).any id) = !ss.all f
  | [] => rfl
  | i :: ss => by
    rw [List.map_cons, List.any_cons, List.all_cons, Bool.not_and, any_not f ss]
    rfl
abbrev N_sample_holds : List Str := ["word", "size", "places", "sums", "thing", "place", "power"]
def c_sample_holds_r1 : Sts := (.cons (.ret (.blt .all (.cons (.lc false [("power", 6)] (.nm 6) (.rng1 (.var 3)) .none (.cmp .Eq (.call "sum_of" ["rows", "power"] sp_sum_of (.cons (.var 4) (.cons (.var 6) .nil))) (.call "due_sum" ["word", "size", "power"] sp_due_sum (.cons (.var 0) (.cons (.var 1) (.cons (.var 6) .nil)))))) .nil)))
  .nil)
def c_sample_holds_r2 : Sts := (.cons (.ite (.val (.blt .any (.cons (.lc false [("place", 5)] (.nm 5) (.seq (.var 2)) .none (.cmp .NotEq (.sub (.var 4) (.bin .Sub (.var 5) (.cst (.int 1)))) (.call "row_of" ["word", "number"] sp_row_of (.cons (.var 0) (.cons (.var 5) .nil))))) .nil)))
  (.cons (.ret (.cst (.bl false)))
    .nil)
  .nil)
  c_sample_holds_r1)
def c_sample_holds : Sts := (.cons (.ite (.or (.not (.val (.call "are_wholes" ["thing"] sp_are_wholes (.cons (.var 4) .nil)))) (.val (.cmp .NotEq (.blt .len (.cons (.var 4) .nil)) (.var 1))))
  (.cons (.ret (.cst (.bl false)))
    .nil)
  .nil)
  c_sample_holds_r2)
def sp_sample_holds : Spd := fun ds h Q => match ds with
  | [.str s, .int x, .tup ts, .int y, d] => ∃ (n m : Nat) (ss : List Int), (x = (n : Nat) ∧ y = (m : Nat) ∧ ts = ss.map D.int ∧ Wo s n ss m ∧ Bd d) ∧ Q (.bl (holdB s n ss m d)) h
  | _ => False
theorem b_sample_holds (ds : List D) (h : Hd) (Q : Pq) (q : sp_sample_holds ds h Q) : wSs c_sample_holds { nx := fun _ h' => Out Q .non h', rt := Out Q } (startD N_sample_holds ds) h := by
  unfold sp_sample_holds at q
  split at q
  · rename_i s x ts y d
    obtain ⟨n, m, ss, ⟨rfl, rfl, rfl, wo, df, db⟩, q⟩ := q
    have n1 := wo.n1
    have n2 := wo.n2
    have m9 := wo.m9
    show wSs c_sample_holds _ [some (.str s), some (.int (n : Nat)), some (.tup (ss.map D.int)), some (.int (m : Nat)), some d, none, none] h
    unfold c_sample_holds
    refine st_iteE (t_or (t_not (t_val (e_call rfl trivial ⟨df, w_truth.mpr ?_⟩))))
    cases ew : wholesD d
    · rw [if_pos (by decide), if_pos rfl]
      rw [holdB_no ew] at q
      exact st_ret rfl trivial (.is (Hd.le.refl _) q)
    · rw [if_neg (by decide)]
      obtain ⟨ds, rfl⟩ : ∃ ds, d = .tup ds := by cases d <;> first | exact ⟨_, rfl⟩ | cases ew
      obtain ⟨ns, rfl⟩ := wholes_ints ew
      obtain ⟨nl, nb⟩ := db ns rfl
      rw [holdB_ints] at q
      unfold holdN at q
      refine evt_ok _ rfl trivial ?_
      by_cases el : ns.length = n
      · rw [decide_eq_true el, Bool.true_and] at q
        rw [if_neg (by simp [el]), wSs]
        dsimp only
        unfold c_sample_holds_r2
        refine st_iteE (t_val (e_blt (a_cons ?_)))
        rw [wE, wI]
        refine ev_ok _ rfl trivial ?_
        simp only [seqI]
        refine compL_map (fun d => .bl (!placeB s ns (intI d))) trivial _ _ (fun d hd Y Z y => ?_) ?_
        · obtain ⟨i, hi, rfl⟩ := List.mem_map.mp hd
          obtain ⟨k, rfl, k1, k2⟩ := upto_mem (wo.sp i hi)
          simp only [gT, wTo, if_true, wipeD, List.map_cons, List.map_nil, List.set_cons_succ, List.set_cons_zero]
          refine e_cmp (e_sub (ev_ok _ rfl trivial (ev_ok _ rfl trivial ((w_subT (atI_getD (by omega) (by omega))).mpr (e_call rfl trivial ⟨s, k, rfl, k1, by omega, w_ne.mpr ?_⟩)))))
          exact y
        · simp only [listed, List.nil_append]
          have eb : blsOf ((ss.map D.int).map fun d => D.bl (!placeB s ns (intI d))) = some (ss.map fun i => !placeB s ns i) := by
            rw [List.map_map]
            have := blsOf_map (ss.map fun i => !placeB s ns i)
            rw [List.map_map] at this
            exact this
          refine a_nil ?_
          simp only [bltD, vw_lst, eb]
          refine w_truth.mpr ?_
          have ea : ((ss.map fun i => !placeB s ns i).any id) = !ss.all (placeB s ns) := by
            exact any_not _ ss
          rw [ea]
          cases ep : ss.all (placeB s ns)
          · rw [ep, Bool.false_and] at q
            rw [if_pos (by decide)]
            exact st_ret rfl trivial (.is (Hd.le.refl _) q)
          · rw [ep, Bool.true_and] at q
            rw [if_neg (by decide), wSs]
            dsimp only
            unfold c_sample_holds_r1
            refine st_retE (e_blt (a_cons ?_))
            rw [wE, wI]
            refine ev_ok _ rfl trivial ⟨by omega, ?_⟩
            rw [Int.toNat_natCast]
            refine compL_map (fun d => .bl (decide (sumP (intI d).toNat 1 ns = ((dueN s n (intI d).toNat : Nat) : Int)))) trivial _ _ (fun d hd Y Z y => ?_) ?_
            · obtain ⟨k, hk, rfl⟩ := rngD_mem hd
              simp only [gT, wTo, if_true, wipeD, List.map_cons, List.map_nil, List.set_cons_succ, List.set_cons_zero]
              refine e_cmp (e_call rfl trivial ⟨ns, rfl, by omega, by omega, nb, e_call rfl trivial ⟨by omega, by omega, w_eq.mpr ?_⟩⟩)
              rw [Int.toNat_natCast]
              exact y
            · simp only [listed, List.nil_append]
              have eb : blsOf ((rngD 0 m).map fun d => D.bl (decide (sumP (intI d).toNat 1 ns = ((dueN s n (intI d).toNat : Nat) : Int)))) = some ((List.range m).map fun k => decide (sumP k 1 ns = ((dueN s n k : Nat) : Int))) := by
                unfold rngD
                rw [List.map_map]
                have := blsOf_map ((List.range m).map fun k => decide (sumP k 1 ns = ((dueN s n k : Nat) : Int)))
                rw [List.map_map] at this
                rw [← this]
                congr 1
                refine List.map_congr_left fun k _ => ?_
                show D.bl (decide (sumP ((0 : Int) + ((k : Nat) : Int)).toNat 1 ns = ((dueN s n ((0 : Int) + ((k : Nat) : Int)).toNat : Nat) : Int))) = _
                rw [Int.zero_add, Int.toNat_natCast]
                rfl
              refine a_nil ?_
              simp only [bltD, vw_lst, eb]
              have ea : (((List.range m).map fun k => decide (sumP k 1 ns = ((dueN s n k : Nat) : Int))).all id) = (List.range m).all fun k => decide (sumP k 1 ns = ((dueN s n k : Nat) : Int)) := by
                rw [List.all_map]
                rfl
              rw [ea]
              exact .is (Hd.le.refl _) q
      · rw [decide_eq_false el, Bool.false_and] at q
        have e2 : (!decide ((((ns.map D.int).length : Nat) : Int) = ((n : Nat) : Int))) = true := by
          rw [List.length_map, decide_eq_false (by omega)]
          rfl
        rw [if_pos e2]
        exact st_ret rfl trivial (.is (Hd.le.refl _) q)
  · exact q.elim
end K30

/-! Law k30: _law_lets. -/
namespace K30
open PySem PySem.Spec PyProof.Rows G
open L2 hiding wE wT

theorem neL_nil {ds : List D} {h : Hd} {Q : Pq} (i : (D.lst ds).isF = true) (q : Q (.bl (!ds.isEmpty)) h) : cmpD .NotEq (.lst ds) (.lst []) h Q := by
  have e2 : PyData.eqv (D.lst ds).py (D.lst []).py = ds.isEmpty := eqv_nil ds
  have go : EqOk (D.lst ds) (D.lst []) ∧ Q (.bl (!PyData.eqv (D.lst ds).py (D.lst []).py)) h := ⟨⟨i, by simp only [D.isF, D.areF], .inr (by decide +kernel)⟩, by rw [e2]; exact q⟩
  exact go
theorem isF_lst {ds : List D} : (D.lst ds).isF = true ↔ ∀ d ∈ ds, d.isF = true := by
  have : ∀ ds : List D, D.areF ds = true ↔ ∀ d ∈ ds, d.isF = true := by
    intro ds
    induction ds with
    | nil => simp [D.areF]
    | cons d ds ih => simp [D.areF, ih]
  simp only [D.isF, this]
def tabI (s : Str) (n : Nat) : List Int := (List.range n).map fun i => ((rowV s (i + 1) : Nat) : Int)
theorem tabI_len (s : Str) (n : Nat) : (tabI s n).length = n := by unfold tabI; rw [List.length_map, List.length_range]
/-- the gaps by the powers of the places -/
def gapL (p : Nat) : Nat → List Int → List Int → List Int
  | c, n :: ns, t :: ts => (n - t) * ((c : Nat) : Int) ^ p :: gapL p (c + 1) ns ts
  | _, _, _ => []
def mulE : Nat → List Int → List Int
  | _, [] => []
  | c, x :: xs => x * ((c : Nat) : Int) :: mulE (c + 1) xs
theorem mul_gap (p : Nat) : ∀ (c : Nat) (ns ts : List Int), mulE c (gapL p c ns ts) = gapL (p + 1) c ns ts
  | c, [], ts => by simp [gapL, mulE]
  | c, n :: ns, [] => by simp [gapL, mulE]
  | c, n :: ns, t :: ts => by
    rw [gapL, gapL, mulE, mul_gap p (c + 1) ns ts, Int.mul_assoc, ← Int.pow_succ]
theorem gap_sum (p : Nat) : ∀ (c : Nat) (ns ts : List Int), ns.length = ts.length → (gapL p c ns ts).sum = sumP p c ns - sumP p c ts
  | c, [], [], _ => by simp [gapL, sumP]
  | c, [], t :: ts, h => by simp at h
  | c, n :: ns, [], h => by simp at h
  | c, n :: ns, t :: ts, h => by
    have ih := gap_sum p (c + 1) ns ts (by simpa using h)
    rw [gapL, List.sum_cons, ih, sumP, sumP, Int.sub_mul, Int.mul_comm n, Int.mul_comm t]
    omega
theorem gap_len (p : Nat) : ∀ (c : Nat) (ns ts : List Int), ns.length = ts.length → (gapL p c ns ts).length = ns.length
  | c, [], [], _ => rfl
  | c, [], t :: ts, h => by simp at h
  | c, n :: ns, [], h => by simp at h
  | c, n :: ns, t :: ts, h => by
    rw [gapL, List.length_cons, List.length_cons, gap_len p (c + 1) ns ts (by simpa using h)]
theorem gap_at : ∀ (c : Nat) (ns ts : List Int) (i : Nat), ns.length = ts.length → i < ns.length → (gapL 0 c ns ts).getD i 0 = ns.getD i 0 - ts.getD i 0
  | c, [], [], i, _, h => by simp at h
  | c, [], t :: ts, _, h, _ => by simp at h
  | c, n :: ns, [], _, h, _ => by simp at h
  | c, n :: ns, t :: ts, 0, h, _ => by
    simp [gapL]
  | c, n :: ns, t :: ts, i + 1, h, hi => by
    have := gap_at (c + 1) ns ts i (by simpa using h) (by simpa using hi)
    rw [gapL]
    simpa using this
def fS : D → D
  | .tup [.int a, .int b] => .int (a - b)
  | d => d
def fE : D → D
  | .tup [.int i, .int x] => .int (x * (i + 1))
  | d => d
theorem zip_gap : ∀ (c : Nat) (ns ts : List Int), (zipD (ns.map D.int) (ts.map D.int)).map fS = (gapL 0 c ns ts).map D.int
  | c, [], ts => by simp [gapL, zipD]
  | c, n :: ns, [] => by simp [gapL, zipD]
  | c, n :: ns, t :: ts => by
    have := zip_gap (c + 1) ns ts
    unfold zipD at this ⊢
    simp only [List.map_cons, List.zipWith_cons_cons, gapL, Int.pow_zero, Int.mul_one, this, fS]
theorem enum_mul : ∀ (k : Nat) (xs : List Int), (enumD k (xs.map D.int)).map fE = (mulE (k + 1) xs).map D.int
  | k, [] => rfl
  | k, x :: xs => by
    have := enum_mul (k + 1) xs
    unfold enumD at this ⊢
    simp only [List.map_cons, List.zipIdx_cons, mulE, this, fE, Int.natCast_add]
    rfl
theorem tab_at {s : Str} {n : Nat} {x : Int} (h : x ∈ upto n) : (tabI s n).getD (x - 1).toNat 0 = rowI s x := by
  obtain ⟨k, rfl, k1, k2⟩ := upto_mem h
  have e : (((k : Nat) : Int) - 1).toNat = k - 1 := by omega
  rw [e, List.getD_eq_getElem?_getD]
  unfold tabI rowI
  rw [List.getElem?_map, List.getElem?_range (by omega), Int.toNat_natCast]
  show ((rowV s (k - 1 + 1) : Nat) : Int) = _
  rw [show k - 1 + 1 = k by omega]
theorem holdB_len {s : Str} {n : Nat} {ss : List Int} {m : Nat} {ds : List D} (h : ds.length ≠ n) : holdB s n ss m (.tup ds) = false := by
  cases e : ds.all isWholeD
  · exact holdB_no e
  · obtain ⟨ns, rfl⟩ := wholes_ints e
    rw [List.length_map] at h
    rw [holdB_ints]
    unfold holdN
    rw [decide_eq_false h, Bool.false_and]
theorem flt_none {f : Int → Bool} : ∀ ss : List Int, (ss.filter fun i => !f i).isEmpty = ss.all f
  | [] => rfl
  | i :: ss => by
    rw [List.filter_cons, List.all_cons]
    cases f i
    · rfl
    · exact flt_none ss
theorem fltD_none {f : D → Bool} : ∀ ss : List D, (ss.filter fun i => !f i).isEmpty = ss.all f
  | [] => rfl
  | i :: ss => by
    rw [List.filter_cons, List.all_cons]
    cases f i
    · rfl
    · exact fltD_none ss
abbrev N__law_lets : List Str := ["_law_world_here", "_law_table", "_law_it", "_law_sort", "_law_top", "_law_spots", "_law_many", "_law_one", "_law_gaps", "_law_here", "_law_due_here", "_law_n", "_law_k", "_law_at"]
def c__law_lets_r1 : Sts := (.cons (.ret (.cst (.bl true)))
  .nil)
def c__law_lets_r2 : Sts := (.cons (.asg (.nm 8) (.lc false [("_law_at", 13), ("_law_here", 9)] (.tp (.cons (.nm 13) (.cons (.nm 9) .nil))) (.enum false (.var 8)) .none (.bin .Mult (.var 9) (.bin .Add (.var 13) (.cst (.int 1))))))
    .nil)
def c__law_lets_b3 : Sts := (.cons (.ite (.val (.cmp .NotEq (.blt .sum (.cons (.var 8) .nil)) (.cst (.int 0))))
    (.cons (.ret (.cst (.bl false)))
      .nil)
    .nil)
    c__law_lets_r2)
def c__law_lets_r4 : Sts := (.cons (.for (.nm 12) (.rng1 (.var 6))
  c__law_lets_b3)
  c__law_lets_r1)
def c__law_lets_r5 : Sts := (.cons (.ite (.val (.cmp .NotEq (.lc false [("_law_n", 11)] (.nm 11) (.seq (.var 5)) (.some (.val (.cmp .NotEq (.sub (.var 8) (.bin .Sub (.var 11) (.cst (.int 1)))) (.cst (.int 0))))) (.var 11)) (.lst .nil)))
  (.cons (.ret (.cst (.bl false)))
    .nil)
  .nil)
  c__law_lets_r4)
def c__law_lets_r6 : Sts := (.cons (.asg (.nm 8) (.lc false [("_law_here", 9), ("_law_due_here", 10)] (.tp (.cons (.nm 9) (.cons (.nm 10) .nil))) (.zip (.var 2) (.var 1)) .none (.bin .Sub (.var 9) (.var 10))))
  c__law_lets_r5)
def c__law_lets_r7 : Sts := (.cons (.ite (.or (.not (.val (.blt .isinst (.cons (.var 2) (.cons (.typ .tuple) .nil))))) (.or (.val (.cmp .NotEq (.blt .len (.cons (.var 2) .nil)) (.var 4))) (.val (.cmp .NotEq (.lc false [("_law_one", 7)] (.nm 7) (.seq (.var 2)) (.some (.not (.val (.call "_law_is_whole" ["_law_it"] sp__law_is_whole (.cons (.var 7) .nil))))) (.var 7)) (.lst .nil)))))
  (.cons (.ret (.cst (.bl false)))
    .nil)
  .nil)
  c__law_lets_r6)
def c__law_lets : Sts := (.cons (.asg (.tp (.cons (.nm 3) (.cons (.nm 4) (.cons (.nm 5) (.cons (.nm 6) .nil))))) (.var 0))
  c__law_lets_r7)
def sp__law_lets : Spd := fun ds h Q => match ds with
  | [w, .tup ts, d] => ∃ (s : Str) (n : Nat) (ss : List Int) (m : Nat), (w = woD s n ss m ∧ ts = (tabI s n).map D.int ∧ Wo s n ss m ∧ Bd d) ∧ Q (.bl (holdB s n ss m d)) h
  | _ => False
section
variable {h : Hd} {Q : Pq} {s : Str} {n m : Nat} {ss ns : List Int} {x0 x1 x2 x3 x4 x7 x9 x10 x11 x12 x13 : Option D}
theorem lets_r5 (wo : Wo s n ss m) (el : ns.length = n) (q : Q (.bl (ss.all (placeB s ns) && (List.range m).all fun k => decide (sumP k 1 ns = ((dueN s n k : Nat) : Int)))) h) :
    wSs c__law_lets_r5 { nx := fun _ h' => Out Q .non h', rt := Out Q } [x0, x1, x2, x3, x4, some (.tup (ss.map D.int)), some (.int (m : Nat)), x7, some (.lst ((gapL 0 1 ns (tabI s n)).map D.int)), x9, x10, x11, x12, x13] h := by
  have sl : sizeLine = 16777216 := sizeLine_eq
  have n2 := wo.n2
  have m9 := wo.m9
  have lt : ns.length = (tabI s n).length := by rw [tabI_len]; exact el
  have gl : ∀ p, (gapL p 1 ns (tabI s n)).length = n := fun p => by rw [gap_len p 1 ns _ lt, el]
  unfold c__law_lets_r5
  refine st_iteE (t_val (e_cmp ?_))
  rw [wE, wI]
  refine ev_ok _ rfl trivial ?_
  simp only [seqI]
  refine compL_pick (fun x => !placeB s ns x) _ (fun i hi Y Z y z => ?_) ?_
  · obtain ⟨k, hk, k1, k2⟩ := upto_mem (wo.sp i hi)
    simp only [gT, wipeD, List.map_cons, List.map_nil, List.set_cons_succ, List.set_cons_zero]
    rw [wTo]
    refine t_val (e_cmp (e_sub (ev_ok _ rfl trivial (ev_ok _ rfl trivial ((w_subL (atI_getD (by omega) (by rw [gl]; omega))).mpr (ev_ok _ rfl trivial (w_ne.mpr (w_truth.mpr ?_))))))))
    rw [gap_at 1 ns _ _ lt (by omega), tab_at (wo.sp i hi)]
    have e : (!decide (ns.getD (i - 1).toNat 0 - rowI s i = 0)) = !placeB s ns i := by
      unfold placeB
      congr 1
      rw [Bool.eq_iff_iff, decide_eq_true_eq, decide_eq_true_eq]
      omega
    rw [e]
    cases ei : !placeB s ns i
    · rw [if_neg (by decide)]
      exact z ei
    · rw [if_pos rfl]
      exact ev_ok _ rfl trivial (y ei)
  · simp only [listed]
    refine ev_ok _ rfl trivial (neL_nil (by rw [isF_lst]; intro d hd; obtain ⟨i, _, rfl⟩ := List.mem_map.mp hd; rfl) (w_truth.mpr ?_))
    rw [List.isEmpty_map, flt_none]
    cases ep : ss.all (placeB s ns)
    · rw [ep, Bool.false_and] at q
      rw [if_pos (by decide)]
      exact st_ret rfl trivial (.is (Hd.le.refl _) q)
    · rw [ep, Bool.true_and] at q
      rw [if_neg (by decide), wSs]
      dsimp only
      unfold c__law_lets_r4
      refine st_forE ?_
      rw [wI]
      refine ev_ok _ rfl trivial ⟨by omega, ?_⟩
      rw [Int.toNat_natCast]
      refine forL_rng (fun k σ g => ∃ (x9 x12 x13 : Option D), σ = [x0, x1, x2, x3, x4, some (.tup (ss.map D.int)), some (.int (m : Nat)), x7, some (.lst ((gapL k 1 ns (tabI s n)).map D.int)), x9, x10, x11, x12, x13] ∧ h = g ∧ ∀ j < k, sumP j 1 ns = ((dueN s n j : Nat) : Int)) ?_ ?_ ⟨_, _, _, rfl, rfl, fun j hj => by omega⟩
      · rintro σ g ⟨x9, x12, x13, rfl, rfl, hj⟩
        refine ⟨trivial, ?_⟩
        have e : ((List.range m).all fun k => decide (sumP k 1 ns = ((dueN s n k : Nat) : Int))) = true := List.all_eq_true.mpr fun k hk => decide_eq_true (hj k (List.mem_range.mp hk))
        rw [e] at q
        unfold c__law_lets_r1
        exact st_ret rfl trivial (.is (Hd.le.refl _) q)
      · rintro k σ g C hk ⟨x9, x12, x13, rfl, rfl, hj⟩ hC
        refine ⟨trivial, ?_⟩
        simp only [gT, List.set_cons_succ, List.set_cons_zero]
        have hs : s = "many" ∨ s = "total" := by
          have hw := wo.w
          simp only [words3, List.mem_cons, List.not_mem_nil, or_false] at hw
          rcases hw with e | e | e
          · exact .inl e
          · exact .inr e
          · have := wo.lm e
            omega
        have sm : (gapL k 1 ns (tabI s n)).sum = sumP k 1 ns - ((dueN s n k : Nat) : Int) := by
          rw [gap_sum k 1 ns _ lt]
          congr 1
          exact sumP_rows hs k n
        unfold c__law_lets_b3
        refine st_iteE (t_val (e_cmp (e_blt (a_cons (ev_ok _ rfl trivial (a_nil ?_))))))
        simp only [bltD, vw_lst, intsOf_map]
        refine ev_ok _ rfl trivial (w_ne.mpr (w_truth.mpr ?_))
        rw [sm]
        by_cases e0 : sumP k 1 ns = ((dueN s n k : Nat) : Int)
        · have e1 : (!decide (sumP k 1 ns - ((dueN s n k : Nat) : Int) = 0)) = false := by
            rw [decide_eq_true (by omega)]
            rfl
          rw [e1, if_neg (by decide), wSs]
          dsimp only
          unfold c__law_lets_r2
          refine st_asgE ?_
          rw [wE, wI]
          refine ev_ok _ rfl trivial ?_
          simp only [enumI, anyI, lstI]
          refine compL_map fE trivial _ _ (fun d hd Y Z y => ?_) ?_
          · obtain ⟨i, x, hx, rfl, i0, i1⟩ := enum_mem hd
            obtain ⟨v, _, rfl⟩ := List.mem_map.mp hx
            simp only [Bool.false_eq_true, if_false] at i1
            rw [List.length_map, gl] at i1
            simp only [gT, gTs, wTo, if_true, wipeD, List.map_cons, List.map_nil, List.set_cons_succ, List.set_cons_zero]
            exact ev_ok _ rfl ⟨.inr (.inl (by omega)), trivial⟩ y
          · simp only [listed, List.nil_append]
            have e2 : (enumD (if false = true then 1 else 0) ((gapL k 1 ns (tabI s n)).map D.int)).map fE = (gapL (k + 1) 1 ns (tabI s n)).map D.int := by
              rw [← mul_gap k 1]
              exact enum_mul 0 _
            rw [e2, wSs]
            simp only [List.set_cons_succ, List.set_cons_zero]
            refine hC _ _ ⟨_, _, _, rfl, rfl, fun j jl => ?_⟩
            rcases Nat.lt_or_ge j k with z | z
            · exact hj j z
            · rw [show j = k by omega]
              exact e0
        · have e1 : (!decide (sumP k 1 ns - ((dueN s n k : Nat) : Int) = 0)) = true := by
            rw [decide_eq_false (by omega)]
            rfl
          rw [e1, if_pos rfl]
          have e : ((List.range m).all fun k => decide (sumP k 1 ns = ((dueN s n k : Nat) : Int))) = false := by
            rw [Bool.eq_false_iff]
            intro z
            exact e0 (of_decide_eq_true (List.all_eq_true.mp z k (List.mem_range.mpr hk)))
          rw [e] at q
          exact st_ret rfl trivial (.is (Hd.le.refl _) q)
end
theorem b__law_lets (ds : List D) (h : Hd) (Q : Pq) (q : sp__law_lets ds h Q) : wSs c__law_lets { nx := fun _ h' => Out Q .non h', rt := Out Q } (startD N__law_lets ds) h := by
  unfold sp__law_lets at q
  split at q
  · rename_i w ts d
    obtain ⟨s, n, ss, m, ⟨rfl, rfl, wo, df, db⟩, q⟩ := q
    have n2 := wo.n2
    show wSs c__law_lets _ [some (woD s n ss m), some (.tup ((tabI s n).map D.int)), some d, none, none, none, none, none, none, none, none, none, none, none] h
    unfold c__law_lets
    rw [wSs, wS]
    refine ev_ok _ rfl trivial ?_
    simp only [woD, gT, gTs, List.set_cons_succ, List.set_cons_zero]
    unfold c__law_lets_r7
    refine st_iteE (t_or (t_not (t_val (e_isinst rfl df (w_truth.mpr ?_)))))
    cases et : isT d .tuple
    · rw [if_pos (by decide), if_pos rfl]
      have e : wholesD d = false := by cases d <;> first | rfl | cases et
      rw [holdB_no e] at q
      exact st_ret rfl trivial (.is (Hd.le.refl _) q)
    · obtain ⟨ds, rfl⟩ := isT_tup et
      rw [if_neg (by decide)]
      refine t_or (evt_ok _ rfl trivial ?_)
      by_cases el : ds.length = n
      · rw [if_neg (by simp [el])]
        refine t_val (e_cmp ?_)
        rw [wE, wI]
        refine ev_ok _ rfl trivial ?_
        simp only [seqI]
        refine compL_flt (fun d => !isWholeD d) id trivial _ _ (fun d hd Y Z y z => ?_) ?_
        · simp only [gT, wipeD, List.map_cons, List.map_nil, List.set_cons_succ, List.set_cons_zero]
          rw [wTo]
          refine t_not (t_val (e_call rfl trivial ⟨isF_tup.mp df d hd, w_truth.mpr ?_⟩))
          cases ei : !isWholeD d
          · rw [if_neg (by decide)]
            exact z ei
          · rw [if_pos rfl]
            exact ev_ok _ rfl trivial (y ei)
        · simp only [listed]
          rw [List.nil_append, List.map_id]
          refine ev_ok _ rfl trivial (neL_nil (by rw [isF_lst]; intro d hd; exact isF_tup.mp df d (List.mem_filter.mp hd).1) (w_truth.mpr ?_))
          rw [fltD_none]
          cases ew : ds.all isWholeD
          · rw [if_pos (by decide)]
            rw [holdB_no (d := .tup ds) ew] at q
            exact st_ret rfl trivial (.is (Hd.le.refl _) q)
          · rw [if_neg (by decide), wSs]
            dsimp only
            obtain ⟨ns, rfl⟩ := wholes_ints ew
            rw [List.length_map] at el
            rw [holdB_ints] at q
            unfold holdN at q
            rw [decide_eq_true el, Bool.true_and] at q
            unfold c__law_lets_r6
            refine st_asgE ?_
            rw [wE, wI]
            refine ev_ok _ rfl trivial (ev_ok _ rfl trivial ?_)
            simp only [zipI, anyI]
            refine compL_map fS trivial _ _ (fun d hd Y Z y => ?_) ?_
            · obtain ⟨a, b, ha, hb, rfl⟩ := zip_mem hd
              obtain ⟨i, _, rfl⟩ := List.mem_map.mp ha
              obtain ⟨j, _, rfl⟩ := List.mem_map.mp hb
              simp only [gT, gTs, wTo, if_true, wipeD, List.map_cons, List.map_nil, List.set_cons_succ, List.set_cons_zero]
              exact ev_ok _ rfl trivial y
            · simp only [listed, List.nil_append]
              rw [zip_gap 1]
              simp only [List.set_cons_succ, List.set_cons_zero]
              exact lets_r5 wo el q
      · rw [holdB_len el] at q
        have e2 : (!decide (((ds.length : Nat) : Int) = ((n : Nat) : Int))) = true := by
          rw [decide_eq_false (by omega)]
          rfl
        rw [if_pos e2, if_pos rfl]
        exact st_ret rfl trivial (.is (Hd.le.refl _) q)
  · exact q.elim
end K30

/-! Law k30: the world, some set apart. -/
namespace K30
open PySem PySem.Spec PyProof.Rows G
open L2 hiding wE wT

theorem compL_opt {g : D → (Sl → Prop) → Prop} {t : WT} {e : WE} {stay : Hd → Prop} {h : Hd} {Q : List D → Hd → Prop} (P : D → Prop) (hs : stay h) : ∀ (ds acc : List D),
    (∀ d ∈ ds, ∀ (Y : D → Hd → Prop) (Z : Hd → Prop), (∀ v, P v → Y v h) → Z h → g d fun σ => t σ h fun b h1 => if b = true then e σ h1 Y else Z h1) → (∀ vs : List D, vs.length ≤ ds.length → (∀ v ∈ vs, P v) → Q (acc ++ vs) h) → compL g t e stay ds acc h Q
  | [], acc, _, q => ⟨hs, by simpa using q [] (by simp) (by simp)⟩
  | d :: ds, acc, step, q => ⟨hs, step d (by simp) _ _ (fun v pv => compL_opt P hs ds _ (fun d m => step d (by simp [m])) fun vs hl hv => by
      have := q (v :: vs) (by simp [hl]) (by simpa using ⟨pv, hv⟩)
      simpa using this) (compL_opt P hs ds _ (fun d m => step d (by simp [m])) fun vs hl hv => q vs (by simp; omega) hv)⟩
theorem ints_of (P : Int → Prop) : ∀ {vs : List D}, (∀ v ∈ vs, ∃ i : Int, v = .int i ∧ P i) → ∃ ks : List Int, vs = ks.map D.int ∧ ∀ k ∈ ks, P k
  | [], _ => ⟨[], rfl, by simp⟩
  | v :: vs, h => by
    obtain ⟨ks, rfl, hk⟩ := ints_of P (vs := vs) fun x hx => h x (by simp [hx])
    obtain ⟨i, rfl, hi⟩ := h v (by simp)
    exact ⟨i :: ks, rfl, by simpa using ⟨hi, hk⟩⟩
def Al (P : D → Prop) (ds : List D) : Prop := ∀ d ∈ ds, P d
theorem Al.nil {P : D → Prop} : Al P [] := fun d hd => by cases hd
theorem Al.cons {P : D → Prop} {d : D} {ds : List D} (a : P d) (b : Al P ds) : Al P (d :: ds) := fun e he => by
  rcases List.mem_cons.mp he with rfl | he
  · exact a
  · exact b e he
theorem Al.app {P : D → Prop} {xs ys : List D} (a : Al P xs) (b : Al P ys) : Al P (xs ++ ys) := fun e he => (List.mem_append.mp he).elim (a e) (b e)
/-! ### _law_world -/
abbrev N__law_world : List Str := ["_law_deck_here", "_law_sort", "_law_top", "_law_many", "_law_way", "_law_gone_here", "_law_k", "_law_spots", "_law_n"]
def c__law_world_r1 : Sts := (.cons (.ret (.tup (.cons (.var 1) (.cons (.var 2) (.cons (.var 7) (.cons (.var 3) .nil))))))
  .nil)
def c__law_world_r2 : Sts := (.cons (.ite (.val (.cmp .Eq (.var 4) (.cst (.int 4))))
  (.cons (.asg (.nm 7) (.blt .tuple (.cons (.lc false [("_law_n", 8)] (.nm 8) (.rng2 (.cst (.int 1)) (.bin .Add (.var 2) (.cst (.int 1)))) (.some (.val (.cmp .Eq (.call "_law_draw" ["_law_deck_here", "_law_many"] sp__law_draw (.cons (.var 0) (.cons (.cst (.int 2)) .nil))) (.cst (.int 0))))) (.var 8)) .nil)))
    .nil)
  .nil)
  c__law_world_r1)
def c__law_world_r3 : Sts := (.cons (.ite (.val (.cmp .Gt (.var 4) (.cst (.int 1))))
  (.cons (.asg (.nm 7) (.blt .tuple (.cons (.lc false [("_law_n", 8)] (.nm 8) (.rng2 (.cst (.int 1)) (.bin .Add (.var 2) (.cst (.int 1)))) (.some (.val (.cmp .NotIn (.var 8) (.var 5)))) (.var 8)) .nil)))
    .nil)
  .nil)
  c__law_world_r2)
def c__law_world_r4 : Sts := (.cons (.asg (.nm 7) (.sub (.lst (.cons (.tup .nil) (.cons (.rgs false (.cst (.int 1)) (.bin .Add (.var 2) (.cst (.int 1)))) .nil))) (.bin .Mod (.var 4) (.cst (.int 2)))))
  c__law_world_r3)
def c__law_world_r5 : Sts := (.cons (.asg (.tp (.cons (.nm 4) (.cons (.nm 5) .nil))) (.tup (.cons (.call "_law_draw" ["_law_deck_here", "_law_many"] sp__law_draw (.cons (.var 0) (.cons (.cst (.int 5)) .nil))) (.cons (.lc false [("_law_k", 6)] (.nm 6) (.rng1 (.call "_law_draw" ["_law_deck_here", "_law_many"] sp__law_draw (.cons (.var 0) (.cons (.cst (.int 12)) .nil)))) .none (.bin .Add (.cst (.int 1)) (.call "_law_draw" ["_law_deck_here", "_law_many"] sp__law_draw (.cons (.var 0) (.cons (.var 2) .nil))))) .nil))))
  c__law_world_r4)
def c__law_world_r6 : Sts := (.cons (.asg (.nm 3) (.ife (.val (.cmp .Eq (.var 1) (.cst (.str "least")))) (.cst (.int 0)) (.call "_law_pick" ["_law_deck_here", "_law_some"] sp__law_pick (.cons (.var 0) (.cons (.lst (.cons (.cst (.int 0)) (.cons (.cst (.int 1)) (.cons (.cst (.int 2)) (.cons (.cst (.int 3)) (.cons (.cst (.int 8)) (.cons (.call "_law_draw" ["_law_deck_here", "_law_many"] sp__law_draw (.cons (.var 0) (.cons (.cst (.int 9)) .nil))) .nil))))))) .nil)))))
  c__law_world_r5)
def c__law_world_r7 : Sts := (.cons (.ite (.val (.cmp .Eq (.call "_law_draw" ["_law_deck_here", "_law_many"] sp__law_draw (.cons (.var 0) (.cons (.cst (.int 8)) .nil))) (.cst (.int 1))))
  (.cons (.asg (.nm 2) (.bin .Add (.cst (.int 1)) (.call "_law_draw" ["_law_deck_here", "_law_many"] sp__law_draw (.cons (.var 0) (.cons (.cst (.int 200)) .nil)))))
    .nil)
  .nil)
  c__law_world_r6)
def c__law_world : Sts := (.cons (.asg (.tp (.cons (.nm 1) (.cons (.nm 2) .nil))) (.tup (.cons (.call "_law_pick" ["_law_deck_here", "_law_some"] sp__law_pick (.cons (.var 0) (.cons (.lst (.cons (.cst (.str "many")) (.cons (.cst (.str "total")) (.cons (.cst (.str "least")) .nil)))) .nil))) (.cons (.call "_law_pick" ["_law_deck_here", "_law_some"] sp__law_pick (.cons (.var 0) (.cons (.lst (.cons (.cst (.int 1)) (.cons (.cst (.int 2)) (.cons (.cst (.int 3)) (.cons (.cst (.int 9)) (.cons (.cst (.int 12)) (.cons (.cst (.int 30)) .nil))))))) .nil))) .nil))))
  c__law_world_r7)
def sp__law_world : Spd := fun ds h Q => match ds with
  | [.deck] => ∀ (s : Str) (n : Nat) (ss : List Int) (m : Nat), Wo s n ss m → ss.length ≤ 200 → Q (woD s n ss m) h
  | _ => False
section
variable {h : Hd} {Q : Pq} {s : Str} {n m : Nat} {x6 x8 : Option D}
theorem world_r2 {y : Int} {ss : List Int} {x5 : Option D} (q : ∀ (ss : List Int), (∀ x ∈ ss, x ∈ upto n) → ss.length ≤ 200 → Q (woD s n ss m) h) (n2 : n ≤ 200) (hs : ∀ x ∈ ss, x ∈ upto n) (ls : ss.length ≤ 200) :
    wSs c__law_world_r2 { nx := fun _ h' => Out Q .non h', rt := Out Q } [some .deck, some (.str s), some (.int (n : Nat)), some (.int (m : Nat)), some (.int y), x5, x6, some (.tup (ss.map D.int)), x8] h := by
  have fin : ∀ (ss : List Int), (∀ x ∈ ss, x ∈ upto n) → ss.length ≤ 200 → wSs c__law_world_r1 { nx := fun _ h' => Out Q .non h', rt := Out Q } [some .deck, some (.str s), some (.int (n : Nat)), some (.int (m : Nat)), some (.int y), x5, x6, some (.tup (ss.map D.int)), x8] h := by
    intro ss hs ls
    unfold c__law_world_r1
    exact st_ret rfl trivial (.is (Hd.le.refl _) (q ss hs ls))
  unfold c__law_world_r2
  refine st_ite rfl trivial (fun _ => ?_) fun _ => ?_
  · refine st_asgE (e_blt (a_cons ?_))
    rw [wE, wI]
    refine ev_ok _ rfl trivial (ev_ok _ rfl trivial ⟨⟨⟨by omega, by omega⟩, ⟨by omega, by omega⟩, by omega⟩, ?_⟩)
    have e : (((n : Nat) : Int) + 1 - 1).toNat = n := by omega
    rw [e, upto_D]
    refine compL_opt (fun d => ∃ i : Int, d = .int i ∧ i ∈ upto n) trivial _ _ (fun d hd Y Z y z => ?_) fun vs hl hv => ?_
    · obtain ⟨i, hi, rfl⟩ := List.mem_map.mp hd
      simp only [gT, wipeD, List.map_cons, List.map_nil, List.set_cons_succ, List.set_cons_zero]
      rw [wTo]
      refine t_val (e_cmp (e_call rfl trivial (drawD (by omega) fun r r0 r1 => ev_ok _ rfl trivial (w_eq.mpr (w_truth.mpr ?_)))))
      split
      · exact ev_ok _ rfl trivial (y _ ⟨i, rfl, hi⟩)
      · exact z
    · obtain ⟨ks, rfl, hk⟩ := ints_of (fun i => i ∈ upto n) hv
      simp only [listed, List.nil_append]
      refine a_nil (w_tupL.mpr ?_)
      rw [wSs]
      simp only [List.set_cons_succ, List.set_cons_zero]
      rw [List.length_map, List.length_map, upto_len] at hl
      exact fin ks hk (by omega)
  · rw [wSs]
    exact fin ss hs ls
theorem world_r4 {y : Int} {gs : List Int} {x7 : Option D} (q : ∀ (ss : List Int), (∀ x ∈ ss, x ∈ upto n) → ss.length ≤ 200 → Q (woD s n ss m) h) (n2 : n ≤ 200) (y0 : 0 ≤ y) (y1 : y < 5) :
    wSs c__law_world_r4 { nx := fun _ h' => Out Q .non h', rt := Out Q } [some .deck, some (.str s), some (.int (n : Nat)), some (.int (m : Nat)), some (.int y), some (.lst (gs.map D.int)), x6, x7, x8] h := by
  have nx : ∀ (ss : List Int), (∀ x ∈ ss, x ∈ upto n) → ss.length ≤ 200 → wSs c__law_world_r3 { nx := fun _ h' => Out Q .non h', rt := Out Q } [some .deck, some (.str s), some (.int (n : Nat)), some (.int (m : Nat)), some (.int y), some (.lst (gs.map D.int)), x6, some (.tup (ss.map D.int)), x8] h := by
    intro ss hs ls
    unfold c__law_world_r3
    refine st_ite rfl trivial (fun _ => ?_) fun _ => ?_
    · refine st_asgE (e_blt (a_cons ?_))
      rw [wE, wI]
      refine ev_ok _ rfl trivial (ev_ok _ rfl trivial ⟨⟨⟨by omega, by omega⟩, ⟨by omega, by omega⟩, by omega⟩, ?_⟩)
      have e : (((n : Nat) : Int) + 1 - 1).toNat = n := by omega
      rw [e, upto_D]
      refine compL_pick (fun x => !decide (x ∈ gs)) _ (fun i hi Y Z y z => ?_) ?_
      · simp only [gT, wipeD, List.map_cons, List.map_nil, List.set_cons_succ, List.set_cons_zero]
        rw [wTo]
        refine t_val (e_cmp (ev_ok _ rfl trivial (ev_ok _ rfl trivial (notInL (w_truth.mpr ?_)))))
        cases ei : !decide (i ∈ gs)
        · rw [if_neg (by decide)]
          exact z ei
        · rw [if_pos rfl]
          exact ev_ok _ rfl trivial (y ei)
      · simp only [listed]
        refine a_nil (w_tupL.mpr ?_)
        rw [wSs]
        simp only [List.set_cons_succ, List.set_cons_zero]
        refine world_r2 q n2 (fun x hx => (List.mem_filter.mp hx).1) ?_
        have := List.length_filter_le (fun x => !decide (x ∈ gs)) (upto n)
        rw [upto_len] at this
        omega
    · rw [wSs]
      exact world_r2 q n2 hs ls
  unfold c__law_world_r4
  refine st_asgE (e_sub (e_lst (a_cons (ev_ok _ rfl trivial (a_cons ?_)))))
  rw [wE]
  refine ev_ok _ rfl trivial (ev_ok _ rfl trivial ?_)
  refine ⟨⟨⟨by omega, by omega⟩, ⟨by omega, by omega⟩, by omega⟩, a_nil (ev_ok _ rfl ⟨by decide, trivial⟩ ?_)⟩
  have e : (((n : Nat) : Int) + 1 - 1).toNat = n := by omega
  rw [e, if_neg (by decide), upto_D]
  rcases (show y % 2 = 0 ∨ y % 2 = 1 by omega) with e2 | e2
  · rw [e2]
    refine (w_subL rfl).mpr ?_
    exact nx [] (by simp) (by simp)
  · rw [e2]
    refine (w_subL rfl).mpr ?_
    exact nx (upto n) (fun x hx => hx) (by rw [upto_len]; exact n2)
theorem world_r6 {x3 x4 x5 x7 : Option D} (q : ∀ (ss : List Int) (m : Nat), m ≤ 9 → (s = "least" → m = 0) → (∀ x ∈ ss, x ∈ upto n) → ss.length ≤ 200 → Q (woD s n ss m) h) (n1 : 1 ≤ n) (n2 : n ≤ 200) :
    wSs c__law_world_r6 { nx := fun _ h' => Out Q .non h', rt := Out Q } [some .deck, some (.str s), some (.int (n : Nat)), x3, x4, x5, x6, x7, x8] h := by
  have nx : ∀ m : Nat, m ≤ 9 → (s = "least" → m = 0) → wSs c__law_world_r5 { nx := fun _ h' => Out Q .non h', rt := Out Q } [some .deck, some (.str s), some (.int (n : Nat)), some (.int (m : Nat)), x4, x5, x6, x7, x8] h := by
    intro m m9 lm
    unfold c__law_world_r5
    rw [wSs, wS]
    refine e_tup (a_cons (e_call rfl trivial (drawD (by omega) fun y y0 y1 => a_cons ?_)))
    rw [wE, wI]
    refine e_call rfl trivial (drawD (by omega) fun r r0 r1 => ⟨by omega, ?_⟩)
    refine compL_in (fun v => ∃ i : Int, v = .int i ∧ True) trivial _ _ (fun d hd Y Z y => ?_) fun vs hl hv => ?_
    · simp only [gT, wTo, if_true, wipeD, List.map_cons, List.map_nil, List.set_cons_succ, List.set_cons_zero]
      exact e_bin (ev_ok _ rfl trivial (e_call rfl trivial (drawD ⟨by omega, by omega⟩ fun u u0 u1 => w_add.mpr (y _ ⟨_, rfl, trivial⟩))))
    · obtain ⟨gs, rfl, _⟩ := ints_of (fun _ => True) hv
      simp only [listed, List.nil_append]
      refine a_nil ?_
      simp only [gT, gTs, List.set_cons_succ, List.set_cons_zero]
      exact world_r4 (fun ss => q ss m m9 lm) n2 y0 y1
  unfold c__law_world_r6
  refine st_asgE (e_ife (evt_ok _ rfl trivial ?_))
  by_cases e : s = "least"
  · rw [if_pos (decide_eq_true e)]
    refine ev_ok _ rfl trivial ?_
    exact nx 0 (by decide) fun _ => rfl
  · rw [if_neg (fun z => e (of_decide_eq_true z))]
    refine e_callA (a_cons (ev_ok _ rfl trivial (a_cons (e_lst (a_cons (ev_ok _ rfl trivial (a_cons (ev_ok _ rfl trivial (a_cons (ev_ok _ rfl trivial (a_cons (ev_ok _ rfl trivial (a_cons (ev_ok _ rfl trivial (a_cons (e_call rfl trivial (drawD (by omega) fun r r0 r1 => a_nil (a_nil ?_))))))))))))))))))
    refine pickD (.inl rfl) ⟨by simp, by simp⟩ fun d hd => ?_
    have al : Al (fun d => ∃ k : Nat, d = .int (k : Nat) ∧ k ≤ 9) [.int 0, .int 1, .int 2, .int 3, .int 8, .int r] :=
      .cons ⟨0, rfl, by decide⟩ (.cons ⟨1, rfl, by decide⟩ (.cons ⟨2, rfl, by decide⟩ (.cons ⟨3, rfl, by decide⟩ (.cons ⟨8, rfl, by decide⟩ (.cons ⟨r.toNat, by rw [Int.toNat_of_nonneg r0], by omega⟩ .nil)))))
    obtain ⟨k, rfl, kl⟩ := al d hd
    exact nx k kl fun z => absurd z e
end
theorem b__law_world (ds : List D) (h : Hd) (Q : Pq) (q : sp__law_world ds h Q) : wSs c__law_world { nx := fun _ h' => Out Q .non h', rt := Out Q } (startD N__law_world ds) h := by
  unfold sp__law_world at q
  split at q
  · show wSs c__law_world _ [some .deck, none, none, none, none, none, none, none, none] h
    unfold c__law_world
    rw [wSs, wS]
    refine e_tup (a_cons (e_call rfl trivial (pickD (.inl rfl) ⟨by simp, by simp⟩ fun d hd => a_cons (e_call rfl trivial (pickD (.inl rfl) ⟨by simp, by simp⟩ fun e he => a_nil ?_)))))
    have a1 : Al (fun d => ∃ s : Str, d = .str s ∧ s ∈ words3) [.str "many", .str "total", .str "least"] := .cons ⟨_, rfl, by simp [words3]⟩ (.cons ⟨_, rfl, by simp [words3]⟩ (.cons ⟨_, rfl, by simp [words3]⟩ .nil))
    have a2 : Al (fun d => ∃ k : Nat, d = .int (k : Nat) ∧ 1 ≤ k ∧ k ≤ 200) [.int 1, .int 2, .int 3, .int 9, .int 12, .int 30] := .cons ⟨1, rfl, by decide, by decide⟩ (.cons ⟨2, rfl, by decide, by decide⟩ (.cons ⟨3, rfl, by decide, by decide⟩ (.cons ⟨9, rfl, by decide, by decide⟩ (.cons ⟨12, rfl, by decide, by decide⟩ (.cons ⟨30, rfl, by decide, by decide⟩ .nil)))))
    obtain ⟨s, rfl, hs⟩ := a1 d hd
    obtain ⟨n, rfl, n1, n2⟩ := a2 e he
    simp only [gT, gTs, List.set_cons_succ, List.set_cons_zero]
    unfold c__law_world_r7
    refine st_iteE (t_val (e_cmp (e_call rfl trivial (drawD (by omega) fun r r0 r1 => ev_ok _ rfl trivial (w_eq.mpr (w_truth.mpr ?_))))))
    split
    · refine st_asgE (e_bin (ev_ok _ rfl trivial (e_call rfl trivial (drawD (by omega) fun u u0 u1 => w_add.mpr ?_))))
      rw [wSs]
      simp only [List.set_cons_succ, List.set_cons_zero]
      obtain ⟨v, rfl⟩ := Int.eq_ofNat_of_zero_le u0
      have ev : (1 : Int) + ((v : Nat) : Int) = ((1 + v : Nat) : Int) := by omega
      rw [ev]
      exact world_r6 (fun ss m m9 lm hx hl => q s _ ss m ⟨hs, by omega, by omega, hx, m9, lm⟩ hl) (by omega) (by omega)
    · rw [wSs]
      exact world_r6 (fun ss m m9 lm hx hl => q s _ ss m ⟨hs, n1, n2, hx, m9, lm⟩ hl) n1 n2
  · exact q.elim
/-! ### _law_shared -/
abbrev N__law_shared : List Str := ["_law_a", "_law_b"]
def c__law_shared_r1 : Sts := (.cons (.ret (.var 0))
  .nil)
def c__law_shared_b2 : Sts := (.cons (.par [0, 1] (.cons (.var 1) (.cons (.bin .Mod (.var 0) (.var 1)) .nil)))
    .nil)
def c__law_shared : Sts := (.cons (.whl (.val (.cmp .NotEq (.var 1) (.cst (.int 0))))
  c__law_shared_b2)
  c__law_shared_r1)
def sp__law_shared : Spd := fun ds h Q => match ds with
  | [.int a, .int b] => (0 ≤ a ∧ 0 ≤ b) ∧ Q (.int ((Nat.gcd a.toNat b.toNat : Nat) : Int)) h
  | _ => False
theorem b__law_shared (ds : List D) (h : Hd) (Q : Pq) (q : sp__law_shared ds h Q) : wSs c__law_shared { nx := fun _ h' => Out Q .non h', rt := Out Q } (startD N__law_shared ds) h := by
  unfold sp__law_shared at q
  split at q
  · rename_i a b
    obtain ⟨⟨a0, b0⟩, q⟩ := q
    obtain ⟨a, rfl⟩ := Int.eq_ofNat_of_zero_le a0
    obtain ⟨b, rfl⟩ := Int.eq_ofNat_of_zero_le b0
    show wSs c__law_shared _ [some (.int (a : Nat)), some (.int (b : Nat))] h
    unfold c__law_shared
    rw [wSs, wS]
    refine ⟨fun m σ g => ∃ x y : Nat, σ = [some (.int (x : Nat)), some (.int (y : Nat))] ∧ h = g ∧ Nat.gcd x y = Nat.gcd a b ∧ m = y, ⟨_, a, b, rfl, rfl, rfl, rfl⟩, ?_⟩
    rintro m σ g ⟨x, y, rfl, rfl, e, rfl⟩
    refine evt_ok _ rfl trivial ?_
    by_cases y0 : m = 0
    · subst y0
      rw [if_neg (by decide)]
      unfold c__law_shared_r1
      rw [Nat.gcd_zero_right] at e
      rw [Int.toNat_natCast, Int.toNat_natCast, ← e] at q
      exact st_ret rfl trivial (.is (Hd.le.refl _) q)
    · have e1 : (!decide (((m : Nat) : Int) = 0)) = true := by
        rw [decide_eq_false (by omega)]
        rfl
      rw [if_pos e1]
      unfold c__law_shared_b2
      refine st_par rfl ⟨by omega, trivial⟩ ?_
      rw [wSs]
      refine ⟨x % m, Nat.mod_lt _ (by omega), m, x % m, ?_, rfl, ?_, rfl⟩
      · simp only [setAll, List.set_cons_succ, List.set_cons_zero]
        rw [Int.natCast_emod]
      · rw [← e, Nat.gcd_comm m, ← Nat.gcd_rec, Nat.gcd_comm]
  · exact q.elim
end K30

/-! Law k30: some set apart, a table bent. -/
namespace K30
open PySem PySem.Spec PyProof.Rows G
open L2 hiding wE wT

theorem ixN_of {n : Nat} {r : Int} (h0 : 0 ≤ r) (h1 : r < n) : ixN n r = some r.toNat := by
  unfold ixN
  rw [if_pos h0, if_pos h1]
theorem neR_ints {ns : List Int} {h : Hd} {k : Nat} {Q : Pq} (hk : h k = some (.lst (ns.map D.int))) (q : Q (.bl (!ns.isEmpty)) h) : cmpD .NotEq (.ref k) (.lst []) h Q := by
  have go : eqD true (.lst (ns.map D.int)) (.lst []) h Q := by
    refine neL_nil (isF_lst.mpr fun d hd => ?_) ?_
    · obtain ⟨i, _, rfl⟩ := List.mem_map.mp hd
      rfl
    · rw [List.isEmpty_map]
      exact q
  show eqD true (.ref k) (.lst []) h Q
  unfold eqD at go ⊢
  simp only [view, hk] at go ⊢
  exact go
theorem len_ref {k : Nat} {ds : List D} {h : Hd} {Q : Pq} (hk : h k = some (.lst ds)) (q : Q (.int (ds.length : Nat)) h) : bltD .len [.ref k] h Q := by
  simp only [bltD, vw_ref, hk]
  exact q
theorem erase_ints : ∀ (L : List Int) (k : Nat), (L.map D.int).eraseIdx k = (L.eraseIdx k).map D.int
  | [], _ => rfl
  | _ :: _, 0 => rfl
  | l :: L, k + 1 => by simp only [List.map_cons, List.eraseIdx_cons_succ, erase_ints L k]
/-! ### _law_apart -/
abbrev N__law_apart : List Str := ["_law_deck_here", "_law_some", "_law_many", "_law_left", "_law_found"]
def c__law_apart_r1 : Sts := (.cons (.ret (.var 4))
  .nil)
def c__law_apart_b2 : Sts := (.cons (.exp (.mth .append (.var 4) (.cons (.mth .popAt (.var 3) (.cons (.call "_law_draw" ["_law_deck_here", "_law_many"] sp__law_draw (.cons (.var 0) (.cons (.blt .len (.cons (.var 3) .nil)) .nil))) .nil)) .nil)))
    .nil)
def c__law_apart_r3 : Sts := (.cons (.whl (.and (.val (.cmp .NotEq (.var 3) (.lst .nil))) (.val (.cmp .Lt (.blt .len (.cons (.var 4) .nil)) (.var 2))))
  c__law_apart_b2)
  c__law_apart_r1)
def c__law_apart : Sts := (.cons (.par [3, 4] (.cons (.blt .listN (.cons (.var 1) .nil)) (.cons (.new .nil) .nil)))
  c__law_apart_r3)
def sp__law_apart : Spd := fun ds h Q => match ds with
  | [.deck, .lst ds, .int k] => ∃ (xs : List Int) (m : Nat), (ds = xs.map D.int ∧ k = (m : Nat) ∧ xs.length ≤ 1000) ∧ ∀ ys : List Int, (∀ y ∈ ys, y ∈ xs) → ys.length ≤ m → Q (.lst (ys.map D.int)) h
  | _ => False
theorem b__law_apart (ds : List D) (h : Hd) (Q : Pq) (q : sp__law_apart ds h Q) : wSs c__law_apart { nx := fun _ h' => Out Q .non h', rt := Out Q } (startD N__law_apart ds) h := by
  unfold sp__law_apart at q
  split at q
  · rename_i ds k
    obtain ⟨xs, m, ⟨rfl, rfl, xl⟩, q⟩ := q
    show wSs c__law_apart _ [some .deck, some (.lst (xs.map D.int)), some (.int (m : Nat)), none, none] h
    unfold c__law_apart
    refine st_parE (a_cons (e_blt (a_cons (ev_ok _ rfl trivial (a_nil ?_)))))
    simp only [bltD, seqD, vw_lst]
    intro a ha
    refine a_cons ?_
    rw [wE]
    refine a_nil fun b hb => a_nil ?_
    have ab : a ≠ b := fun z => by rw [← z, Hd.set_same] at hb; cases hb
    have hb0 : h b = none := by rw [Hd.set_ne fun z => ab z.symm] at hb; exact hb
    simp only [setAll, List.set_cons_succ, List.set_cons_zero]
    unfold c__law_apart_r3
    rw [wSs, wS]
    refine ⟨fun n σ g => ∃ (L F : List Int), σ = [some .deck, some (.lst (xs.map D.int)), some (.int (m : Nat)), some (.ref a), some (.ref b)] ∧ g = (h.set a (.lst (L.map D.int))).set b (.lst (F.map D.int)) ∧ (∀ y ∈ L, y ∈ xs) ∧ (∀ y ∈ F, y ∈ xs) ∧ F.length ≤ m ∧ F.length ≤ 1000 ∧ L.length + F.length ≤ 1000 ∧ n = L.length, ⟨_, xs, [], rfl, rfl, fun y hy => hy, by simp, by simp, by simp, by simpa using xl, rfl⟩, ?_⟩
    rintro n σ g ⟨L, F, rfl, rfl, hL, hF, fm, f1, lf, rfl⟩
    have ga : ((h.set a (.lst (L.map D.int))).set b (.lst (F.map D.int))) a = some (.lst (L.map D.int)) := by rw [Hd.set_ne ab]; exact Hd.set_same
    have gb : ((h.set a (.lst (L.map D.int))).set b (.lst (F.map D.int))) b = some (.lst (F.map D.int)) := Hd.set_same
    have fin : wSs c__law_apart_r1 { nx := fun _ h' => Out Q .non h', rt := Out Q } [some .deck, some (.lst (xs.map D.int)), some (.int (m : Nat)), some (.ref a), some (.ref b)] ((h.set a (.lst (L.map D.int))).set b (.lst (F.map D.int))) := by
      unfold c__law_apart_r1
      refine st_ret rfl trivial ?_
      exact .fin gb (((Hd.le.refl h).set ha).set hb0) hb0 (q F hF fm)
    refine t_and (t_val (e_cmp (ev_ok _ rfl trivial (ev_ok _ rfl trivial (neR_ints ga (w_truth.mpr ?_))))))
    cases L with
    | nil =>
      rw [if_neg (by decide), if_neg (by decide)]
      exact fin
    | cons l0 L0 =>
      rw [if_pos (by rfl)]
      refine t_val (e_cmp (e_blt (a_cons (ev_ok _ rfl trivial (a_nil (len_ref gb (ev_ok _ rfl trivial (w_lt.mpr (w_truth.mpr ?_)))))))))
      rw [List.length_map]
      by_cases c : F.length < m
      · rw [if_pos (decide_eq_true (by omega))]
        generalize hLL : l0 :: L0 = L at *
        have L1 : 1 ≤ L.length := by rw [← hLL]; simp
        unfold c__law_apart_b2
        refine st_app (i := 4) (k := b) rfl gb ?_
        rw [wE]
        refine ev_ok _ rfl trivial ⟨by simp only [tyD, Mt.T, ga], a_cons (e_callA (a_cons (ev_ok _ rfl trivial (a_cons (e_blt (a_cons (ev_ok _ rfl trivial (a_nil (len_ref ga (a_nil ?_))))))))))⟩
        rw [List.length_map]
        refine drawD ⟨by omega, by omega⟩ fun r r0 r1 => a_nil ?_
        have hr : r.toNat < L.length := by omega
        have e1 : ixN (L.map D.int).length r = some r.toNat := ixN_of r0 (by rw [List.length_map]; exact r1)
        have e2 : (L.map D.int)[r.toNat]? = some (.int L[r.toNat]) := by rw [List.getElem?_map, List.getElem?_eq_getElem hr]; rfl
        simp only [mthD, lstOf, ga, mPopAt, e1, e2]
        have gb2 : (((h.set a (.lst (L.map D.int))).set b (.lst (F.map D.int))).set a (.lst ((L.map D.int).eraseIdx r.toNat))) b = some (.lst (F.map D.int)) := by rw [Hd.set_ne fun z => ab z.symm]; exact gb
        simp only [gb2, mAppend]
        refine ⟨by rw [List.length_map]; have hs : sizeLine = 16777216 := sizeLine_eq; omega, ?_⟩
        rw [wSs]
        have hl := List.length_eraseIdx_of_lt hr
        refine ⟨(L.eraseIdx r.toNat).length, by omega, L.eraseIdx r.toNat, F ++ [L[r.toNat]], rfl, ?_, fun y hy => hL y (List.mem_of_mem_eraseIdx hy), fun y hy => ?_, by rw [List.length_append]; simp; omega, by rw [List.length_append]; simp; omega, by rw [List.length_append]; simp; omega, rfl⟩
        · rw [erase_ints, List.map_append]
          funext k
          by_cases kb : k = b
          · subst kb
            rw [Hd.set_same, Hd.set_same]
            rfl
          · rw [Hd.set_ne kb, Hd.set_ne kb]
            by_cases ka : k = a
            · subst ka
              rw [Hd.set_same, Hd.set_same]
            · rw [Hd.set_ne ka, Hd.set_ne kb, Hd.set_ne ka, Hd.set_ne ka]
        · rcases List.mem_append.mp hy with hy | hy
          · exact hF y hy
          · rw [List.mem_singleton.mp hy]
            exact hL _ (List.getElem_mem hr)
      · rw [if_neg (fun z => c (by have := of_decide_eq_true z; omega))]
        exact fin
  · exact q.elim
end K30

/-! Law k30: a table bent. -/
namespace K30
open PySem PySem.Spec PyProof.Rows G
open L2 hiding wE wT

theorem fdiv_le {c : Nat} {j : Int} (hj : j ≠ 0) : (((c : Nat) : Int).fdiv j).natAbs ≤ c := by
  rcases Int.lt_or_le j 0 with h | h
  · have e : ((c : Nat) : Int).fdiv j = (-((c : Nat) : Int)) / (-j) := by
      rw [← Int.neg_fdiv_neg, Int.fdiv_eq_ediv_of_nonneg _ (by omega)]
    rw [e]
    have h1 : -((c : Nat) : Int) ≤ (-((c : Nat) : Int)) / (-j) := Int.le_ediv_of_mul_le (by omega) (by
      have : ((c : Nat) : Int) * 1 ≤ ((c : Nat) : Int) * (-j) := Int.mul_le_mul_of_nonneg_left (by omega) (by omega)
      rw [Int.neg_mul]
      omega)
    have h2 : (-((c : Nat) : Int)) / (-j) ≤ 0 := Int.ediv_nonpos_of_nonpos_of_neg (by omega) (by omega)
    omega
  · rw [Int.fdiv_eq_ediv_of_nonneg _ h]
    have h1 := Int.ediv_le_self j (Int.natCast_nonneg c)
    have h2 : 0 ≤ ((c : Nat) : Int) / j := Int.ediv_nonneg (by omega) h
    omega
theorem lg_of {i : Int} {b : Nat} (hb : 0 < b) (h : i.natAbs < 2 ^ b) : i.natAbs.log2 < b := PySem.Flt.log2_lt_of hb h
theorem pow_up {a b c : Nat} (ha : 1 ≤ a) (h : b ≤ c) : a ^ b ≤ a ^ c := Nat.pow_le_pow_right ha h
abbrev M12 : Nat := 200 ^ 12
theorem M12_lt : M12 < 2 ^ 96 := by decide
/-- a divisor's part -/
def Pt (i : Int) : Prop := i ≠ 0 ∧ i.natAbs ≤ M12
theorem eqL_nil {ds : List D} {h : Hd} {Q : Pq} (i : (D.lst ds).isF = true) (q : Q (.bl ds.isEmpty) h) : cmpD .Eq (.lst ds) (.lst []) h Q := by
  have e2 : PyData.eqv (D.lst ds).py (D.lst []).py = ds.isEmpty := eqv_nil ds
  have go : EqOk (D.lst ds) (D.lst []) ∧ Q (.bl (PyData.eqv (D.lst ds).py (D.lst []).py)) h := ⟨⟨i, by simp only [D.isF, D.areF], .inr (by decide +kernel)⟩, by rw [e2]; exact q⟩
  exact go
abbrev N__law_bent : List Str := ["_law_table", "_law_some", "_law_times", "_law_parts", "_law_n", "_law_part", "_law_far", "_law_common", "_law_found", "_law_here"]
def c__law_bent_r1 : Sts := (.cons (.ret (.ife (.val (.cmp .Eq (.lc false [("_law_here", 9)] (.nm 9) (.seq (.var 8)) (.some (.val (.cmp .GtE (.blt .abs (.cons (.var 9) .nil)) (.bin .Pow (.cst (.int 10)) (.cst (.int 39)))))) (.cst (.int 1))) (.lst .nil))) (.blt .tuple (.cons (.var 8) .nil)) (.var 0)))
  .nil)
def c__law_bent_b2 : Sts := (.cons (.put (.var 8) (.bin .Sub (.var 4) (.cst (.int 1))) (.bin .Add (.sub (.var 8) (.bin .Sub (.var 4) (.cst (.int 1)))) (.bin .Mult (.var 2) (.fdv (.var 7) (.var 5)))))
    .nil)
def c__law_bent_r3 : Sts := (.cons (.for (.tp (.cons (.nm 4) (.cons (.nm 5) .nil))) (.zip (.var 1) (.var 3))
  c__law_bent_b2)
  c__law_bent_r1)
def c__law_bent_r4 : Sts := (.cons (.asg (.nm 8) (.blt .listN (.cons (.var 0) .nil)))
  c__law_bent_r3)
def c__law_bent_b5 : Sts := (.cons (.asg (.nm 7) (.fdv (.bin .Mult (.var 7) (.blt .abs (.cons (.var 5) .nil))) (.call "_law_shared" ["_law_a", "_law_b"] sp__law_shared (.cons (.var 7) (.cons (.blt .abs (.cons (.var 5) .nil)) .nil)))))
    .nil)
def c__law_bent_r6 : Sts := (.cons (.for (.nm 5) (.seq (.var 3))
  c__law_bent_b5)
  c__law_bent_r4)
def c__law_bent_r7 : Sts := (.cons (.asg (.nm 7) (.cst (.int 1)))
  c__law_bent_r6)
def c__law_bent_r8 : Sts := (.cons (.exp (.mth .append (.var 3) (.cons (.var 5) .nil)))
    .nil)
def c__law_bent_b9 : Sts := (.cons (.asg (.nm 5) (.ife (.val (.cmp .NotEq (.var 6) (.var 4))) (.bin .Mult (.var 5) (.bin .Sub (.var 4) (.var 6))) (.var 5)))
      .nil)
def c__law_bent_r10 : Sts := (.cons (.for (.nm 6) (.seq (.var 1))
    c__law_bent_b9)
    c__law_bent_r8)
def c__law_bent_b11 : Sts := (.cons (.asg (.nm 5) (.cst (.int 1)))
    c__law_bent_r10)
def c__law_bent_r12 : Sts := (.cons (.for (.nm 4) (.seq (.var 1))
  c__law_bent_b11)
  c__law_bent_r7)
def c__law_bent : Sts := (.cons (.asg (.nm 3) (.new .nil))
  c__law_bent_r12)
def sp__law_bent : Spd := fun ds h Q => match ds with
  | [.tup ts, .lst us, .int t] => ∃ (n : Nat) (tab xs : List Int), (ts = tab.map D.int ∧ us = xs.map D.int ∧ tab.length = n ∧ n ≤ 200 ∧ (∀ z ∈ tab, z.natAbs < 10 ^ 39) ∧ (∀ x ∈ xs, x ∈ upto n) ∧ xs.length ≤ 12 ∧ t.natAbs ≤ 10 ^ 30) ∧ ∀ zs : List Int, zs.length = n → (∀ z ∈ zs, z.natAbs < 10 ^ 39) → Q (.tup (zs.map D.int)) h
  | _ => False
section
variable {h : Hd} {Q : Pq} {n p f : Nat} {tab xs P : List Int} {t : Int} {x6 x9 : Option D}
theorem bent_r3 {c : Nat} {x4 x5 : Option D} (q : ∀ zs : List Int, zs.length = n → (∀ z ∈ zs, z.natAbs < 10 ^ 39) → Q (.tup (zs.map D.int)) h) (hp : h p = none) (hf : h f = none) (pf : p ≠ f) (tl : tab.length = n) (nl : n ≤ 200) (tz : ∀ z ∈ tab, z.natAbs < 10 ^ 39) (hx : ∀ x ∈ xs, x ∈ upto n) (xl : xs.length ≤ 12) (t1 : t.natAbs ≤ 10 ^ 30) (hP : ∀ i ∈ P, Pt i) (cl : c < 2 ^ 1200) :
    wSs c__law_bent_r3 { nx := fun _ h' => Out Q .non h', rt := Out Q } [some (.tup (tab.map D.int)), some (.lst (xs.map D.int)), some (.int t), some (.ref p), x4, x5, x6, some (.int (c : Nat)), some (.ref f), x9] ((h.set p (.lst (P.map D.int))).set f (.lst (tab.map D.int))) := by
  have sl : sizeLine = 16777216 := sizeLine_eq
  have gp : ∀ F : List Int, ((h.set p (.lst (P.map D.int))).set f (.lst (F.map D.int))) p = some (.lst (P.map D.int)) := fun F => by rw [Hd.set_ne pf]; exact Hd.set_same
  unfold c__law_bent_r3
  refine st_forE ?_
  rw [wI]
  refine ev_ok _ rfl trivial (ev_ok _ rfl trivial ?_)
  simp only [zipI, lstI, gp]
  have zl : (zipD (xs.map D.int) (P.map D.int)).length ≤ 12 := by
    unfold zipD
    rw [List.length_zipWith, List.length_map, List.length_map]
    omega
  refine forL_ind (fun ds σ g => ∃ (F : List Int) (x4 x5 : Option D), σ = [some (.tup (tab.map D.int)), some (.lst (xs.map D.int)), some (.int t), some (.ref p), x4, x5, x6, some (.int (c : Nat)), some (.ref f), x9] ∧ g = (h.set p (.lst (P.map D.int))).set f (.lst (F.map D.int)) ∧ F.length = n ∧ (∀ z ∈ F, z.natAbs ≤ (13 - ds.length) * 2 ^ 1320) ∧ ds.length ≤ 12 ∧ ∀ d ∈ ds, d ∈ zipD (xs.map D.int) (P.map D.int)) ?_ ?_ _ _ _ ⟨tab, _, _, rfl, rfl, tl, fun z hz => ?_, zl, fun d hd => hd⟩
  · rintro σ g ⟨F, x4, x5, rfl, rfl, fl, fz, _, _⟩
    refine ⟨⟨trivial, gp F⟩, ?_⟩
    have gf : ((h.set p (.lst (P.map D.int))).set f (.lst (F.map D.int))) f = some (.lst (F.map D.int)) := Hd.set_same
    unfold c__law_bent_r1
    refine st_retE (e_ife (t_val (e_cmp ?_)))
    rw [wE, wI]
    refine ev_ok _ rfl trivial ?_
    simp only [seqI, gf]
    refine compL_flt (fun d => decide ((10 : Int) ^ ((39 : Int).toNat) ≤ (if intI d < 0 then -(intI d) else intI d))) (fun _ => .int 1) gf _ _ (fun d hd Y Z y z => ?_) ?_
    · obtain ⟨i, hi, rfl⟩ := List.mem_map.mp hd
      simp only [gT, wipeD, List.map_cons, List.map_nil, List.set_cons_succ, List.set_cons_zero]
      rw [wTo]
      refine t_val (e_cmp (e_blt (a_cons (ev_ok _ rfl trivial (a_nil ?_)))))
      simp only [bltD]
      refine ev_ok _ rfl ⟨⟨by decide, by decide, by decide⟩, trivial⟩ (w_ge.mpr (w_truth.mpr ?_))
      cases ei : decide ((10 : Int) ^ ((39 : Int).toNat) ≤ (if i < 0 then -i else i))
      · rw [if_neg (by decide)]
        exact z ei
      · rw [if_pos rfl]
        exact ev_ok _ rfl trivial (y ei)
    · simp only [listed, List.nil_append]
      refine ev_ok _ rfl trivial (eqL_nil (isF_lst.mpr fun d hd => ?_) (w_truth.mpr ?_))
      · obtain ⟨_, _, rfl⟩ := List.mem_map.mp hd
        rfl
      · cases ee : (((F.map D.int).filter fun d => decide ((10 : Int) ^ ((39 : Int).toNat) ≤ (if intI d < 0 then -(intI d) else intI d))).map fun _ => D.int 1).isEmpty
        · rw [if_neg (by decide)]
          exact ev_ok _ rfl trivial (.is (((Hd.le.refl h).set hp).set hf) (q tab tl tz))
        · rw [if_pos rfl]
          refine e_blt (a_cons (ev_ok _ rfl trivial (a_nil ?_)))
          simp only [bltD, vw_ref, gf]
          refine .is (((Hd.le.refl h).set hp).set hf) (q F fl fun z hz => ?_)
          rw [List.isEmpty_map, List.isEmpty_iff, List.filter_eq_nil_iff] at ee
          have := ee (.int z) (List.mem_map.mpr ⟨z, hz, rfl⟩)
          have e39 : ((10 : Int) ^ ((39 : Int).toNat)) = ((10 ^ 39 : Nat) : Int) := rfl
          rw [e39] at this
          have this : ¬ (((10 ^ 39 : Nat) : Int) ≤ (if z < 0 then -z else z)) := fun w => this (decide_eq_true w)
          split at this
          · omega
          · omega
  · rintro d ds σ g C ⟨F, x4, x5, rfl, rfl, fl, fz, dl, hd⟩ hC
    refine ⟨⟨trivial, gp F⟩, ?_⟩
    rw [List.length_cons] at dl fz
    have gf : ((h.set p (.lst (P.map D.int))).set f (.lst (F.map D.int))) f = some (.lst (F.map D.int)) := Hd.set_same
    obtain ⟨a, b, ha, hb, rfl⟩ := zip_mem (hd d (by simp))
    obtain ⟨x, hx', rfl⟩ := List.mem_map.mp ha
    obtain ⟨j, hj, rfl⟩ := List.mem_map.mp hb
    obtain ⟨j0, jl⟩ := hP j hj
    obtain ⟨k, rfl, k1, k2⟩ := upto_mem (hx x hx')
    have jlog : j.natAbs.log2 < 9000 := Nat.lt_of_lt_of_le (lg_of (b := 96) (by decide) (Nat.lt_of_le_of_lt jl M12_lt)) (by decide)
    have fd := fdiv_le (c := c) j0
    have fb : (((c : Nat) : Int).fdiv j).natAbs < 2 ^ 1200 := Nat.lt_of_le_of_lt fd cl
    have tb : t.natAbs < 2 ^ 110 := Nat.lt_of_le_of_lt t1 (by decide)
    have mul : MulOk t (((c : Nat) : Int).fdiv j) := .inr (.inr (by
      have h1 := lg_of (b := 110) (by decide) tb
      have h2 := lg_of (b := 1200) (by decide) fb
      show t.natAbs.log2 + (((c : Nat) : Int).fdiv j).natAbs.log2 < 1000000
      omega))
    have pr : (t * (((c : Nat) : Int).fdiv j)).natAbs ≤ 2 ^ 1320 := by
      rw [Int.natAbs_mul]
      have h1 : t.natAbs * (((c : Nat) : Int).fdiv j).natAbs ≤ 2 ^ 110 * 2 ^ 1200 := Nat.mul_le_mul (Nat.le_of_lt tb) (Nat.le_of_lt fb)
      rw [← Nat.pow_add] at h1
      exact Nat.le_trans h1 (pow_up (by decide) (by decide))
    have ka : atI (F.map D.int) (((k : Nat) : Int) - 1) = some (.int (F.getD (((k : Nat) : Int) - 1).toNat 0)) := atI_getD (by omega) (by omega)
    have kx : ixN (F.map D.int).length (((k : Nat) : Int) - 1) = some (((k : Nat) : Int) - 1).toNat := ixN_of (by omega) (by rw [List.length_map]; omega)
    simp only [gT, gTs, List.set_cons_succ, List.set_cons_zero]
    unfold c__law_bent_b2
    rw [wSs, wS]
    refine e_bin (e_sub (ev_ok _ rfl trivial (ev_ok _ rfl trivial (sub_ref gf ka (e_bin (ev_ok _ rfl trivial ?_))))))
    rw [wE]
    refine ev_ok _ rfl trivial (ev_ok _ rfl trivial ⟨⟨j0, jlog⟩, w_mul.mpr ⟨mul, w_add.mpr (ev_ok _ rfl trivial (ev_ok _ rfl trivial ?_))⟩⟩)
    simp only [setD, gf, kx]
    rw [Hd.set_set, wSs]
    have em : (F.map D.int).set (((k : Nat) : Int) - 1).toNat (.int (F.getD (((k : Nat) : Int) - 1).toNat 0 + t * (((c : Nat) : Int).fdiv j))) = (F.set (((k : Nat) : Int) - 1).toNat (F.getD (((k : Nat) : Int) - 1).toNat 0 + t * (((c : Nat) : Int).fdiv j))).map D.int := by rw [List.map_set]
    rw [em]
    refine hC _ _ ⟨_, _, _, rfl, rfl, by rw [List.length_set]; exact fl, fun z hz => ?_, by omega, fun x hx => hd x (by simp [hx])⟩
    have up : (13 - (ds.length + 1)) * 2 ^ 1320 + 2 ^ 1320 = (13 - ds.length) * 2 ^ 1320 := by
      rw [← Nat.succ_mul]
      congr 1
      omega
    rcases List.mem_or_eq_of_mem_set hz with hz | rfl
    · have := fz z hz
      omega
    · have hk : (((k : Nat) : Int) - 1).toNat < F.length := by omega
      have e : F.getD (((k : Nat) : Int) - 1).toNat 0 = F[(((k : Nat) : Int) - 1).toNat] := by rw [List.getD_eq_getElem?_getD, List.getElem?_eq_getElem hk]; rfl
      have h1 := fz _ (List.getElem_mem hk)
      rw [e]
      have h2 := Int.natAbs_add_le (F[(((k : Nat) : Int) - 1).toNat]) (t * (((c : Nat) : Int).fdiv j))
      omega
  · have h1 := tz z hz
    have h2 : 10 ^ 39 ≤ 2 ^ 1320 := by decide
    have h3 : 1 * 2 ^ 1320 ≤ (13 - (zipD (xs.map D.int) (P.map D.int)).length) * 2 ^ 1320 := Nat.mul_le_mul_right _ (by omega)
    omega
end
end K30

/-! Law k30: a table bent, whole. -/
namespace K30
open PySem PySem.Spec PyProof.Rows G
open L2 hiding wE wT

theorem abs_nat (i : Int) : (if i < 0 then -i else i) = ((i.natAbs : Nat) : Int) := by
  split <;> omega
theorem lcm_ok {c a : Nat} (hc : 1 ≤ c) (ha : 1 ≤ a) : 1 ≤ c * a / Nat.gcd c a ∧ c * a / Nat.gcd c a ≤ c * a := by
  have g0 : 0 < Nat.gcd c a := Nat.gcd_pos_of_pos_left _ (by omega)
  have g1 : Nat.gcd c a ≤ c := Nat.le_of_dvd (by omega) (Nat.gcd_dvd_left c a)
  have g2 : c * 1 ≤ c * a := Nat.mul_le_mul_left c ha
  exact ⟨Nat.div_pos (by omega) g0, Nat.div_le_self _ _⟩
section
variable {h : Hd} {Q : Pq} {n p : Nat} {tab xs P : List Int} {t : Int} {x4 x5 x6 x8 x9 : Option D}
theorem bent_r7 {x7 : Option D} (q : ∀ zs : List Int, zs.length = n → (∀ z ∈ zs, z.natAbs < 10 ^ 39) → Q (.tup (zs.map D.int)) h) (hp : h p = none) (tl : tab.length = n) (nl : n ≤ 200) (tz : ∀ z ∈ tab, z.natAbs < 10 ^ 39) (hx : ∀ x ∈ xs, x ∈ upto n) (xl : xs.length ≤ 12) (t1 : t.natAbs ≤ 10 ^ 30) (hP : ∀ i ∈ P, Pt i) (pl : P.length ≤ 12) :
    wSs c__law_bent_r7 { nx := fun _ h' => Out Q .non h', rt := Out Q } [some (.tup (tab.map D.int)), some (.lst (xs.map D.int)), some (.int t), some (.ref p), x4, x5, x6, x7, x8, x9] (h.set p (.lst (P.map D.int))) := by
  have gp : (h.set p (.lst (P.map D.int))) p = some (.lst (P.map D.int)) := Hd.set_same
  unfold c__law_bent_r7
  refine st_asg rfl trivial ?_
  simp only [List.set_cons_succ, List.set_cons_zero]
  unfold c__law_bent_r6
  refine st_forE ?_
  rw [wI]
  refine ev_ok _ rfl trivial ?_
  simp only [seqI, gp]
  refine forL_ind (fun ds σ g => ∃ (c : Nat) (x5 : Option D), σ = [some (.tup (tab.map D.int)), some (.lst (xs.map D.int)), some (.int t), some (.ref p), x4, x5, x6, some (.int (c : Nat)), x8, x9] ∧ h.set p (.lst (P.map D.int)) = g ∧ 1 ≤ c ∧ c ≤ (2 ^ 96) ^ (12 - ds.length) ∧ ds.length ≤ 12 ∧ ∀ d ∈ ds, d ∈ P.map D.int) ?_ ?_ _ _ _ ⟨1, _, rfl, rfl, by decide, Nat.one_le_pow _ _ (by decide), by rw [List.length_map]; exact pl, fun d hd => hd⟩
  · rintro σ g ⟨c, x5, rfl, rfl, c1, c2, _, _⟩
    refine ⟨gp, ?_⟩
    unfold c__law_bent_r4
    refine st_asgE (e_blt (a_cons (ev_ok _ rfl trivial (a_nil ?_))))
    simp only [bltD, seqD, vw_tup]
    intro f hf
    have pf : p ≠ f := fun z => by rw [← z, Hd.set_same] at hf; cases hf
    have hf0 : h f = none := by rw [Hd.set_ne fun z => pf z.symm] at hf; exact hf
    simp only [List.set_cons_succ, List.set_cons_zero]
    refine bent_r3 q hp hf0 pf tl nl tz hx xl t1 hP ?_
    have h1 : c ≤ (2 ^ 96) ^ 12 := c2
    rw [← Nat.pow_mul] at h1
    exact Nat.lt_of_le_of_lt h1 (Nat.pow_lt_pow_right (by decide) (by decide))
  · rintro d ds σ g C ⟨c, x5, rfl, rfl, c1, c2, dl, hd⟩ hC
    refine ⟨gp, ?_⟩
    rw [List.length_cons] at dl c2
    obtain ⟨i, hi, rfl⟩ := List.mem_map.mp (hd d (by simp))
    obtain ⟨i0, il⟩ := hP i hi
    have ia : 1 ≤ i.natAbs := by omega
    have ib : i.natAbs < 2 ^ 96 := Nat.lt_of_le_of_lt il M12_lt
    have c3 : c ≤ 2 ^ 1152 := Nat.le_trans c2 (by rw [← Nat.pow_mul]; exact pow_up (by decide) (by omega))
    obtain ⟨l1, l2⟩ := lcm_ok c1 ia
    simp only [gT, List.set_cons_succ, List.set_cons_zero]
    unfold c__law_bent_b5
    refine st_asgE ?_
    rw [wE]
    refine e_bin (ev_ok _ rfl trivial (e_blt (a_cons (ev_ok _ rfl trivial (a_nil ?_)))))
    simp only [bltD]
    rw [abs_nat]
    have mul : MulOk ((c : Nat) : Int) ((i.natAbs : Nat) : Int) := .inr (.inr (by
      have h1 := lg_of (i := ((c : Nat) : Int)) (b := 1153) (by decide) (by rw [Int.natAbs_natCast]; exact Nat.lt_of_le_of_lt c3 (Nat.pow_lt_pow_right (by decide) (by decide)))
      have h2 := lg_of (i := ((i.natAbs : Nat) : Int)) (b := 96) (by decide) (by rw [Int.natAbs_natCast]; exact ib)
      show (((c : Nat) : Int)).natAbs.log2 + (((i.natAbs : Nat) : Int)).natAbs.log2 < 1000000
      omega))
    refine w_mul.mpr ⟨mul, e_callA (a_cons (ev_ok _ rfl trivial (a_cons (e_blt (a_cons (ev_ok _ rfl trivial (a_nil ?_)))))))⟩
    simp only [bltD]
    rw [abs_nat]
    refine a_nil ⟨⟨by omega, by omega⟩, ?_⟩
    rw [Int.toNat_natCast, Int.toNat_natCast]
    have g0 : 0 < Nat.gcd c i.natAbs := Nat.gcd_pos_of_pos_left _ (by omega)
    have g1 : Nat.gcd c i.natAbs ≤ i.natAbs := Nat.le_of_dvd (by omega) (Nat.gcd_dvd_right c i.natAbs)
    refine ⟨⟨by omega, Nat.lt_of_lt_of_le (lg_of (i := ((Nat.gcd c i.natAbs : Nat) : Int)) (b := 96) (by decide) (by rw [Int.natAbs_natCast]; omega)) (by decide)⟩, ?_⟩
    rw [Int.fdiv_eq_ediv_of_nonneg _ (by omega), ← Int.natCast_mul, ← Int.natCast_ediv]
    show wSs .nil _ _ _
    rw [wSs]
    simp only [List.set_cons_succ, List.set_cons_zero]
    refine hC _ _ ⟨_, _, rfl, rfl, l1, ?_, by omega, fun x hx => hd x (by simp [hx])⟩
    have h1 : c * i.natAbs ≤ (2 ^ 96) ^ (12 - (ds.length + 1)) * 2 ^ 96 := Nat.mul_le_mul c2 (Nat.le_of_lt ib)
    rw [← Nat.pow_succ, show (12 - (ds.length + 1)).succ = 12 - ds.length by omega] at h1
    omega
end
theorem b__law_bent (ds : List D) (h : Hd) (Q : Pq) (q : sp__law_bent ds h Q) : wSs c__law_bent { nx := fun _ h' => Out Q .non h', rt := Out Q } (startD N__law_bent ds) h := by
  unfold sp__law_bent at q
  split at q
  · rename_i ts us t
    obtain ⟨n, tab, xs, ⟨rfl, rfl, tl, nl, tz, hx, xl, t1⟩, q⟩ := q
    show wSs c__law_bent _ [some (.tup (tab.map D.int)), some (.lst (xs.map D.int)), some (.int t), none, none, none, none, none, none, none] h
    unfold c__law_bent
    refine st_asgE ?_
    rw [wE]
    refine a_nil fun p hp => ?_
    simp only [List.set_cons_succ, List.set_cons_zero]
    unfold c__law_bent_r12
    refine st_forE ?_
    rw [wI]
    refine ev_ok _ rfl trivial ?_
    simp only [seqI]
    refine forL_ind (fun ds σ g => ∃ (P : List Int) (x4 x5 x6 : Option D), σ = [some (.tup (tab.map D.int)), some (.lst (xs.map D.int)), some (.int t), some (.ref p), x4, x5, x6, none, none, none] ∧ g = h.set p (.lst (P.map D.int)) ∧ (∀ i ∈ P, Pt i) ∧ P.length + ds.length ≤ 12 ∧ ∀ d ∈ ds, d ∈ xs.map D.int) ?_ ?_ _ _ _ ⟨[], _, _, _, rfl, rfl, by simp, by rw [List.length_map]; simpa using xl, fun d hd => hd⟩
    · rintro σ g ⟨P, x4, x5, x6, rfl, rfl, hP, pl, _⟩
      exact ⟨trivial, bent_r7 q hp tl nl tz hx xl t1 hP (by omega)⟩
    · rintro d ds σ g C ⟨P, x4, x5, x6, rfl, rfl, hP, pl, hd⟩ hC
      rw [List.length_cons] at pl
      refine ⟨trivial, ?_⟩
      obtain ⟨v, hv, rfl⟩ := List.mem_map.mp (hd d (by simp))
      obtain ⟨k, rfl, k1, k2⟩ := upto_mem (hx v hv)
      simp only [gT, List.set_cons_succ, List.set_cons_zero]
      unfold c__law_bent_b11
      refine st_asg rfl trivial ?_
      simp only [List.set_cons_succ, List.set_cons_zero]
      unfold c__law_bent_r10
      refine st_forE ?_
      rw [wI]
      refine ev_ok _ rfl trivial ?_
      simp only [seqI]
      refine forL_ind (fun es σ g => ∃ (i : Int) (x6 : Option D), σ = [some (.tup (tab.map D.int)), some (.lst (xs.map D.int)), some (.int t), some (.ref p), some (.int (k : Nat)), some (.int i), x6, none, none, none] ∧ h.set p (.lst (P.map D.int)) = g ∧ i ≠ 0 ∧ i.natAbs ≤ 200 ^ (12 - es.length) ∧ es.length ≤ 12 ∧ ∀ d ∈ es, d ∈ xs.map D.int) ?_ ?_ _ _ _ ⟨1, _, rfl, rfl, by decide, Nat.one_le_pow _ _ (by decide), by rw [List.length_map]; exact xl, fun d hd => hd⟩
      · rintro σ g ⟨i, x6, rfl, rfl, i0, il, _, _⟩
        refine ⟨trivial, ?_⟩
        dsimp only
        unfold c__law_bent_r8
        refine st_app (i := 3) (k := p) (xs := P.map D.int) rfl Hd.set_same (ev_ok (.var 5) rfl trivial (m_app (xs := P.map D.int) Hd.set_same (by rw [List.length_map]; omega) ?_))
        rw [Hd.set_set, wSs]
        refine hC _ _ ⟨P ++ [i], _, _, _, rfl, by rw [List.map_append]; rfl, fun j hj => ?_, by rw [List.length_append]; simp; omega, fun x hx => hd x (by simp [hx])⟩
        rcases List.mem_append.mp hj with hj | hj
        · exact hP j hj
        · rw [List.mem_singleton.mp hj]
          exact ⟨i0, il⟩
      · rintro e es σ g C2 ⟨i, x6, rfl, rfl, i0, il, el, he⟩ hC2
        rw [List.length_cons] at il el
        refine ⟨trivial, ?_⟩
        obtain ⟨w, hw, rfl⟩ := List.mem_map.mp (he e (by simp))
        obtain ⟨j, rfl, j1, j2⟩ := upto_mem (hx w hw)
        simp only [gT, List.set_cons_succ, List.set_cons_zero]
        unfold c__law_bent_b9
        have up : 200 ^ (12 - (es.length + 1)) * 200 = 200 ^ (12 - es.length) := by
          rw [← Nat.pow_succ]
          congr 1
          omega
        refine st_asgE (e_ife (evt_ok _ rfl trivial ?_))
        by_cases jk : ((j : Nat) : Int) = ((k : Nat) : Int)
        · have e1 : (!decide (((j : Nat) : Int) = ((k : Nat) : Int))) = false := by rw [decide_eq_true jk]; rfl
          rw [e1, if_neg (by decide)]
          refine ev_ok _ rfl trivial ?_
          rw [wSs]
          simp only [List.set_cons_succ, List.set_cons_zero]
          refine hC2 _ _ ⟨i, _, rfl, rfl, i0, ?_, by omega, fun x hx => he x (by simp [hx])⟩
          exact Nat.le_trans il (pow_up (by decide) (by omega))
        · have e1 : (!decide (((j : Nat) : Int) = ((k : Nat) : Int))) = true := by rw [decide_eq_false jk]; rfl
          rw [e1, if_pos rfl]
          refine ev_ok _ rfl ⟨.inr (.inl (by omega)), trivial⟩ ?_
          rw [wSs]
          simp only [List.set_cons_succ, List.set_cons_zero]
          refine hC2 _ _ ⟨_, _, rfl, rfl, Int.mul_ne_zero i0 (by omega), ?_, by omega, fun x hx => he x (by simp [hx])⟩
          rw [Int.natAbs_mul, ← up]
          exact Nat.mul_le_mul il (by omega)
  · exact q.elim
end K30

/-! Law k31: changes_at. -/
namespace K31
open PySem PySem.Spec PyProof.Rows G K30
open L2 hiding wE wT

/-- a number that all of them divide -/
def comN : List Int → Nat → Nat
  | [], c => c
  | p :: ps, c => comN ps (c * p.natAbs / Nat.gcd c p.natAbs)
theorem com_dvd : ∀ (ps : List Int) (c : Nat), c ∣ comN ps c ∧ ∀ p ∈ ps, p.natAbs ∣ comN ps c
  | [], c => ⟨Nat.dvd_refl c, by simp⟩
  | p :: ps, c => by
    obtain ⟨h1, h2⟩ := com_dvd ps (c * p.natAbs / Nat.gcd c p.natAbs)
    have l1 : c ∣ c * p.natAbs / Nat.gcd c p.natAbs := Nat.dvd_lcm_left c p.natAbs
    have l2 : p.natAbs ∣ c * p.natAbs / Nat.gcd c p.natAbs := Nat.dvd_lcm_right c p.natAbs
    refine ⟨Nat.dvd_trans l1 h1, fun q hq => ?_⟩
    rcases List.mem_cons.mp hq with rfl | hq
    · exact Nat.dvd_trans l2 h1
    · exact h2 q hq
def com (xs : List Int) : Nat := comN (xs.map fun x => pr x xs) 1
def chg (xs : List Int) (x : Int) : Int := ((com xs : Nat) : Int).fdiv (pr x xs)
theorem chg_mul {xs : List Int} {x : Int} (h : x ∈ xs) : chg xs x * pr x xs = ((com xs : Nat) : Int) := by
  have := (com_dvd (xs.map fun x => pr x xs) 1).2 (pr x xs) (List.mem_map.mpr ⟨x, h, rfl⟩)
  unfold chg
  refine Int.fdiv_mul_cancel ?_
  exact Int.natAbs_dvd.mp (Int.natCast_dvd_natCast.mpr this)
theorem com_ok : ∀ (ps : List Int) (c : Nat), (∀ p ∈ ps, Pt p) → 1 ≤ c → ps.length ≤ 12 → c ≤ (2 ^ 96) ^ (12 - ps.length) → 1 ≤ comN ps c ∧ comN ps c ≤ (2 ^ 96) ^ 12
  | [], c, _, c1, _, c2 => ⟨c1, c2⟩
  | p :: ps, c, hp, c1, l, c2 => by
    obtain ⟨p0, pl⟩ := hp p (by simp)
    have ia : 1 ≤ p.natAbs := by omega
    have ib : p.natAbs < 2 ^ 96 := Nat.lt_of_le_of_lt pl M12_lt
    obtain ⟨l1, l2⟩ := lcm_ok c1 ia
    rw [List.length_cons] at l c2
    refine com_ok ps _ (fun q hq => hp q (by simp [hq])) l1 (by omega) ?_
    have h1 : c * p.natAbs ≤ (2 ^ 96) ^ (12 - (ps.length + 1)) * 2 ^ 96 := Nat.mul_le_mul c2 (Nat.le_of_lt ib)
    rw [← Nat.pow_succ, show (12 - (ps.length + 1)).succ = 12 - ps.length by omega] at h1
    omega
abbrev N_changes_at : List Str := ["places", "products", "place", "product", "other", "common"]
def c_changes_at_r1 : Sts := (.cons (.ret (.lc false [("product", 3)] (.nm 3) (.seq (.var 1)) .none (.fdv (.var 5) (.var 3))))
  .nil)
def c_changes_at_b2 : Sts := (.cons (.asg (.nm 5) (.fdv (.bin .Mult (.var 5) (.blt .abs (.cons (.var 3) .nil))) (.call "shared_divisor" ["one", "other"] sp_shared_divisor (.cons (.var 5) (.cons (.blt .abs (.cons (.var 3) .nil)) .nil)))))
    .nil)
def c_changes_at_r3 : Sts := (.cons (.for (.nm 3) (.seq (.var 1))
  c_changes_at_b2)
  c_changes_at_r1)
def c_changes_at_r4 : Sts := (.cons (.asg (.nm 5) (.cst (.int 1)))
  c_changes_at_r3)
def c_changes_at_r5 : Sts := (.cons (.exp (.mth .append (.var 1) (.cons (.var 3) .nil)))
    .nil)
def c_changes_at_b6 : Sts := (.cons (.ite (.val (.cmp .NotEq (.var 4) (.var 2)))
      (.cons (.asg (.nm 3) (.bin .Mult (.var 3) (.bin .Sub (.var 2) (.var 4))))
        .nil)
      .nil)
      .nil)
def c_changes_at_r7 : Sts := (.cons (.for (.nm 4) (.seq (.var 0))
    c_changes_at_b6)
    c_changes_at_r5)
def c_changes_at_b8 : Sts := (.cons (.asg (.nm 3) (.cst (.int 1)))
    c_changes_at_r7)
def c_changes_at_r9 : Sts := (.cons (.for (.nm 2) (.seq (.var 0))
  c_changes_at_b8)
  c_changes_at_r4)
def c_changes_at : Sts := (.cons (.asg (.nm 1) (.new .nil))
  c_changes_at_r9)
def sp_changes_at : Spd := fun ds h Q => match ds with
  | [.tup us] => ∃ (n : Nat) (xs : List Int), (us = xs.map D.int ∧ n ≤ 200 ∧ (∀ x ∈ xs, x ∈ upto n) ∧ xs.length ≤ 12) ∧ Q (.lst ((xs.map (chg xs)).map D.int)) h
  | _ => False
theorem pr_bd {n : Nat} (nl : n ≤ 200) {x : Int} (hx : x ∈ upto n) : ∀ xs : List Int, (∀ y ∈ xs, y ∈ upto n) → (pr x xs).natAbs ≤ 200 ^ xs.length
  | [], _ => by simp [pr]
  | y :: ys, h => by
    have ih := pr_bd nl hx ys fun z hz => h z (by simp [hz])
    rw [pr, Int.natAbs_mul, List.length_cons, Nat.pow_succ, Nat.mul_comm]
    refine Nat.mul_le_mul ih ?_
    obtain ⟨a, rfl, a1, a2⟩ := upto_mem hx
    obtain ⟨b, rfl, b1, b2⟩ := upto_mem (h y (by simp))
    split
    · decide
    · omega
theorem pr_Pt {n : Nat} (nl : n ≤ 200) {xs : List Int} (hx : ∀ x ∈ xs, x ∈ upto n) (xl : xs.length ≤ 12) : ∀ p ∈ xs.map (fun x => pr x xs), Pt p := by
  intro p hp
  obtain ⟨x, hx', rfl⟩ := List.mem_map.mp hp
  exact ⟨pr_nz xs, Nat.le_trans (pr_bd nl (hx x hx') xs hx) (pow_up (by decide) xl)⟩
section
variable {h : Hd} {Q : Pq} {n p : Nat} {xs : List Int} {x2 x3 x4 : Option D}
theorem changes_r4 {x5 : Option D} (q : Q (.lst ((xs.map (chg xs)).map D.int)) h) (hp : h p = none) (nl : n ≤ 200) (hx : ∀ x ∈ xs, x ∈ upto n) (xl : xs.length ≤ 12) :
    wSs c_changes_at_r4 { nx := fun _ h' => Out Q .non h', rt := Out Q } [some (.tup (xs.map D.int)), some (.ref p), x2, x3, x4, x5] (h.set p (.lst ((xs.map fun x => pr x xs).map D.int))) := by
  have gp : (h.set p (.lst ((xs.map fun x => pr x xs).map D.int))) p = some (.lst ((xs.map fun x => pr x xs).map D.int)) := Hd.set_same
  have hP := pr_Pt nl hx xl
  unfold c_changes_at_r4
  refine st_asg rfl trivial ?_
  simp only [List.set_cons_succ, List.set_cons_zero]
  unfold c_changes_at_r3
  refine st_forE ?_
  rw [wI]
  refine ev_ok _ rfl trivial ?_
  simp only [seqI, gp]
  refine forL_ind (fun ds σ g => ∃ (c : Nat) (R : List Int) (x3 : Option D), σ = [some (.tup (xs.map D.int)), some (.ref p), x2, x3, x4, some (.int (c : Nat))] ∧ h.set p (.lst ((xs.map fun x => pr x xs).map D.int)) = g ∧ ds = R.map D.int ∧ (∀ i ∈ R, Pt i) ∧ comN R c = com xs ∧ 1 ≤ c ∧ c ≤ (2 ^ 96) ^ (12 - R.length) ∧ R.length ≤ 12) ?_ ?_ _ _ _ ⟨1, xs.map fun x => pr x xs, _, rfl, rfl, rfl, hP, rfl, by decide, Nat.one_le_pow _ _ (by decide), by rw [List.length_map]; exact xl⟩
  · rintro σ g ⟨c, R, x3, rfl, rfl, e, _, ec, _, _, _⟩
    have : R = [] := by cases R with | nil => rfl | cons _ _ => cases e
    subst this
    have ec : c = com xs := ec
    refine ⟨gp, ?_⟩
    unfold c_changes_at_r1
    refine st_retE ?_
    rw [wE, wI]
    refine ev_ok _ rfl trivial ?_
    simp only [seqI, gp]
    refine compL_map (fun d => .int (((c : Nat) : Int).fdiv (intI d))) gp _ _ (fun d hd Y Z y => ?_) ?_
    · obtain ⟨i, hi, rfl⟩ := List.mem_map.mp hd
      obtain ⟨i0, il⟩ := hP i hi
      simp only [gT, wTo, if_true, wipeD, List.map_cons, List.map_nil, List.set_cons_succ, List.set_cons_zero]
      rw [wE]
      refine ev_ok _ rfl trivial (ev_ok _ rfl trivial ⟨⟨i0, Nat.lt_of_lt_of_le (lg_of (b := 96) (by decide) (Nat.lt_of_le_of_lt il M12_lt)) (by decide)⟩, ?_⟩)
      exact y
    · simp only [listed, List.nil_append]
      have e : ((xs.map fun x => pr x xs).map D.int).map (fun d => D.int (((c : Nat) : Int).fdiv (intI d))) = (xs.map (chg xs)).map D.int := by
        rw [List.map_map, List.map_map, List.map_map]
        refine List.map_congr_left fun x _ => ?_
        show D.int (((c : Nat) : Int).fdiv (pr x xs)) = D.int (chg xs x)
        rw [ec]
        rfl
      rw [e]
      exact .is ((Hd.le.refl h).set hp) q
  · rintro d ds σ g C ⟨c, R, x3, rfl, rfl, e, hR, ec, c1, c2, rl⟩ hC
    refine ⟨gp, ?_⟩
    cases R with
    | nil => cases e
    | cons i R =>
      rw [List.map_cons] at e
      injection e with e1 e2
      subst e1
      subst e2
      rw [List.length_cons] at rl c2
      obtain ⟨i0, il⟩ := hR i (by simp)
      have ia : 1 ≤ i.natAbs := by omega
      have ib : i.natAbs < 2 ^ 96 := Nat.lt_of_le_of_lt il M12_lt
      have c3 : c ≤ 2 ^ 1152 := Nat.le_trans c2 (by rw [← Nat.pow_mul]; exact pow_up (by decide) (by omega))
      obtain ⟨l1, l2⟩ := lcm_ok c1 ia
      simp only [gT, List.set_cons_succ, List.set_cons_zero]
      unfold c_changes_at_b2
      refine st_asgE ?_
      rw [wE]
      refine e_bin (ev_ok _ rfl trivial (e_blt (a_cons (ev_ok _ rfl trivial (a_nil ?_)))))
      simp only [bltD]
      rw [abs_nat]
      have mul : MulOk ((c : Nat) : Int) ((i.natAbs : Nat) : Int) := .inr (.inr (by
        have h1 := lg_of (i := ((c : Nat) : Int)) (b := 1153) (by decide) (by rw [Int.natAbs_natCast]; exact Nat.lt_of_le_of_lt c3 (Nat.pow_lt_pow_right (by decide) (by decide)))
        have h2 := lg_of (i := ((i.natAbs : Nat) : Int)) (b := 96) (by decide) (by rw [Int.natAbs_natCast]; exact ib)
        show (((c : Nat) : Int)).natAbs.log2 + (((i.natAbs : Nat) : Int)).natAbs.log2 < 1000000
        omega))
      refine w_mul.mpr ⟨mul, e_callA (a_cons (ev_ok _ rfl trivial (a_cons (e_blt (a_cons (ev_ok _ rfl trivial (a_nil ?_)))))))⟩
      simp only [bltD]
      rw [abs_nat]
      refine a_nil ⟨⟨by omega, by omega⟩, ?_⟩
      rw [Int.toNat_natCast, Int.toNat_natCast]
      have g0 : 0 < Nat.gcd c i.natAbs := Nat.gcd_pos_of_pos_left _ (by omega)
      have g1 : Nat.gcd c i.natAbs ≤ i.natAbs := Nat.le_of_dvd (by omega) (Nat.gcd_dvd_right c i.natAbs)
      refine ⟨⟨by omega, Nat.lt_of_lt_of_le (lg_of (i := ((Nat.gcd c i.natAbs : Nat) : Int)) (b := 96) (by decide) (by rw [Int.natAbs_natCast]; omega)) (by decide)⟩, ?_⟩
      rw [Int.fdiv_eq_ediv_of_nonneg _ (by omega), ← Int.natCast_mul, ← Int.natCast_ediv]
      show wSs .nil _ _ _
      rw [wSs]
      simp only [List.set_cons_succ, List.set_cons_zero]
      refine hC _ _ ⟨_, R, _, rfl, rfl, rfl, fun q hq => hR q (by simp [hq]), ec, l1, ?_, by omega⟩
      have h1 : c * i.natAbs ≤ (2 ^ 96) ^ (12 - (R.length + 1)) * 2 ^ 96 := Nat.mul_le_mul c2 (Nat.le_of_lt ib)
      rw [← Nat.pow_succ, show (12 - (R.length + 1)).succ = 12 - R.length by omega] at h1
      omega
end
theorem b_changes_at (ds : List D) (h : Hd) (Q : Pq) (q : sp_changes_at ds h Q) : wSs c_changes_at { nx := fun _ h' => Out Q .non h', rt := Out Q } (startD N_changes_at ds) h := by
  unfold sp_changes_at at q
  split at q
  · rename_i us
    obtain ⟨n, xs, ⟨rfl, nl, hx, xl⟩, q⟩ := q
    show wSs c_changes_at _ [some (.tup (xs.map D.int)), none, none, none, none, none] h
    unfold c_changes_at
    refine st_asgE ?_
    rw [wE]
    refine a_nil fun p hp => ?_
    simp only [List.set_cons_succ, List.set_cons_zero]
    unfold c_changes_at_r9
    refine st_forE ?_
    rw [wI]
    refine ev_ok _ rfl trivial ?_
    simp only [seqI]
    refine forL_ind (fun ds σ g => ∃ (P R : List Int) (x2 x3 x4 : Option D), σ = [some (.tup (xs.map D.int)), some (.ref p), x2, x3, x4, none] ∧ g = h.set p (.lst (P.map D.int)) ∧ ds = R.map D.int ∧ P ++ R.map (fun x => pr x xs) = xs.map (fun x => pr x xs) ∧ ∀ x ∈ R, x ∈ xs) ?_ ?_ _ _ _ ⟨[], xs, _, _, _, rfl, rfl, rfl, rfl, fun x hx => hx⟩
    · rintro σ g ⟨P, R, x2, x3, x4, rfl, rfl, e, eP, _⟩
      have : R = [] := by cases R with | nil => rfl | cons _ _ => cases e
      subst this
      rw [List.map_nil, List.append_nil] at eP
      refine ⟨trivial, ?_⟩
      rw [eP]
      exact changes_r4 q hp nl hx xl
    · rintro d ds σ g C ⟨P, R, x2, x3, x4, rfl, rfl, e, eP, hR⟩ hC
      refine ⟨trivial, ?_⟩
      cases R with
      | nil => cases e
      | cons v R =>
        rw [List.map_cons] at e
        injection e with e1 e2
        subst e1
        subst e2
        have pl : P.length ≤ 12 := by
          have := congrArg List.length eP
          rw [List.length_append, List.length_map, List.length_map] at this
          omega
        obtain ⟨k, rfl, k1, k2⟩ := upto_mem (hx v (hR v (by simp)))
        simp only [gT, List.set_cons_succ, List.set_cons_zero]
        unfold c_changes_at_b8
        refine st_asg rfl trivial ?_
        simp only [List.set_cons_succ, List.set_cons_zero]
        unfold c_changes_at_r7
        refine st_forE ?_
        rw [wI]
        refine ev_ok _ rfl trivial ?_
        simp only [seqI]
        refine forL_ind (fun es σ g => ∃ (i : Int) (W : List Int) (x4 : Option D), σ = [some (.tup (xs.map D.int)), some (.ref p), some (.int (k : Nat)), some (.int i), x4, none] ∧ h.set p (.lst (P.map D.int)) = g ∧ es = W.map D.int ∧ i * pr (k : Nat) W = pr (k : Nat) xs ∧ ∀ x ∈ W, x ∈ xs) ?_ ?_ _ _ _ ⟨1, xs, _, rfl, rfl, rfl, by rw [Int.one_mul], fun x hx => hx⟩
        · rintro σ g ⟨i, W, x4, rfl, rfl, e, ei, _⟩
          have : W = [] := by cases W with | nil => rfl | cons _ _ => cases e
          subst this
          rw [pr, Int.mul_one] at ei
          refine ⟨trivial, ?_⟩
          dsimp only
          unfold c_changes_at_r5
          refine st_app (i := 1) (k := p) (xs := P.map D.int) rfl Hd.set_same (ev_ok (.var 3) rfl trivial (m_app (xs := P.map D.int) Hd.set_same (by rw [List.length_map]; omega) ?_))
          rw [Hd.set_set, wSs]
          refine hC _ _ ⟨P ++ [i], R, _, _, _, rfl, by rw [List.map_append]; rfl, rfl, ?_, fun x hx => hR x (by simp [hx])⟩
          rw [List.append_assoc, ← eP, List.map_cons, ei]
          rfl
        · rintro e' es σ g C2 ⟨i, W, x4, rfl, rfl, e, ei, hW⟩ hC2
          refine ⟨trivial, ?_⟩
          cases W with
          | nil => cases e
          | cons w W =>
            rw [List.map_cons] at e
            injection e with e1 e2
            subst e1
            subst e2
            obtain ⟨j, rfl, j1, j2⟩ := upto_mem (hx w (hW w (by simp)))
            rw [pr] at ei
            simp only [gT, List.set_cons_succ, List.set_cons_zero]
            unfold c_changes_at_b6
            refine st_iteE (evt_ok _ rfl trivial ?_)
            by_cases jk : ((j : Nat) : Int) = ((k : Nat) : Int)
            · have e1 : (!decide (((j : Nat) : Int) = ((k : Nat) : Int))) = false := by rw [decide_eq_true jk]; rfl
              rw [e1, if_neg (by decide), wSs]
              dsimp only
              rw [wSs]
              rw [if_pos jk, Int.one_mul] at ei
              exact hC2 _ _ ⟨i, W, _, rfl, rfl, rfl, ei, fun x hx => hW x (by simp [hx])⟩
            · have e1 : (!decide (((j : Nat) : Int) = ((k : Nat) : Int))) = true := by rw [decide_eq_false jk]; rfl
              rw [e1, if_pos rfl]
              refine st_asg rfl ⟨.inr (.inl (by omega)), trivial⟩ ?_
              rw [wSs]
              dsimp only
              rw [wSs]
              simp only [List.set_cons_succ, List.set_cons_zero]
              rw [if_neg jk, ← Int.mul_assoc] at ei
              exact hC2 _ _ ⟨_, W, _, rfl, rfl, rfl, ei, fun x hx => hW x (by simp [hx])⟩
  · exact q.elim
end K31

/-! Law k31: forged. -/
namespace K31
open PySem PySem.Spec PyProof.Rows G K30
open L2 hiding wE wT

/-! ### numbers added at places -/
def addL (c : Int → Int) : List Int → List Int → List Int
  | [], F => F
  | x :: xs, F => addL c xs (F.set (x - 1).toNat (F.getD (x - 1).toNat 0 + c x))
theorem addL_len (c : Int → Int) : ∀ (xs F : List Int), (addL c xs F).length = F.length
  | [], F => rfl
  | x :: xs, F => by rw [addL, addL_len c xs, List.length_set]
theorem getD_set_ne {F : List Int} {i j : Nat} {v : Int} (h : i ≠ j) : (F.set i v).getD j 0 = F.getD j 0 := by
  rw [List.getD_eq_getElem?_getD, List.getD_eq_getElem?_getD, List.getElem?_set_ne h]
theorem getD_set_self {F : List Int} {i : Nat} {v : Int} (h : i < F.length) : (F.set i v).getD i 0 = v := by
  rw [List.getD_eq_getElem?_getD, List.getElem?_set_self h]
  rfl
theorem addL_ne (c : Int → Int) {i : Nat} : ∀ (xs F : List Int), (∀ x ∈ xs, (x - 1).toNat ≠ i) → (addL c xs F).getD i 0 = F.getD i 0
  | [], F, _ => rfl
  | x :: xs, F, h => by rw [addL, addL_ne c xs _ fun y hy => h y (by simp [hy]), getD_set_ne (h x (by simp))]
theorem addL_at (c : Int → Int) {x : Int} : ∀ (xs F : List Int), xs.Nodup → (∀ y ∈ xs, 1 ≤ y ∧ y ≤ F.length) → x ∈ xs → (addL c xs F).getD (x - 1).toNat 0 = F.getD (x - 1).toNat 0 + c x
  | [], F, _, _, h => by cases h
  | y :: ys, F, nd, hb, h => by
    have n1 := List.nodup_cons.mp nd
    have by1 := hb y (by simp)
    rw [addL]
    by_cases e : x = y
    · subst e
      rw [addL_ne c ys _ fun z hz => ?_, getD_set_self (by omega)]
      have := hb z (by simp [hz])
      have : z ≠ x := fun q => n1.1 (q ▸ hz)
      omega
    · have hx : x ∈ ys := by
        rcases List.mem_cons.mp h with h | h
        · exact absurd h e
        · exact h
      have bx := hb x h
      rw [addL_at c ys _ n1.2 (fun z hz => by rw [List.length_set]; exact hb z (by simp [hz])) hx, getD_set_ne (by omega)]
theorem sumP_set (k : Nat) : ∀ (F : List Int) (c i : Nat) (v : Int), i < F.length → sumP k c (F.set i v) = sumP k c F + ((c + i : Nat) : Int) ^ k * (v - F.getD i 0)
  | [], c, i, v, h => by simp at h
  | f :: F, c, 0, v, h => by
    rw [List.set_cons_zero, sumP, sumP, Nat.add_zero, Int.mul_sub]
    show _ = _ + (((c : Nat) : Int) ^ k * v - ((c : Nat) : Int) ^ k * f)
    omega
  | f :: F, c, i + 1, v, h => by
    have ih := sumP_set k F (c + 1) i v (by simpa using h)
    rw [List.set_cons_succ, sumP, sumP, ih, show c + 1 + i = c + (i + 1) by omega]
    show _ = _ + ((c + (i + 1) : Nat) : Int) ^ k * (v - F.getD i 0)
    omega
theorem addL_sum (c : Int → Int) (k : Nat) : ∀ (xs F : List Int), (∀ y ∈ xs, 1 ≤ y ∧ y ≤ F.length) → sumP k 1 (addL c xs F) = sumP k 1 F + su k c xs
  | [], F, _ => by simp [addL, su]
  | x :: xs, F, h => by
    have hx := h x (by simp)
    rw [addL, addL_sum c k xs _ fun y hy => by rw [List.length_set]; exact h y (by simp [hy]), sumP_set k F 1 _ _ (by omega), su]
    have e : ((1 + (x - 1).toNat : Nat) : Int) = x := by omega
    rw [e, show F.getD (x - 1).toNat 0 + c x - F.getD (x - 1).toNat 0 = c x by omega]
    omega
theorem upto_lt (n : Nat) : (upto n).Pairwise (· < ·) := by
  unfold upto
  rw [List.pairwise_map]
  exact List.pairwise_lt_range.imp fun h => by omega
theorem nodup_of {xs : List Int} (h : xs.Pairwise (· < ·)) : xs.Nodup := h.imp fun h => Int.ne_of_lt h
theorem flt_self : ∀ {xs l : List Int}, xs.Sublist l → l.Nodup → (l.filter fun y => decide (y ∈ xs)) = xs := by
  intro xs l h
  induction h with
  | slnil => intro _; rfl
  | @cons xs l a h ih =>
    intro nd
    have n1 := List.nodup_cons.mp nd
    rw [List.filter_cons, if_neg (by rw [decide_eq_true_eq]; exact fun z => n1.1 (h.subset z))]
    exact ih n1.2
  | @cons_cons xs l a h ih =>
    intro nd
    have n1 := List.nodup_cons.mp nd
    rw [List.filter_cons, if_pos (by simp)]
    congr 1
    rw [← ih n1.2]
    refine List.filter_congr fun y hy => ?_
    have : y ≠ a := fun z => n1.1 (z ▸ hy)
    have e := ih n1.2
    rw [e]
    simp [this]
/-! ### what is forged -/
def pls (n : Nat) (ss : List Int) (m : Nat) : List Int := (oth n ss).take (m + 1)
def fgL (s : Str) (n : Nat) (ss : List Int) (m : Nat) : List Int := addL (chg (pls n ss m)) (pls n ss m) (tabI s n)
def fgD (s : Str) (n : Nat) (ss : List Int) (m : Nat) : D := if m < (oth n ss).length then .tup ((fgL s n ss m).map D.int) else .non
theorem pls_sub (n : Nat) (ss : List Int) (m : Nat) : (pls n ss m).Sublist (upto n) := (List.take_sublist _ _).trans List.filter_sublist
theorem pls_up {n : Nat} {ss : List Int} {m : Nat} : ∀ x ∈ pls n ss m, x ∈ upto n := fun x hx => (pls_sub n ss m).subset hx
theorem pls_nd (n : Nat) (ss : List Int) (m : Nat) : (pls n ss m).Nodup := (nodup_of (upto_lt n)).sublist (pls_sub n ss m)
theorem pls_len {n : Nat} {ss : List Int} {m : Nat} (h : m < (oth n ss).length) : (pls n ss m).length = m + 1 := by
  unfold pls
  rw [List.length_take]
  omega
theorem pls_out {n : Nat} {ss : List Int} {m : Nat} {x : Int} (h : x ∈ ss) : x ∉ pls n ss m := fun z => by
  have := (List.mem_filter.mp (List.mem_of_mem_take z)).2
  simp [h] at this
theorem pls_in {n : Nat} {ss : List Int} {m : Nat} {s : Str} : ∀ y ∈ pls n ss m, 1 ≤ y ∧ y ≤ (tabI s n).length := fun y hy => by
  obtain ⟨k, rfl, k1, k2⟩ := upto_mem (pls_up y hy)
  rw [tabI_len]
  omega
theorem fg_len (s : Str) (n : Nat) (ss : List Int) (m : Nat) : (fgL s n ss m).length = n := by
  unfold fgL
  rw [addL_len, tabI_len]
theorem fg_holds {s : Str} {n : Nat} {ss : List Int} {m : Nat} (wo : Wo s n ss m) (h : m < (oth n ss).length) : holdN s n ss m (fgL s n ss m) = true := by
  unfold holdN
  rw [decide_eq_true (fg_len s n ss m), Bool.true_and, Bool.and_eq_true]
  constructor
  · rw [List.all_eq_true]
    intro x hx
    refine decide_eq_true ?_
    unfold fgL
    rw [addL_ne _ _ _ fun y hy => ?_, tab_at (wo.sp x hx)]
    obtain ⟨k, rfl, k1, k2⟩ := upto_mem (wo.sp x hx)
    obtain ⟨j, rfl, j1, j2⟩ := upto_mem (pls_up y hy)
    have : ((j : Nat) : Int) ≠ ((k : Nat) : Int) := fun e => pls_out hx (e ▸ hy)
    omega
  · rw [List.all_eq_true]
    intro k hk
    have hk := List.mem_range.mp hk
    refine decide_eq_true ?_
    have hs : s = "many" ∨ s = "total" := by
      have hw := wo.w
      simp only [words3, List.mem_cons, List.not_mem_nil, or_false] at hw
      rcases hw with e | e | e
      · exact .inl e
      · exact .inr e
      · have := wo.lm e
        omega
    unfold fgL
    rw [addL_sum _ k _ _ pls_in, su_zero (m + 1) _ (pls_len h) (pls_nd n ss m) (chg (pls n ss m)) ((com (pls n ss m) : Nat) : Int) (fun x hx => chg_mul hx) k (by omega), Int.add_zero]
    exact sumP_rows hs k n
theorem com_pos {n : Nat} {ss : List Int} {m : Nat} (nl : n ≤ 200) (m9 : m ≤ 9) : 1 ≤ com (pls n ss m) ∧ com (pls n ss m) ≤ (2 ^ 96) ^ 12 := by
  have l : (pls n ss m).length ≤ 12 := by
    unfold pls
    rw [List.length_take]
    omega
  exact com_ok _ 1 (pr_Pt nl pls_up l) (by decide) (by rw [List.length_map]; exact l) (Nat.one_le_pow _ _ (by decide))
theorem chg_nz {n : Nat} {ss : List Int} {m : Nat} (nl : n ≤ 200) (m9 : m ≤ 9) {x : Int} (h : x ∈ pls n ss m) : chg (pls n ss m) x ≠ 0 := fun z => by
  have h1 := chg_mul h
  rw [z, Int.zero_mul] at h1
  have := (com_pos (ss := ss) nl m9).1
  omega
/-- how many rows are off -/
theorem fg_count {s : Str} {n : Nat} {ss : List Int} {m : Nat} (nl : n ≤ 200) (m9 : m ≤ 9) (h : m < (oth n ss).length) :
    ((upto n).filter fun x => !decide ((fgL s n ss m).getD (x - 1).toNat 0 = (tabI s n).getD (x - 1).toNat 0)).length = m + 1 := by
  have e : ((upto n).filter fun x => !decide ((fgL s n ss m).getD (x - 1).toNat 0 = (tabI s n).getD (x - 1).toNat 0)) = (upto n).filter fun y => decide (y ∈ pls n ss m) := by
    refine List.filter_congr fun x hx => ?_
    unfold fgL
    by_cases c : x ∈ pls n ss m
    · rw [addL_at _ _ _ (pls_nd n ss m) pls_in c, decide_eq_true c]
      have := chg_nz nl m9 c
      rw [decide_eq_false (by omega)]
      rfl
    · rw [addL_ne _ _ _ fun y hy => ?_, decide_eq_false c, decide_eq_true rfl]
      · rfl
      · obtain ⟨k, rfl, k1, k2⟩ := upto_mem hx
        obtain ⟨j, rfl, j1, j2⟩ := upto_mem (pls_up y hy)
        have : ((j : Nat) : Int) ≠ ((k : Nat) : Int) := fun e => c (e ▸ hy)
        omega
  rw [e, flt_self (pls_sub n ss m) (nodup_of (upto_lt n)), pls_len h]
end K31

/-! Law k31: sizes, forged, the law. -/
namespace K31
open PySem PySem.Spec PyProof.Rows G K30
open L2 hiding wE wT

mutual
/-- how much repr may tell of it -/
def wgK : D → Nat
  | .int i => PyData.weight (.int i) + 1
  | .str x => x.cps.size + 1
  | .tup ds => wgsK ds + 1
  | .lst ds => wgsK ds + 1
  | .dic ks ds => wgsK ds + (ks.map fun k => (keyP k).weight + 1).sum + 1
  | _ => 1
def wgsK : List D → Nat
  | [] => 0
  | d :: ds => wgK d + wgsK ds
end
theorem kv_wgK : ∀ (ks : List Key) (ps : List PyData), PyData.weightKv ((ks.map keyP).zip ps) ≤ (ks.map fun k => (keyP k).weight + 1).sum + PyData.weightAll ps
  | [], ps => by simp [PyData.weightKv]
  | _ :: _, [] => by simp [PyData.weightKv]
  | k :: ks, p :: ps => by
    have := kv_wgK ks ps
    simp only [List.map_cons, List.zip_cons_cons, PyData.weightKv, PyData.weightAll, List.sum_cons]
    omega
mutual
theorem wgK_of : ∀ d : D, d.py.weight + 1 ≤ wgK d
  | .non => by simp only [D.py, PyData.weight, wgK]; omega
  | .bl _ => by simp only [D.py, PyData.weight, wgK]; omega
  | .int i => by simp only [D.py, wgK]; omega
  | .str x => by simp only [D.py, PyData.weight, wgK]; omega
  | .tup ds => by
    have := wgsK_of ds
    simp only [D.py, PyData.weight, wgK]
    omega
  | .lst ds => by
    have := wgsK_of ds
    simp only [D.py, PyData.weight, wgK]
    omega
  | .dic ks ds => by
    have h1 := wgsK_of ds
    have h2 := kv_wgK ks (D.pys ds)
    simp only [D.py, PyData.weight, wgK]
    omega
  | .ref _ => by simp only [D.py, PyData.weight, wgK]; omega
  | .deck => by simp only [D.py, PyData.weight, wgK]; omega
  | .scr => by simp only [D.py, PyData.weight, wgK]; omega
  | .ty _ => by simp only [D.py, PyData.weight, wgK]; omega
theorem wgsK_of : ∀ ds : List D, PyData.weightAll (D.pys ds) ≤ wgsK ds
  | [] => by simp only [D.pys, PyData.weightAll, wgsK]; omega
  | d :: ds => by
    have h1 := wgK_of d
    have h2 := wgsK_of ds
    simp only [D.pys, PyData.weightAll, wgsK]
    omega
end
theorem shows_wgK {B n : Nat} (b0 : 7 ≤ B) (b1 : B ≤ 570) {d : D} (h : d.small B = true) (hd : d.dep ≤ 64) (hc : wgK d ≤ n) (hn : (B + 3) * n + (B + 1) ≤ 16777216) : Shows d := by
  have f := ff_of (by omega) b1 d h
  refine ⟨f.isF, f.sh, Nat.le_trans f.dep hd, ?_⟩
  have h1 := PyData.shown_le (B + 1) (by omega) d.py f.ls
  have h2 : (B + 1 + 2) * d.py.weight ≤ (B + 3) * n := Nat.mul_le_mul_left _ (by have := wgK_of d; omega)
  show _ ≤ 2 ^ 24
  omega
theorem wgK_int {i : Int} {b : Nat} (h : i.natAbs < 2 ^ b) : wgK (.int i) ≤ b + 1 := by
  simp only [wgK, PyData.weight]
  split
  · omega
  · rename_i z
    have nz : i.natAbs ≠ 0 := fun y => z (by simp; omega)
    have := (Nat.log2_lt nz).mpr h
    omega
theorem wgs_set {v : Int} : ∀ (F : List Int) (i : Nat), wgsK ((F.set i v).map D.int) ≤ wgsK (F.map D.int) + wgK (.int v)
  | [], _ => by simp [wgsK]
  | f :: F, 0 => by
    simp only [List.set_cons_zero, List.map_cons, wgsK]
    omega
  | f :: F, i + 1 => by
    have := wgs_set (v := v) F i
    simp only [List.set_cons_succ, List.map_cons, wgsK]
    omega
theorem addL_bd {c : Int → Int} {M : Nat} (hc : ∀ x, (c x).natAbs ≤ M) : ∀ (xs F : List Int) (b : Nat), (∀ z ∈ F, z.natAbs ≤ b) → (∀ z ∈ addL c xs F, z.natAbs ≤ b + xs.length * M)
  | [], F, b, h => fun z hz => by have := h z hz; simp; omega
  | x :: xs, F, b, h => by
    intro z hz
    rw [addL] at hz
    have := addL_bd hc xs _ (b + M) (fun y hy => ?_) z hz
    · rw [List.length_cons, Nat.succ_mul]
      omega
    · rcases List.mem_or_eq_of_mem_set hy with hy | rfl
      · have := h y hy
        omega
      · have h1 := Int.natAbs_add_le (F.getD (x - 1).toNat 0) (c x)
        have h2 := hc x
        have h3 : (F.getD (x - 1).toNat 0).natAbs ≤ b := by
          rw [List.getD_eq_getElem?_getD]
          cases e : F[(x - 1).toNat]? with
          | none => simp
          | some f => exact h f (List.mem_of_getElem? e)
        omega
theorem addL_wg {c : Int → Int} {M W : Nat} (hc : ∀ x, (c x).natAbs ≤ M) (hW : ∀ i : Int, i.natAbs < 2 ^ 1160 → wgK (.int i) ≤ W) : ∀ (xs F : List Int) (b : Nat), (∀ z ∈ F, z.natAbs ≤ b) → b + xs.length * M < 2 ^ 1160 → wgsK ((addL c xs F).map D.int) ≤ wgsK (F.map D.int) + xs.length * W
  | [], F, b, _, _ => by simp [addL]
  | x :: xs, F, b, h, l => by
    rw [List.length_cons, Nat.succ_mul] at l
    have h2 := hc x
    have h1 := Int.natAbs_add_le (F.getD (x - 1).toNat 0) (c x)
    have h3 : (F.getD (x - 1).toNat 0).natAbs ≤ b := by
      rw [List.getD_eq_getElem?_getD]
      cases e : F[(x - 1).toNat]? with
      | none => simp
      | some f => exact h f (List.mem_of_getElem? e)
    rw [addL]
    have ih := addL_wg hc hW xs (F.set (x - 1).toNat (F.getD (x - 1).toNat 0 + c x)) (b + M) (fun y hy => by
      rcases List.mem_or_eq_of_mem_set hy with hy | rfl
      · have := h y hy
        omega
      · omega) (by omega)
    have s1 := wgs_set (v := F.getD (x - 1).toNat 0 + c x) F (x - 1).toNat
    have s2 := hW (F.getD (x - 1).toNat 0 + c x) (by omega)
    rw [List.length_cons, Nat.succ_mul]
    omega
theorem tab_bd {s : Str} {n : Nat} (h : n ≤ 200) : ∀ z ∈ tabI s n, z.natAbs ≤ 8000000 := by
  intro z hz
  obtain ⟨i, hi, rfl⟩ := List.mem_map.mp hz
  have h1 := List.mem_range.mp hi
  rw [Int.natAbs_natCast]
  exact rowV_le (s := s) (n := i + 1) (by omega) (by omega)
theorem wgs_le {b : Nat} : ∀ zs : List Int, (∀ z ∈ zs, z.natAbs < 2 ^ b) → wgsK (zs.map D.int) ≤ zs.length * (b + 1)
  | [], _ => by simp [wgsK]
  | z :: zs, h => by
    have h1 := wgs_le zs fun y hy => h y (by simp [hy])
    have h2 := wgK_int (h z (by simp))
    simp only [List.map_cons, wgsK, List.length_cons, Nat.succ_mul]
    omega
structure Big (zs : List Int) : Prop where
  b : ∀ z ∈ zs, z.natAbs < 2 ^ 1160
  w : wgsK (zs.map D.int) ≤ 19000
theorem fg_big {s : Str} {n : Nat} {ss : List Int} {m : Nat} (nl : n ≤ 200) (m9 : m ≤ 9) : Big (fgL s n ss m) := by
  have l : (pls n ss m).length ≤ 10 := by
    unfold pls
    rw [List.length_take]
    omega
  have hc : ∀ x, (chg (pls n ss m) x).natAbs ≤ 2 ^ 1152 := fun x => by
    have h1 := fdiv_le (c := com (pls n ss m)) (j := pr x (pls n ss m)) (pr_nz _)
    have h2 := (com_pos (ss := ss) nl m9).2
    rw [← Nat.pow_mul] at h2
    exact Nat.le_trans h1 h2
  have p8 : (2 : Nat) ^ 1160 = 256 * 2 ^ 1152 := by rw [show (1160 : Nat) = 8 + 1152 by rfl, Nat.pow_add]
  have p1 : 8000000 ≤ (2 : Nat) ^ 1152 := Nat.le_trans (show 8000000 ≤ 2 ^ 23 by decide) (Nat.pow_le_pow_right (by decide) (by decide))
  have lm : (pls n ss m).length * 2 ^ 1152 ≤ 10 * 2 ^ 1152 := Nat.mul_le_mul_right _ l
  refine ⟨fun z hz => ?_, ?_⟩
  · have := addL_bd hc (pls n ss m) (tabI s n) 8000000 (tab_bd nl) z hz
    omega
  · have h1 := addL_wg hc (W := 1161) (fun i hi => wgK_int hi) (pls n ss m) (tabI s n) 8000000 (tab_bd nl) (by omega)
    have h2 := wgs_le (b := 23) (tabI s n) fun z hz => Nat.lt_of_le_of_lt (tab_bd nl z hz) (by decide)
    rw [tabI_len] at h2
    unfold fgL
    omega
theorem Big.sm {zs : List Int} (k : Big zs) : (D.tup (zs.map D.int)).small 350 = true := by
  simp only [D.small]
  rw [smalls_mem]
  intro d hd
  obtain ⟨z, hz, rfl⟩ := List.mem_map.mp hd
  simp only [D.small]
  exact decide_eq_true (Nat.lt_trans (k.b z hz) (by decide))
theorem deps_ints : ∀ zs : List Int, D.deps (zs.map D.int) = 0
  | [] => rfl
  | z :: zs => by simp only [List.map_cons, D.deps, D.dep, deps_ints zs]; rfl
theorem Big.shows {zs : List Int} (k : Big zs) : Shows (.tup (zs.map D.int)) := shows_wgK (B := 350) (n := 20000) (by decide) (by decide) k.sm (by simp only [D.dep, deps_ints]; omega) (by simp only [wgK]; have := k.w; omega) (by decide)
theorem Big.isF {zs : List Int} (k : Big zs) : (D.tup (zs.map D.int)).isF = true := isF_small (B := 350) (by decide) (by decide) k.sm
theorem Big.bd {zs : List Int} (k : Big zs) (l : zs.length ≤ 200) : Bd (.tup (zs.map D.int)) := by
  refine ⟨k.isF, fun ns e => ?_⟩
  have e : zs.map D.int = ns.map D.int := by injection e
  have ez : zs = ns := by
    have := congrArg (List.map intI) e
    rw [List.map_map, List.map_map] at this
    have id : (intI ∘ D.int) = id := rfl
    rw [id, List.map_id, List.map_id] at this
    exact this
  subst ez
  exact ⟨by omega, fun i hi => Nat.lt_of_lt_of_le (lg_of (b := 1160) (by decide) (k.b i hi)) (by decide)⟩
theorem cut_to {ds : List D} {k : Nat} (hk : k ≤ ds.length) : cutD ds none (some ((k : Nat) : Int)) = ds.take k := by
  unfold G.cutD
  have h1 : HT.sIx ds.length 0 none = 0 := rfl
  have h2 : HT.sIx ds.length ds.length (some ((k : Nat) : Int)) = k := by
    rw [HT.sIx_nat]
    omega
  rw [h1, h2, List.drop_zero, Nat.sub_zero]
/-! ### forged -/
abbrev N_forged : List Str := ["word", "size", "places", "sums", "others", "some", "found", "place", "change"]
def c_forged_r1 : Sts := (.cons (.ret (.blt .tuple (.cons (.var 6) .nil)))
  .nil)
def c_forged_b2 : Sts := (.cons (.augI (.var 6) (.bin .Sub (.var 7) (.cst (.int 1))) (.var 8))
    .nil)
def c_forged_r3 : Sts := (.cons (.for (.tp (.cons (.nm 7) (.cons (.nm 8) .nil))) (.zips (.var 5) (.call "changes_at" ["places"] sp_changes_at (.cons (.var 5) .nil)))
  c_forged_b2)
  c_forged_r1)
def c_forged_r4 : Sts := (.cons (.asg (.nm 6) (.blt .listN (.cons (.call "table_of" ["word", "size"] sp_table_of (.cons (.var 0) (.cons (.var 1) .nil))) .nil)))
  c_forged_r3)
def c_forged_r5 : Sts := (.cons (.asg (.nm 5) (.sl (.var 4) .none (.some (.bin .Add (.var 3) (.cst (.int 1))))))
  c_forged_r4)
def c_forged_r6 : Sts := (.cons (.ite (.val (.cmp .Eq (.var 4) (.tup .nil)))
  (.cons (.ret (.cst .non))
    .nil)
  .nil)
  c_forged_r5)
def c_forged : Sts := (.cons (.asg (.nm 4) (.call "missed" ["size", "places", "sums"] sp_missed (.cons (.var 1) (.cons (.var 2) (.cons (.var 3) .nil)))))
  c_forged_r6)
def sp_forged : Spd := fun ds h Q => match ds with
  | [.str s, .int x, .tup ts, .int y] => ∃ (n m : Nat) (ss : List Int), (x = (n : Nat) ∧ y = (m : Nat) ∧ ts = ss.map D.int ∧ Wo s n ss m) ∧ Q (fgD s n ss m) h
  | _ => False
theorem tabD_I (s : Str) (n : Nat) : tabD s n = (tabI s n).map D.int := by
  unfold tabD tabI
  rw [List.map_map]
  rfl
theorem zip_self {c : Int → Int} : ∀ xs : List Int, zipD (xs.map D.int) ((xs.map c).map D.int) = xs.map fun x => D.tup [.int x, .int (c x)]
  | [] => rfl
  | x :: xs => by
    have := zip_self (c := c) xs
    unfold zipD at this ⊢
    simp only [List.map_cons, List.zipWith_cons_cons, this]
theorem b_forged (ds : List D) (h : Hd) (Q : Pq) (q : sp_forged ds h Q) : wSs c_forged { nx := fun _ h' => Out Q .non h', rt := Out Q } (startD N_forged ds) h := by
  have sl : sizeLine = 16777216 := sizeLine_eq
  unfold sp_forged at q
  split at q
  · rename_i s x ts y
    obtain ⟨n, m, ss, ⟨rfl, rfl, rfl, wo⟩, q⟩ := q
    have n2 := wo.n2
    have m9 := wo.m9
    show wSs c_forged _ [some (.str s), some (.int (n : Nat)), some (.tup (ss.map D.int)), some (.int (m : Nat)), none, none, none, none, none] h
    unfold c_forged
    refine st_asgE (e_call rfl trivial ⟨n, ss, ⟨rfl, n2, rfl⟩, ?_⟩)
    unfold misD
    unfold fgD at q
    simp only [List.set_cons_succ, List.set_cons_zero]
    unfold c_forged_r6
    have fi : ∀ zs : List Int, (D.tup (zs.map D.int)).isF = true := fun zs => by
      have := isF_lst.mpr (fun d (hd : d ∈ zs.map D.int) => by obtain ⟨i, _, rfl⟩ := List.mem_map.mp hd; rfl)
      simpa only [D.isF] using this
    by_cases c : m < (oth n ss).length
    · rw [if_pos c] at q
      rw [if_pos (by omega)]
      refine st_iteE (t_val (e_cmp (ev_ok _ rfl trivial (ev_ok _ rfl trivial (eqT_nil (fi _) (w_truth.mpr ?_))))))
      have ne : ((oth n ss).map D.int).isEmpty = false := by
        rw [List.isEmpty_map]
        cases e : oth n ss with
        | nil => rw [e] at c; simp at c
        | cons _ _ => rfl
      rw [ne, if_neg (by decide), wSs]
      dsimp only
      unfold c_forged_r5
      refine st_asgE (e_sl (ev_ok _ rfl trivial (o_none (o_int rfl trivial (sl_tup ?_)))))
      have ec : cutD ((oth n ss).map D.int) none (some (((m : Nat) : Int) + 1)) = (pls n ss m).map D.int := by
        rw [show ((m : Nat) : Int) + 1 = ((m + 1 : Nat) : Int) by omega, cut_to (by rw [List.length_map]; omega), ← List.map_take]
        rfl
      rw [ec]
      have pu := pls_up (n := n) (ss := ss) (m := m)
      have pl := pls_len c
      simp only [List.set_cons_succ, List.set_cons_zero]
      unfold c_forged_r4
      refine st_asgE (e_blt (a_cons (e_call rfl trivial ⟨s, n, rfl, by omega, a_nil ?_⟩)))
      rw [tabD_I]
      simp only [bltD, seqD, vw_tup]
      intro f hf
      simp only [List.set_cons_succ, List.set_cons_zero]
      unfold c_forged_r3
      refine st_forE ?_
      rw [wI]
      refine ev_ok _ rfl trivial (e_call rfl trivial ⟨n, pls n ss m, ⟨rfl, n2, pu, by omega⟩, ?_⟩)
      simp only [zipSI, anyI, lstI]
      refine ⟨by rw [List.length_map, List.length_map, List.length_map], ?_⟩
      rw [zip_self]
      refine forL_ind (fun ds σ g => ∃ (R F : List Int) (x7 x8 : Option D), σ = [some (.str s), some (.int (n : Nat)), some (.tup (ss.map D.int)), some (.int (m : Nat)), some (.tup ((oth n ss).map D.int)), some (.tup ((pls n ss m).map D.int)), some (.ref f), x7, x8] ∧ g = h.set f (.lst (F.map D.int)) ∧ ds = (R.map fun x => D.tup [.int x, .int (chg (pls n ss m) x)]) ∧ F.length = n ∧ addL (chg (pls n ss m)) R F = fgL s n ss m ∧ ∀ x ∈ R, x ∈ upto n) ?_ ?_ _ _ _ ⟨pls n ss m, tabI s n, _, _, rfl, rfl, rfl, tabI_len s n, rfl, pu⟩
      · rintro σ g ⟨R, F, x7, x8, rfl, rfl, e, fl, ef, _⟩
        have : R = [] := by cases R with | nil => rfl | cons _ _ => cases e
        subst this
        have ef : F = fgL s n ss m := ef
        subst ef
        refine ⟨⟨trivial, trivial⟩, ?_⟩
        unfold c_forged_r1
        refine st_retE (e_blt (a_cons (ev_ok _ rfl trivial (a_nil ?_))))
        simp only [bltD, vw_ref, Hd.set_same]
        exact .is ((Hd.le.refl h).set hf) q
      · rintro d ds σ g C ⟨R, F, x7, x8, rfl, rfl, e, fl, ef, hR⟩ hC
        refine ⟨⟨trivial, trivial⟩, ?_⟩
        cases R with
        | nil => cases e
        | cons v R =>
          rw [List.map_cons] at e
          injection e with e1 e2
          subst e1
          subst e2
          obtain ⟨k, rfl, k1, k2⟩ := upto_mem (hR v (by simp))
          have hk : (((k : Nat) : Int) - 1).toNat < F.length := by omega
          have gk : (F.map D.int)[(((k : Nat) : Int) - 1).toNat]? = some (.int (F.getD (((k : Nat) : Int) - 1).toNat 0)) := by
            rw [List.getElem?_map, List.getElem?_eq_getElem hk, List.getD_eq_getElem?_getD, List.getElem?_eq_getElem hk]
            rfl
          have kx : ixN (F.map D.int).length (((k : Nat) : Int) - 1) = some (((k : Nat) : Int) - 1).toNat := ixN_of (by omega) (by rw [List.length_map]; omega)
          have gf : (h.set f (.lst (F.map D.int))) f = some (.lst (F.map D.int)) := Hd.set_same
          simp only [gT, gTs, List.set_cons_succ, List.set_cons_zero]
          unfold c_forged_b2
          rw [wSs, wS]
          refine ev_ok _ rfl trivial (ev_ok _ rfl trivial ?_)
          simp only [augG, gf]
          refine ⟨by omega, _, gk, ev_ok _ rfl trivial (w_intO.mpr ?_)⟩
          simp only [setD, gf, kx]
          rw [Hd.set_set, wSs]
          have em : (F.map D.int).set (((k : Nat) : Int) - 1).toNat (.int (F.getD (((k : Nat) : Int) - 1).toNat 0 + chg (pls n ss m) (k : Nat))) = (F.set (((k : Nat) : Int) - 1).toNat (F.getD (((k : Nat) : Int) - 1).toNat 0 + chg (pls n ss m) (k : Nat))).map D.int := by rw [List.map_set]
          rw [em]
          exact hC _ _ ⟨R, _, _, _, rfl, rfl, rfl, by rw [List.length_set]; exact fl, ef, fun x hx => hR x (by simp [hx])⟩
    · rw [if_neg c] at q
      rw [if_neg (by omega)]
      refine st_iteE (t_val (e_cmp (ev_ok _ rfl trivial (ev_ok _ rfl trivial (eqT_nil rfl (w_truth.mpr ?_))))))
      rw [if_pos (by rfl)]
      exact st_ret rfl trivial (.is (Hd.le.refl _) q)
  · exact q.elim
end K31

/-! Law k31. -/
namespace K31
open PySem PySem.Spec PyProof.Rows G K30
open L2 hiding wE wT

abbrev N_law : List Str := ["_law_script", "_law_deck_here", "_law_turn", "_law_world_here", "_law_sort", "_law_top", "_law_spots", "_law_many", "_law_told", "_law_table", "_law_n"]
def c_law_r1 : Sts := (.cons (.ret (.cst (.bl true)))
  .nil)
def c_law_r2 : Sts := (.cons (.ite (.val (.cmp .IsNot (.call "sample_holds" ["word", "size", "places", "sums", "thing"] sp_sample_holds (.cons (.var 4) (.cons (.var 5) (.cons (.var 6) (.cons (.var 7) (.cons (.var 8) .nil)))))) (.cst (.bl true))))
      (.cons (.ret (.cst (.bl false)))
        .nil)
      .nil)
      .nil)
def c_law_r3 : Sts := (.cons (.ite (.val (.cmp .NotEq (.blt .len (.cons (.lc false [("_law_n", 10)] (.nm 10) (.rng1 (.var 5)) (.some (.val (.cmp .NotEq (.sub (.var 8) (.var 10)) (.sub (.var 9) (.var 10))))) (.var 10)) .nil)) (.bin .Add (.var 7) (.cst (.int 1)))))
      (.cons (.ret (.cst (.bl false)))
        .nil)
      .nil)
      c_law_r2)
def c_law_r4 : Sts := (.cons (.ite (.not (.val (.call "_law_lets" ["_law_world_here", "_law_table", "_law_it"] sp__law_lets (.cons (.var 3) (.cons (.var 9) (.cons (.var 8) .nil))))))
      (.cons (.ret (.cst (.bl false)))
        .nil)
      .nil)
      c_law_r3)
def c_law_r5 : Sts := (.cons (.ite (.val (.cmp .IsNot (.var 8) (.cst .non)))
    (.cons (.asg (.nm 9) (.blt .tuple (.cons (.lc false [("_law_n", 10)] (.nm 10) (.rng1 (.var 5)) .none (.call "_law_due" ["_law_sort", "_law_n"] sp__law_due (.cons (.var 4) (.cons (.bin .Add (.var 10) (.cst (.int 1))) .nil)))) .nil)))
      c_law_r4)
    .nil)
    .nil)
def c_law_r6 : Sts := (.cons (.ite (.or (.val (.cmp .NotEq (.cmp .Is (.var 8) (.cst .non)) (.cmp .Eq (.call "_law_gone" ["_law_world_here"] sp__law_gone (.cons (.var 3) .nil)) (.tup .nil)))) (.val (.cmp .NotEq (.cmp .Is (.var 8) (.cst .non)) (.cmp .Eq (.call "missed" ["size", "places", "sums"] sp_missed (.cons (.var 5) (.cons (.var 6) (.cons (.var 7) .nil)))) (.tup .nil)))))
    (.cons (.ret (.cst (.bl false)))
      .nil)
    .nil)
    c_law_r5)
def c_law_r7 : Sts := (.cons (.ite (.val (.cmp .NotEq (.blt .repr (.cons (.var 8) .nil)) (.blt .repr (.cons (.callK "forged" ["word", "size", "places", "sums"] sp_forged .nil ["sums", "places", "size", "word"] (.cons (.var 7) (.cons (.var 6) (.cons (.var 5) (.cons (.var 4) .nil)))) [3, 2, 1, 0]) .nil))))
    (.cons (.ret (.cst (.bl false)))
      .nil)
    .nil)
    c_law_r6)
def c_law_r8 : Sts := (.cons (.asg (.nm 8) (.call "forged" ["word", "size", "places", "sums"] sp_forged (.cons (.var 4) (.cons (.var 5) (.cons (.var 6) (.cons (.var 7) .nil))))))
    c_law_r7)
def c_law_r9 : Sts := (.cons (.asg (.tp (.cons (.nm 4) (.cons (.nm 5) (.cons (.nm 6) (.cons (.nm 7) .nil))))) (.var 3))
    c_law_r8)
def c_law_b10 : Sts := (.cons (.asg (.nm 3) (.call "_law_world" ["_law_deck_here"] sp__law_world (.cons (.var 1) .nil)))
    c_law_r9)
def c_law_r11 : Sts := (.cons (.for (.nm 2) (.rng1 (.cst (.int 3)))
  c_law_b10)
  c_law_r1)
def c_law : Sts := (.cons (.asg (.nm 1) (.call "_law_deck" ["_law_script"] sp__law_deck (.cons (.var 0) .nil)))
  c_law_r11)
theorem neB {b : Bool} {h : Hd} {Q : Pq} (q : Q (.bl false) h) : cmpD .NotEq (.bl b) (.bl b) h Q := by
  have e2 : PyData.eqv (D.bl b).py (D.bl b).py = true := by cases b <;> rfl
  have go : EqOk (D.bl b) (D.bl b) ∧ Q (.bl (!PyData.eqv (D.bl b).py (D.bl b).py)) h := ⟨⟨by simp only [D.isF], by simp only [D.isF], .inr (by cases b <;> decide +kernel)⟩, by rw [e2]; exact q⟩
  exact go
theorem not_tt {h : Hd} {Q : Pq} (q : Q (.bl false) h) : cmpD .IsNot (.bl true) (.bl true) h Q := q
theorem fg_isF {s : Str} {n : Nat} {ss : List Int} {m : Nat} (nl : n ≤ 200) (m9 : m ≤ 9) : (fgD s n ss m).isF = true := by
  unfold fgD
  split
  · exact (fg_big nl m9).isF
  · rfl
theorem fg_shows {s : Str} {n : Nat} {ss : List Int} {m : Nat} (nl : n ≤ 200) (m9 : m ≤ 9) : Shows (fgD s n ss m) := by
  unfold fgD
  split
  · exact (fg_big nl m9).shows
  · exact shows_small (B := 45) (n := 10) (by decide) (by decide) (by simp only [D.small]) (by simp [D.dep]) (by simp [D.cnt]) (by decide)
theorem fg_non {s : Str} {n : Nat} {ss : List Int} {m : Nat} : isNon (fgD s n ss m) = !decide (m < (oth n ss).length) := by
  unfold fgD
  split
  · rename_i c
    rw [decide_eq_true c]
    rfl
  · rename_i c
    rw [decide_eq_false c]
    rfl
theorem mis_nil {n : Nat} {ss : List Int} {m : Nat} : ∃ zs : List Int, misD n ss (m : Nat) = .tup (zs.map D.int) ∧ (zs.map D.int).isEmpty = !decide (m < (oth n ss).length) := by
  unfold misD
  by_cases c : m < (oth n ss).length
  · rw [if_pos (by omega), decide_eq_true c]
    refine ⟨_, rfl, ?_⟩
    rw [List.isEmpty_map]
    cases e : oth n ss with
    | nil => rw [e] at c; simp at c
    | cons _ _ => rfl
  · rw [if_neg (by omega), decide_eq_false c]
    exact ⟨[], rfl, rfl⟩
def fDue (s : Str) : D → D
  | .int i => .int ((rowV s (i.toNat + 1) : Nat) : Int)
  | d => d
theorem due_tab (s : Str) (n : Nat) : (rngD 0 n).map (fDue s) = (tabI s n).map D.int := by
  unfold rngD tabI
  rw [List.map_map, List.map_map]
  refine List.map_congr_left fun i _ => ?_
  show D.int ((rowV s (((0 : Int) + ((i : Nat) : Int)).toNat + 1) : Nat) : Int) = _
  rw [Int.zero_add, Int.toNat_natCast]
  rfl
theorem rng_up (n : Nat) : rngD 0 n = (upto n).map fun x => D.int (x - 1) := by
  unfold rngD upto
  rw [List.map_map]
  refine List.map_congr_left fun i _ => ?_
  show D.int ((0 : Int) + ((i : Nat) : Int)) = D.int ((1 : Int) + ((i : Nat) : Int) - 1)
  congr 1
  omega
theorem isF_ints (zs : List Int) : (D.tup (zs.map D.int)).isF = true := by
  have := isF_lst.mpr (fun d (hd : d ∈ zs.map D.int) => by obtain ⟨i, _, rfl⟩ := List.mem_map.mp hd; rfl)
  simpa only [D.isF] using this
section
variable {Q : Pq} {s : Str} {n m : Nat} {ss : List Int} {x0 x2 : Option D}
theorem law_r5 {g : Hd} {C : Sl → Hd → Prop} {B : Sl → Hd → Prop} {x9 x10 : Option D} (wo : Wo s n ss m)
    (hC : ∀ (x9 x10 : Option D), C [x0, some .deck, x2, some (woD s n ss m), some (.str s), some (.int (n : Nat)), some (.tup (ss.map D.int)), some (.int (m : Nat)), some (fgD s n ss m), x9, x10] g) :
    wSs c_law_r5 { nx := C, ct := C, bk := B, rt := Out Q } [x0, some .deck, x2, some (woD s n ss m), some (.str s), some (.int (n : Nat)), some (.tup (ss.map D.int)), some (.int (m : Nat)), some (fgD s n ss m), x9, x10] g := by
  have n1 := wo.n1
  have n2 := wo.n2
  have m9 := wo.m9
  unfold c_law_r5
  refine st_iteE (t_val (e_cmp (ev_ok _ rfl trivial (ev_ok _ rfl trivial (w_isNt.mpr (w_truth.mpr ?_))))))
  rw [fg_non, Bool.not_not]
  by_cases c : m < (oth n ss).length
  · have kb := fg_big (s := s) (ss := ss) n2 m9
    have kl := fg_len s n ss m
    have kh := fg_holds wo c
    have kc := fg_count (s := s) n2 m9 c
    have eD : fgD s n ss m = .tup ((fgL s n ss m).map D.int) := by unfold fgD; rw [if_pos c]
    rw [eD] at hC ⊢
    generalize fgL s n ss m = R at *
    rw [if_pos (decide_eq_true c)]
    refine st_asgE (e_blt (a_cons ?_))
    rw [wE, wI]
    refine ev_ok _ rfl trivial ⟨by omega, ?_⟩
    rw [Int.toNat_natCast]
    refine compL_map (fDue s) trivial _ _ (fun d hd Y Z y => ?_) ?_
    · obtain ⟨i, hi, rfl⟩ := rngD_mem hd
      rw [Int.zero_add] at y
      simp only [gT, wTo, if_true, wipeD, List.map_cons, List.map_nil, List.set_cons_succ, List.set_cons_zero, Int.zero_add]
      refine e_call rfl trivial ⟨s, i + 1, rfl, wo.w, by omega, by omega, ?_⟩
      have y : Y (.int ((rowV s ((((i : Nat) : Int)).toNat + 1) : Nat) : Int)) g := y
      rw [Int.toNat_natCast] at y
      exact y
    · simp only [listed, List.nil_append]
      rw [due_tab]
      refine a_nil (w_tupL.mpr ?_)
      simp only [List.set_cons_succ, List.set_cons_zero]
      have hb : holdB s n ss m (.tup (R.map D.int)) = true := by rw [holdB_ints]; exact kh
      unfold c_law_r4
      refine st_iteE (t_not (t_val (e_call rfl trivial ⟨s, n, ss, m, ⟨rfl, rfl, wo, kb.bd (by omega)⟩, w_truth.mpr ?_⟩)))
      rw [hb, if_neg (by decide), wSs]
      dsimp only
      unfold c_law_r3
      refine st_iteE (t_val (e_cmp (e_blt (a_cons ?_))))
      rw [wE, wI]
      refine ev_ok _ rfl trivial ⟨by omega, ?_⟩
      rw [Int.toNat_natCast]
      have tl := tabI_len s n
      refine compL_flt (fun d => !decide (R.getD (intI d).toNat 0 = (tabI s n).getD (intI d).toNat 0)) id trivial _ _ (fun d hd Y Z y z => ?_) ?_
      · obtain ⟨i, hi, rfl⟩ := rngD_mem hd
        rw [Int.zero_add] at y z ⊢
        have at1 : ∀ zs : List Int, zs.length = n → atI (zs.map D.int) ((i : Nat) : Int) = some (.int (zs.getD i 0)) := fun zs hz => atI_nat (by
          rw [List.getElem?_map, List.getD_eq_getElem?_getD, List.getElem?_eq_getElem (by omega)]
          rfl)
        simp only [gT, wipeD, List.map_cons, List.map_nil, List.set_cons_succ, List.set_cons_zero]
        rw [wTo]
        refine t_val (e_cmp (e_sub (ev_ok _ rfl trivial (ev_ok _ rfl trivial ((w_subT (at1 R kl)).mpr (e_sub (ev_ok _ rfl trivial (ev_ok _ rfl trivial ((w_subT (at1 _ tl)).mpr (w_ne.mpr (w_truth.mpr ?_)))))))))))
        have y : (!decide (R.getD i 0 = (tabI s n).getD i 0)) = true → Y (.int ((i : Nat) : Int)) g := y
        have z : (!decide (R.getD i 0 = (tabI s n).getD i 0)) = false → Z g := z
        cases ei : !decide (R.getD i 0 = (tabI s n).getD i 0)
        · rw [if_neg (by decide)]
          exact z ei
        · rw [if_pos rfl]
          exact ev_ok _ rfl trivial (y ei)
      · simp only [listed, List.nil_append]
        refine a_nil (w_lenL.mpr (ev_ok _ rfl trivial (w_ne.mpr (w_truth.mpr ?_))))
        have el : (((rngD 0 n).filter fun d => !decide (R.getD (intI d).toNat 0 = (tabI s n).getD (intI d).toNat 0)).map id).length = m + 1 := by
          rw [List.length_map, rng_up, List.filter_map, List.length_map]
          exact kc
        rw [el]
        have e1 : (!decide (((m + 1 : Nat) : Int) = ((m : Nat) : Int) + 1)) = false := by rw [decide_eq_true (by omega)]; rfl
        rw [e1, if_neg (by decide), wSs]
        dsimp only
        unfold c_law_r2
        refine st_iteE (t_val (e_cmp (e_call rfl trivial ⟨n, m, ss, ⟨rfl, rfl, rfl, wo, kb.bd (by omega)⟩, ?_⟩)))
        rw [hb]
        refine ev_ok _ rfl trivial (not_tt (w_truth.mpr ?_))
        rw [if_neg (by decide), wSs]
        dsimp only
        rw [wSs]
        exact hC _ _
  · rw [if_neg (fun z => c (of_decide_eq_true z)), wSs]
    dsimp only
    rw [wSs]
    exact hC _ _
theorem law_b10 {g : Hd} {C : Sl → Hd → Prop} {B : Sl → Hd → Prop} {x3 x4 x5 x6 x7 x8 x9 x10 : Option D}
    (hC : ∀ (x3 x4 x5 x6 x7 x8 x9 x10 : Option D) (g' : Hd), C [x0, some .deck, x2, x3, x4, x5, x6, x7, x8, x9, x10] g') :
    wSs c_law_b10 { nx := C, ct := C, bk := B, rt := Out Q } [x0, some .deck, x2, x3, x4, x5, x6, x7, x8, x9, x10] g := by
  unfold c_law_b10
  refine st_asgE (e_call rfl trivial fun s n ss m wo ls => ?_)
  have n1 := wo.n1
  have n2 := wo.n2
  have m9 := wo.m9
  simp only [List.set_cons_succ, List.set_cons_zero]
  unfold c_law_r9
  rw [wSs, wS]
  refine ev_ok _ rfl trivial ?_
  show gT (.tp _) (.tup [.str s, .int (n : Nat), .tup (ss.map D.int), .int (m : Nat)]) _ _
  rw [w_tp, w_tc, w_nm, w_tc, w_nm, w_tc, w_nm, w_tc, w_nm, w_tn]
  simp only [List.set_cons_succ, List.set_cons_zero]
  have ff := fg_isF (s := s) (ss := ss) n2 m9
  have fs := fg_shows (s := s) (ss := ss) n2 m9
  have fc : ∀ {h : Hd} {R : Pq}, R (fgD s n ss m) h → sp_forged [.str s, .int (n : Nat), .tup (ss.map D.int), .int (m : Nat)] h R := fun r => ⟨n, m, ss, ⟨rfl, rfl, rfl, wo⟩, r⟩
  obtain ⟨zs, em, ez⟩ := mis_nil (n := n) (ss := ss) (m := m)
  have gc : ∀ {h : Hd} {R : Pq}, R (.tup (zs.map D.int)) h → sp__law_gone [woD s n ss m] h R := fun r => ⟨s, n, ss, m, ⟨rfl, n2⟩, by rw [em]; exact r⟩
  have mc : ∀ {h : Hd} {R : Pq}, R (.tup (zs.map D.int)) h → sp_missed [.int (n : Nat), .tup (ss.map D.int), .int (m : Nat)] h R := fun r => ⟨n, ss, ⟨rfl, n2, rfl⟩, by rw [em]; exact r⟩
  have last := fun (x9 x10 : Option D) => law_r5 (Q := Q) (x0 := x0) (x2 := x2) (g := g) (C := C) (B := B) (x9 := x9) (x10 := x10) wo (fun _ _ => hC _ _ _ _ _ _ _ _ _)
  have nn := fg_non (s := s) (n := n) (ss := ss) (m := m)
  generalize fgD s n ss m = T at *
  unfold c_law_r8
  refine st_asgE (e_call rfl trivial (fc ?_))
  simp only [List.set_cons_succ, List.set_cons_zero]
  unfold c_law_r7
  refine st_iteE (t_val (e_cmp (e_repr (d := T) rfl trivial ff fs (e_blt (a_cons (e_callK (gs := [.str s, .int (n : Nat), .tup (ss.map D.int), .int (m : Nat)]) rfl trivial rfl trivial rfl (fc (a_nil (repr_w ff fs (ne_same (w_truth.mpr ?_)))))))))))
  rw [if_neg (by decide), wSs]
  dsimp only
  unfold c_law_r6
  refine st_iteE (t_or (t_val (e_cmp (e_cmp (ev_ok _ rfl trivial (ev_ok _ rfl trivial (w_isN.mpr (e_cmp (e_call rfl trivial (gc (ev_ok _ rfl trivial (eqT_nil (isF_ints zs) ?_))))))))))))
  rw [ez, ← nn]
  refine neB (w_truth.mpr ?_)
  rw [if_neg (by decide)]
  refine t_val (e_cmp (e_cmp (ev_ok _ rfl trivial (ev_ok _ rfl trivial (w_isN.mpr (e_cmp (e_call rfl trivial (mc (ev_ok _ rfl trivial (eqT_nil (isF_ints zs) ?_))))))))))
  rw [ez, ← nn]
  refine neB (w_truth.mpr ?_)
  rw [if_neg (by decide), wSs]
  dsimp only
  exact last _ _
end
theorem b_law (ds : List D) (h : Hd) (Q : Pq) (q : spLaw ds h Q) : wSs c_law { nx := fun _ h' => Out Q .non h', rt := Out Q } (startD N_law ds) h := by
  obtain ⟨rfl, q⟩ := q
  show wSs c_law _ [some .scr, none, none, none, none, none, none, none, none, none, none] h
  unfold c_law
  refine st_asgE (e_call rfl trivial ⟨rfl, ?_⟩)
  simp only [List.set_cons_succ, List.set_cons_zero]
  unfold c_law_r11
  refine st_forE ?_
  rw [wI]
  refine ev_ok _ rfl trivial ⟨by decide, ?_⟩
  refine forL_rng (fun i σ g' => ∃ (x2 x3 x4 x5 x6 x7 x8 x9 x10 : Option D), σ = [some .scr, some .deck, x2, x3, x4, x5, x6, x7, x8, x9, x10]) ?_ ?_ ⟨_, _, _, _, _, _, _, _, _, rfl⟩
  · rintro σ g' ⟨x2, x3, x4, x5, x6, x7, x8, x9, x10, rfl⟩
    refine ⟨trivial, ?_⟩
    unfold c_law_r1
    exact st_ret rfl trivial (.is (Hd.le.refl _) (q g'))
  · rintro i σ g' C hi ⟨x2, x3, x4, x5, x6, x7, x8, x9, x10, rfl⟩ hC
    refine ⟨trivial, ?_⟩
    simp only [gT, List.set_cons_succ, List.set_cons_zero]
    exact law_b10 fun _ _ _ _ _ _ _ _ g2 => hC _ _ ⟨_, _, _, _, _, _, _, _, _, rfl⟩
end K31

namespace K31
open PySem PySem.Spec PyProof.Rows L2 G K30
def topS (i : Nat) : Stmt := PySem.Challenge.pw_surenumbers_k31_forged_tables.main.body.getD i (.Pass ⟨0, 0, 0, 0⟩)
section
variable {P : Program} {w : World} {K : PySem.W.Frag} {mg : Str → Option Value} {base : Heap}
theorem sc_is_whole : FnScope N_is_whole ["thing"] (defScope (topS 1)) := ⟨rfl, rfl, rfl, by decide +kernel, rfl, by decide +kernel, by decide +kernel⟩
theorem ht_is_whole : tSs N_is_whole (defScope (topS 1)) (fun _ => true) c_is_whole (defBody (topS 1)) = true := by decide +kernel
theorem at_is_whole {f : Addr} {fd : FuncData} (F : Fun K "is_whole" "is_whole" (topS 1) f fd) (g : mg "is_whole" = some (.ref f)) (hn : NoOwn mg base)   : FnAt P w K mg base 1 "is_whole" ["thing"] sp_is_whole :=
  fn_at F g (by decide +kernel) sc_is_whole hn ht_is_whole (by simp only [c_is_whole, hSs, hS, hX, hE, hA, hI, hC, hO, List.map_cons, List.map_nil, and_true, true_and, and_self]) (fun ds h Q q => by first | exact False.elim q | (unfold sp_is_whole at q; split at q <;> first | rfl | exact q.elim) | (obtain ⟨rfl, _⟩ := q; rfl) | (obtain ⟨_, rfl, _⟩ := q; rfl) | (obtain ⟨_, _, rfl, _⟩ := q; rfl) | (obtain ⟨_, _, _, rfl, _⟩ := q; rfl) | (obtain ⟨_, _, _, _, rfl, _⟩ := q; rfl) | (obtain ⟨_, _, _, _, _, rfl, _⟩ := q; rfl)) b_is_whole
theorem sc_power_of : FnScope N_power_of ["base", "many"] (defScope (topS 3)) := ⟨rfl, rfl, rfl, by decide +kernel, rfl, by decide +kernel, by decide +kernel⟩
theorem ht_power_of : tSs N_power_of (defScope (topS 3)) (fun _ => true) c_power_of (defBody (topS 3)) = true := by decide +kernel
theorem at_power_of {f : Addr} {fd : FuncData} (F : Fun K "power_of" "power_of" (topS 3) f fd) (g : mg "power_of" = some (.ref f)) (hn : NoOwn mg base)   : FnAt P w K mg base 1 "power_of" ["base", "many"] sp_power_of :=
  fn_at F g (by decide +kernel) sc_power_of hn ht_power_of (by simp only [c_power_of, c_power_of_b3, c_power_of_r1, c_power_of_r2, hSs, hS, hX, hE, hA, hI, hC, hO, List.map_cons, List.map_nil, and_true, true_and, and_self]) (fun ds h Q q => by first | exact False.elim q | (unfold sp_power_of at q; split at q <;> first | rfl | exact q.elim) | (obtain ⟨rfl, _⟩ := q; rfl) | (obtain ⟨_, rfl, _⟩ := q; rfl) | (obtain ⟨_, _, rfl, _⟩ := q; rfl) | (obtain ⟨_, _, _, rfl, _⟩ := q; rfl) | (obtain ⟨_, _, _, _, rfl, _⟩ := q; rfl) | (obtain ⟨_, _, _, _, _, rfl, _⟩ := q; rfl)) b_power_of
theorem sc_shared_divisor : FnScope N_shared_divisor ["one", "other"] (defScope (topS 4)) := ⟨rfl, rfl, rfl, by decide +kernel, rfl, by decide +kernel, by decide +kernel⟩
theorem ht_shared_divisor : tSs N_shared_divisor (defScope (topS 4)) (fun _ => true) c_shared_divisor (defBody (topS 4)) = true := by decide +kernel
theorem at_shared_divisor {f : Addr} {fd : FuncData} (F : Fun K "shared_divisor" "shared_divisor" (topS 4) f fd) (g : mg "shared_divisor" = some (.ref f)) (hn : NoOwn mg base)   : FnAt P w K mg base 1 "shared_divisor" ["one", "other"] sp_shared_divisor :=
  fn_at F g (by decide +kernel) sc_shared_divisor hn ht_shared_divisor (by simp only [c_shared_divisor, c_shared_divisor_b2, c_shared_divisor_r1, hSs, hS, hX, hE, hA, hI, hC, hO, List.map_cons, List.map_nil, and_true, true_and, and_self]) (fun ds h Q q => by first | exact False.elim q | (unfold sp_shared_divisor at q; split at q <;> first | rfl | exact q.elim) | (obtain ⟨rfl, _⟩ := q; rfl) | (obtain ⟨_, rfl, _⟩ := q; rfl) | (obtain ⟨_, _, rfl, _⟩ := q; rfl) | (obtain ⟨_, _, _, rfl, _⟩ := q; rfl) | (obtain ⟨_, _, _, _, rfl, _⟩ := q; rfl) | (obtain ⟨_, _, _, _, _, rfl, _⟩ := q; rfl)) b_shared_divisor
theorem sc_divisors_of : FnScope N_divisors_of ["number"] (defScope (topS 6)) := ⟨rfl, rfl, rfl, by decide +kernel, rfl, by decide +kernel, by decide +kernel⟩
theorem ht_divisors_of : tSs N_divisors_of (defScope (topS 6)) (fun _ => true) c_divisors_of (defBody (topS 6)) = true := by decide +kernel
theorem at_divisors_of {f : Addr} {fd : FuncData} (F : Fun K "divisors_of" "divisors_of" (topS 6) f fd) (g : mg "divisors_of" = some (.ref f)) (hn : NoOwn mg base)   : FnAt P w K mg base 1 "divisors_of" ["number"] sp_divisors_of :=
  fn_at F g (by decide +kernel) sc_divisors_of hn ht_divisors_of (by simp only [c_divisors_of, c_divisors_of_b3, c_divisors_of_r1, c_divisors_of_r2, hSs, hS, hX, hE, hA, hI, hC, hO, List.map_cons, List.map_nil, and_true, true_and, and_self]) (fun ds h Q q => by first | exact False.elim q | (unfold sp_divisors_of at q; split at q <;> first | rfl | exact q.elim) | (obtain ⟨rfl, _⟩ := q; rfl) | (obtain ⟨_, rfl, _⟩ := q; rfl) | (obtain ⟨_, _, rfl, _⟩ := q; rfl) | (obtain ⟨_, _, _, rfl, _⟩ := q; rfl) | (obtain ⟨_, _, _, _, rfl, _⟩ := q; rfl) | (obtain ⟨_, _, _, _, _, rfl, _⟩ := q; rfl)) b_divisors_of
theorem sc_missed : FnScope N_missed ["size", "places", "sums"] (defScope (topS 13)) := ⟨rfl, rfl, rfl, by decide +kernel, rfl, by decide +kernel, by decide +kernel⟩
theorem ht_missed : tSs N_missed (defScope (topS 13)) (fun _ => true) c_missed (defBody (topS 13)) = true := by decide +kernel
theorem at_missed {f : Addr} {fd : FuncData} (F : Fun K "missed" "missed" (topS 13) f fd) (g : mg "missed" = some (.ref f)) (hn : NoOwn mg base)   : FnAt P w K mg base 1 "missed" ["size", "places", "sums"] sp_missed :=
  fn_at F g (by decide +kernel) sc_missed hn ht_missed (by simp only [c_missed, c_missed_r1, hSs, hS, hX, hE, hA, hI, hC, hO, List.map_cons, List.map_nil, and_true, true_and, and_self]) (fun ds h Q q => by first | exact False.elim q | (unfold sp_missed at q; split at q <;> first | rfl | exact q.elim) | (obtain ⟨rfl, _⟩ := q; rfl) | (obtain ⟨_, rfl, _⟩ := q; rfl) | (obtain ⟨_, _, rfl, _⟩ := q; rfl) | (obtain ⟨_, _, _, rfl, _⟩ := q; rfl) | (obtain ⟨_, _, _, _, rfl, _⟩ := q; rfl) | (obtain ⟨_, _, _, _, _, rfl, _⟩ := q; rfl)) b_missed
theorem sc__law_deck : FnScope N__law_deck ["_law_script"] (defScope (topS 17)) := ⟨rfl, rfl, rfl, by decide +kernel, rfl, by decide +kernel, by decide +kernel⟩
theorem ht__law_deck : tSs N__law_deck (defScope (topS 17)) (fun _ => true) c__law_deck (defBody (topS 17)) = true := by decide +kernel
theorem at__law_deck {f : Addr} {fd : FuncData} (F : Fun K "_law_deck" "_law_deck" (topS 17) f fd) (g : mg "_law_deck" = some (.ref f)) (hn : NoOwn mg base)   : FnAt P w K mg base 1 "_law_deck" ["_law_script"] sp__law_deck :=
  fn_at F g (by decide +kernel) sc__law_deck hn ht__law_deck (by simp only [c__law_deck, hSs, hS, hX, hE, hA, hI, hC, hO, List.map_cons, List.map_nil, and_true, true_and, and_self]) (fun ds h Q q => by first | exact False.elim q | (unfold sp__law_deck at q; split at q <;> first | rfl | exact q.elim) | (obtain ⟨rfl, _⟩ := q; rfl) | (obtain ⟨_, rfl, _⟩ := q; rfl) | (obtain ⟨_, _, rfl, _⟩ := q; rfl) | (obtain ⟨_, _, _, rfl, _⟩ := q; rfl) | (obtain ⟨_, _, _, _, rfl, _⟩ := q; rfl) | (obtain ⟨_, _, _, _, _, rfl, _⟩ := q; rfl)) b__law_deck
theorem sc__law_draw : FnScope N__law_draw ["_law_deck_here", "_law_many"] (defScope (topS 18)) := ⟨rfl, rfl, rfl, by decide +kernel, rfl, by decide +kernel, by decide +kernel⟩
theorem ht__law_draw : tSs N__law_draw (defScope (topS 18)) (fun _ => true) c__law_draw (defBody (topS 18)) = true := by decide +kernel
theorem at__law_draw {f : Addr} {fd : FuncData} (F : Fun K "_law_draw" "_law_draw" (topS 18) f fd) (g : mg "_law_draw" = some (.ref f)) (hn : NoOwn mg base)   : FnAt P w K mg base 1 "_law_draw" ["_law_deck_here", "_law_many"] sp__law_draw :=
  draw_deck (fn_at F g (by decide +kernel) sc__law_draw hn ht__law_draw (by simp only [c__law_draw, c_mix, hSs, hS, hX, hE, hA, hI, hC, hO, List.map_cons, List.map_nil, and_true, true_and, and_self]) (fun ds h Q q => by first | (obtain ⟨rfl, _⟩ := q; rfl) | (obtain ⟨_, rfl, _⟩ := q; rfl) | (obtain ⟨_, _, rfl, _⟩ := q; rfl) | (obtain ⟨_, _, _, rfl, _⟩ := q; rfl)) b__law_draw)
theorem sc__law_is_whole : FnScope N__law_is_whole ["_law_it"] (defScope (topS 20)) := ⟨rfl, rfl, rfl, by decide +kernel, rfl, by decide +kernel, by decide +kernel⟩
theorem ht__law_is_whole : tSs N__law_is_whole (defScope (topS 20)) (fun _ => true) c__law_is_whole (defBody (topS 20)) = true := by decide +kernel
theorem at__law_is_whole {f : Addr} {fd : FuncData} (F : Fun K "_law_is_whole" "_law_is_whole" (topS 20) f fd) (g : mg "_law_is_whole" = some (.ref f)) (hn : NoOwn mg base)   : FnAt P w K mg base 1 "_law_is_whole" ["_law_it"] sp__law_is_whole :=
  fn_at F g (by decide +kernel) sc__law_is_whole hn ht__law_is_whole (by simp only [c__law_is_whole, hSs, hS, hX, hE, hA, hI, hC, hO, List.map_cons, List.map_nil, and_true, true_and, and_self]) (fun ds h Q q => by first | exact False.elim q | (unfold sp__law_is_whole at q; split at q <;> first | rfl | exact q.elim) | (obtain ⟨rfl, _⟩ := q; rfl) | (obtain ⟨_, rfl, _⟩ := q; rfl) | (obtain ⟨_, _, rfl, _⟩ := q; rfl) | (obtain ⟨_, _, _, rfl, _⟩ := q; rfl) | (obtain ⟨_, _, _, _, rfl, _⟩ := q; rfl) | (obtain ⟨_, _, _, _, _, rfl, _⟩ := q; rfl)) b__law_is_whole
theorem sc__law_due : FnScope N__law_due ["_law_sort", "_law_n"] (defScope (topS 21)) := ⟨rfl, rfl, rfl, by decide +kernel, rfl, by decide +kernel, by decide +kernel⟩
theorem ht__law_due : tSs N__law_due (defScope (topS 21)) (fun _ => true) c__law_due (defBody (topS 21)) = true := by decide +kernel
theorem at__law_due {f : Addr} {fd : FuncData} (F : Fun K "_law_due" "_law_due" (topS 21) f fd) (g : mg "_law_due" = some (.ref f)) (hn : NoOwn mg base)   : FnAt P w K mg base 1 "_law_due" ["_law_sort", "_law_n"] sp__law_due :=
  fn_at F g (by decide +kernel) sc__law_due hn ht__law_due (by simp only [c__law_due, c__law_due_b3, c__law_due_r1, c__law_due_r2, hSs, hS, hX, hE, hA, hI, hC, hO, List.map_cons, List.map_nil, and_true, true_and, and_self]) (fun ds h Q q => by first | exact False.elim q | (unfold sp__law_due at q; split at q <;> first | rfl | exact q.elim) | (obtain ⟨rfl, _⟩ := q; rfl) | (obtain ⟨_, rfl, _⟩ := q; rfl) | (obtain ⟨_, _, rfl, _⟩ := q; rfl) | (obtain ⟨_, _, _, rfl, _⟩ := q; rfl) | (obtain ⟨_, _, _, _, rfl, _⟩ := q; rfl) | (obtain ⟨_, _, _, _, _, rfl, _⟩ := q; rfl)) b__law_due
theorem sc__law_gone : FnScope N__law_gone ["_law_world_here"] (defScope (topS 23)) := ⟨rfl, rfl, rfl, by decide +kernel, rfl, by decide +kernel, by decide +kernel⟩
theorem ht__law_gone : tSs N__law_gone (defScope (topS 23)) (fun _ => true) c__law_gone (defBody (topS 23)) = true := by decide +kernel
theorem at__law_gone {f : Addr} {fd : FuncData} (F : Fun K "_law_gone" "_law_gone" (topS 23) f fd) (g : mg "_law_gone" = some (.ref f)) (hn : NoOwn mg base)   : FnAt P w K mg base 1 "_law_gone" ["_law_world_here"] sp__law_gone :=
  fn_at F g (by decide +kernel) sc__law_gone hn ht__law_gone (by simp only [c__law_gone, c__law_gone_r1, c__law_gone_r2, hSs, hS, hX, hE, hA, hI, hC, hO, List.map_cons, List.map_nil, and_true, true_and, and_self]) (fun ds h Q q => by first | exact False.elim q | (unfold sp__law_gone at q; split at q <;> first | rfl | exact q.elim) | (obtain ⟨rfl, _⟩ := q; rfl) | (obtain ⟨_, rfl, _⟩ := q; rfl) | (obtain ⟨_, _, rfl, _⟩ := q; rfl) | (obtain ⟨_, _, _, rfl, _⟩ := q; rfl) | (obtain ⟨_, _, _, _, rfl, _⟩ := q; rfl) | (obtain ⟨_, _, _, _, _, rfl, _⟩ := q; rfl)) b__law_gone
theorem sc_are_wholes : FnScope N_are_wholes ["thing"] (defScope (topS 2)) := ⟨rfl, rfl, rfl, by decide +kernel, rfl, by decide +kernel, by decide +kernel⟩
theorem ht_are_wholes : tSs N_are_wholes (defScope (topS 2)) (fun _ => true) c_are_wholes (defBody (topS 2)) = true := by decide +kernel
theorem at_are_wholes {f : Addr} {fd : FuncData} (F : Fun K "are_wholes" "are_wholes" (topS 2) f fd) (g : mg "are_wholes" = some (.ref f)) (hn : NoOwn mg base) (Fis_whole : FnAt P w K mg base 1 "is_whole" ["thing"] sp_is_whole)  : FnAt P w K mg base 2 "are_wholes" ["thing"] sp_are_wholes :=
  fn_at F g (by decide +kernel) sc_are_wholes hn ht_are_wholes (by simp only [c_are_wholes, hSs, hS, hX, hE, hA, hI, hC, hO, List.map_cons, List.map_nil, and_true, true_and, and_self, (show FnAt P w K mg base 1 "is_whole" ["thing"] sp_is_whole from Fis_whole.up (by decide))]) (fun ds h Q q => by first | exact False.elim q | (unfold sp_are_wholes at q; split at q <;> first | rfl | exact q.elim) | (obtain ⟨rfl, _⟩ := q; rfl) | (obtain ⟨_, rfl, _⟩ := q; rfl) | (obtain ⟨_, _, rfl, _⟩ := q; rfl) | (obtain ⟨_, _, _, rfl, _⟩ := q; rfl) | (obtain ⟨_, _, _, _, rfl, _⟩ := q; rfl) | (obtain ⟨_, _, _, _, _, rfl, _⟩ := q; rfl)) b_are_wholes
theorem sc_row_of : FnScope N_row_of ["word", "number"] (defScope (topS 7)) := ⟨rfl, rfl, rfl, by decide +kernel, rfl, by decide +kernel, by decide +kernel⟩
theorem ht_row_of : tSs N_row_of (defScope (topS 7)) (fun _ => true) c_row_of (defBody (topS 7)) = true := by decide +kernel
theorem at_row_of {f : Addr} {fd : FuncData} (F : Fun K "row_of" "row_of" (topS 7) f fd) (g : mg "row_of" = some (.ref f)) (hn : NoOwn mg base) (Fdivisors_of : FnAt P w K mg base 1 "divisors_of" ["number"] sp_divisors_of)  : FnAt P w K mg base 2 "row_of" ["word", "number"] sp_row_of :=
  fn_at F g (by decide +kernel) sc_row_of hn ht_row_of (by simp only [c_row_of, c_row_of_r1, c_row_of_r2, hSs, hS, hX, hE, hA, hI, hC, hO, List.map_cons, List.map_nil, and_true, true_and, and_self, (show FnAt P w K mg base 1 "divisors_of" ["number"] sp_divisors_of from Fdivisors_of.up (by decide))]) (fun ds h Q q => by first | exact False.elim q | (unfold sp_row_of at q; split at q <;> first | rfl | exact q.elim) | (obtain ⟨rfl, _⟩ := q; rfl) | (obtain ⟨_, rfl, _⟩ := q; rfl) | (obtain ⟨_, _, rfl, _⟩ := q; rfl) | (obtain ⟨_, _, _, rfl, _⟩ := q; rfl) | (obtain ⟨_, _, _, _, rfl, _⟩ := q; rfl) | (obtain ⟨_, _, _, _, _, rfl, _⟩ := q; rfl)) b_row_of
theorem sc_sum_of : FnScope N_sum_of ["rows", "power"] (defScope (topS 9)) := ⟨rfl, rfl, rfl, by decide +kernel, rfl, by decide +kernel, by decide +kernel⟩
theorem ht_sum_of : tSs N_sum_of (defScope (topS 9)) (fun _ => true) c_sum_of (defBody (topS 9)) = true := by decide +kernel
theorem at_sum_of {f : Addr} {fd : FuncData} (F : Fun K "sum_of" "sum_of" (topS 9) f fd) (g : mg "sum_of" = some (.ref f)) (hn : NoOwn mg base) (Fpower_of : FnAt P w K mg base 1 "power_of" ["base", "many"] sp_power_of)  : FnAt P w K mg base 2 "sum_of" ["rows", "power"] sp_sum_of :=
  fn_at F g (by decide +kernel) sc_sum_of hn ht_sum_of (by simp only [c_sum_of, hSs, hS, hX, hE, hA, hI, hC, hO, List.map_cons, List.map_nil, and_true, true_and, and_self, (show FnAt P w K mg base 1 "power_of" ["base", "many"] sp_power_of from Fpower_of.up (by decide))]) (fun ds h Q q => by first | exact False.elim q | (unfold sp_sum_of at q; split at q <;> first | rfl | exact q.elim) | (obtain ⟨rfl, _⟩ := q; rfl) | (obtain ⟨_, rfl, _⟩ := q; rfl) | (obtain ⟨_, _, rfl, _⟩ := q; rfl) | (obtain ⟨_, _, _, rfl, _⟩ := q; rfl) | (obtain ⟨_, _, _, _, rfl, _⟩ := q; rfl) | (obtain ⟨_, _, _, _, _, rfl, _⟩ := q; rfl)) b_sum_of
theorem sc_due_sum : FnScope N_due_sum ["word", "size", "power"] (defScope (topS 10)) := ⟨rfl, rfl, rfl, by decide +kernel, rfl, by decide +kernel, by decide +kernel⟩
theorem ht_due_sum : tSs N_due_sum (defScope (topS 10)) (fun _ => true) c_due_sum (defBody (topS 10)) = true := by decide +kernel
theorem at_due_sum {f : Addr} {fd : FuncData} (F : Fun K "due_sum" "due_sum" (topS 10) f fd) (g : mg "due_sum" = some (.ref f)) (hn : NoOwn mg base) (Fpower_of : FnAt P w K mg base 1 "power_of" ["base", "many"] sp_power_of)  : FnAt P w K mg base 2 "due_sum" ["word", "size", "power"] sp_due_sum :=
  fn_at F g (by decide +kernel) sc_due_sum hn ht_due_sum (by simp only [c_due_sum, c_due_sum_b2, c_due_sum_r1, hSs, hS, hX, hE, hA, hI, hC, hO, List.map_cons, List.map_nil, and_true, true_and, and_self, (show FnAt P w K mg base 1 "power_of" ["base", "many"] sp_power_of from Fpower_of.up (by decide))]) (fun ds h Q q => by first | exact False.elim q | (unfold sp_due_sum at q; split at q <;> first | rfl | exact q.elim) | (obtain ⟨rfl, _⟩ := q; rfl) | (obtain ⟨_, rfl, _⟩ := q; rfl) | (obtain ⟨_, _, rfl, _⟩ := q; rfl) | (obtain ⟨_, _, _, rfl, _⟩ := q; rfl) | (obtain ⟨_, _, _, _, rfl, _⟩ := q; rfl) | (obtain ⟨_, _, _, _, _, rfl, _⟩ := q; rfl)) b_due_sum
theorem sc_changes_at : FnScope N_changes_at ["places"] (defScope (topS 14)) := ⟨rfl, rfl, rfl, by decide +kernel, rfl, by decide +kernel, by decide +kernel⟩
theorem ht_changes_at : tSs N_changes_at (defScope (topS 14)) (fun _ => true) c_changes_at (defBody (topS 14)) = true := by decide +kernel
theorem at_changes_at {f : Addr} {fd : FuncData} (F : Fun K "changes_at" "changes_at" (topS 14) f fd) (g : mg "changes_at" = some (.ref f)) (hn : NoOwn mg base) (Fshared_divisor : FnAt P w K mg base 1 "shared_divisor" ["one", "other"] sp_shared_divisor)  : FnAt P w K mg base 2 "changes_at" ["places"] sp_changes_at :=
  fn_at F g (by decide +kernel) sc_changes_at hn ht_changes_at (by simp only [c_changes_at, c_changes_at_b2, c_changes_at_b6, c_changes_at_b8, c_changes_at_r1, c_changes_at_r3, c_changes_at_r4, c_changes_at_r5, c_changes_at_r7, c_changes_at_r9, hSs, hS, hX, hE, hA, hI, hC, hO, List.map_cons, List.map_nil, and_true, true_and, and_self, (show FnAt P w K mg base 1 "shared_divisor" ["one", "other"] sp_shared_divisor from Fshared_divisor.up (by decide))]) (fun ds h Q q => by first | exact False.elim q | (unfold sp_changes_at at q; split at q <;> first | rfl | exact q.elim) | (obtain ⟨rfl, _⟩ := q; rfl) | (obtain ⟨_, rfl, _⟩ := q; rfl) | (obtain ⟨_, _, rfl, _⟩ := q; rfl) | (obtain ⟨_, _, _, rfl, _⟩ := q; rfl) | (obtain ⟨_, _, _, _, rfl, _⟩ := q; rfl) | (obtain ⟨_, _, _, _, _, rfl, _⟩ := q; rfl)) b_changes_at
theorem sc__law_pick : FnScope N__law_pick ["_law_deck_here", "_law_some"] (defScope (topS 19)) := ⟨rfl, rfl, rfl, by decide +kernel, rfl, by decide +kernel, by decide +kernel⟩
theorem ht__law_pick : tSs N__law_pick (defScope (topS 19)) (fun _ => true) c__law_pick (defBody (topS 19)) = true := by decide +kernel
theorem at__law_pick {f : Addr} {fd : FuncData} (F : Fun K "_law_pick" "_law_pick" (topS 19) f fd) (g : mg "_law_pick" = some (.ref f)) (hn : NoOwn mg base) (F_law_draw : FnAt P w K mg base 1 "_law_draw" ["_law_deck_here", "_law_many"] sp__law_draw)  : FnAt P w K mg base 2 "_law_pick" ["_law_deck_here", "_law_some"] sp__law_pick :=
  fn_at F g (by decide +kernel) sc__law_pick hn ht__law_pick (by simp only [c__law_pick, hSs, hS, hX, hE, hA, hI, hC, hO, List.map_cons, List.map_nil, and_true, true_and, and_self, (show FnAt P w K mg base 1 "_law_draw" ["_law_deck_here", "_law_many"] sp__law_draw from F_law_draw.up (by decide))]) (fun ds h Q q => by first | exact False.elim q | (unfold sp__law_pick at q; split at q <;> first | rfl | exact q.elim) | (obtain ⟨rfl, _⟩ := q; rfl) | (obtain ⟨_, rfl, _⟩ := q; rfl) | (obtain ⟨_, _, rfl, _⟩ := q; rfl) | (obtain ⟨_, _, _, rfl, _⟩ := q; rfl) | (obtain ⟨_, _, _, _, rfl, _⟩ := q; rfl) | (obtain ⟨_, _, _, _, _, rfl, _⟩ := q; rfl)) b__law_pick
theorem sc__law_lets : FnScope N__law_lets ["_law_world_here", "_law_table", "_law_it"] (defScope (topS 24)) := ⟨rfl, rfl, rfl, by decide +kernel, rfl, by decide +kernel, by decide +kernel⟩
theorem ht__law_lets : tSs N__law_lets (defScope (topS 24)) (fun _ => true) c__law_lets (defBody (topS 24)) = true := by decide +kernel
theorem at__law_lets {f : Addr} {fd : FuncData} (F : Fun K "_law_lets" "_law_lets" (topS 24) f fd) (g : mg "_law_lets" = some (.ref f)) (hn : NoOwn mg base) (F_law_is_whole : FnAt P w K mg base 1 "_law_is_whole" ["_law_it"] sp__law_is_whole)  : FnAt P w K mg base 2 "_law_lets" ["_law_world_here", "_law_table", "_law_it"] sp__law_lets :=
  fn_at F g (by decide +kernel) sc__law_lets hn ht__law_lets (by simp only [c__law_lets, c__law_lets_b3, c__law_lets_r1, c__law_lets_r2, c__law_lets_r4, c__law_lets_r5, c__law_lets_r6, c__law_lets_r7, hSs, hS, hX, hE, hA, hI, hC, hO, List.map_cons, List.map_nil, and_true, true_and, and_self, (show FnAt P w K mg base 1 "_law_is_whole" ["_law_it"] sp__law_is_whole from F_law_is_whole.up (by decide))]) (fun ds h Q q => by first | exact False.elim q | (unfold sp__law_lets at q; split at q <;> first | rfl | exact q.elim) | (obtain ⟨rfl, _⟩ := q; rfl) | (obtain ⟨_, rfl, _⟩ := q; rfl) | (obtain ⟨_, _, rfl, _⟩ := q; rfl) | (obtain ⟨_, _, _, rfl, _⟩ := q; rfl) | (obtain ⟨_, _, _, _, rfl, _⟩ := q; rfl) | (obtain ⟨_, _, _, _, _, rfl, _⟩ := q; rfl)) b__law_lets
theorem sc_table_of : FnScope N_table_of ["word", "size"] (defScope (topS 8)) := ⟨rfl, rfl, rfl, by decide +kernel, rfl, by decide +kernel, by decide +kernel⟩
theorem ht_table_of : tSs N_table_of (defScope (topS 8)) (fun _ => true) c_table_of (defBody (topS 8)) = true := by decide +kernel
theorem at_table_of {f : Addr} {fd : FuncData} (F : Fun K "table_of" "table_of" (topS 8) f fd) (g : mg "table_of" = some (.ref f)) (hn : NoOwn mg base) (Frow_of : FnAt P w K mg base 2 "row_of" ["word", "number"] sp_row_of)  : FnAt P w K mg base 3 "table_of" ["word", "size"] sp_table_of :=
  fn_at F g (by decide +kernel) sc_table_of hn ht_table_of (by simp only [c_table_of, hSs, hS, hX, hE, hA, hI, hC, hO, List.map_cons, List.map_nil, and_true, true_and, and_self, (show FnAt P w K mg base 2 "row_of" ["word", "number"] sp_row_of from Frow_of.up (by decide))]) (fun ds h Q q => by first | exact False.elim q | (unfold sp_table_of at q; split at q <;> first | rfl | exact q.elim) | (obtain ⟨rfl, _⟩ := q; rfl) | (obtain ⟨_, rfl, _⟩ := q; rfl) | (obtain ⟨_, _, rfl, _⟩ := q; rfl) | (obtain ⟨_, _, _, rfl, _⟩ := q; rfl) | (obtain ⟨_, _, _, _, rfl, _⟩ := q; rfl) | (obtain ⟨_, _, _, _, _, rfl, _⟩ := q; rfl)) b_table_of
theorem sc_sample_holds : FnScope N_sample_holds ["word", "size", "places", "sums", "thing"] (defScope (topS 12)) := ⟨rfl, rfl, rfl, by decide +kernel, rfl, by decide +kernel, by decide +kernel⟩
theorem ht_sample_holds : tSs N_sample_holds (defScope (topS 12)) (fun _ => true) c_sample_holds (defBody (topS 12)) = true := by decide +kernel
theorem at_sample_holds {f : Addr} {fd : FuncData} (F : Fun K "sample_holds" "sample_holds" (topS 12) f fd) (g : mg "sample_holds" = some (.ref f)) (hn : NoOwn mg base) (Fare_wholes : FnAt P w K mg base 2 "are_wholes" ["thing"] sp_are_wholes) (Frow_of : FnAt P w K mg base 2 "row_of" ["word", "number"] sp_row_of) (Fsum_of : FnAt P w K mg base 2 "sum_of" ["rows", "power"] sp_sum_of) (Fdue_sum : FnAt P w K mg base 2 "due_sum" ["word", "size", "power"] sp_due_sum)  : FnAt P w K mg base 3 "sample_holds" ["word", "size", "places", "sums", "thing"] sp_sample_holds :=
  fn_at F g (by decide +kernel) sc_sample_holds hn ht_sample_holds (by simp only [c_sample_holds, c_sample_holds_r1, c_sample_holds_r2, hSs, hS, hX, hE, hA, hI, hC, hO, List.map_cons, List.map_nil, and_true, true_and, and_self, (show FnAt P w K mg base 2 "are_wholes" ["thing"] sp_are_wholes from Fare_wholes.up (by decide)), (show FnAt P w K mg base 2 "row_of" ["word", "number"] sp_row_of from Frow_of.up (by decide)), (show FnAt P w K mg base 2 "sum_of" ["rows", "power"] sp_sum_of from Fsum_of.up (by decide)), (show FnAt P w K mg base 2 "due_sum" ["word", "size", "power"] sp_due_sum from Fdue_sum.up (by decide))]) (fun ds h Q q => by first | exact False.elim q | (unfold sp_sample_holds at q; split at q <;> first | rfl | exact q.elim) | (obtain ⟨rfl, _⟩ := q; rfl) | (obtain ⟨_, rfl, _⟩ := q; rfl) | (obtain ⟨_, _, rfl, _⟩ := q; rfl) | (obtain ⟨_, _, _, rfl, _⟩ := q; rfl) | (obtain ⟨_, _, _, _, rfl, _⟩ := q; rfl) | (obtain ⟨_, _, _, _, _, rfl, _⟩ := q; rfl)) b_sample_holds
theorem sc__law_world : FnScope N__law_world ["_law_deck_here"] (defScope (topS 22)) := ⟨rfl, rfl, rfl, by decide +kernel, rfl, by decide +kernel, by decide +kernel⟩
theorem ht__law_world : tSs N__law_world (defScope (topS 22)) (fun _ => true) c__law_world (defBody (topS 22)) = true := by decide +kernel
theorem at__law_world {f : Addr} {fd : FuncData} (F : Fun K "_law_world" "_law_world" (topS 22) f fd) (g : mg "_law_world" = some (.ref f)) (hn : NoOwn mg base) (F_law_draw : FnAt P w K mg base 1 "_law_draw" ["_law_deck_here", "_law_many"] sp__law_draw) (F_law_pick : FnAt P w K mg base 2 "_law_pick" ["_law_deck_here", "_law_some"] sp__law_pick)  : FnAt P w K mg base 3 "_law_world" ["_law_deck_here"] sp__law_world :=
  fn_at F g (by decide +kernel) sc__law_world hn ht__law_world (by simp only [c__law_world, c__law_world_r1, c__law_world_r2, c__law_world_r3, c__law_world_r4, c__law_world_r5, c__law_world_r6, c__law_world_r7, hSs, hS, hX, hE, hA, hI, hC, hO, List.map_cons, List.map_nil, and_true, true_and, and_self, (show FnAt P w K mg base 2 "_law_draw" ["_law_deck_here", "_law_many"] sp__law_draw from F_law_draw.up (by decide)), (show FnAt P w K mg base 2 "_law_pick" ["_law_deck_here", "_law_some"] sp__law_pick from F_law_pick.up (by decide))]) (fun ds h Q q => by first | exact False.elim q | (unfold sp__law_world at q; split at q <;> first | rfl | exact q.elim) | (obtain ⟨rfl, _⟩ := q; rfl) | (obtain ⟨_, rfl, _⟩ := q; rfl) | (obtain ⟨_, _, rfl, _⟩ := q; rfl) | (obtain ⟨_, _, _, rfl, _⟩ := q; rfl) | (obtain ⟨_, _, _, _, rfl, _⟩ := q; rfl) | (obtain ⟨_, _, _, _, _, rfl, _⟩ := q; rfl)) b__law_world
theorem sc_forged : FnScope N_forged ["word", "size", "places", "sums"] (defScope (topS 15)) := ⟨rfl, rfl, rfl, by decide +kernel, rfl, by decide +kernel, by decide +kernel⟩
theorem ht_forged : tSs N_forged (defScope (topS 15)) (fun _ => true) c_forged (defBody (topS 15)) = true := by decide +kernel
theorem at_forged {f : Addr} {fd : FuncData} (F : Fun K "forged" "forged" (topS 15) f fd) (g : mg "forged" = some (.ref f)) (hn : NoOwn mg base) (Ftable_of : FnAt P w K mg base 3 "table_of" ["word", "size"] sp_table_of) (Fmissed : FnAt P w K mg base 1 "missed" ["size", "places", "sums"] sp_missed) (Fchanges_at : FnAt P w K mg base 2 "changes_at" ["places"] sp_changes_at)  : FnAt P w K mg base 4 "forged" ["word", "size", "places", "sums"] sp_forged :=
  fn_at F g (by decide +kernel) sc_forged hn ht_forged (by simp only [c_forged, c_forged_b2, c_forged_r1, c_forged_r3, c_forged_r4, c_forged_r5, c_forged_r6, hSs, hS, hX, hE, hA, hI, hC, hO, List.map_cons, List.map_nil, and_true, true_and, and_self, (show FnAt P w K mg base 3 "table_of" ["word", "size"] sp_table_of from Ftable_of.up (by decide)), (show FnAt P w K mg base 3 "missed" ["size", "places", "sums"] sp_missed from Fmissed.up (by decide)), (show FnAt P w K mg base 3 "changes_at" ["places"] sp_changes_at from Fchanges_at.up (by decide))]) (fun ds h Q q => by first | exact False.elim q | (unfold sp_forged at q; split at q <;> first | rfl | exact q.elim) | (obtain ⟨rfl, _⟩ := q; rfl) | (obtain ⟨_, rfl, _⟩ := q; rfl) | (obtain ⟨_, _, rfl, _⟩ := q; rfl) | (obtain ⟨_, _, _, rfl, _⟩ := q; rfl) | (obtain ⟨_, _, _, _, rfl, _⟩ := q; rfl) | (obtain ⟨_, _, _, _, _, rfl, _⟩ := q; rfl)) b_forged
theorem sc_law : FnScope N_law ["_law_script"] (defScope (topS 25)) := ⟨rfl, rfl, rfl, by decide +kernel, rfl, by decide +kernel, by decide +kernel⟩
theorem ht_law : tSs N_law (defScope (topS 25)) (fun _ => true) c_law (defBody (topS 25)) = true := by decide +kernel
theorem at_law {f : Addr} {fd : FuncData} (F : Fun K "law" "law" (topS 25) f fd) (g : mg "law" = some (.ref f)) (hn : NoOwn mg base) (Fsample_holds : FnAt P w K mg base 3 "sample_holds" ["word", "size", "places", "sums", "thing"] sp_sample_holds) (Fmissed : FnAt P w K mg base 1 "missed" ["size", "places", "sums"] sp_missed) (Fforged : FnAt P w K mg base 4 "forged" ["word", "size", "places", "sums"] sp_forged) (F_law_deck : FnAt P w K mg base 1 "_law_deck" ["_law_script"] sp__law_deck) (F_law_due : FnAt P w K mg base 1 "_law_due" ["_law_sort", "_law_n"] sp__law_due) (F_law_world : FnAt P w K mg base 3 "_law_world" ["_law_deck_here"] sp__law_world) (F_law_gone : FnAt P w K mg base 1 "_law_gone" ["_law_world_here"] sp__law_gone) (F_law_lets : FnAt P w K mg base 2 "_law_lets" ["_law_world_here", "_law_table", "_law_it"] sp__law_lets)  : FnAt P w K mg base 5 "law" ["_law_script"] spLaw :=
  fn_at F g (by decide +kernel) sc_law hn ht_law (by simp only [c_law, c_law_b10, c_law_r1, c_law_r11, c_law_r2, c_law_r3, c_law_r4, c_law_r5, c_law_r6, c_law_r7, c_law_r8, c_law_r9, hSs, hS, hX, hE, hA, hI, hC, hO, List.map_cons, List.map_nil, and_true, true_and, and_self, (show FnAt P w K mg base 4 "sample_holds" ["word", "size", "places", "sums", "thing"] sp_sample_holds from Fsample_holds.up (by decide)), (show FnAt P w K mg base 4 "missed" ["size", "places", "sums"] sp_missed from Fmissed.up (by decide)), (show FnAt P w K mg base 4 "forged" ["word", "size", "places", "sums"] sp_forged from Fforged.up (by decide)), (show FnAt P w K mg base 4 "_law_deck" ["_law_script"] sp__law_deck from F_law_deck.up (by decide)), (show FnAt P w K mg base 4 "_law_due" ["_law_sort", "_law_n"] sp__law_due from F_law_due.up (by decide)), (show FnAt P w K mg base 4 "_law_world" ["_law_deck_here"] sp__law_world from F_law_world.up (by decide)), (show FnAt P w K mg base 4 "_law_gone" ["_law_world_here"] sp__law_gone from F_law_gone.up (by decide)), (show FnAt P w K mg base 4 "_law_lets" ["_law_world_here", "_law_table", "_law_it"] sp__law_lets from F_law_lets.up (by decide))]) (fun ds h Q q => by first | (obtain ⟨rfl, _⟩ := q; rfl) | (obtain ⟨_, rfl, _⟩ := q; rfl) | (obtain ⟨_, _, rfl, _⟩ := q; rfl) | (obtain ⟨_, _, _, rfl, _⟩ := q; rfl)) b_law
end
theorem all_at {l : PySem.W.OpenLaw} {w : World} {K : PySem.W.Frag} {h : Heap} {mg : Str → Option Value} (X : K.In h) (G : h.Ns mainGlobals mg)
    {f0 : Addr} {od0 an0 : Option Addr} {sl0 : Array (Option Value)} {oc0 kV0 dc0 pm0 cd0 ct0 : Value}
    (a0 : PySem.W.nsIn K mainGlobals "is_whole" = some (some (.ref f0))) (l0 : K.lookup f0 = some ⟨oc0, od0, .func (PySem.W.fnOf "is_whole" "is_whole" (defArgs (topS 1)) (defBody (topS 1)) (defScope (topS 1)) .none kV0 dc0 pm0 an0 cd0 ct0), sl0⟩) (c0 : PySem.W.codeIn K cd0 "is_whole" = true) (k0 : PySem.W.keepIn K (.ref f0) = true)
    {f1 : Addr} {od1 an1 : Option Addr} {sl1 : Array (Option Value)} {oc1 kV1 dc1 pm1 cd1 ct1 : Value}
    (a1 : PySem.W.nsIn K mainGlobals "power_of" = some (some (.ref f1))) (l1 : K.lookup f1 = some ⟨oc1, od1, .func (PySem.W.fnOf "power_of" "power_of" (defArgs (topS 3)) (defBody (topS 3)) (defScope (topS 3)) .none kV1 dc1 pm1 an1 cd1 ct1), sl1⟩) (c1 : PySem.W.codeIn K cd1 "power_of" = true) (k1 : PySem.W.keepIn K (.ref f1) = true)
    {f2 : Addr} {od2 an2 : Option Addr} {sl2 : Array (Option Value)} {oc2 kV2 dc2 pm2 cd2 ct2 : Value}
    (a2 : PySem.W.nsIn K mainGlobals "shared_divisor" = some (some (.ref f2))) (l2 : K.lookup f2 = some ⟨oc2, od2, .func (PySem.W.fnOf "shared_divisor" "shared_divisor" (defArgs (topS 4)) (defBody (topS 4)) (defScope (topS 4)) .none kV2 dc2 pm2 an2 cd2 ct2), sl2⟩) (c2 : PySem.W.codeIn K cd2 "shared_divisor" = true) (k2 : PySem.W.keepIn K (.ref f2) = true)
    {f3 : Addr} {od3 an3 : Option Addr} {sl3 : Array (Option Value)} {oc3 kV3 dc3 pm3 cd3 ct3 : Value}
    (a3 : PySem.W.nsIn K mainGlobals "divisors_of" = some (some (.ref f3))) (l3 : K.lookup f3 = some ⟨oc3, od3, .func (PySem.W.fnOf "divisors_of" "divisors_of" (defArgs (topS 6)) (defBody (topS 6)) (defScope (topS 6)) .none kV3 dc3 pm3 an3 cd3 ct3), sl3⟩) (c3 : PySem.W.codeIn K cd3 "divisors_of" = true) (k3 : PySem.W.keepIn K (.ref f3) = true)
    {f4 : Addr} {od4 an4 : Option Addr} {sl4 : Array (Option Value)} {oc4 kV4 dc4 pm4 cd4 ct4 : Value}
    (a4 : PySem.W.nsIn K mainGlobals "missed" = some (some (.ref f4))) (l4 : K.lookup f4 = some ⟨oc4, od4, .func (PySem.W.fnOf "missed" "missed" (defArgs (topS 13)) (defBody (topS 13)) (defScope (topS 13)) .none kV4 dc4 pm4 an4 cd4 ct4), sl4⟩) (c4 : PySem.W.codeIn K cd4 "missed" = true) (k4 : PySem.W.keepIn K (.ref f4) = true)
    {f5 : Addr} {od5 an5 : Option Addr} {sl5 : Array (Option Value)} {oc5 kV5 dc5 pm5 cd5 ct5 : Value}
    (a5 : PySem.W.nsIn K mainGlobals "_law_deck" = some (some (.ref f5))) (l5 : K.lookup f5 = some ⟨oc5, od5, .func (PySem.W.fnOf "_law_deck" "_law_deck" (defArgs (topS 17)) (defBody (topS 17)) (defScope (topS 17)) .none kV5 dc5 pm5 an5 cd5 ct5), sl5⟩) (c5 : PySem.W.codeIn K cd5 "_law_deck" = true) (k5 : PySem.W.keepIn K (.ref f5) = true)
    {f6 : Addr} {od6 an6 : Option Addr} {sl6 : Array (Option Value)} {oc6 kV6 dc6 pm6 cd6 ct6 : Value}
    (a6 : PySem.W.nsIn K mainGlobals "_law_draw" = some (some (.ref f6))) (l6 : K.lookup f6 = some ⟨oc6, od6, .func (PySem.W.fnOf "_law_draw" "_law_draw" (defArgs (topS 18)) (defBody (topS 18)) (defScope (topS 18)) .none kV6 dc6 pm6 an6 cd6 ct6), sl6⟩) (c6 : PySem.W.codeIn K cd6 "_law_draw" = true) (k6 : PySem.W.keepIn K (.ref f6) = true)
    {f7 : Addr} {od7 an7 : Option Addr} {sl7 : Array (Option Value)} {oc7 kV7 dc7 pm7 cd7 ct7 : Value}
    (a7 : PySem.W.nsIn K mainGlobals "_law_is_whole" = some (some (.ref f7))) (l7 : K.lookup f7 = some ⟨oc7, od7, .func (PySem.W.fnOf "_law_is_whole" "_law_is_whole" (defArgs (topS 20)) (defBody (topS 20)) (defScope (topS 20)) .none kV7 dc7 pm7 an7 cd7 ct7), sl7⟩) (c7 : PySem.W.codeIn K cd7 "_law_is_whole" = true) (k7 : PySem.W.keepIn K (.ref f7) = true)
    {f8 : Addr} {od8 an8 : Option Addr} {sl8 : Array (Option Value)} {oc8 kV8 dc8 pm8 cd8 ct8 : Value}
    (a8 : PySem.W.nsIn K mainGlobals "_law_due" = some (some (.ref f8))) (l8 : K.lookup f8 = some ⟨oc8, od8, .func (PySem.W.fnOf "_law_due" "_law_due" (defArgs (topS 21)) (defBody (topS 21)) (defScope (topS 21)) .none kV8 dc8 pm8 an8 cd8 ct8), sl8⟩) (c8 : PySem.W.codeIn K cd8 "_law_due" = true) (k8 : PySem.W.keepIn K (.ref f8) = true)
    {f9 : Addr} {od9 an9 : Option Addr} {sl9 : Array (Option Value)} {oc9 kV9 dc9 pm9 cd9 ct9 : Value}
    (a9 : PySem.W.nsIn K mainGlobals "_law_gone" = some (some (.ref f9))) (l9 : K.lookup f9 = some ⟨oc9, od9, .func (PySem.W.fnOf "_law_gone" "_law_gone" (defArgs (topS 23)) (defBody (topS 23)) (defScope (topS 23)) .none kV9 dc9 pm9 an9 cd9 ct9), sl9⟩) (c9 : PySem.W.codeIn K cd9 "_law_gone" = true) (k9 : PySem.W.keepIn K (.ref f9) = true)
    {f10 : Addr} {od10 an10 : Option Addr} {sl10 : Array (Option Value)} {oc10 kV10 dc10 pm10 cd10 ct10 : Value}
    (a10 : PySem.W.nsIn K mainGlobals "are_wholes" = some (some (.ref f10))) (l10 : K.lookup f10 = some ⟨oc10, od10, .func (PySem.W.fnOf "are_wholes" "are_wholes" (defArgs (topS 2)) (defBody (topS 2)) (defScope (topS 2)) .none kV10 dc10 pm10 an10 cd10 ct10), sl10⟩) (c10 : PySem.W.codeIn K cd10 "are_wholes" = true) (k10 : PySem.W.keepIn K (.ref f10) = true)
    {f11 : Addr} {od11 an11 : Option Addr} {sl11 : Array (Option Value)} {oc11 kV11 dc11 pm11 cd11 ct11 : Value}
    (a11 : PySem.W.nsIn K mainGlobals "row_of" = some (some (.ref f11))) (l11 : K.lookup f11 = some ⟨oc11, od11, .func (PySem.W.fnOf "row_of" "row_of" (defArgs (topS 7)) (defBody (topS 7)) (defScope (topS 7)) .none kV11 dc11 pm11 an11 cd11 ct11), sl11⟩) (c11 : PySem.W.codeIn K cd11 "row_of" = true) (k11 : PySem.W.keepIn K (.ref f11) = true)
    {f12 : Addr} {od12 an12 : Option Addr} {sl12 : Array (Option Value)} {oc12 kV12 dc12 pm12 cd12 ct12 : Value}
    (a12 : PySem.W.nsIn K mainGlobals "sum_of" = some (some (.ref f12))) (l12 : K.lookup f12 = some ⟨oc12, od12, .func (PySem.W.fnOf "sum_of" "sum_of" (defArgs (topS 9)) (defBody (topS 9)) (defScope (topS 9)) .none kV12 dc12 pm12 an12 cd12 ct12), sl12⟩) (c12 : PySem.W.codeIn K cd12 "sum_of" = true) (k12 : PySem.W.keepIn K (.ref f12) = true)
    {f13 : Addr} {od13 an13 : Option Addr} {sl13 : Array (Option Value)} {oc13 kV13 dc13 pm13 cd13 ct13 : Value}
    (a13 : PySem.W.nsIn K mainGlobals "due_sum" = some (some (.ref f13))) (l13 : K.lookup f13 = some ⟨oc13, od13, .func (PySem.W.fnOf "due_sum" "due_sum" (defArgs (topS 10)) (defBody (topS 10)) (defScope (topS 10)) .none kV13 dc13 pm13 an13 cd13 ct13), sl13⟩) (c13 : PySem.W.codeIn K cd13 "due_sum" = true) (k13 : PySem.W.keepIn K (.ref f13) = true)
    {f14 : Addr} {od14 an14 : Option Addr} {sl14 : Array (Option Value)} {oc14 kV14 dc14 pm14 cd14 ct14 : Value}
    (a14 : PySem.W.nsIn K mainGlobals "changes_at" = some (some (.ref f14))) (l14 : K.lookup f14 = some ⟨oc14, od14, .func (PySem.W.fnOf "changes_at" "changes_at" (defArgs (topS 14)) (defBody (topS 14)) (defScope (topS 14)) .none kV14 dc14 pm14 an14 cd14 ct14), sl14⟩) (c14 : PySem.W.codeIn K cd14 "changes_at" = true) (k14 : PySem.W.keepIn K (.ref f14) = true)
    {f15 : Addr} {od15 an15 : Option Addr} {sl15 : Array (Option Value)} {oc15 kV15 dc15 pm15 cd15 ct15 : Value}
    (a15 : PySem.W.nsIn K mainGlobals "_law_pick" = some (some (.ref f15))) (l15 : K.lookup f15 = some ⟨oc15, od15, .func (PySem.W.fnOf "_law_pick" "_law_pick" (defArgs (topS 19)) (defBody (topS 19)) (defScope (topS 19)) .none kV15 dc15 pm15 an15 cd15 ct15), sl15⟩) (c15 : PySem.W.codeIn K cd15 "_law_pick" = true) (k15 : PySem.W.keepIn K (.ref f15) = true)
    {f16 : Addr} {od16 an16 : Option Addr} {sl16 : Array (Option Value)} {oc16 kV16 dc16 pm16 cd16 ct16 : Value}
    (a16 : PySem.W.nsIn K mainGlobals "_law_lets" = some (some (.ref f16))) (l16 : K.lookup f16 = some ⟨oc16, od16, .func (PySem.W.fnOf "_law_lets" "_law_lets" (defArgs (topS 24)) (defBody (topS 24)) (defScope (topS 24)) .none kV16 dc16 pm16 an16 cd16 ct16), sl16⟩) (c16 : PySem.W.codeIn K cd16 "_law_lets" = true) (k16 : PySem.W.keepIn K (.ref f16) = true)
    {f17 : Addr} {od17 an17 : Option Addr} {sl17 : Array (Option Value)} {oc17 kV17 dc17 pm17 cd17 ct17 : Value}
    (a17 : PySem.W.nsIn K mainGlobals "table_of" = some (some (.ref f17))) (l17 : K.lookup f17 = some ⟨oc17, od17, .func (PySem.W.fnOf "table_of" "table_of" (defArgs (topS 8)) (defBody (topS 8)) (defScope (topS 8)) .none kV17 dc17 pm17 an17 cd17 ct17), sl17⟩) (c17 : PySem.W.codeIn K cd17 "table_of" = true) (k17 : PySem.W.keepIn K (.ref f17) = true)
    {f18 : Addr} {od18 an18 : Option Addr} {sl18 : Array (Option Value)} {oc18 kV18 dc18 pm18 cd18 ct18 : Value}
    (a18 : PySem.W.nsIn K mainGlobals "sample_holds" = some (some (.ref f18))) (l18 : K.lookup f18 = some ⟨oc18, od18, .func (PySem.W.fnOf "sample_holds" "sample_holds" (defArgs (topS 12)) (defBody (topS 12)) (defScope (topS 12)) .none kV18 dc18 pm18 an18 cd18 ct18), sl18⟩) (c18 : PySem.W.codeIn K cd18 "sample_holds" = true) (k18 : PySem.W.keepIn K (.ref f18) = true)
    {f19 : Addr} {od19 an19 : Option Addr} {sl19 : Array (Option Value)} {oc19 kV19 dc19 pm19 cd19 ct19 : Value}
    (a19 : PySem.W.nsIn K mainGlobals "_law_world" = some (some (.ref f19))) (l19 : K.lookup f19 = some ⟨oc19, od19, .func (PySem.W.fnOf "_law_world" "_law_world" (defArgs (topS 22)) (defBody (topS 22)) (defScope (topS 22)) .none kV19 dc19 pm19 an19 cd19 ct19), sl19⟩) (c19 : PySem.W.codeIn K cd19 "_law_world" = true) (k19 : PySem.W.keepIn K (.ref f19) = true)
    {f20 : Addr} {od20 an20 : Option Addr} {sl20 : Array (Option Value)} {oc20 kV20 dc20 pm20 cd20 ct20 : Value}
    (a20 : PySem.W.nsIn K mainGlobals "forged" = some (some (.ref f20))) (l20 : K.lookup f20 = some ⟨oc20, od20, .func (PySem.W.fnOf "forged" "forged" (defArgs (topS 15)) (defBody (topS 15)) (defScope (topS 15)) .none kV20 dc20 pm20 an20 cd20 ct20), sl20⟩) (c20 : PySem.W.codeIn K cd20 "forged" = true) (k20 : PySem.W.keepIn K (.ref f20) = true)
    {f21 : Addr} {od21 an21 : Option Addr} {sl21 : Array (Option Value)} {oc21 kV21 dc21 pm21 cd21 ct21 : Value}
    (a21 : PySem.W.nsIn K mainGlobals "law" = some (some (.ref f21))) (l21 : K.lookup f21 = some ⟨oc21, od21, .func (PySem.W.fnOf "law" "law" (defArgs (topS 25)) (defBody (topS 25)) (defScope (topS 25)) .none kV21 dc21 pm21 an21 cd21 ct21), sl21⟩) (c21 : PySem.W.codeIn K cd21 "law" = true) (k21 : PySem.W.keepIn K (.ref f21) = true)
    (z0 : PySem.W.nsIn K mainGlobals "len" = some none)
    (z1 : PySem.W.nsIn K mainGlobals "sum" = some none)
    (z2 : PySem.W.nsIn K mainGlobals "all" = some none)
    (z3 : PySem.W.nsIn K mainGlobals "any" = some none)
    (z4 : PySem.W.nsIn K mainGlobals "tuple" = some none)
    (z5 : PySem.W.nsIn K mainGlobals "list" = some none)
    (z6 : PySem.W.nsIn K mainGlobals "min" = some none)
    (z7 : PySem.W.nsIn K mainGlobals "max" = some none)
    (z8 : PySem.W.nsIn K mainGlobals "abs" = some none)
    (z9 : PySem.W.nsIn K mainGlobals "int" = some none)
    (z10 : PySem.W.nsIn K mainGlobals "isinstance" = some none)
    (z11 : PySem.W.nsIn K mainGlobals "repr" = some none)
    (z12 : PySem.W.nsIn K mainGlobals "str" = some none)
    (z13 : PySem.W.nsIn K mainGlobals "bool" = some none)
    (z14 : PySem.W.nsIn K mainGlobals "dict" = some none)
    (z15 : PySem.W.nsIn K mainGlobals "range" = some none)
    (z16 : PySem.W.nsIn K mainGlobals "zip" = some none)
    (z17 : PySem.W.nsIn K mainGlobals "reversed" = some none)
    (z18 : PySem.W.nsIn K mainGlobals "enumerate" = some none)
    (z19 : PySem.W.nsIn K mainGlobals "sorted" = some none)
    (z20 : PySem.W.nsIn K mainGlobals "divmod" = some none)
    (z21 : PySem.W.nsIn K mainGlobals "set" = some none)
    : ∀ base : Heap, K.In base → base.Ns mainGlobals mg → (∃ o, base.get? sysModules = some o) → FnAt l.prog w K mg base 5 "law" ["_law_script"] spLaw := by
  intro base _ _ hsys
  have no : ∀ {x : Str}, PySem.W.nsIn K mainGlobals x = some none → mg x = none := fun e => PySem.W.mg_none_of X G e
  have hn : NoOwn mg base := ⟨fun b => by cases b <;> first | exact no z0 | exact no z1 | exact no z2 | exact no z3 | exact no z4 | exact no z5 | exact no z6 | exact no z7 | exact no z8 | exact no z9 | exact no z10 | exact no z11 | exact no z12 | exact no z13 | exact no z14 | exact no z15 | exact no z16 | exact no z17 | exact no z18 | exact no z19 | exact no z20 | exact no z21, fun t => by cases t <;> first | exact no z0 | exact no z1 | exact no z2 | exact no z3 | exact no z4 | exact no z5 | exact no z6 | exact no z7 | exact no z8 | exact no z9 | exact no z10 | exact no z11 | exact no z12 | exact no z13 | exact no z14 | exact no z15 | exact no z16 | exact no z17 | exact no z18 | exact no z19 | exact no z20 | exact no z21, no z15, fun x hx => by simp only [moreN, List.mem_cons, List.not_mem_nil, or_false] at hx; rcases hx with rfl | rfl | rfl | rfl | rfl | rfl <;> first | exact no z0 | exact no z1 | exact no z2 | exact no z3 | exact no z4 | exact no z5 | exact no z6 | exact no z7 | exact no z8 | exact no z9 | exact no z10 | exact no z11 | exact no z12 | exact no z13 | exact no z14 | exact no z15 | exact no z16 | exact no z17 | exact no z18 | exact no z19 | exact no z20 | exact no z21, hsys⟩
  have Fis_whole := at_is_whole (P := l.prog) (w := w) (base := base) (fun_mk (st := topS 1) l0 c0 k0) (PySem.W.mg_of X G a0) hn  
  have Fpower_of := at_power_of (P := l.prog) (w := w) (base := base) (fun_mk (st := topS 3) l1 c1 k1) (PySem.W.mg_of X G a1) hn  
  have Fshared_divisor := at_shared_divisor (P := l.prog) (w := w) (base := base) (fun_mk (st := topS 4) l2 c2 k2) (PySem.W.mg_of X G a2) hn  
  have Fdivisors_of := at_divisors_of (P := l.prog) (w := w) (base := base) (fun_mk (st := topS 6) l3 c3 k3) (PySem.W.mg_of X G a3) hn  
  have Fmissed := at_missed (P := l.prog) (w := w) (base := base) (fun_mk (st := topS 13) l4 c4 k4) (PySem.W.mg_of X G a4) hn  
  have F_law_deck := at__law_deck (P := l.prog) (w := w) (base := base) (fun_mk (st := topS 17) l5 c5 k5) (PySem.W.mg_of X G a5) hn  
  have F_law_draw := at__law_draw (P := l.prog) (w := w) (base := base) (fun_mk (st := topS 18) l6 c6 k6) (PySem.W.mg_of X G a6) hn  
  have F_law_is_whole := at__law_is_whole (P := l.prog) (w := w) (base := base) (fun_mk (st := topS 20) l7 c7 k7) (PySem.W.mg_of X G a7) hn  
  have F_law_due := at__law_due (P := l.prog) (w := w) (base := base) (fun_mk (st := topS 21) l8 c8 k8) (PySem.W.mg_of X G a8) hn  
  have F_law_gone := at__law_gone (P := l.prog) (w := w) (base := base) (fun_mk (st := topS 23) l9 c9 k9) (PySem.W.mg_of X G a9) hn  
  have Fare_wholes := at_are_wholes (P := l.prog) (w := w) (base := base) (fun_mk (st := topS 2) l10 c10 k10) (PySem.W.mg_of X G a10) hn Fis_whole 
  have Frow_of := at_row_of (P := l.prog) (w := w) (base := base) (fun_mk (st := topS 7) l11 c11 k11) (PySem.W.mg_of X G a11) hn Fdivisors_of 
  have Fsum_of := at_sum_of (P := l.prog) (w := w) (base := base) (fun_mk (st := topS 9) l12 c12 k12) (PySem.W.mg_of X G a12) hn Fpower_of 
  have Fdue_sum := at_due_sum (P := l.prog) (w := w) (base := base) (fun_mk (st := topS 10) l13 c13 k13) (PySem.W.mg_of X G a13) hn Fpower_of 
  have Fchanges_at := at_changes_at (P := l.prog) (w := w) (base := base) (fun_mk (st := topS 14) l14 c14 k14) (PySem.W.mg_of X G a14) hn Fshared_divisor 
  have F_law_pick := at__law_pick (P := l.prog) (w := w) (base := base) (fun_mk (st := topS 19) l15 c15 k15) (PySem.W.mg_of X G a15) hn F_law_draw 
  have F_law_lets := at__law_lets (P := l.prog) (w := w) (base := base) (fun_mk (st := topS 24) l16 c16 k16) (PySem.W.mg_of X G a16) hn F_law_is_whole 
  have Ftable_of := at_table_of (P := l.prog) (w := w) (base := base) (fun_mk (st := topS 8) l17 c17 k17) (PySem.W.mg_of X G a17) hn Frow_of 
  have Fsample_holds := at_sample_holds (P := l.prog) (w := w) (base := base) (fun_mk (st := topS 12) l18 c18 k18) (PySem.W.mg_of X G a18) hn Fare_wholes Frow_of Fsum_of Fdue_sum 
  have F_law_world := at__law_world (P := l.prog) (w := w) (base := base) (fun_mk (st := topS 22) l19 c19 k19) (PySem.W.mg_of X G a19) hn F_law_draw F_law_pick 
  have Fforged := at_forged (P := l.prog) (w := w) (base := base) (fun_mk (st := topS 15) l20 c20 k20) (PySem.W.mg_of X G a20) hn Ftable_of Fmissed Fchanges_at 
  have Flaw := at_law (P := l.prog) (w := w) (base := base) (fun_mk (st := topS 25) l21 c21 k21) (PySem.W.mg_of X G a21) hn Fsample_holds Fmissed Fforged F_law_deck F_law_due F_law_world F_law_gone F_law_lets 
  exact Flaw
end K31
open PySem PySem.W PyProof.Rows
set_option maxHeartbeats 0 in
theorem PySem.Challenge.cw_surenumbers_k31_forged_tables_holds : PySem.Challenge.rw_surenumbers_k31_forged_tables.Holds := by
  w_on; o_law; k_head; (case hw => w_witness2)
  k_fill
  refine G.walk_end (l := PySem.Challenge.rw_surenumbers_k31_forged_tables) (n := 63) (k := 5) (x := "_law_script") rfl (by decide) (by decide +kernel) rfl ⟨rfl, by decide, by decide⟩ (fun w h Y => PySem.W.kIn_of Y) ?F
  case F =>
    intro w mg h KX G
    refine' K31.all_at KX G ?a0 ?l0 ?c0 ?k0 ?a1 ?l1 ?c1 ?k1 ?a2 ?l2 ?c2 ?k2 ?a3 ?l3 ?c3 ?k3 ?a4 ?l4 ?c4 ?k4 ?a5 ?l5 ?c5 ?k5 ?a6 ?l6 ?c6 ?k6 ?a7 ?l7 ?c7 ?k7 ?a8 ?l8 ?c8 ?k8 ?a9 ?l9 ?c9 ?k9 ?a10 ?l10 ?c10 ?k10 ?a11 ?l11 ?c11 ?k11 ?a12 ?l12 ?c12 ?k12 ?a13 ?l13 ?c13 ?k13 ?a14 ?l14 ?c14 ?k14 ?a15 ?l15 ?c15 ?k15 ?a16 ?l16 ?c16 ?k16 ?a17 ?l17 ?c17 ?k17 ?a18 ?l18 ?c18 ?k18 ?a19 ?l19 ?c19 ?k19 ?a20 ?l20 ?c20 ?k20 ?a21 ?l21 ?c21 ?k21 ?z0 ?z1 ?z2 ?z3 ?z4 ?z5 ?z6 ?z7 ?z8 ?z9 ?z10 ?z11 ?z12 ?z13 ?z14 ?z15 ?z16 ?z17 ?z18 ?z19 ?z20 ?z21
    (case a0 => k_is); (case l0 => k_is); (case c0 => k_is); (case k0 => k_is); (case a1 => k_is); (case l1 => k_is); (case c1 => k_is); (case k1 => k_is); (case a2 => k_is); (case l2 => k_is); (case c2 => k_is); (case k2 => k_is); (case a3 => k_is); (case l3 => k_is); (case c3 => k_is); (case k3 => k_is); (case a4 => k_is); (case l4 => k_is); (case c4 => k_is); (case k4 => k_is); (case a5 => k_is); (case l5 => k_is); (case c5 => k_is); (case k5 => k_is); (case a6 => k_is); (case l6 => k_is); (case c6 => k_is); (case k6 => k_is); (case a7 => k_is); (case l7 => k_is); (case c7 => k_is); (case k7 => k_is); (case a8 => k_is); (case l8 => k_is); (case c8 => k_is); (case k8 => k_is); (case a9 => k_is); (case l9 => k_is); (case c9 => k_is); (case k9 => k_is); (case a10 => k_is); (case l10 => k_is); (case c10 => k_is); (case k10 => k_is); (case a11 => k_is); (case l11 => k_is); (case c11 => k_is); (case k11 => k_is); (case a12 => k_is); (case l12 => k_is); (case c12 => k_is); (case k12 => k_is); (case a13 => k_is); (case l13 => k_is); (case c13 => k_is); (case k13 => k_is); (case a14 => k_is); (case l14 => k_is); (case c14 => k_is); (case k14 => k_is); (case a15 => k_is); (case l15 => k_is); (case c15 => k_is); (case k15 => k_is); (case a16 => k_is); (case l16 => k_is); (case c16 => k_is); (case k16 => k_is); (case a17 => k_is); (case l17 => k_is); (case c17 => k_is); (case k17 => k_is); (case a18 => k_is); (case l18 => k_is); (case c18 => k_is); (case k18 => k_is); (case a19 => k_is); (case l19 => k_is); (case c19 => k_is); (case k19 => k_is); (case a20 => k_is); (case l20 => k_is); (case c20 => k_is); (case k20 => k_is); (case a21 => k_is); (case l21 => k_is); (case c21 => k_is); (case k21 => k_is); (case z0 => k_is); (case z1 => k_is); (case z2 => k_is); (case z3 => k_is); (case z4 => k_is); (case z5 => k_is); (case z6 => k_is); (case z7 => k_is); (case z8 => k_is); (case z9 => k_is); (case z10 => k_is); (case z11 => k_is); (case z12 => k_is); (case z13 => k_is); (case z14 => k_is); (case z15 => k_is); (case z16 => k_is); (case z17 => k_is); (case z18 => k_is); (case z19 => k_is); (case z20 => k_is); (case z21 => k_is)
