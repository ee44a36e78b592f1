import PyProof.Rows.All
import Wide.All
import OpenK.AllK
import Wide.FinOn
import PySem.Challenge.RW_surenumbers_k07_walks
import HandS.List
import HandS.Comp
import HandS.Iter
import HandS.Dict
import HandS.Words
import PyProof.NeData
import PyProof.P3In
import PyProof.EqLayable
import HandS.DictEq
import HandS.Wide
import HandS.Style
import HandS.IsInst
import HandS.Deep
import HandS.Text
import HandS.TupAny
import HandS.TupMul
import PyProof.Rows.IntBool
import HandS.RaiseMore
import PyProof.ReprRoads
import PyProof.ReprBulk
import HandS.WordsDict
import HandS.WideBits
import HandS.SortInts
import HandS.More
import HandS.Flow
import PyProof.CollectIter
import PyProof.WalksMore
import HandS.Zip
import HandS.Rev
import PyProof.EnumMake
import PyProof.Draws
import KE.GoesMore
import PyProof.Rows.SeqMore3
import HandS.Conv
import HandS.SetFor
import HandS.Strs
import HandS.DictComp
import PyProof.DictUpdate
import PyProof.ListIndex
import HandS.Ends
import PyProof.ReprLen
import PyProof.Rows.StrIntSpec
set_option Elab.async false
set_option linter.all false
set_option maxRecDepth 100000
set_option maxHeartbeats 4000000
/-! Values without addresses, worlds, what a value stands for. -/
namespace G
open PySem PySem.Spec PyProof.Rows L2

/-- built-in classes as values -/
inductive Ty where
  | int | bool | str | tuple | list | dict
  deriving DecidableEq
def Ty.name : Ty → String
  | .int => "int"
  | .bool => "bool"
  | .str => "str"
  | .tuple => "tuple"
  | .list => "list"
  | .dict => "dict"

/-- a value: tuples and finished lists by what they hold; dic: a finished dict; ref: a list or dict that may still change; deck: the law's deck; scr: the script -/
inductive D where
  | non | bl (b : Bool) | int (i : Int) | str (x : Str) | tup (ds : List D) | lst (ds : List D) | ref (n : Nat) | deck | scr | ty (t : Ty) | dic (ks : List Key) (ds : List D)

inductive Cell where
  | lst (ds : List D)
  | dK (kvs : List (Key × D))

abbrev Hd := Nat → Option Cell
def Hd.set (h : Hd) (n : Nat) (c : Cell) : Hd := fun k => if k = n then some c else h k
theorem Hd.set_same {h : Hd} {n : Nat} {c : Cell} : h.set n c n = some c := if_pos rfl
theorem Hd.set_ne {h : Hd} {n k : Nat} {c : Cell} (e : k ≠ n) : h.set n c k = h k := if_neg e
theorem Hd.set_set {h : Hd} {n : Nat} {c d : Cell} : (h.set n c).set n d = h.set n d := by
  funext k
  unfold Hd.set
  split <;> rfl

structure Wd where
  m : Nat → Option Addr
  fz : Nat → Prop
  H : Hp
  dk : Addr × Addr → Prop

/-- what may still change -/
def Wd.mut (w : Wd) (a : Addr) : Prop := (∃ n, w.m n = some a ∧ ¬ w.fz n) ∨ ∃ p, w.dk p ∧ (a = p.1 ∨ a = p.2)

def KTup (K : PySem.W.Frag) (a : Addr) (xs : List V) : Prop := ∃ (o : Obj) (its : Array Value) (n : Nat), K.lookup a = some o ∧ o.cls = .type "tuple" ∧ o.data = .seq its n ∧ its.size ≤ sizeLine ∧ Vals xs its.toList
def STup (K : PySem.W.Frag) (w : Wd) (a : Addr) (xs : List V) : Prop := (¬ w.mut a ∧ w.H a = some (.tup xs)) ∨ KTup K a xs
theorem STup.sq {K : PySem.W.Frag} {w : Wd} {a : Addr} {xs : List V} (h : STup K w a xs) : SqT K w.H a xs := by
  rcases h with ⟨_, h⟩ | h
  · exact .inl (.inl h)
  · exact .inr h

mutual
inductive RD (K : PySem.W.Frag) (w : Wd) : D → V → Prop where
  | non : RD K w .non .non
  | bl (b : Bool) : RD K w (.bl b) (.bl b)
  | int (i : Int) : RD K w (.int i) (.int i)
  | str (x : Str) : RD K w (.str x) (.str x)
  | ty (t : Ty) : RD K w (.ty t) (.ty t.name)
  | tup {a : Addr} {ds : List D} {xs : List V} (s : STup K w a xs) (l : ds.length ≤ sizeLine) (r : RDs K w ds xs) : RD K w (.tup ds) (.ref a)
  | lst {a : Addr} {ds : List D} {xs : List V} (s : ¬ w.mut a ∧ w.H a = some (.lst xs)) (l : ds.length ≤ sizeLine) (r : RDs K w ds xs) : RD K w (.lst ds) (.ref a)
  | ref {n : Nat} {a : Addr} (e : w.m n = some a) : RD K w (.ref n) (.ref a)
  | deck {p : Addr × Addr} (e : w.dk p) : RD K w .deck (.ref p.1)
  | dic {a : Addr} {ks : List Key} {ds : List D} {xs : List V} (s : ¬ w.mut a ∧ w.H a = some (.dK (ks.zip xs))) (l : ks.length = ds.length) (r : RDs K w ds xs) : RD K w (.dic ks ds) (.ref a)
  | scr {a : Addr} {ns : List Int} (s : SqL K w.H a (ns.map V.int)) (l : ns.length ≤ 63) (n : ¬ w.mut a ∨ ∃ o its n, K.lookup a = some o ∧ o.cls = .type "list" ∧ o.dict = none ∧ o.data = .seq its n ∧ its.size ≤ sizeLine ∧ Vals (ns.map V.int) its.toList) : RD K w .scr (.ref a)
inductive RDs (K : PySem.W.Frag) (w : Wd) : List D → List V → Prop where
  | nil : RDs K w [] []
  | cons {d : D} {ds : List D} {x : V} {xs : List V} (r : RD K w d x) (rs : RDs K w ds xs) : RDs K w (d :: ds) (x :: xs)
end

def RC (K : PySem.W.Frag) (w : Wd) (c : Cell) (a : Addr) : Prop := match c with
  | .lst ds => ∃ xs, w.H a = some (.lst xs) ∧ RDs K w ds xs ∧ ds.length ≤ sizeLine
  | .dK kvs => ∃ xs, w.H a = some (.dK xs) ∧ xs.map (·.1) = kvs.map (·.1) ∧ RDs K w (kvs.map (·.2)) (xs.map (·.2))

def DeckAt (H : Hp) (p : Addr × Addr) : Prop := p.1 ≠ p.2 ∧ ∃ (ns : List Int) (s t : Int), H p.1 = some (.lst [.ref p.2, .int s, .int t]) ∧ H p.2 = some (.lst (ns.map V.int)) ∧ ns.length ≤ 63

structure RelW (K : PySem.W.Frag) (w : Wd) (h : Hd) : Prop where
  inj : ∀ n k a, w.m n = some a → w.m k = some a → ¬ w.fz n → ¬ w.fz k → n = k
  has : ∀ n c, h n = some c → ∃ a, w.m n = some a ∧ RC K w c a
  live : ∀ n c, h n = some c → ¬ w.fz n
  there : ∀ n a, w.m n = some a → w.H a ≠ none
  fin : ∃ B, ∀ n, B ≤ n → w.m n = none
  deck : ∀ p, w.dk p → DeckAt w.H p ∧ ∀ n, ¬ w.fz n → w.m n ≠ some p.1 ∧ w.m n ≠ some p.2
  dks : ∀ p q, w.dk p → w.dk q → (p.1 = q.1 ∨ p.1 = q.2 ∨ p.2 = q.2) → p = q

structure Ext (w w' : Wd) (h h' : Hd) : Prop where
  m : ∀ n a, w.m n = some a → w'.m n = some a
  dk : ∀ p, w.dk p → w'.dk p
  keep : ∀ a o, ¬ w.mut a → w.H a = some o → w'.H a = some o
  new : ∀ a, w'.mut a → w.mut a ∨ w.H a = none
  dead : ∀ n a, w.m n = some a → h n = none → ¬ w.fz n → h' n = none ∧ w'.H a = w.H a ∧ ¬ w'.fz n

theorem Ext.refl (w : Wd) (h : Hd) : Ext w w h h := ⟨fun _ _ e => e, fun _ e => e, fun _ _ _ e => e, fun _ e => .inl e, fun _ _ _ e f => ⟨e, rfl, f⟩⟩
theorem Ext.nmut {w w' : Wd} {h h' : Hd} (x : Ext w w' h h') {a : Addr} {o : HO} (n : ¬ w.mut a) (e : w.H a = some o) : ¬ w'.mut a := fun q => by
  rcases x.new a q with z | z
  · exact n z
  · rw [e] at z; cases z
theorem Ext.trans {w w1 w2 : Wd} {h h1 h2 : Hd} (x : Ext w w1 h h1) (y : Ext w1 w2 h1 h2) : Ext w w2 h h2 where
  m := fun n a e => y.m n a (x.m n a e)
  dk := fun p e => y.dk p (x.dk p e)
  keep := fun a o n e => y.keep a o (x.nmut n e) (x.keep a o n e)
  new := fun a q => by
    rcases y.new a q with z | z
    · exact x.new a z
    · by_cases hm : w.mut a
      · exact .inl hm
      · cases e : w.H a with
        | none => exact .inr rfl
        | some o => rw [x.keep a o hm e] at z; cases z
  dead := fun n a e q f =>
    let ⟨p1, p2, p5⟩ := x.dead n a e q f
    let ⟨p3, p4, p6⟩ := y.dead n a (x.m n a e) p1 p5
    ⟨p3, p4.trans p2, p6⟩

theorem STup.mono {K : PySem.W.Frag} {w w' : Wd} {h h' : Hd} (x : Ext w w' h h') {a : Addr} {xs : List V} (s : STup K w a xs) : STup K w' a xs := by
  rcases s with ⟨n, e⟩ | s
  · exact .inl ⟨x.nmut n e, x.keep a _ n e⟩
  · exact .inr s
mutual
theorem RD.mono {K : PySem.W.Frag} {w w' : Wd} {h h' : Hd} (x : Ext w w' h h') : ∀ {d : D} {v : V}, RD K w d v → RD K w' d v
  | _, _, .non => .non
  | _, _, .bl b => .bl b
  | _, _, .int i => .int i
  | _, _, .str y => .str y
  | _, _, .ty n => .ty n
  | _, _, .tup s l r => .tup (s.mono x) l (RDs.mono x r)
  | _, _, .lst s l r => .lst ⟨x.nmut s.1 s.2, x.keep _ _ s.1 s.2⟩ l (RDs.mono x r)
  | _, _, .ref e => .ref (x.m _ _ e)
  | _, _, .deck e => .deck (x.dk _ e)
  | _, _, .dic s l r => .dic ⟨x.nmut s.1 s.2, x.keep _ _ s.1 s.2⟩ l (RDs.mono x r)
  | _, _, .scr s l n => by
    rcases n with n | n
    · rcases s with (s | ⟨o, s⟩) | s
      · exact .scr (.inl (.inl (x.keep _ _ n s))) l (.inl (x.nmut n s))
      · exact .scr (.inl (.inr ⟨o, x.keep _ _ n s⟩)) l (.inl (x.nmut n s))
      · exact .scr (.inr s) l (.inr s)
    · exact .scr (.inr n) l (.inr n)
theorem RDs.mono {K : PySem.W.Frag} {w w' : Wd} {h h' : Hd} (x : Ext w w' h h') : ∀ {ds : List D} {vs : List V}, RDs K w ds vs → RDs K w' ds vs
  | _, _, .nil => .nil
  | _, _, .cons r rs => .cons (RD.mono x r) (RDs.mono x rs)
end
theorem RDs.length {K : PySem.W.Frag} {w : Wd} : ∀ {ds : List D} {vs : List V}, RDs K w ds vs → ds.length = vs.length
  | _, _, .nil => rfl
  | _, _, .cons _ rs => by rw [List.length_cons, List.length_cons, RDs.length rs]
theorem RDs.get {K : PySem.W.Frag} {w : Wd} : ∀ {ds : List D} {vs : List V} {i : Nat} {d : D}, RDs K w ds vs → ds[i]? = some d → ∃ v, vs[i]? = some v ∧ RD K w d v
  | _, _, _, _, .nil, e => by simp at e
  | _, _, 0, _, .cons r _, e => by simp at e; subst e; exact ⟨_, rfl, r⟩
  | _, _, i + 1, _, .cons _ rs, e => by
    obtain ⟨v, e1, e2⟩ := RDs.get (i := i) rs (by simpa using e)
    exact ⟨v, by simpa using e1, e2⟩
theorem RDs.append {K : PySem.W.Frag} {w : Wd} : ∀ {ds es : List D} {vs us : List V}, RDs K w ds vs → RDs K w es us → RDs K w (ds ++ es) (vs ++ us)
  | _, _, _, _, .nil, s => s
  | _, _, _, _, .cons r rs, s => .cons r (RDs.append rs s)
theorem RDs.take {K : PySem.W.Frag} {w : Wd} : ∀ {ds : List D} {vs : List V} (n : Nat), RDs K w ds vs → RDs K w (ds.take n) (vs.take n)
  | _, _, 0, _ => .nil
  | _, _, _ + 1, .nil => .nil
  | _, _, n + 1, .cons r t => .cons r (RDs.take n t)
theorem RDs.drop {K : PySem.W.Frag} {w : Wd} : ∀ {ds : List D} {vs : List V} (n : Nat), RDs K w ds vs → RDs K w (ds.drop n) (vs.drop n)
  | _, _, 0, r => r
  | _, _, _ + 1, .nil => .nil
  | _, _, n + 1, .cons _ t => RDs.drop n t
theorem RDs.reverse {K : PySem.W.Frag} {w : Wd} : ∀ {ds : List D} {vs : List V}, RDs K w ds vs → RDs K w ds.reverse vs.reverse
  | _, _, .nil => .nil
  | _, _, .cons r t => by
    rw [List.reverse_cons, List.reverse_cons]
    exact (RDs.reverse t).append (.cons r .nil)
theorem RDs.set {K : PySem.W.Frag} {w : Wd} {d : D} {v : V} (q : RD K w d v) : ∀ {ds : List D} {vs : List V} (i : Nat), RDs K w ds vs → RDs K w (ds.set i d) (vs.set i v)
  | _, _, _, .nil => .nil
  | _, _, 0, .cons _ t => .cons q t
  | _, _, i + 1, .cons r t => .cons r (RDs.set q i t)
theorem RDs.eraseIdx {K : PySem.W.Frag} {w : Wd} : ∀ {ds : List D} {vs : List V} (i : Nat), RDs K w ds vs → RDs K w (ds.eraseIdx i) (vs.eraseIdx i)
  | _, _, _, .nil => .nil
  | _, _, 0, .cons _ t => t
  | _, _, i + 1, .cons r t => .cons r (RDs.eraseIdx i t)

/-- slots -/
abbrev Sl := List (Option D)
structure RSl (K : PySem.W.Frag) (w : Wd) (σd : Sl) (σ : L2.St) : Prop where
  len : σd.length = σ.length
  at_ : ∀ (i : Nat) (d : D), σd[i]? = some (some d) → ∃ v, σ[i]? = some (some v) ∧ RD K w d v
theorem RSl.mono {K : PySem.W.Frag} {w w' : Wd} {h h' : Hd} {σd : Sl} {σ : L2.St} (x : Ext w w' h h') (r : RSl K w σd σ) : RSl K w' σd σ :=
  ⟨r.len, fun i d e => let ⟨v, e1, e2⟩ := r.at_ i d e; ⟨v, e1, e2.mono x⟩⟩
theorem RSl.set {K : PySem.W.Frag} {w : Wd} {σd : Sl} {σ : L2.St} {d : D} {v : V} (r : RSl K w σd σ) (q : RD K w d v) (i : Nat) : RSl K w (σd.set i (some d)) (σ.set i (some v)) := by
  refine ⟨by simpa using r.len, fun j e hj => ?_⟩
  by_cases hi : i = j
  · subst hi
    by_cases hl : i < σd.length
    · rw [List.getElem?_set_self hl] at hj
      cases hj
      exact ⟨v, List.getElem?_set_self (by rw [← r.len]; exact hl), q⟩
    · rw [List.getElem?_eq_none (by simpa using hl)] at hj
      cases hj
  · rw [List.getElem?_set_ne hi] at hj
    rw [List.getElem?_set_ne hi]
    exact r.at_ j e hj
end G

/-! Readings over worlds; new things, changed things. -/
namespace G
open PySem PySem.Spec PyProof.Rows L2

abbrev Pq := D → Hd → Prop
abbrev WE := Sl → Hd → Pq → Prop
abbrev WT := Sl → Hd → (Bool → Hd → Prop) → Prop
abbrev WA := Sl → Hd → (List D → Hd → Prop) → Prop

def Post (K : PySem.W.Frag) (w : Wd) (h : Hd) (QD : Pq) (Q : VK) : Prop := ∀ w' h' d v, Ext w w' h h' → RelW K w' h' → RD K w' d v → QD d h' → Q v w'.H
def PostT (K : PySem.W.Frag) (w : Wd) (h : Hd) (QD : Bool → Hd → Prop) (Q : Bool → Hp → Prop) : Prop := ∀ w' h' b, Ext w w' h h' → RelW K w' h' → QD b h' → Q b w'.H
def PostA (K : PySem.W.Frag) (n : Nat) (w : Wd) (h : Hd) (QD : List D → Hd → Prop) (Q : List V → Hp → Prop) : Prop := ∀ w' h' ds vs, Ext w w' h h' → RelW K w' h' → RDs K w' ds vs → ds.length = n → QD ds h' → Q vs w'.H
theorem Post.ext {K : PySem.W.Frag} {w w1 : Wd} {h h1 : Hd} {QD : Pq} {Q : VK} (p : Post K w h QD Q) (x : Ext w w1 h h1) : Post K w1 h1 QD Q := fun w' h' d v y => p w' h' d v (x.trans y)
theorem PostT.ext {K : PySem.W.Frag} {w w1 : Wd} {h h1 : Hd} {QD : Bool → Hd → Prop} {Q : Bool → Hp → Prop} (p : PostT K w h QD Q) (x : Ext w w1 h h1) : PostT K w1 h1 QD Q := fun w' h' b y => p w' h' b (x.trans y)

def liftE (K : PySem.W.Frag) (wp : WE) : TE := fun σ H Q => ∃ w σd h QD, w.H = H ∧ RelW K w h ∧ RSl K w σd σ ∧ wp σd h QD ∧ Post K w h QD Q
def liftT (K : PySem.W.Frag) (wp : WT) : TT := fun σ H Q => ∃ w σd h QD, w.H = H ∧ RelW K w h ∧ RSl K w σd σ ∧ wp σd h QD ∧ PostT K w h QD Q
def liftA (K : PySem.W.Frag) (n : Nat) (wp : WA) : TA := fun σ H Q => ∃ w σd h QD, w.H = H ∧ RelW K w h ∧ RSl K w σd σ ∧ wp σd h QD ∧ PostA K n w h QD Q

theorem pe_imp {X : Cx} {e : Expr} {t t' : TE} (p : PE X e t) (i : ∀ σ H Q, t' σ H Q → t σ H Q) : PE X e t' := ⟨fun pins s σ H Q I h => p.run pins s σ H Q I (i σ H Q h)⟩
theorem pt_imp {X : Cx} {e : Expr} {t t' : TT} (p : PT X e t) (i : ∀ σ H Q, t' σ H Q → t σ H Q) : PT X e t' := ⟨fun pins s σ H Q I h => p.run pins s σ H Q I (i σ H Q h)⟩
theorem pw_imp {X : Cx} {e : Expr} {t t' : TT} (p : PW X e t) (i : ∀ σ H Q, t' σ H Q → t σ H Q) : PW X e t' := ⟨fun wh pins s σ H Q I h => p.run wh pins s σ H Q I (i σ H Q h)⟩
theorem pa_imp {X : Cx} {es : List Expr} {t t' : TA} (p : PA X es t) (i : ∀ σ H Q, t' σ H Q → t σ H Q) : PA X es t' := ⟨fun pos pins s σ H Q I h => p.run pos pins s σ H Q I (i σ H Q h)⟩
theorem pk_imp {X : Cx} {es : List Keyword} {t t' : TA} (p : PK X es t) (i : ∀ σ H Q, t' σ H Q → t σ H Q) : PK X es t' := ⟨fun pos pins s σ H Q I h => p.run pos pins s σ H Q I (i σ H Q h)⟩
theorem ps_imp {X : Cx} {e : Stmt} {t t' : TS} (p : PS X e t) (i : ∀ D σ H, t' D σ H → t D σ H) : PS X e t' := ⟨fun pins s σ H D I h => p.run pins s σ H D I (i D σ H h)⟩
theorem pss_imp {X : Cx} {e : List Stmt} {t t' : TS} (p : PSs X e t) (i : ∀ D σ H, t' D σ H → t D σ H) : PSs X e t' := ⟨fun pins s σ H D I h => p.run pins s σ H D I (i D σ H h)⟩

/-! ### new things -/
def Wd.put (w : Wd) (p : Addr) (o : HO) : Wd := { w with H := upd w.H p o }
theorem put_mut {w : Wd} {p a : Addr} {o : HO} : (w.put p o).mut a ↔ w.mut a := Iff.rfl
section
variable {K : PySem.W.Frag} {w : Wd} {h : Hd} {p : Addr} {o : HO}
theorem RelW.thereD (rel : RelW K w h) {q : Addr × Addr} (e : w.dk q) : w.H q.1 ≠ none ∧ w.H q.2 ≠ none := by
  obtain ⟨⟨_, ns, s, t, e1, e2, _⟩, _⟩ := rel.deck q e
  exact ⟨by rw [e1]; simp, by rw [e2]; simp⟩
theorem RelW.nmut (rel : RelW K w h) (hp : w.H p = none) : ¬ w.mut p := fun q => by
  rcases q with ⟨n, e, _⟩ | ⟨q, e, z⟩
  · exact rel.there n p e hp
  · rcases z with z | z
    · exact (rel.thereD e).1 (z ▸ hp)
    · exact (rel.thereD e).2 (z ▸ hp)
theorem ext_put (rel : RelW K w h) (hp : w.H p = none) : Ext w (w.put p o) h h :=
  ⟨fun _ _ e => e, fun _ e => e, fun a u n e => by
    show upd w.H p o a = some u
    rw [upd_ne (ne_of_none e hp)]; exact e, fun _ q => .inl q, fun n a e q f => ⟨q, upd_ne fun z => rel.there n a e (z ▸ hp), f⟩⟩
theorem rel_put (rel : RelW K w h) (hp : w.H p = none) : RelW K (w.put p o) h := by
  have x : Ext w (w.put p o) h h := ext_put rel hp
  have at_ : ∀ a, w.H a ≠ none → upd w.H p o a = w.H a := fun a q => upd_ne (fun e => q (e ▸ hp))
  refine ⟨rel.inj, fun n c e => ?_, rel.live, fun n a q => ?_, rel.fin, fun q e => ?_, rel.dks⟩
  · obtain ⟨a, e1, r⟩ := rel.has n c e
    refine ⟨a, e1, ?_⟩
    have ha : w.H a ≠ none := rel.there n a e1
    cases c with
    | lst ds =>
      obtain ⟨xs, e2, r, l⟩ := r
      exact ⟨xs, (at_ a ha).trans e2, r.mono x, l⟩
    | dK kvs =>
      obtain ⟨xs, e2, e3, r⟩ := r
      exact ⟨xs, (at_ a ha).trans e2, e3, r.mono x⟩
  · show upd w.H p o a ≠ none
    rw [at_ a (rel.there n a q)]
    exact rel.there n a q
  · obtain ⟨⟨ne, ns, s, t, e1, e2, l⟩, z⟩ := rel.deck q e
    refine ⟨⟨ne, ns, s, t, ?_, ?_, l⟩, z⟩
    · show upd w.H p o q.1 = _
      rw [at_ q.1 (by rw [e1]; simp)]; exact e1
    · show upd w.H p o q.2 = _
      rw [at_ q.2 (by rw [e2]; simp)]; exact e2
/-- a new tuple -/
theorem post_tup {QD : Pq} {Q : VK} {ds : List D} {xs : List V} (rel : RelW K w h) (hp : w.H p = none) (r : RDs K w ds xs) (l : ds.length ≤ sizeLine) (q : QD (.tup ds) h) (post : Post K w h QD Q) : Q (.ref p) (upd w.H p (.tup xs)) :=
  post (w.put p (.tup xs)) h (.tup ds) (.ref p) (ext_put rel hp) (rel_put rel hp) (.tup (.inl ⟨rel.nmut hp, upd_same⟩) l (r.mono (ext_put rel hp))) q
/-- a new list that stays as it is -/
theorem post_lst {QD : Pq} {Q : VK} {ds : List D} {xs : List V} (rel : RelW K w h) (hp : w.H p = none) (r : RDs K w ds xs) (l : ds.length ≤ sizeLine) (q : QD (.lst ds) h) (post : Post K w h QD Q) : Q (.ref p) (upd w.H p (.lst xs)) :=
  post (w.put p (.lst xs)) h (.lst ds) (.ref p) (ext_put rel hp) (rel_put rel hp) (.lst ⟨rel.nmut hp, upd_same⟩ l (r.mono (ext_put rel hp))) q
/-- a new thing that may change -/
def Wd.own (w : Wd) (n : Nat) (p : Addr) (o : HO) : Wd := { m := fun k => if k = n then some p else w.m k, fz := fun k => k ≠ n ∧ w.fz k, H := upd w.H p o, dk := w.dk }
theorem RelW.fresh (rel : RelW K w h) : ∃ n, w.m n = none ∧ h n = none := by
  obtain ⟨B, hB⟩ := rel.fin
  refine ⟨B, hB B (Nat.le_refl _), ?_⟩
  cases e : h B with
  | none => rfl
  | some c =>
    obtain ⟨a, e1, _⟩ := rel.has B c e
    rw [hB B (Nat.le_refl _)] at e1; cases e1
theorem ext_own {n : Nat} {c : Cell} (rel : RelW K w h) (hm : w.m n = none) (hp : w.H p = none) : Ext w (w.own n p o) h (h.set n c) := by
  refine ⟨fun k a e => ?_, fun _ e => e, fun a u _ e => ?_, fun a q => ?_, fun k a e q f => ?_⟩
  · show (if k = n then some p else w.m k) = some a
    rw [if_neg (fun z => by rw [z, hm] at e; cases e)]; exact e
  · show upd w.H p o a = some u
    rw [upd_ne (ne_of_none e hp)]; exact e
  · rcases q with ⟨k, e, nf⟩ | q
    · by_cases hk : k = n
      · have e' : some p = some a := by rw [← e]; show some p = if k = n then some p else w.m k; rw [if_pos hk]
        cases e'
        exact .inr hp
      · have e' : w.m k = some a := by rw [← e]; show _ = if k = n then some p else w.m k; rw [if_neg hk]
        exact .inl (.inl ⟨k, e', fun z => nf ⟨hk, z⟩⟩)
    · exact .inl (.inr q)
  · have hk : k ≠ n := fun z => by rw [z, hm] at e; cases e
    rw [Hd.set_ne hk]; exact ⟨q, upd_ne fun z => rel.there k a e (z ▸ hp), fun z => f z.2⟩
theorem rel_own {n : Nat} {c : Cell} (rel : RelW K w h) (hm : w.m n = none) (hp : w.H p = none) (r : RC K (w.own n p o) c p) : RelW K (w.own n p o) (h.set n c) := by
  have x : Ext w (w.own n p o) h (h.set n c) := ext_own rel hm hp
  have at_ : ∀ a, w.H a ≠ none → upd w.H p o a = w.H a := fun a q => upd_ne (fun e => q (e ▸ hp))
  have mk : ∀ k, k ≠ n → (w.own n p o).m k = w.m k := fun k hk => if_neg hk
  have mn : (w.own n p o).m n = some p := if_pos rfl
  have np : ∀ k a, w.m k = some a → a ≠ p := fun k a e z => rel.there k a e (z ▸ hp)
  refine ⟨fun k j a e1 e2 f1 f2 => ?_, fun k c' e => ?_, fun k c' e => ?_, fun k a q => ?_, ?_, fun q e => ?_, rel.dks⟩
  · by_cases hk : k = n
    · by_cases hj : j = n
      · rw [hk, hj]
      · rw [mk j hj] at e2
        rw [hk, mn] at e1; cases e1
        exact absurd rfl (np j p e2)
    · by_cases hj : j = n
      · rw [mk k hk] at e1
        rw [hj, mn] at e2; cases e2
        exact absurd rfl (np k p e1)
      · rw [mk k hk] at e1
        rw [mk j hj] at e2
        exact rel.inj k j a e1 e2 (fun z => f1 ⟨hk, z⟩) fun z => f2 ⟨hj, z⟩
  · by_cases hk : k = n
    · subst hk
      rw [Hd.set_same] at e; cases e
      exact ⟨p, mn, r⟩
    · rw [Hd.set_ne hk] at e
      obtain ⟨a, e1, r⟩ := rel.has k c' e
      have ha : w.H a ≠ none := rel.there k a e1
      refine ⟨a, (mk k hk).trans e1, ?_⟩
      cases c' with
      | lst ds =>
        obtain ⟨xs, e2, r, l⟩ := r
        exact ⟨xs, (at_ a ha).trans e2, r.mono x, l⟩
      | dK kvs =>
        obtain ⟨xs, e2, e3, r⟩ := r
        exact ⟨xs, (at_ a ha).trans e2, e3, r.mono x⟩
  · by_cases hk : k = n
    · exact fun z => z.1 hk
    · rw [Hd.set_ne hk] at e
      exact fun z => rel.live k c' e z.2
  · by_cases hk : k = n
    · rw [hk, mn] at q; cases q
      show upd w.H p o p ≠ none
      rw [upd_same]; simp
    · rw [mk k hk] at q
      show upd w.H p o a ≠ none
      rw [at_ a (rel.there k a q)]; exact rel.there k a q
  · obtain ⟨B, hB⟩ := rel.fin
    refine ⟨max B (n + 1), fun k hk => ?_⟩
    rw [mk k (by omega)]
    exact hB k (by omega)
  · obtain ⟨⟨ne, ns, s, t, e1, e2, l⟩, z⟩ := rel.deck q e
    have h1 : upd w.H p o q.1 = w.H q.1 := at_ q.1 (by rw [e1]; simp)
    have h2 : upd w.H p o q.2 = w.H q.2 := at_ q.2 (by rw [e2]; simp)
    refine ⟨⟨ne, ns, s, t, h1.trans e1, h2.trans e2, l⟩, fun k f => ?_⟩
    by_cases hk : k = n
    · rw [hk, mn]
      refine ⟨fun z' => ?_, fun z' => ?_⟩
      · cases z'; rw [hp] at e1; cases e1
      · cases z'; rw [hp] at e2; cases e2
    · rw [mk k hk]; exact z k fun y => f ⟨hk, y⟩
theorem post_new {QD : Pq} {Q : VK} {ds : List D} {xs : List V} (rel : RelW K w h) (hp : w.H p = none) (r : RDs K w ds xs) (l : ds.length ≤ sizeLine) (q : ∀ n, h n = none → QD (.ref n) (h.set n (.lst ds))) (post : Post K w h QD Q) : Q (.ref p) (upd w.H p (.lst xs)) := by
  obtain ⟨n, hm, hn⟩ := rel.fresh
  have x : Ext w (w.own n p (.lst xs)) h (h.set n (.lst ds)) := ext_own rel hm hp
  exact post (w.own n p (.lst xs)) (h.set n (.lst ds)) (.ref n) (.ref p) x (rel_own rel hm hp ⟨xs, upd_same, r.mono x, l⟩) (.ref (if_pos rfl)) (q n hn)
/-! ### changed things -/
theorem ext_chg {n : Nat} {a : Addr} {c c' : Cell} (rel : RelW K w h) (e : w.m n = some a) (hn : h n = some c) : Ext w (w.put a o) h (h.set n c') := by
  refine ⟨fun _ _ e => e, fun _ e => e, fun b u q z => ?_, fun _ q => .inl q, fun k b e1 q f => ?_⟩
  · show upd w.H a o b = some u
    rw [upd_ne (fun z' : b = a => q (.inl ⟨n, by rw [z']; exact e, rel.live n c hn⟩))]; exact z
  · have hk : k ≠ n := fun z => by rw [z, hn] at q; cases q
    rw [Hd.set_ne hk]; exact ⟨q, upd_ne fun z : b = a => hk (rel.inj k n a (z ▸ e1) e f (rel.live n c hn)), f⟩
theorem rel_chg {n : Nat} {a : Addr} {c c' : Cell} (rel : RelW K w h) (e : w.m n = some a) (hn : h n = some c) (r : RC K (w.put a o) c' a) : RelW K (w.put a o) (h.set n c') := by
  have x : Ext w (w.put a o) h (h.set n c') := ext_chg rel e hn
  refine ⟨rel.inj, fun k d ek => ?_, fun k d ek => ?_, fun k b q => ?_, rel.fin, fun q eq => ?_, rel.dks⟩
  · by_cases hk : k = n
    · subst hk
      rw [Hd.set_same] at ek; cases ek
      exact ⟨a, e, r⟩
    · rw [Hd.set_ne hk] at ek
      obtain ⟨b, e1, r⟩ := rel.has k d ek
      have hb : b ≠ a := fun z => hk (rel.inj k n a (z ▸ e1) e (rel.live k d ek) (rel.live n c hn))
      refine ⟨b, e1, ?_⟩
      cases d with
      | lst ds =>
        obtain ⟨xs, e2, r, l⟩ := r
        exact ⟨xs, (upd_ne hb).trans e2, r.mono x, l⟩
      | dK kvs =>
        obtain ⟨xs, e2, e3, r⟩ := r
        exact ⟨xs, (upd_ne hb).trans e2, e3, r.mono x⟩
  · by_cases hk : k = n
    · subst hk
      exact rel.live k c hn
    · rw [Hd.set_ne hk] at ek
      exact rel.live k d ek
  · show upd w.H a o b ≠ none
    by_cases hb : b = a
    · rw [hb, upd_same]; simp
    · rw [upd_ne hb]; exact rel.there k b q
  · obtain ⟨⟨ne, ns, s, t, e1, e2, l⟩, z⟩ := rel.deck q eq
    have h1 : q.1 ≠ a := fun z' => (z n (rel.live n c hn)).1 (z' ▸ e)
    have h2 : q.2 ≠ a := fun z' => (z n (rel.live n c hn)).2 (z' ▸ e)
    exact ⟨⟨ne, ns, s, t, (upd_ne h1).trans e1, (upd_ne h2).trans e2, l⟩, z⟩
/-- the list at n has become ds'; the answer d -/
theorem post_chg {n : Nat} {a : Addr} {QD : Pq} {Q : VK} {ds' : List D} {xs' : List V} {c : Cell} {d : D} {v : V} (rel : RelW K w h) (e : w.m n = some a) (hn : h n = some c) (r : RDs K w ds' xs') (l : ds'.length ≤ sizeLine) (rv : RD K w d v) (q : QD d (h.set n (.lst ds')))
    (post : Post K w h QD Q) : Q v (upd w.H a (.lst xs')) := by
  have x : Ext w (w.put a (.lst xs')) h (h.set n (.lst ds')) := ext_chg rel e hn
  exact post (w.put a (.lst xs')) (h.set n (.lst ds')) d v x (rel_chg rel e hn ⟨xs', upd_same, r.mono x, l⟩) (rv.mono x) q
theorem post_chgK {n : Nat} {a : Addr} {QD : Pq} {Q : VK} {ds' : List (Key × D)} {xs' : List (Key × V)} {c : Cell} {d : D} {v : V} (rel : RelW K w h) (e : w.m n = some a) (hn : h n = some c) (hk : xs'.map (·.1) = ds'.map (·.1)) (r : RDs K w (ds'.map (·.2)) (xs'.map (·.2))) (rv : RD K w d v) (q : QD d (h.set n (.dK ds')))
    (post : Post K w h QD Q) : Q v (upd w.H a (.dK xs')) := by
  have x : Ext w (w.put a (.dK xs')) h (h.set n (.dK ds')) := ext_chg rel e hn
  exact post (w.put a (.dK xs')) (h.set n (.dK ds')) d v x (rel_chg rel e hn ⟨xs', upd_same, hk, r.mono x⟩) (rv.mono x) q
/-- nothing is new -/
theorem Post.now {QD : Pq} {Q : VK} {d : D} {v : V} (post : Post K w h QD Q) (rel : RelW K w h) (r : RD K w d v) (q : QD d h) : Q v w.H := post w h d v (Ext.refl w h) rel r q
end

/-! ### reading lists -/
/-- what a value is to look at: a list that may change, as it is now -/
def view (h : Hd) : D → D
  | .ref n => match h n with
    | some (.lst ds) => .lst ds
    | _ => .ref n
  | d => d
theorem view_lst {K : PySem.W.Frag} {w : Wd} {h : Hd} {d : D} {ds : List D} {v : V} (rel : RelW K w h) (r : RD K w d v) (e : view h d = .lst ds) : ∃ a xs, v = .ref a ∧ w.H a = some (.lst xs) ∧ RDs K w ds xs ∧ ds.length ≤ sizeLine := by
  cases r with
  | ref q =>
    rename_i n a
    simp only [view] at e
    split at e
    · rename_i ds' hn
      cases e
      obtain ⟨b, e1, xs, e2, rs, l⟩ := rel.has n _ hn
      rw [q] at e1; cases e1
      exact ⟨a, xs, rfl, e2, rs, l⟩
    · cases e
  | lst s l rs =>
    cases e
    exact ⟨_, _, rfl, s.2, rs, l⟩
  | _ => cases e
theorem view_tup {K : PySem.W.Frag} {w : Wd} {h : Hd} {d : D} {ds : List D} {v : V} (r : RD K w d v) (e : view h d = .tup ds) : ∃ a xs, v = .ref a ∧ STup K w a xs ∧ RDs K w ds xs ∧ ds.length ≤ sizeLine := by
  cases r with
  | ref q =>
    simp only [view] at e
    split at e <;> cases e
  | tup s l rs =>
    cases e
    exact ⟨_, _, rfl, s, rs, l⟩
  | _ => cases e
theorem view_int {K : PySem.W.Frag} {w : Wd} {h : Hd} {d : D} {i : Int} {v : V} (r : RD K w d v) (e : view h d = .int i) : v = .int i := by
  cases r with
  | ref q =>
    simp only [view] at e
    split at e <;> cases e
  | int j => cases e; rfl
  | _ => cases e
theorem view_str {K : PySem.W.Frag} {w : Wd} {h : Hd} {d : D} {i : Str} {v : V} (r : RD K w d v) (e : view h d = .str i) : v = .str i := by
  cases r with
  | ref q =>
    simp only [view] at e
    split at e <;> cases e
  | str j => cases e; rfl
  | _ => cases e
theorem view_bl {K : PySem.W.Frag} {w : Wd} {h : Hd} {d : D} {i : Bool} {v : V} (r : RD K w d v) (e : view h d = .bl i) : v = .bl i := by
  cases r with
  | ref q =>
    simp only [view] at e
    split at e <;> cases e
  | bl j => cases e; rfl
  | _ => cases e
theorem view_non {K : PySem.W.Frag} {w : Wd} {h : Hd} {d : D} {v : V} (r : RD K w d v) (e : view h d = .non) : v = .non := by
  cases r with
  | ref q =>
    simp only [view] at e
    split at e <;> cases e
  | non => rfl
  | _ => cases e

/-! ### as data -/
def keyP : Key → PyData
  | .inl i => .int i
  | .inr x => .str x
mutual
def D.py : D → PyData
  | .bl b => .bool b
  | .int i => .int i
  | .str x => .str x
  | .tup ds => .tuple (D.pys ds)
  | .lst ds => .list (D.pys ds)
  | .dic ks ds => .dict ((ks.map keyP).zip (D.pys ds))
  | _ => .none
def D.pys : List D → List PyData
  | [] => []
  | d :: ds => D.py d :: D.pys ds
end
mutual
def D.isD : D → Bool
  | .non => true
  | .bl _ => true
  | .int _ => true
  | .str _ => true
  | .tup ds => D.areD ds
  | .lst ds => D.areD ds
  | _ => false
def D.areD : List D → Bool
  | [] => true
  | d :: ds => D.isD d && D.areD ds
end
mutual
theorem RD.dp {K : PySem.W.Frag} {w : Wd} : ∀ {d : D} {v : V}, RD K w d v → d.isD = true → Dp K w.H v d.py
  | _, _, .non, _ => by simp only [D.py]; exact .non
  | _, _, .bl b, _ => by simp only [D.py]; exact .bl b
  | _, _, .int i, _ => by simp only [D.py]; exact .int i
  | _, _, .str y, _ => by simp only [D.py]; exact .str y
  | _, _, .ty n, h => by simp [D.isD] at h
  | _, _, .tup s l r, h => by simp only [D.py]; exact .tup s.sq (RDs.dps r (by simpa [D.isD] using h))
  | _, _, .lst s l r, h => by simp only [D.py]; exact .lst (.inl (.inl s.2)) (RDs.dps r (by simpa [D.isD] using h))
  | _, _, .ref e, h => by simp [D.isD] at h
  | _, _, .deck e, h => by simp [D.isD] at h
  | _, _, .dic s l r, h => by simp [D.isD] at h
  | _, _, .scr s l n, h => by simp [D.isD] at h
theorem RDs.dps {K : PySem.W.Frag} {w : Wd} : ∀ {ds : List D} {vs : List V}, RDs K w ds vs → D.areD ds = true → DpAll K w.H vs (D.pys ds)
  | _, _, .nil, _ => by simp only [D.pys]; exact .nil
  | _, _, .cons r rs, h => by
    simp only [D.areD, Bool.and_eq_true] at h
    simp only [D.pys]
    exact .cons (RD.dp r h.1) (RDs.dps rs h.2)
end
theorem view_dp {K : PySem.W.Frag} {w : Wd} {h : Hd} {d : D} {v : V} (rel : RelW K w h) (r : RD K w d v) (i : (view h d).isD = true) : Dp K w.H v (view h d).py := by
  cases e : view h d with
  | lst ds =>
    obtain ⟨a, xs, rfl, e2, rs, _⟩ := view_lst rel r e
    rw [e] at i
    simp only [D.py]
    exact .lst (.inl (.inl e2)) (rs.dps (by simpa [D.isD] using i))
  | tup ds =>
    obtain ⟨a, xs, rfl, e2, rs, _⟩ := view_tup r e
    rw [e] at i
    simp only [D.py]
    exact .tup e2.sq (rs.dps (by simpa [D.isD] using i))
  | int j => rw [view_int r e]; simp only [D.py]; exact .int j
  | str j => rw [view_str r e]; simp only [D.py]; exact .str j
  | bl j => rw [view_bl r e]; simp only [D.py]; exact .bl j
  | non => rw [view_non r e]; simp only [D.py]; exact .non
  | ref n => rw [e] at i; simp [D.isD] at i
  | deck => rw [e] at i; simp [D.isD] at i
  | scr => rw [e] at i; simp [D.isD] at i
  | ty n => rw [e] at i; simp [D.isD] at i
  | dic ks ds => rw [e] at i; simp [D.isD] at i

/-! ### data with finished dicts in them -/
mutual
def D.isF : D → Bool
  | .non => true
  | .bl _ => true
  | .int _ => true
  | .str _ => true
  | .tup ds => D.areF ds
  | .lst ds => D.areF ds
  | .dic _ ds => D.areF ds
  | _ => false
def D.areF : List D → Bool
  | [] => true
  | d :: ds => D.isF d && D.areF ds
end
mutual
theorem isF_of : ∀ d : D, d.isD = true → d.isF = true
  | .non, _ => by simp only [D.isF]
  | .bl _, _ => by simp only [D.isF]
  | .int _, _ => by simp only [D.isF]
  | .str _, _ => by simp only [D.isF]
  | .tup ds, h => by simp only [D.isF]; exact areF_of ds (by simpa only [D.isD] using h)
  | .lst ds, h => by simp only [D.isF]; exact areF_of ds (by simpa only [D.isD] using h)
  | .ref _, h => by simp [D.isD] at h
  | .deck, h => by simp [D.isD] at h
  | .scr, h => by simp [D.isD] at h
  | .ty _, h => by simp [D.isD] at h
  | .dic _ _, h => by simp [D.isD] at h
theorem areF_of : ∀ ds : List D, D.areD ds = true → D.areF ds = true
  | [], _ => by simp only [D.areF]
  | d :: ds, h => by
    simp only [D.areD, Bool.and_eq_true] at h
    simp only [D.areF, isF_of d h.1, areF_of ds h.2, Bool.and_self]
end
section
variable {X : Cx} {pins : List (Addr × Obj)} {σ : L2.St} {s : Shared} {w : Wd}
/-- no list or dict of ours is the table of modules -/
theorem tracked_ne (I : Inv X pins σ w.H s) (hs : ∃ o, X.base.get? sysModules = some o) {a : Addr} {o : HO} (e : w.H a = some o) : a ≠ sysModules := fun z => by
  obtain ⟨u, hu⟩ := hs
  have := (I.bs _ _ hu).2
  rw [← z, e] at this
  cases this
theorem keys_read {h : Heap} {P : Program} {W : World} : ∀ {ks : List Key} {xs : List V} {vs : List (Key × Value)} {es : List DictEntry}, ks.length = xs.length → KV (ks.zip xs) vs → Pairs (mixKind P W) es vs →
    ReadsAll h (es.map (·.key)) (ks.map keyP) [] ∧ Vals xs (es.map (·.val))
  | [], [], _, _, _, .nil, .nil => ⟨.nil, .nil⟩
  | [], _ :: _, _, _, l, _, _ => by simp at l
  | _ :: _, [], _, _, l, _, _ => by simp at l
  | k :: ks, x :: xs, _, _, l, .cons ⟨e1, e2⟩ rs, .cons p1 p2 ps => by
    obtain ⟨a, b⟩ := keys_read (P := P) (W := W) (h := h) (by simpa using l) rs ps
    have c : ∀ {u : Value}, keyIs k u = true → Reads h u (keyP k) [] := fun {u} hk => by
      rcases keyIs_shape hk with ⟨i, t, rfl, rfl⟩ | ⟨y, t, rfl, rfl⟩
      · exact .int i t
      · exact .str y t
    simp only at e1
    subst e1
    refine ⟨ReadsAll.cons (as := []) (bs := []) (c p1) a, .cons ?_ b⟩
    dsimp only
    rw [p2]
    exact e2
theorem nin_append {α : Type} {x : α} {as bs : List α} (h1 : x ∉ as) (h2 : x ∉ bs) : x ∉ as ++ bs := fun h => (List.mem_append.mp h).elim h1 h2
theorem nin_cons {α : Type} {x a : α} {as : List α} (h1 : a ≠ x) (h2 : x ∉ as) : x ∉ a :: as := fun h => (List.mem_cons.mp h).elim (fun e => h1 e.symm) h2
theorem zip_fst_snd {α β : Type} : ∀ {as : List α} {bs : List β}, as.length = bs.length → (as.zip bs).map (·.1) = as ∧ (as.zip bs).map (·.2) = bs
  | [], [], _ => ⟨rfl, rfl⟩
  | [], _ :: _, h => by simp at h
  | _ :: _, [], h => by simp at h
  | a :: as, b :: bs, h => by
    obtain ⟨h1, h2⟩ := zip_fst_snd (as := as) (bs := bs) (by simpa using h)
    simp only [List.zip_cons_cons, List.map_cons, h1, h2]
    exact ⟨trivial, trivial⟩
theorem pys_len : ∀ ds : List D, (D.pys ds).length = ds.length
  | [] => by simp only [D.pys, List.length_nil]
  | d :: ds => by simp only [D.pys, List.length_cons, pys_len ds]
mutual
theorem RD.reads (I : Inv X pins σ w.H s) (hs : ∃ o, X.base.get? sysModules = some o) : ∀ {d : D} {v : V} {u : Value}, RD X.K w d v → RelV v u → d.isF = true → ∃ as, Reads s.heap u d.py as ∧ sysModules ∉ as
  | _, _, _, .non, r, _ => by cases r; simp only [D.py]; exact ⟨_, Reads.none, List.not_mem_nil⟩
  | _, _, _, .bl b, r, _ => by cases r; simp only [D.py]; exact ⟨_, Reads.bool b, List.not_mem_nil⟩
  | _, _, _, .int i, r, _ => by obtain ⟨t, rfl⟩ := r; simp only [D.py]; exact ⟨_, Reads.int i t, List.not_mem_nil⟩
  | _, _, _, .str y, r, _ => by obtain ⟨t, rfl⟩ := r; simp only [D.py]; exact ⟨_, Reads.str y t, List.not_mem_nil⟩
  | _, _, _, .ty n, _, h => by simp [D.isF] at h
  | _, _, _, .ref e, _, h => by simp [D.isF] at h
  | _, _, _, .deck e, _, h => by simp [D.isF] at h
  | _, _, _, .scr _ _ _, _, h => by simp [D.isF] at h
  | _, _, _, .tup st l rs, r, h => by
    cases r
    obtain ⟨its, rv, ⟨o, ho, hc, n, hd⟩, _⟩ := I.tuple st.sq
    obtain ⟨as, hr, hn⟩ := RDs.reads I hs rs rv (by simpa only [D.isF] using h)
    simp only [D.py]
    exact ⟨_, Reads.tuple ho hc hd hr, hn⟩
  | _, _, _, .lst st l rs, r, h => by
    cases r
    obtain ⟨its, rv, ⟨o, n, ho, hc, _, hd⟩, _⟩ := I.list (.inl (.inl st.2))
    obtain ⟨as, hr, hn⟩ := RDs.reads I hs rs rv (by simpa only [D.isF] using h)
    simp only [D.py]
    exact ⟨_, Reads.list ho hc hd hr, nin_cons (tracked_ne I hs st.2) hn⟩
  | _, _, _, .dic st l rs, r, h => by
    cases r
    obtain ⟨_, _, vs, kv, o, es, ep, ho, hc, hd, _, ps, _⟩ := dk_of I.hok st.2
    obtain ⟨rk, rv⟩ := keys_read (h := s.heap) (l.trans rs.length) kv ps
    obtain ⟨bs, hr, hn⟩ := RDs.reads I hs rs rv (by simpa only [D.isF] using h)
    simp only [D.py]
    have z := zip_fst_snd (as := (_ : List Key).map keyP) (bs := D.pys _) (by rw [List.length_map, pys_len]; exact l)
    refine ⟨_, Reads.dict (as := []) (bs := bs) ho hc.1 hd (by rw [z.1]; exact rk) (by rw [z.2]; exact hr), ?_⟩
    exact nin_append (nin_cons (tracked_ne I hs st.2) List.not_mem_nil) hn
theorem RDs.reads (I : Inv X pins σ w.H s) (hs : ∃ o, X.base.get? sysModules = some o) : ∀ {ds : List D} {vs : List V} {us : List Value}, RDs X.K w ds vs → Vals vs us → D.areF ds = true → ∃ as, ReadsAll s.heap us (D.pys ds) as ∧ sysModules ∉ as
  | _, _, _, .nil, r, _ => by cases r; simp only [D.pys]; exact ⟨_, ReadsAll.nil, List.not_mem_nil⟩
  | _, _, _, .cons r rs, rv, h => by
    simp only [D.areF, Bool.and_eq_true] at h
    cases rv with
    | cons r1 r2 =>
      obtain ⟨as, q1, n1⟩ := RD.reads I hs r r1 h.1
      obtain ⟨bs, q2, n2⟩ := RDs.reads I hs rs r2 h.2
      simp only [D.pys]
      exact ⟨_, ReadsAll.cons q1 q2, nin_append n1 n2⟩
end
mutual
theorem RD.reads0 (I : Inv X pins σ w.H s) : ∀ {d : D} {v : V} {u : Value}, RD X.K w d v → RelV v u → d.isF = true → ∃ as, Reads s.heap u d.py as
  | _, _, _, .non, r, _ => by cases r; simp only [D.py]; exact ⟨_, Reads.none⟩
  | _, _, _, .bl b, r, _ => by cases r; simp only [D.py]; exact ⟨_, Reads.bool b⟩
  | _, _, _, .int i, r, _ => by obtain ⟨t, rfl⟩ := r; simp only [D.py]; exact ⟨_, Reads.int i t⟩
  | _, _, _, .str y, r, _ => by obtain ⟨t, rfl⟩ := r; simp only [D.py]; exact ⟨_, Reads.str y t⟩
  | _, _, _, .ty n, _, h => by simp [D.isF] at h
  | _, _, _, .ref e, _, h => by simp [D.isF] at h
  | _, _, _, .deck e, _, h => by simp [D.isF] at h
  | _, _, _, .scr _ _ _, _, h => by simp [D.isF] at h
  | _, _, _, .tup st l rs, r, h => by
    cases r
    obtain ⟨its, rv, ⟨o, ho, hc, n, hd⟩, _⟩ := I.tuple st.sq
    obtain ⟨as, hr⟩ := RDs.reads0 I rs rv (by simpa only [D.isF] using h)
    simp only [D.py]
    exact ⟨_, Reads.tuple ho hc hd hr⟩
  | _, _, _, .lst st l rs, r, h => by
    cases r
    obtain ⟨its, rv, ⟨o, n, ho, hc, _, hd⟩, _⟩ := I.list (.inl (.inl st.2))
    obtain ⟨as, hr⟩ := RDs.reads0 I rs rv (by simpa only [D.isF] using h)
    simp only [D.py]
    exact ⟨_, Reads.list ho hc hd hr⟩
  | _, _, _, .dic st l rs, r, h => by
    cases r
    obtain ⟨_, _, vs, kv, o, es, ep, ho, hc, hd, _, ps, _⟩ := dk_of I.hok st.2
    obtain ⟨rk, rv⟩ := keys_read (h := s.heap) (l.trans rs.length) kv ps
    obtain ⟨bs, hr⟩ := RDs.reads0 I rs rv (by simpa only [D.isF] using h)
    simp only [D.py]
    have z := zip_fst_snd (as := (_ : List Key).map keyP) (bs := D.pys _) (by rw [List.length_map, pys_len]; exact l)
    exact ⟨_, Reads.dict (as := []) (bs := bs) ho hc.1 hd (by rw [z.1]; exact rk) (by rw [z.2]; exact hr)⟩
theorem RDs.reads0 (I : Inv X pins σ w.H s) : ∀ {ds : List D} {vs : List V} {us : List Value}, RDs X.K w ds vs → Vals vs us → D.areF ds = true → ∃ as, ReadsAll s.heap us (D.pys ds) as
  | _, _, _, .nil, r, _ => by cases r; simp only [D.pys]; exact ⟨_, ReadsAll.nil⟩
  | _, _, _, .cons r rs, rv, h => by
    simp only [D.areF, Bool.and_eq_true] at h
    cases rv with
    | cons r1 r2 =>
      obtain ⟨as, q1⟩ := RD.reads0 I r r1 h.1
      obtain ⟨bs, q2⟩ := RDs.reads0 I rs r2 h.2
      simp only [D.pys]
      exact ⟨_, ReadsAll.cons q1 q2⟩
end
theorem view_reads {h : Hd} {d : D} {v : V} {u : Value} (I : Inv X pins σ w.H s) (hs : ∃ o, X.base.get? sysModules = some o) (rel : RelW X.K w h) (r : RD X.K w d v) (ru : RelV v u) (i : (view h d).isF = true) : ∃ as, Reads s.heap u (view h d).py as ∧ sysModules ∉ as := by
  cases d with
  | ref n =>
    cases e : view h (.ref n) with
    | lst ds =>
      obtain ⟨a, xs, rfl, e2, rs, _⟩ := view_lst rel r e
      rw [e] at i
      cases ru
      obtain ⟨its, rv, ⟨o, n, ho, hc, _, hd⟩, _⟩ := I.list (.inl (.inl e2))
      obtain ⟨as, hr, hn⟩ := RDs.reads I hs rs rv (by simpa only [D.isF] using i)
      simp only [D.py]
      exact ⟨_, Reads.list ho hc hd hr, nin_cons (tracked_ne I hs e2) hn⟩
    | _ =>
      exfalso
      have : view h (.ref n) = .ref n := by
        simp only [view] at e ⊢
        split at e <;> first | (cases e; done) | rfl
      rw [this] at i
      simp [D.isF] at i
  | non => exact RD.reads I hs r ru i
  | bl _ => exact RD.reads I hs r ru i
  | int _ => exact RD.reads I hs r ru i
  | str _ => exact RD.reads I hs r ru i
  | tup _ => exact RD.reads I hs r ru i
  | lst _ => exact RD.reads I hs r ru i
  | deck => exact RD.reads I hs r ru i
  | scr => exact RD.reads I hs r ru i
  | ty _ => exact RD.reads I hs r ru i
  | dic _ _ => exact RD.reads I hs r ru i
theorem view_reads0 {h : Hd} {d : D} {v : V} {u : Value} (I : Inv X pins σ w.H s) (rel : RelW X.K w h) (r : RD X.K w d v) (ru : RelV v u) (i : (view h d).isF = true) : ∃ as, Reads s.heap u (view h d).py as := by
  cases d with
  | ref n =>
    cases e : view h (.ref n) with
    | lst ds =>
      obtain ⟨a, xs, rfl, e2, rs, _⟩ := view_lst rel r e
      rw [e] at i
      cases ru
      obtain ⟨its, rv, ⟨o, n, ho, hc, _, hd⟩, _⟩ := I.list (.inl (.inl e2))
      obtain ⟨as, hr⟩ := RDs.reads0 I rs rv (by simpa only [D.isF] using i)
      simp only [D.py]
      exact ⟨_, Reads.list ho hc hd hr⟩
    | _ =>
      exfalso
      have : view h (.ref n) = .ref n := by
        simp only [view] at e ⊢
        split at e <;> first | (cases e; done) | rfl
      rw [this] at i
      simp [D.isF] at i
  | non => exact RD.reads0 I r ru i
  | bl _ => exact RD.reads0 I r ru i
  | int _ => exact RD.reads0 I r ru i
  | str _ => exact RD.reads0 I r ru i
  | tup _ => exact RD.reads0 I r ru i
  | lst _ => exact RD.reads0 I r ru i
  | deck => exact RD.reads0 I r ru i
  | scr => exact RD.reads0 I r ru i
  | ty _ => exact RD.reads0 I r ru i
  | dic _ _ => exact RD.reads0 I r ru i
end
end G

/-! == and != where one side has no dict in it. -/
namespace G
open PySem PySem.SeqAt PySem.MeetsSeq
open PySem.AutoSeq1 (wpAny_loadPart')

section
variable {M : Model} {A : Around} {E : Value → Shared → Prop} {s : Shared}
def IsDic (h : Heap) (l : Addr) : Prop := ∃ o es n, h.get? l = some o ∧ o.cls = .type "dict" ∧ o.data = .dict es n
theorem IsDic.ty {l : Addr} (h : IsDic s.heap l) : s.TypeIs (.ref l) "dict" := by
  obtain ⟨o, es, n, ho, hc, _⟩ := h
  exact ⟨o, ho, hc⟩
theorem dict_eq_declines {l : Addr} {x : Value} {T : String} {Q : Value → Shared → Prop} {prog : Program} {w : World} {f : String} (sl : Slot "dict" f "dict.__eq__") (hl : IsDic s.heap l) (hx : s.TypeIs x T) (hsub : isSubtype (.type T) (.type "dict") = pure false) (h : Q .notImplemented s) : wpAny (model prog w) A (call (.builtin "dict.__eq__") [.ref l, x]) Q E s := by
  refine wpAny_call_entry sl hl.ty PySem.F.entry_dict_eq ?_ (PySem.F.args_dict_eq_2 _ _)
  show wpAny _ _ (Builtin.Dict.dictSlotArgs "__eq__" ⟨[.ref l, x], []⟩ >>= _) _ _ s
  refine wpAny_bind ?_
  unfold Builtin.Dict.dictSlotArgs
  refine wpAny_bind (wpAny_notOrdered_dict hl.ty ?_)
  show wpAny _ _ (pure (Value.ref l, x)) _ _ s
  refine wpAny_pure ?_
  refine wpAny_bind (wpAny_isInstance (T := T) hx hsub ?_)
  simp only [Bool.not_false, if_true]
  refine wpAny_bind (wpAny_rule ?_)
  exact wpAny_bind (wpAny_pure (wpAny_pure ⟨_, rfl, h⟩))
theorem int_eq_dict_bool (b : Bool) (l : Addr) (es : Array DictEntry) (n : Nat) (dd : Option Addr) (sl : Array (Option Value)) :
    Meets (Builtin.«int.__eq__» ⟨[.bool b, .ref l], []⟩) (fun _ R s => s.heap.get? l = some { cls := .type "dict", dict := dd, data := .dict es n, slots := sl } ∧ R (.ok (.ret .notImplemented)) s) :=
  .of_wp fun prog w A R s h => by obtain ⟨hp, g, d, tk, os⟩ := s; obtain ⟨hl, h⟩ := h; wp_walk using wpAny_loadPart' hl, wpAny_load hl; exact ⟨_, rfl, h⟩
theorem int_eq_dict_int (b : Int) (u : Tok) (l : Addr) (es : Array DictEntry) (n : Nat) (dd : Option Addr) (sl : Array (Option Value)) :
    Meets (Builtin.«int.__eq__» ⟨[.int b u, .ref l], []⟩) (fun _ R s => s.heap.get? l = some { cls := .type "dict", dict := dd, data := .dict es n, slots := sl } ∧ R (.ok (.ret .notImplemented)) s) :=
  .of_wp fun prog w A R s h => by obtain ⟨hp, g, d, tk, os⟩ := s; obtain ⟨hl, h⟩ := h; wp_walk using wpAny_loadPart' hl, wpAny_load hl; exact ⟨_, rfl, h⟩
theorem str_eq_dict_str (b : Str) (u : Tok) (l : Addr) (es : Array DictEntry) (n : Nat) (dd : Option Addr) (sl : Array (Option Value)) :
    Meets (Builtin.«str.__eq__» ⟨[.str b u, .ref l], []⟩) (fun _ R s => s.heap.get? l = some { cls := .type "dict", dict := dd, data := .dict es n, slots := sl } ∧ R (.ok (.ret .notImplemented)) s) :=
  .of_wp fun prog w A R s h => by obtain ⟨hp, g, d, tk, os⟩ := s; obtain ⟨hl, h⟩ := h; wp_walk using wpAny_loadPart' hl, wpAny_load hl; exact ⟨_, rfl, h⟩
theorem list_eq_dict (a l : Addr) (items : Array Value) (n2 : Nat) (dd2 : Option Addr) (sl2 : Array (Option Value)) (es : Array DictEntry) (n : Nat) (dd : Option Addr) (sl : Array (Option Value)) :
    Meets (Builtin.«list.__eq__» ⟨[.ref a, .ref l], []⟩) (fun _ R s => s.heap.get? a = some { cls := .type "list", dict := dd2, data := .seq items n2, slots := sl2 } ∧ s.heap.get? l = some { cls := .type "dict", dict := dd, data := .dict es n, slots := sl } ∧ R (.ok (.ret .notImplemented)) s) :=
  .of_wp fun prog w A R s h => by obtain ⟨hp, g, d, tk, os⟩ := s; obtain ⟨ha, hl, h⟩ := h; have f1 := F.sub_dict_list; wp_walk using wpAny_loadPart' ha, wpAny_loadPart' hl; exact ⟨_, rfl, h⟩
theorem tuple_eq_dict (a l : Addr) (items : Array Value) (n2 : Nat) (dd2 : Option Addr) (sl2 : Array (Option Value)) (es : Array DictEntry) (n : Nat) (dd : Option Addr) (sl : Array (Option Value)) :
    Meets (Builtin.«tuple.__eq__» ⟨[.ref a, .ref l], []⟩) (fun _ R s => s.heap.get? a = some { cls := .type "tuple", dict := dd2, data := .seq items n2, slots := sl2 } ∧ s.heap.get? l = some { cls := .type "dict", dict := dd, data := .dict es n, slots := sl } ∧ R (.ok (.ret .notImplemented)) s) :=
  .of_wp fun prog w A R s h => by obtain ⟨hp, g, d, tk, os⟩ := s; obtain ⟨ha, hl, h⟩ := h; have f1 := F.sub_dict_tuple; wp_walk using wpAny_loadPart' ha, wpAny_loadPart' hl; exact ⟨_, rfl, h⟩
theorem RcAt_dict_none {l : Addr}  (hl : IsDic s.heap l) (hu : A.units < cLine) : RcAt A s (.ref l) .none false := fun prog w E Q h => by
  obtain ⟨⟨cls, dd, data, sl⟩, es, n, ho, hc, hd⟩ := id hl
  simp only at hc hd
  subst hc hd
  exact rc_eq_decline_or (k := false) hl.ty rfl (by decide) F.sub_NoneType_dict F.slot_dict_eq F.slot_NoneType_eq_refl
    (fun _ hq => dict_eq_declines F.slot_dict_eq hl rfl F.sub_NoneType_dict hq)
    (fun _ hq => call_gives F.slot_NoneType_eq_refl rfl F.entry_NoneType_eq (F.args_NoneType_eq_2 _ _) (NoneType___eq___none_ref_0 l) hq)
    (fun _ hq => wpAny_of_eq (rfl : isSame (.ref l) .none = pure false) hq) (.inr hu) h
theorem RcAt_none_dict {l : Addr}  (hl : IsDic s.heap l) (hu : A.units < cLine) : RcAt A s .none (.ref l) false := fun prog w E Q h => by
  obtain ⟨⟨cls, dd, data, sl⟩, es, n, ho, hc, hd⟩ := id hl
  simp only at hc hd
  subst hc hd
  exact rc_eq_decline_or (k := false) rfl hl.ty (by decide) F.sub_dict_NoneType F.slot_NoneType_eq F.slot_dict_eq_refl
    (fun _ hq => call_gives F.slot_NoneType_eq rfl F.entry_NoneType_eq (F.args_NoneType_eq_2 _ _) (NoneType___eq___none_ref_0 l) hq)
    (fun _ hq => dict_eq_declines F.slot_dict_eq_refl hl rfl F.sub_NoneType_dict hq)
    (fun _ hq => wpAny_of_eq (rfl : isSame .none (.ref l) = pure false) hq) (.inr hu) h
theorem EqAt_dict_none {l : Addr}  (hl : IsDic s.heap l) (hu : A.units < cLine) : EqAt A s (.ref l) .none false := fun prog w E Q h => by
  unfold eqBool
  refine wpAny_holding ?_
  refine wpAny_ite_split (fun hab => absurd (eq_of_beq hab) nofun) (fun _ => ?_)
  exact wpAny_bind (RcAt_dict_none  hl hu prog w E _ (wpAny_truthy_bool h))
theorem EqAt_none_dict {l : Addr}  (hl : IsDic s.heap l) (hu : A.units < cLine) : EqAt A s .none (.ref l) false := fun prog w E Q h => by
  unfold eqBool
  refine wpAny_holding ?_
  refine wpAny_ite_split (fun hab => absurd (eq_of_beq hab) nofun) (fun _ => ?_)
  exact wpAny_bind (RcAt_none_dict  hl hu prog w E _ (wpAny_truthy_bool h))
theorem RcAt_dict_bool {l : Addr} (b : Bool) (hl : IsDic s.heap l) (hu : A.units < cLine) : RcAt A s (.ref l) (.bool b) false := fun prog w E Q h => by
  obtain ⟨⟨cls, dd, data, sl⟩, es, n, ho, hc, hd⟩ := id hl
  simp only at hc hd
  subst hc hd
  exact rc_eq_decline_or (k := false) hl.ty rfl (by decide) F.sub_bool_dict F.slot_dict_eq F.slot_bool_eq_refl
    (fun _ hq => dict_eq_declines F.slot_dict_eq hl rfl F.sub_bool_dict hq)
    (fun _ hq => call_meets F.slot_bool_eq_refl rfl F.entry_int_eq (F.args_int_eq_2 _ _) (int_eq_dict_bool b l es n dd sl) ⟨ho, hq⟩)
    (fun _ hq => wpAny_of_eq (rfl : isSame (.ref l) (.bool b) = pure false) hq) (.inr hu) h
theorem RcAt_bool_dict {l : Addr} (b : Bool) (hl : IsDic s.heap l) (hu : A.units < cLine) : RcAt A s (.bool b) (.ref l) false := fun prog w E Q h => by
  obtain ⟨⟨cls, dd, data, sl⟩, es, n, ho, hc, hd⟩ := id hl
  simp only at hc hd
  subst hc hd
  exact rc_eq_decline_or (k := false) rfl hl.ty (by decide) F.sub_dict_bool F.slot_bool_eq F.slot_dict_eq_refl
    (fun _ hq => call_meets F.slot_bool_eq rfl F.entry_int_eq (F.args_int_eq_2 _ _) (int_eq_dict_bool b l es n dd sl) ⟨ho, hq⟩)
    (fun _ hq => dict_eq_declines F.slot_dict_eq_refl hl rfl F.sub_bool_dict hq)
    (fun _ hq => wpAny_of_eq (rfl : isSame (.bool b) (.ref l) = pure false) hq) (.inr hu) h
theorem EqAt_dict_bool {l : Addr} (b : Bool) (hl : IsDic s.heap l) (hu : A.units < cLine) : EqAt A s (.ref l) (.bool b) false := fun prog w E Q h => by
  unfold eqBool
  refine wpAny_holding ?_
  refine wpAny_ite_split (fun hab => absurd (eq_of_beq hab) nofun) (fun _ => ?_)
  exact wpAny_bind (RcAt_dict_bool b hl hu prog w E _ (wpAny_truthy_bool h))
theorem EqAt_bool_dict {l : Addr} (b : Bool) (hl : IsDic s.heap l) (hu : A.units < cLine) : EqAt A s (.bool b) (.ref l) false := fun prog w E Q h => by
  unfold eqBool
  refine wpAny_holding ?_
  refine wpAny_ite_split (fun hab => absurd (eq_of_beq hab) nofun) (fun _ => ?_)
  exact wpAny_bind (RcAt_bool_dict b hl hu prog w E _ (wpAny_truthy_bool h))
theorem RcAt_dict_int {l : Addr} (b : Int) (u : Tok) (hl : IsDic s.heap l) (hu : A.units < cLine) : RcAt A s (.ref l) (.int b u) false := fun prog w E Q h => by
  obtain ⟨⟨cls, dd, data, sl⟩, es, n, ho, hc, hd⟩ := id hl
  simp only at hc hd
  subst hc hd
  exact rc_eq_decline_or (k := false) hl.ty (typeIs_int s b u) (by decide) F.sub_int_dict F.slot_dict_eq F.slot_int_eq_refl
    (fun _ hq => dict_eq_declines F.slot_dict_eq hl (typeIs_int s b u) F.sub_int_dict hq)
    (fun _ hq => call_meets F.slot_int_eq_refl (typeIs_int s b u) F.entry_int_eq (F.args_int_eq_2 _ _) (int_eq_dict_int b u l es n dd sl) ⟨ho, hq⟩)
    (fun _ hq => wpAny_of_eq (rfl : isSame (.ref l) (.int b u) = pure false) hq) (.inr hu) h
theorem RcAt_int_dict {l : Addr} (b : Int) (u : Tok) (hl : IsDic s.heap l) (hu : A.units < cLine) : RcAt A s (.int b u) (.ref l) false := fun prog w E Q h => by
  obtain ⟨⟨cls, dd, data, sl⟩, es, n, ho, hc, hd⟩ := id hl
  simp only at hc hd
  subst hc hd
  exact rc_eq_decline_or (k := false) (typeIs_int s b u) hl.ty (by decide) F.sub_dict_int F.slot_int_eq F.slot_dict_eq_refl
    (fun _ hq => call_meets F.slot_int_eq (typeIs_int s b u) F.entry_int_eq (F.args_int_eq_2 _ _) (int_eq_dict_int b u l es n dd sl) ⟨ho, hq⟩)
    (fun _ hq => dict_eq_declines F.slot_dict_eq_refl hl (typeIs_int s b u) F.sub_int_dict hq)
    (fun _ hq => wpAny_of_eq (rfl : isSame (.int b u) (.ref l) = pure false) hq) (.inr hu) h
theorem EqAt_dict_int {l : Addr} (b : Int) (u : Tok) (hl : IsDic s.heap l) (hu : A.units < cLine) : EqAt A s (.ref l) (.int b u) false := fun prog w E Q h => by
  unfold eqBool
  refine wpAny_holding ?_
  refine wpAny_ite_split (fun hab => absurd (eq_of_beq hab) nofun) (fun _ => ?_)
  exact wpAny_bind (RcAt_dict_int b u hl hu prog w E _ (wpAny_truthy_bool h))
theorem EqAt_int_dict {l : Addr} (b : Int) (u : Tok) (hl : IsDic s.heap l) (hu : A.units < cLine) : EqAt A s (.int b u) (.ref l) false := fun prog w E Q h => by
  unfold eqBool
  refine wpAny_holding ?_
  refine wpAny_ite_split (fun hab => absurd (eq_of_beq hab) nofun) (fun _ => ?_)
  exact wpAny_bind (RcAt_int_dict b u hl hu prog w E _ (wpAny_truthy_bool h))
theorem RcAt_dict_str {l : Addr} (b : Str) (u : Tok) (hl : IsDic s.heap l) (hu : A.units < cLine) : RcAt A s (.ref l) (.str b u) false := fun prog w E Q h => by
  obtain ⟨⟨cls, dd, data, sl⟩, es, n, ho, hc, hd⟩ := id hl
  simp only at hc hd
  subst hc hd
  exact rc_eq_decline_or (k := false) hl.ty (typeIs_str s b u) (by decide) F.sub_str_dict F.slot_dict_eq F.slot_str_eq_refl
    (fun _ hq => dict_eq_declines F.slot_dict_eq hl (typeIs_str s b u) F.sub_str_dict hq)
    (fun _ hq => call_meets F.slot_str_eq_refl (typeIs_str s b u) F.entry_str_eq (F.args_str_eq_2 _ _) (str_eq_dict_str b u l es n dd sl) ⟨ho, hq⟩)
    (fun _ hq => wpAny_of_eq (rfl : isSame (.ref l) (.str b u) = pure false) hq) (.inr hu) h
theorem RcAt_str_dict {l : Addr} (b : Str) (u : Tok) (hl : IsDic s.heap l) (hu : A.units < cLine) : RcAt A s (.str b u) (.ref l) false := fun prog w E Q h => by
  obtain ⟨⟨cls, dd, data, sl⟩, es, n, ho, hc, hd⟩ := id hl
  simp only at hc hd
  subst hc hd
  exact rc_eq_decline_or (k := false) (typeIs_str s b u) hl.ty (by decide) F.sub_dict_str F.slot_str_eq F.slot_dict_eq_refl
    (fun _ hq => call_meets F.slot_str_eq (typeIs_str s b u) F.entry_str_eq (F.args_str_eq_2 _ _) (str_eq_dict_str b u l es n dd sl) ⟨ho, hq⟩)
    (fun _ hq => dict_eq_declines F.slot_dict_eq_refl hl (typeIs_str s b u) F.sub_str_dict hq)
    (fun _ hq => wpAny_of_eq (rfl : isSame (.str b u) (.ref l) = pure false) hq) (.inr hu) h
theorem EqAt_dict_str {l : Addr} (b : Str) (u : Tok) (hl : IsDic s.heap l) (hu : A.units < cLine) : EqAt A s (.ref l) (.str b u) false := fun prog w E Q h => by
  unfold eqBool
  refine wpAny_holding ?_
  refine wpAny_ite_split (fun hab => absurd (eq_of_beq hab) nofun) (fun _ => ?_)
  exact wpAny_bind (RcAt_dict_str b u hl hu prog w E _ (wpAny_truthy_bool h))
theorem EqAt_str_dict {l : Addr} (b : Str) (u : Tok) (hl : IsDic s.heap l) (hu : A.units < cLine) : EqAt A s (.str b u) (.ref l) false := fun prog w E Q h => by
  unfold eqBool
  refine wpAny_holding ?_
  refine wpAny_ite_split (fun hab => absurd (eq_of_beq hab) nofun) (fun _ => ?_)
  exact wpAny_bind (RcAt_str_dict b u hl hu prog w E _ (wpAny_truthy_bool h))
theorem ne_list_dict {a l : Addr} {items : Array Value} (ha : s.heap.IsList a items) (hl : IsDic s.heap l) : a ≠ l := fun e => by
  subst e
  obtain ⟨o, ho, hc, _⟩ := ha
  obtain ⟨o2, es, n, ho2, hc2, _⟩ := hl
  rw [ho] at ho2
  cases ho2
  rw [hc] at hc2
  exact absurd hc2 (by simp)
theorem RcAt_list_dict {a l : Addr} {items : Array Value} (ha : s.heap.IsList a items) (hl : IsDic s.heap l) (hu : A.units < cLine) : RcAt A s (.ref a) (.ref l) false := fun prog w E Q h => by
  have hne := ne_list_dict ha hl
  obtain ⟨⟨cls, dd, data, sl⟩, es, n, ho, hc, hd⟩ := id hl
  obtain ⟨⟨cls2, dd2, data2, sl2⟩, ho2, hc2, n2, hd2⟩ := id ha
  simp only at hc hd hc2 hd2
  subst hc hd hc2 hd2
  exact rc_eq_decline_or (k := false) ⟨_, ho2, rfl⟩ hl.ty (by decide) F.sub_dict_list F.slot_list_eq F.slot_dict_eq_refl
    (fun _ hq => call_meets F.slot_list_eq ⟨_, ho2, rfl⟩ F.entry_list_eq (F.args_list_eq_2 _ _) (list_eq_dict a l items n2 dd2 sl2 es n dd sl) ⟨ho2, ho, hq⟩)
    (fun _ hq => dict_eq_declines F.slot_dict_eq_refl hl ⟨_, ho2, rfl⟩ F.sub_list_dict hq)
    (fun _ hq => wpAny_isSame_ref_other' hne ho2 ho (by simp) hq) (.inr hu) h
theorem RcAt_dict_list {a l : Addr} {items : Array Value} (hl : IsDic s.heap l) (ha : s.heap.IsList a items) (hu : A.units < cLine) : RcAt A s (.ref l) (.ref a) false := fun prog w E Q h => by
  have hne := ne_list_dict ha hl
  obtain ⟨⟨cls, dd, data, sl⟩, es, n, ho, hc, hd⟩ := id hl
  obtain ⟨⟨cls2, dd2, data2, sl2⟩, ho2, hc2, n2, hd2⟩ := id ha
  simp only at hc hd hc2 hd2
  subst hc hd hc2 hd2
  exact rc_eq_decline_or (k := false) hl.ty ⟨_, ho2, rfl⟩ (by decide) F.sub_list_dict F.slot_dict_eq F.slot_list_eq_refl
    (fun _ hq => dict_eq_declines F.slot_dict_eq hl ⟨_, ho2, rfl⟩ F.sub_list_dict hq)
    (fun _ hq => call_meets F.slot_list_eq_refl ⟨_, ho2, rfl⟩ F.entry_list_eq (F.args_list_eq_2 _ _) (list_eq_dict a l items n2 dd2 sl2 es n dd sl) ⟨ho2, ho, hq⟩)
    (fun _ hq => wpAny_isSame_ref_other hne.symm ho ho2 (by simp) hq) (.inr hu) h
theorem EqAt_list_dict {a l : Addr} {items : Array Value} (ha : s.heap.IsList a items) (hl : IsDic s.heap l) (hu : A.units < cLine) : EqAt A s (.ref a) (.ref l) false := .of_refs (ne_list_dict ha hl) (RcAt_list_dict ha hl hu)
theorem EqAt_dict_list {a l : Addr} {items : Array Value} (hl : IsDic s.heap l) (ha : s.heap.IsList a items) (hu : A.units < cLine) : EqAt A s (.ref l) (.ref a) false := .of_refs (ne_list_dict ha hl).symm (RcAt_dict_list hl ha hu)
theorem ne_tuple_dict {a l : Addr} {items : Array Value} (ha : s.heap.IsTuple a items) (hl : IsDic s.heap l) : a ≠ l := fun e => by
  subst e
  obtain ⟨o, ho, hc, _⟩ := ha
  obtain ⟨o2, es, n, ho2, hc2, _⟩ := hl
  rw [ho] at ho2
  cases ho2
  rw [hc] at hc2
  exact absurd hc2 (by simp)
theorem RcAt_tuple_dict {a l : Addr} {items : Array Value} (ha : s.heap.IsTuple a items) (hl : IsDic s.heap l) (hu : A.units < cLine) : RcAt A s (.ref a) (.ref l) false := fun prog w E Q h => by
  have hne := ne_tuple_dict ha hl
  obtain ⟨⟨cls, dd, data, sl⟩, es, n, ho, hc, hd⟩ := id hl
  obtain ⟨⟨cls2, dd2, data2, sl2⟩, ho2, hc2, n2, hd2⟩ := id ha
  simp only at hc hd hc2 hd2
  subst hc hd hc2 hd2
  exact rc_eq_decline_or (k := false) ⟨_, ho2, rfl⟩ hl.ty (by decide) F.sub_dict_tuple F.slot_tuple_eq F.slot_dict_eq_refl
    (fun _ hq => call_meets F.slot_tuple_eq ⟨_, ho2, rfl⟩ F.entry_tuple_eq (F.args_tuple_eq_2 _ _) (tuple_eq_dict a l items n2 dd2 sl2 es n dd sl) ⟨ho2, ho, hq⟩)
    (fun _ hq => dict_eq_declines F.slot_dict_eq_refl hl ⟨_, ho2, rfl⟩ F.sub_tuple_dict hq)
    (fun _ hq => wpAny_isSame_ref_other' hne ho2 ho (by simp) hq) (.inr hu) h
theorem RcAt_dict_tuple {a l : Addr} {items : Array Value} (hl : IsDic s.heap l) (ha : s.heap.IsTuple a items) (hu : A.units < cLine) : RcAt A s (.ref l) (.ref a) false := fun prog w E Q h => by
  have hne := ne_tuple_dict ha hl
  obtain ⟨⟨cls, dd, data, sl⟩, es, n, ho, hc, hd⟩ := id hl
  obtain ⟨⟨cls2, dd2, data2, sl2⟩, ho2, hc2, n2, hd2⟩ := id ha
  simp only at hc hd hc2 hd2
  subst hc hd hc2 hd2
  exact rc_eq_decline_or (k := false) hl.ty ⟨_, ho2, rfl⟩ (by decide) F.sub_tuple_dict F.slot_dict_eq F.slot_tuple_eq_refl
    (fun _ hq => dict_eq_declines F.slot_dict_eq hl ⟨_, ho2, rfl⟩ F.sub_tuple_dict hq)
    (fun _ hq => call_meets F.slot_tuple_eq_refl ⟨_, ho2, rfl⟩ F.entry_tuple_eq (F.args_tuple_eq_2 _ _) (tuple_eq_dict a l items n2 dd2 sl2 es n dd sl) ⟨ho2, ho, hq⟩)
    (fun _ hq => wpAny_isSame_ref_other hne.symm ho ho2 (by simp) hq) (.inr hu) h
theorem EqAt_tuple_dict {a l : Addr} {items : Array Value} (ha : s.heap.IsTuple a items) (hl : IsDic s.heap l) (hu : A.units < cLine) : EqAt A s (.ref a) (.ref l) false := .of_refs (ne_tuple_dict ha hl) (RcAt_tuple_dict ha hl hu)
theorem EqAt_dict_tuple {a l : Addr} {items : Array Value} (hl : IsDic s.heap l) (ha : s.heap.IsTuple a items) (hu : A.units < cLine) : EqAt A s (.ref l) (.ref a) false := .of_refs (ne_tuple_dict ha hl).symm (RcAt_dict_tuple hl ha hu)
theorem dict_ne_declines {l : Addr} {x : Value} {T : String} {Q : Value → Shared → Prop} {prog : Program} {w : World} {f : String} (sl : Slot "dict" f "dict.__ne__") (hl : IsDic s.heap l) (hx : s.TypeIs x T) (hsub : isSubtype (.type T) (.type "dict") = pure false) (h : Q .notImplemented s) : wpAny (model prog w) A (call (.builtin "dict.__ne__") [.ref l, x]) Q E s := by
  refine wpAny_call_entry sl hl.ty PySem.F.entry_dict_ne ?_ (PySem.F.args_dict_ne_2 _ _)
  show wpAny _ _ (Builtin.Dict.dictSlotArgs "__ne__" ⟨[.ref l, x], []⟩ >>= _) _ _ s
  refine wpAny_bind ?_
  unfold Builtin.Dict.dictSlotArgs
  refine wpAny_bind (wpAny_notOrdered_dict hl.ty ?_)
  show wpAny _ _ (pure (Value.ref l, x)) _ _ s
  refine wpAny_pure ?_
  refine wpAny_bind (wpAny_isInstance (T := T) hx hsub ?_)
  simp only [Bool.not_false, if_true]
  refine wpAny_bind (wpAny_rule ?_)
  exact wpAny_bind (wpAny_pure (wpAny_pure ⟨_, rfl, h⟩))
theorem int_ne_dict_bool (b : Bool) (l : Addr) (es : Array DictEntry) (n : Nat) (dd : Option Addr) (sl : Array (Option Value)) :
    Meets (Builtin.«int.__ne__» ⟨[.bool b, .ref l], []⟩) (fun _ R s => s.heap.get? l = some { cls := .type "dict", dict := dd, data := .dict es n, slots := sl } ∧ R (.ok (.ret .notImplemented)) s) :=
  .of_wp fun prog w A R s h => by obtain ⟨hp, g, d, tk, os⟩ := s; obtain ⟨hl, h⟩ := h; wp_walk using wpAny_loadPart' hl, wpAny_load hl; exact ⟨_, rfl, h⟩
theorem int_ne_dict_int (b : Int) (u : Tok) (l : Addr) (es : Array DictEntry) (n : Nat) (dd : Option Addr) (sl : Array (Option Value)) :
    Meets (Builtin.«int.__ne__» ⟨[.int b u, .ref l], []⟩) (fun _ R s => s.heap.get? l = some { cls := .type "dict", dict := dd, data := .dict es n, slots := sl } ∧ R (.ok (.ret .notImplemented)) s) :=
  .of_wp fun prog w A R s h => by obtain ⟨hp, g, d, tk, os⟩ := s; obtain ⟨hl, h⟩ := h; wp_walk using wpAny_loadPart' hl, wpAny_load hl; exact ⟨_, rfl, h⟩
theorem str_ne_dict_str (b : Str) (u : Tok) (l : Addr) (es : Array DictEntry) (n : Nat) (dd : Option Addr) (sl : Array (Option Value)) :
    Meets (Builtin.«str.__ne__» ⟨[.str b u, .ref l], []⟩) (fun _ R s => s.heap.get? l = some { cls := .type "dict", dict := dd, data := .dict es n, slots := sl } ∧ R (.ok (.ret .notImplemented)) s) :=
  .of_wp fun prog w A R s h => by obtain ⟨hp, g, d, tk, os⟩ := s; obtain ⟨hl, h⟩ := h; wp_walk using wpAny_loadPart' hl, wpAny_load hl; exact ⟨_, rfl, h⟩
theorem list_ne_dict (a l : Addr) (items : Array Value) (n2 : Nat) (dd2 : Option Addr) (sl2 : Array (Option Value)) (es : Array DictEntry) (n : Nat) (dd : Option Addr) (sl : Array (Option Value)) :
    Meets (Builtin.«list.__ne__» ⟨[.ref a, .ref l], []⟩) (fun _ R s => s.heap.get? a = some { cls := .type "list", dict := dd2, data := .seq items n2, slots := sl2 } ∧ s.heap.get? l = some { cls := .type "dict", dict := dd, data := .dict es n, slots := sl } ∧ R (.ok (.ret .notImplemented)) s) :=
  .of_wp fun prog w A R s h => by obtain ⟨hp, g, d, tk, os⟩ := s; obtain ⟨ha, hl, h⟩ := h; have f1 := F.sub_dict_list; wp_walk using wpAny_loadPart' ha, wpAny_loadPart' hl; exact ⟨_, rfl, h⟩
theorem tuple_ne_dict (a l : Addr) (items : Array Value) (n2 : Nat) (dd2 : Option Addr) (sl2 : Array (Option Value)) (es : Array DictEntry) (n : Nat) (dd : Option Addr) (sl : Array (Option Value)) :
    Meets (Builtin.«tuple.__ne__» ⟨[.ref a, .ref l], []⟩) (fun _ R s => s.heap.get? a = some { cls := .type "tuple", dict := dd2, data := .seq items n2, slots := sl2 } ∧ s.heap.get? l = some { cls := .type "dict", dict := dd, data := .dict es n, slots := sl } ∧ R (.ok (.ret .notImplemented)) s) :=
  .of_wp fun prog w A R s h => by obtain ⟨hp, g, d, tk, os⟩ := s; obtain ⟨ha, hl, h⟩ := h; have f1 := F.sub_dict_tuple; wp_walk using wpAny_loadPart' ha, wpAny_loadPart' hl; exact ⟨_, rfl, h⟩
theorem RcNeAt_dict_none {l : Addr}  (hl : IsDic s.heap l) (hu : A.units < cLine) : RcNeAt A s (.ref l) .none true := fun prog w E Q h => by
  obtain ⟨⟨cls, dd, data, sl⟩, es, n, ho, hc, hd⟩ := id hl
  simp only at hc hd
  subst hc hd
  exact rc_ne_decline_or (k := false) hl.ty rfl (by decide) F.sub_NoneType_dict F.slot_dict_ne F.slot_NoneType_ne_refl
    (fun _ hq => dict_ne_declines F.slot_dict_ne hl rfl F.sub_NoneType_dict hq)
    (fun _ hq => call_gives F.slot_NoneType_ne_refl rfl F.entry_NoneType_ne (F.args_NoneType_ne_2 _ _) (NoneType___ne___none_ref_0 l) hq)
    (fun _ hq => wpAny_of_eq (rfl : isSame (.ref l) .none = pure false) hq) (.inr hu) h
theorem RcNeAt_none_dict {l : Addr}  (hl : IsDic s.heap l) (hu : A.units < cLine) : RcNeAt A s .none (.ref l) true := fun prog w E Q h => by
  obtain ⟨⟨cls, dd, data, sl⟩, es, n, ho, hc, hd⟩ := id hl
  simp only at hc hd
  subst hc hd
  exact rc_ne_decline_or (k := false) rfl hl.ty (by decide) F.sub_dict_NoneType F.slot_NoneType_ne F.slot_dict_ne_refl
    (fun _ hq => call_gives F.slot_NoneType_ne rfl F.entry_NoneType_ne (F.args_NoneType_ne_2 _ _) (NoneType___ne___none_ref_0 l) hq)
    (fun _ hq => dict_ne_declines F.slot_dict_ne_refl hl rfl F.sub_NoneType_dict hq)
    (fun _ hq => wpAny_of_eq (rfl : isSame .none (.ref l) = pure false) hq) (.inr hu) h
theorem RcNeAt_dict_bool {l : Addr} (b : Bool) (hl : IsDic s.heap l) (hu : A.units < cLine) : RcNeAt A s (.ref l) (.bool b) true := fun prog w E Q h => by
  obtain ⟨⟨cls, dd, data, sl⟩, es, n, ho, hc, hd⟩ := id hl
  simp only at hc hd
  subst hc hd
  exact rc_ne_decline_or (k := false) hl.ty rfl (by decide) F.sub_bool_dict F.slot_dict_ne F.slot_bool_ne_refl
    (fun _ hq => dict_ne_declines F.slot_dict_ne hl rfl F.sub_bool_dict hq)
    (fun _ hq => call_meets F.slot_bool_ne_refl rfl F.entry_int_ne (F.args_int_ne_2 _ _) (int_ne_dict_bool b l es n dd sl) ⟨ho, hq⟩)
    (fun _ hq => wpAny_of_eq (rfl : isSame (.ref l) (.bool b) = pure false) hq) (.inr hu) h
theorem RcNeAt_bool_dict {l : Addr} (b : Bool) (hl : IsDic s.heap l) (hu : A.units < cLine) : RcNeAt A s (.bool b) (.ref l) true := fun prog w E Q h => by
  obtain ⟨⟨cls, dd, data, sl⟩, es, n, ho, hc, hd⟩ := id hl
  simp only at hc hd
  subst hc hd
  exact rc_ne_decline_or (k := false) rfl hl.ty (by decide) F.sub_dict_bool F.slot_bool_ne F.slot_dict_ne_refl
    (fun _ hq => call_meets F.slot_bool_ne rfl F.entry_int_ne (F.args_int_ne_2 _ _) (int_ne_dict_bool b l es n dd sl) ⟨ho, hq⟩)
    (fun _ hq => dict_ne_declines F.slot_dict_ne_refl hl rfl F.sub_bool_dict hq)
    (fun _ hq => wpAny_of_eq (rfl : isSame (.bool b) (.ref l) = pure false) hq) (.inr hu) h
theorem RcNeAt_dict_int {l : Addr} (b : Int) (u : Tok) (hl : IsDic s.heap l) (hu : A.units < cLine) : RcNeAt A s (.ref l) (.int b u) true := fun prog w E Q h => by
  obtain ⟨⟨cls, dd, data, sl⟩, es, n, ho, hc, hd⟩ := id hl
  simp only at hc hd
  subst hc hd
  exact rc_ne_decline_or (k := false) hl.ty (typeIs_int s b u) (by decide) F.sub_int_dict F.slot_dict_ne F.slot_int_ne_refl
    (fun _ hq => dict_ne_declines F.slot_dict_ne hl (typeIs_int s b u) F.sub_int_dict hq)
    (fun _ hq => call_meets F.slot_int_ne_refl (typeIs_int s b u) F.entry_int_ne (F.args_int_ne_2 _ _) (int_ne_dict_int b u l es n dd sl) ⟨ho, hq⟩)
    (fun _ hq => wpAny_of_eq (rfl : isSame (.ref l) (.int b u) = pure false) hq) (.inr hu) h
theorem RcNeAt_int_dict {l : Addr} (b : Int) (u : Tok) (hl : IsDic s.heap l) (hu : A.units < cLine) : RcNeAt A s (.int b u) (.ref l) true := fun prog w E Q h => by
  obtain ⟨⟨cls, dd, data, sl⟩, es, n, ho, hc, hd⟩ := id hl
  simp only at hc hd
  subst hc hd
  exact rc_ne_decline_or (k := false) (typeIs_int s b u) hl.ty (by decide) F.sub_dict_int F.slot_int_ne F.slot_dict_ne_refl
    (fun _ hq => call_meets F.slot_int_ne (typeIs_int s b u) F.entry_int_ne (F.args_int_ne_2 _ _) (int_ne_dict_int b u l es n dd sl) ⟨ho, hq⟩)
    (fun _ hq => dict_ne_declines F.slot_dict_ne_refl hl (typeIs_int s b u) F.sub_int_dict hq)
    (fun _ hq => wpAny_of_eq (rfl : isSame (.int b u) (.ref l) = pure false) hq) (.inr hu) h
theorem RcNeAt_dict_str {l : Addr} (b : Str) (u : Tok) (hl : IsDic s.heap l) (hu : A.units < cLine) : RcNeAt A s (.ref l) (.str b u) true := fun prog w E Q h => by
  obtain ⟨⟨cls, dd, data, sl⟩, es, n, ho, hc, hd⟩ := id hl
  simp only at hc hd
  subst hc hd
  exact rc_ne_decline_or (k := false) hl.ty (typeIs_str s b u) (by decide) F.sub_str_dict F.slot_dict_ne F.slot_str_ne_refl
    (fun _ hq => dict_ne_declines F.slot_dict_ne hl (typeIs_str s b u) F.sub_str_dict hq)
    (fun _ hq => call_meets F.slot_str_ne_refl (typeIs_str s b u) F.entry_str_ne (F.args_str_ne_2 _ _) (str_ne_dict_str b u l es n dd sl) ⟨ho, hq⟩)
    (fun _ hq => wpAny_of_eq (rfl : isSame (.ref l) (.str b u) = pure false) hq) (.inr hu) h
theorem RcNeAt_str_dict {l : Addr} (b : Str) (u : Tok) (hl : IsDic s.heap l) (hu : A.units < cLine) : RcNeAt A s (.str b u) (.ref l) true := fun prog w E Q h => by
  obtain ⟨⟨cls, dd, data, sl⟩, es, n, ho, hc, hd⟩ := id hl
  simp only at hc hd
  subst hc hd
  exact rc_ne_decline_or (k := false) (typeIs_str s b u) hl.ty (by decide) F.sub_dict_str F.slot_str_ne F.slot_dict_ne_refl
    (fun _ hq => call_meets F.slot_str_ne (typeIs_str s b u) F.entry_str_ne (F.args_str_ne_2 _ _) (str_ne_dict_str b u l es n dd sl) ⟨ho, hq⟩)
    (fun _ hq => dict_ne_declines F.slot_dict_ne_refl hl (typeIs_str s b u) F.sub_str_dict hq)
    (fun _ hq => wpAny_of_eq (rfl : isSame (.str b u) (.ref l) = pure false) hq) (.inr hu) h
theorem RcNeAt_list_dict {a l : Addr} {items : Array Value} (ha : s.heap.IsList a items) (hl : IsDic s.heap l) (hu : A.units < cLine) : RcNeAt A s (.ref a) (.ref l) true := fun prog w E Q h => by
  have hne := ne_list_dict ha hl
  obtain ⟨⟨cls, dd, data, sl⟩, es, n, ho, hc, hd⟩ := id hl
  obtain ⟨⟨cls2, dd2, data2, sl2⟩, ho2, hc2, n2, hd2⟩ := id ha
  simp only at hc hd hc2 hd2
  subst hc hd hc2 hd2
  exact rc_ne_decline_or (k := false) ⟨_, ho2, rfl⟩ hl.ty (by decide) F.sub_dict_list F.slot_list_ne F.slot_dict_ne_refl
    (fun _ hq => call_meets F.slot_list_ne ⟨_, ho2, rfl⟩ F.entry_list_ne (F.args_list_ne_2 _ _) (list_ne_dict a l items n2 dd2 sl2 es n dd sl) ⟨ho2, ho, hq⟩)
    (fun _ hq => dict_ne_declines F.slot_dict_ne_refl hl ⟨_, ho2, rfl⟩ F.sub_list_dict hq)
    (fun _ hq => wpAny_isSame_ref_other' hne ho2 ho (by simp) hq) (.inr hu) h
theorem RcNeAt_dict_list {a l : Addr} {items : Array Value} (hl : IsDic s.heap l) (ha : s.heap.IsList a items) (hu : A.units < cLine) : RcNeAt A s (.ref l) (.ref a) true := fun prog w E Q h => by
  have hne := ne_list_dict ha hl
  obtain ⟨⟨cls, dd, data, sl⟩, es, n, ho, hc, hd⟩ := id hl
  obtain ⟨⟨cls2, dd2, data2, sl2⟩, ho2, hc2, n2, hd2⟩ := id ha
  simp only at hc hd hc2 hd2
  subst hc hd hc2 hd2
  exact rc_ne_decline_or (k := false) hl.ty ⟨_, ho2, rfl⟩ (by decide) F.sub_list_dict F.slot_dict_ne F.slot_list_ne_refl
    (fun _ hq => dict_ne_declines F.slot_dict_ne hl ⟨_, ho2, rfl⟩ F.sub_list_dict hq)
    (fun _ hq => call_meets F.slot_list_ne_refl ⟨_, ho2, rfl⟩ F.entry_list_ne (F.args_list_ne_2 _ _) (list_ne_dict a l items n2 dd2 sl2 es n dd sl) ⟨ho2, ho, hq⟩)
    (fun _ hq => wpAny_isSame_ref_other hne.symm ho ho2 (by simp) hq) (.inr hu) h
theorem RcNeAt_tuple_dict {a l : Addr} {items : Array Value} (ha : s.heap.IsTuple a items) (hl : IsDic s.heap l) (hu : A.units < cLine) : RcNeAt A s (.ref a) (.ref l) true := fun prog w E Q h => by
  have hne := ne_tuple_dict ha hl
  obtain ⟨⟨cls, dd, data, sl⟩, es, n, ho, hc, hd⟩ := id hl
  obtain ⟨⟨cls2, dd2, data2, sl2⟩, ho2, hc2, n2, hd2⟩ := id ha
  simp only at hc hd hc2 hd2
  subst hc hd hc2 hd2
  exact rc_ne_decline_or (k := false) ⟨_, ho2, rfl⟩ hl.ty (by decide) F.sub_dict_tuple F.slot_tuple_ne F.slot_dict_ne_refl
    (fun _ hq => call_meets F.slot_tuple_ne ⟨_, ho2, rfl⟩ F.entry_tuple_ne (F.args_tuple_ne_2 _ _) (tuple_ne_dict a l items n2 dd2 sl2 es n dd sl) ⟨ho2, ho, hq⟩)
    (fun _ hq => dict_ne_declines F.slot_dict_ne_refl hl ⟨_, ho2, rfl⟩ F.sub_tuple_dict hq)
    (fun _ hq => wpAny_isSame_ref_other' hne ho2 ho (by simp) hq) (.inr hu) h
theorem RcNeAt_dict_tuple {a l : Addr} {items : Array Value} (hl : IsDic s.heap l) (ha : s.heap.IsTuple a items) (hu : A.units < cLine) : RcNeAt A s (.ref l) (.ref a) true := fun prog w E Q h => by
  have hne := ne_tuple_dict ha hl
  obtain ⟨⟨cls, dd, data, sl⟩, es, n, ho, hc, hd⟩ := id hl
  obtain ⟨⟨cls2, dd2, data2, sl2⟩, ho2, hc2, n2, hd2⟩ := id ha
  simp only at hc hd hc2 hd2
  subst hc hd hc2 hd2
  exact rc_ne_decline_or (k := false) hl.ty ⟨_, ho2, rfl⟩ (by decide) F.sub_tuple_dict F.slot_dict_ne F.slot_tuple_ne_refl
    (fun _ hq => dict_ne_declines F.slot_dict_ne hl ⟨_, ho2, rfl⟩ F.sub_tuple_dict hq)
    (fun _ hq => call_meets F.slot_tuple_ne_refl ⟨_, ho2, rfl⟩ F.entry_tuple_ne (F.args_tuple_ne_2 _ _) (tuple_ne_dict a l items n2 dd2 sl2 es n dd sl) ⟨ho2, ho, hq⟩)
    (fun _ hq => wpAny_isSame_ref_other hne.symm ho ho2 (by simp) hq) (.inr hu) h
end

theorem lay_or {x : PyData} {xs : List PyData} {y : PyData} {ys : List PyData} (h : PyData.canLayAll0 (x :: xs) = true ∨ PyData.canLayAll0 (y :: ys) = true) : (x.canLay0 = true ∨ y.canLay0 = true) ∧ (PyData.canLayAll0 xs = true ∨ PyData.canLayAll0 ys = true) := by
  rcases h with h | h
  · have : x.canLay0 = true ∧ PyData.canLayAll0 xs = true := by simpa [PyData.canLayAll0] using h
    exact ⟨.inl this.1, .inl this.2⟩
  · have : y.canLay0 = true ∧ PyData.canLayAll0 ys = true := by simpa [PyData.canLayAll0] using h
    exact ⟨.inr this.1, .inr this.2⟩
mutual
theorem eqAt_readsX : ∀ (da db : PyData) (A : Around) (s : Shared) (a b : Value) (as bs : List Addr), Reads s.heap a da as → Reads s.heap b db bs → (da.canLay0 = true ∨ db.canLay0 = true) →
    A.units + min da.depth db.depth < cLine → EqAt A s a b (PyData.eqv da db)
  | .none, _, A, s, _, _, _, _, ra, rb, hc, hu => by
    cases ra
    cases rb with
    | none => exact EqAt.same _
    | bool y => exact EqAt.none_bool y
    | int y u => exact EqAt.none_int y u
    | str y u => exact EqAt.none_str y u
    | list k1 k2 k3 k4 => exact EqAt.none_list ⟨_, k1, k2, _, k3⟩ (room_here hu)
    | tuple k1 k2 k3 k4 => exact EqAt.none_tuple ⟨_, k1, k2, _, k3⟩ (room_here hu)
    | dict k1 k2 k3 k4 k5 => exact EqAt_none_dict ⟨_, _, _, k1, k2, k3⟩ (room_here hu)
  | .bool x, _, A, s, _, _, _, _, ra, rb, hc, hu => by
    cases ra
    cases rb with
    | none => exact EqAt.bool_none x
    | bool y => exact EqAt.bool_bool x y
    | int y u => exact EqAt.bool_int x y u
    | str y u => exact EqAt.bool_str x y u
    | list k1 k2 k3 k4 => exact EqAt.bool_list x ⟨_, k1, k2, _, k3⟩ (room_here hu)
    | tuple k1 k2 k3 k4 => exact EqAt.bool_tuple x ⟨_, k1, k2, _, k3⟩ (room_here hu)
    | dict k1 k2 k3 k4 k5 => exact EqAt_bool_dict x ⟨_, _, _, k1, k2, k3⟩ (room_here hu)
  | .int x, _, A, s, _, _, _, _, ra, rb, hc, hu => by
    cases ra with
    | int _ t =>
      cases rb with
      | none => exact EqAt.int_none x t
      | bool y => exact EqAt.int_bool x t y
      | int y u => exact EqAt.int_int x t y u
      | str y u => exact EqAt.int_str x t y u
      | list k1 k2 k3 k4 => exact EqAt.int_list x t ⟨_, k1, k2, _, k3⟩ (room_here hu)
      | tuple k1 k2 k3 k4 => exact EqAt.int_tuple x t ⟨_, k1, k2, _, k3⟩ (room_here hu)
      | dict k1 k2 k3 k4 k5 => exact EqAt_int_dict x t ⟨_, _, _, k1, k2, k3⟩ (room_here hu)
  | .str x, _, A, s, _, _, _, _, ra, rb, hc, hu => by
    cases ra with
    | str _ t =>
      cases rb with
      | none => exact EqAt.str_none x t
      | bool y => exact EqAt.str_bool x t y
      | int y u => exact EqAt.str_int x t y u
      | str y u => exact EqAt.str_str x t y u
      | list k1 k2 k3 k4 => exact EqAt.str_list x t ⟨_, k1, k2, _, k3⟩ (room_here hu)
      | tuple k1 k2 k3 k4 => exact EqAt.str_tuple x t ⟨_, k1, k2, _, k3⟩ (room_here hu)
      | dict k1 k2 k3 k4 k5 => exact EqAt_str_dict x t ⟨_, _, _, k1, k2, k3⟩ (room_here hu)
  | .list xs, db, A, s, _, _, _, _, ra, rb, hc, hu => by
    cases ra with
    | @list l o vs n _ as₁ h1 h2 h3 h4 =>
      have hl : s.heap.IsList l vs := ⟨_, h1, h2, _, h3⟩
      cases rb with
      | none => exact EqAt.list_none hl (room_here hu)
      | bool y => exact EqAt.list_bool y hl (room_here hu)
      | int y u => exact EqAt.list_int y u hl (room_here hu)
      | str y u => exact EqAt.list_str y u hl (room_here hu)
      | tuple k1 k2 k3 k4 => exact EqAt.list_tuple hl ⟨_, k1, k2, _, k3⟩ (room_here hu)
      | dict k1 k2 k3 k4 k5 => exact EqAt_list_dict hl ⟨_, _, _, k1, k2, k3⟩ (room_here hu)
      | @list l' o' vs' n' ys bs₁ k1 k2 k3 k4 =>
        have hl' : s.heap.IsList l' vs' := ⟨_, k1, k2, _, k3⟩
        have n1 : vs.size = xs.length := by simpa using ReadsAll.length _ _ _ h4
        have n2 : vs'.size = ys.length := by simpa using ReadsAll.length _ _ _ k4
        show EqAt A s (.ref l) (.ref l') (PyData.eqvAll xs ys)
        by_cases hll : l = l'
        · subst hll
          have e : PyData.list xs = PyData.list ys := by
            rcases hc with ha | ha
            · exact Reads.unique (.list xs) (.list ys) _ _ _ ha (.list h1 h2 h3 h4) (.list k1 k2 k3 k4)
            · exact (Reads.unique (.list ys) (.list xs) _ _ _ ha (.list k1 k2 k3 k4) (.list h1 h2 h3 h4)).symm
          injection e with e
          subst e
          rw [eqvAll_refl xs (hc.elim id id)]
          exact EqAt.same _
        · by_cases hsz : vs.size = vs'.size
          · rw [← eqvAll_same_length (by omega : xs.length = ys.length), ← n1]
            refine EqAt.of_refs hll (RcAt.lists hl hl' hsz (room_here hu) fun j j1 j2 => ?_)
            have := eqAt_readsAllX xs ys A.in1 s vs.toList vs'.toList _ _ h4 k4 hc (room_in hu) j (by simpa using j1) (by simpa using j2)
            simpa using this
          · rw [eqvAll_other_length (by omega : xs.length ≠ ys.length)]
            exact EqAt.of_refs hll (RcAt.lists_lengths hl hl' (by simpa using hsz) (room_here hu))
  | .tuple xs, db, A, s, _, _, _, _, ra, rb, hc, hu => by
    cases ra with
    | @tuple l o vs n _ as₁ h1 h2 h3 h4 =>
      have hl : s.heap.IsTuple l vs := ⟨_, h1, h2, _, h3⟩
      cases rb with
      | none => exact EqAt.tuple_none hl (room_here hu)
      | bool y => exact EqAt.tuple_bool y hl (room_here hu)
      | int y u => exact EqAt.tuple_int y u hl (room_here hu)
      | str y u => exact EqAt.tuple_str y u hl (room_here hu)
      | list k1 k2 k3 k4 => exact EqAt.tuple_list hl ⟨_, k1, k2, _, k3⟩ (room_here hu)
      | dict k1 k2 k3 k4 k5 => exact EqAt_tuple_dict hl ⟨_, _, _, k1, k2, k3⟩ (room_here hu)
      | @tuple l' o' vs' n' ys bs₁ k1 k2 k3 k4 =>
        have hl' : s.heap.IsTuple l' vs' := ⟨_, k1, k2, _, k3⟩
        have n1 : vs.size = xs.length := by simpa using ReadsAll.length _ _ _ h4
        have n2 : vs'.size = ys.length := by simpa using ReadsAll.length _ _ _ k4
        show EqAt A s (.ref l) (.ref l') (PyData.eqvAll xs ys)
        by_cases hll : l = l'
        · subst hll
          have e : PyData.tuple xs = PyData.tuple ys := by
            rcases hc with ha | ha
            · exact Reads.unique (.tuple xs) (.tuple ys) _ _ _ ha (.tuple h1 h2 h3 h4) (.tuple k1 k2 k3 k4)
            · exact (Reads.unique (.tuple ys) (.tuple xs) _ _ _ ha (.tuple k1 k2 k3 k4) (.tuple h1 h2 h3 h4)).symm
          injection e with e
          subst e
          rw [eqvAll_refl xs (hc.elim id id)]
          exact EqAt.same _
        · rw [← eqvAll_eq xs ys, ← n1, ← n2]
          refine EqAt.of_refs hll (RcAt.tuples hl hl' (room_here hu) fun j j1 j2 => ?_)
          have := eqAt_readsAllX xs ys A.in1 s vs.toList vs'.toList _ _ h4 k4 hc (room_in hu) j (by simpa using j1) (by simpa using j2)
          simpa using this
  | .dict kvs, db, A, s, _, _, _, _, ra, rb, hc, hu => by
    cases ra with
    | dict h1 h2 h3 h4 h5 =>
      have hl : IsDic s.heap _ := ⟨_, _, _, h1, h2, h3⟩
      cases rb with
      | none => exact EqAt_dict_none hl (room_here hu)
      | bool y => exact EqAt_dict_bool y hl (room_here hu)
      | int y u => exact EqAt_dict_int y u hl (room_here hu)
      | str y u => exact EqAt_dict_str y u hl (room_here hu)
      | list k1 k2 k3 k4 => exact EqAt_dict_list hl ⟨_, k1, k2, _, k3⟩ (room_here hu)
      | tuple k1 k2 k3 k4 => exact EqAt_dict_tuple hl ⟨_, k1, k2, _, k3⟩ (room_here hu)
      | dict => exact hc.elim (fun z => nomatch z) (fun z => nomatch z)
theorem eqAt_readsAllX : ∀ (xs ys : List PyData) (A : Around) (s : Shared) (vs ws : List Value) (as bs : List Addr), ReadsAll s.heap vs xs as → ReadsAll s.heap ws ys bs → (PyData.canLayAll0 xs = true ∨ PyData.canLayAll0 ys = true) →
    A.units + min (PyData.depthAll xs) (PyData.depthAll ys) < cLine → ∀ j (h1 : j < vs.length) (h2 : j < ws.length), EqAt A s vs[j] ws[j] (pairEq xs ys j)
  | [], _, _, _, _, _, _, _, ra, _, _, _, j, h1, _ => by cases ra; exact absurd h1 (Nat.not_lt_zero _)
  | _ :: _, [], _, _, _, _, _, _, _, rb, _, _, j, _, h2 => by cases rb; exact absurd h2 (Nat.not_lt_zero _)
  | x :: xs, y :: ys, A, s, _, _, _, _, ra, rb, hc, hu, j, h1, h2 => by
    have hc' := lay_or hc
    cases ra with
    | cons r rs =>
      cases rb with
      | cons r' rs' =>
        cases j with
        | zero => exact eqAt_readsX x y A s _ _ _ _ r r' hc'.1 (room_head hu)
        | succ j => exact eqAt_readsAllX xs ys A s _ _ _ _ rs rs' hc'.2 (room_tail hu) j (Nat.lt_of_succ_lt_succ h1) (Nat.lt_of_succ_lt_succ h2)
end

theorem rcAt_readsX {da db : PyData} {A : Around} {s : Shared} {a b : Value} {as bs : List Addr} (ra : Reads s.heap a da as) (rb : Reads s.heap b db bs) (hc : da.canLay0 = true ∨ db.canLay0 = true)
    (hu : A.units + min da.depth db.depth < cLine) : RcAt A s a b (PyData.eqv da db) := by
  cases ra with
  | none =>
    cases rb with
    | none => exact RcAt.none_none
    | bool y => exact RcAt.none_bool y
    | int y u => exact RcAt.none_int y u
    | str y u => exact RcAt.none_str y u
    | list k1 k2 k3 k4 => exact RcAt.none_list ⟨_, k1, k2, _, k3⟩ (room_here hu)
    | tuple k1 k2 k3 k4 => exact RcAt.none_tuple ⟨_, k1, k2, _, k3⟩ (room_here hu)
    | dict k1 k2 k3 k4 k5 => exact RcAt_none_dict ⟨_, _, _, k1, k2, k3⟩ (room_here hu)
  | bool x =>
    cases rb with
    | none => exact RcAt.bool_none x
    | bool y => exact RcAt.bool_bool x y
    | int y u => exact RcAt.bool_int x y u
    | str y u => exact RcAt.bool_str x y u
    | list k1 k2 k3 k4 => exact RcAt.bool_list x ⟨_, k1, k2, _, k3⟩ (room_here hu)
    | tuple k1 k2 k3 k4 => exact RcAt.bool_tuple x ⟨_, k1, k2, _, k3⟩ (room_here hu)
    | dict k1 k2 k3 k4 k5 => exact RcAt_bool_dict x ⟨_, _, _, k1, k2, k3⟩ (room_here hu)
  | int x t =>
    cases rb with
    | none => exact RcAt.int_none x t
    | bool y => exact RcAt.int_bool x t y
    | int y u => exact RcAt.int_int x t y u
    | str y u => exact RcAt.int_str x t y u
    | list k1 k2 k3 k4 => exact RcAt.int_list x t ⟨_, k1, k2, _, k3⟩ (room_here hu)
    | tuple k1 k2 k3 k4 => exact RcAt.int_tuple x t ⟨_, k1, k2, _, k3⟩ (room_here hu)
    | dict k1 k2 k3 k4 k5 => exact RcAt_int_dict x t ⟨_, _, _, k1, k2, k3⟩ (room_here hu)
  | str x t =>
    cases rb with
    | none => exact RcAt.str_none x t
    | bool y => exact RcAt.str_bool x t y
    | int y u => exact RcAt.str_int x t y u
    | str y u => exact RcAt.str_str x t y u
    | list k1 k2 k3 k4 => exact RcAt.str_list x t ⟨_, k1, k2, _, k3⟩ (room_here hu)
    | tuple k1 k2 k3 k4 => exact RcAt.str_tuple x t ⟨_, k1, k2, _, k3⟩ (room_here hu)
    | dict k1 k2 k3 k4 k5 => exact RcAt_str_dict x t ⟨_, _, _, k1, k2, k3⟩ (room_here hu)
  | @list l o vs n xs as₁ h1 h2 h3 h4 =>
    have hl : s.heap.IsList l vs := ⟨_, h1, h2, _, h3⟩
    cases rb with
    | none => exact RcAt.list_none hl (room_here hu)
    | bool y => exact RcAt.list_bool y hl (room_here hu)
    | int y u => exact RcAt.list_int y u hl (room_here hu)
    | str y u => exact RcAt.list_str y u hl (room_here hu)
    | tuple k1 k2 k3 k4 => exact RcAt.list_tuple hl ⟨_, k1, k2, _, k3⟩ (room_here hu)
    | dict k1 k2 k3 k4 k5 => exact RcAt_list_dict hl ⟨_, _, _, k1, k2, k3⟩ (room_here hu)
    | @list l' o' vs' n' ys bs₁ k1 k2 k3 k4 =>
      have hl' : s.heap.IsList l' vs' := ⟨_, k1, k2, _, k3⟩
      have n1 : vs.size = xs.length := by simpa using ReadsAll.length _ _ _ h4
      have n2 : vs'.size = ys.length := by simpa using ReadsAll.length _ _ _ k4
      have he : ∀ j (j1 : j < vs.size) (j2 : j < vs'.size), EqAt A.in1 s vs[j] vs'[j] (pairEq xs ys j) := fun j j1 j2 => by
        have := eqAt_readsAllX xs ys A.in1 s vs.toList vs'.toList _ _ h4 k4 hc (room_in hu) j (by simpa using j1) (by simpa using j2)
        simpa using this
      show RcAt A s (.ref l) (.ref l') (PyData.eqvAll xs ys)
      by_cases hsz : vs.size = vs'.size
      · rw [← eqvAll_same_length (by omega : xs.length = ys.length), ← n1]
        exact RcAt.lists hl hl' hsz (room_here hu) he
      · rw [eqvAll_other_length (by omega : xs.length ≠ ys.length)]
        exact RcAt.lists_lengths hl hl' (by simpa using hsz) (room_here hu)
  | @tuple l o vs n xs as₁ h1 h2 h3 h4 =>
    have hl : s.heap.IsTuple l vs := ⟨_, h1, h2, _, h3⟩
    cases rb with
    | none => exact RcAt.tuple_none hl (room_here hu)
    | bool y => exact RcAt.tuple_bool y hl (room_here hu)
    | int y u => exact RcAt.tuple_int y u hl (room_here hu)
    | str y u => exact RcAt.tuple_str y u hl (room_here hu)
    | list k1 k2 k3 k4 => exact RcAt.tuple_list hl ⟨_, k1, k2, _, k3⟩ (room_here hu)
    | dict k1 k2 k3 k4 k5 => exact RcAt_tuple_dict hl ⟨_, _, _, k1, k2, k3⟩ (room_here hu)
    | @tuple l' o' vs' n' ys bs₁ k1 k2 k3 k4 =>
      have hl' : s.heap.IsTuple l' vs' := ⟨_, k1, k2, _, k3⟩
      have n1 : vs.size = xs.length := by simpa using ReadsAll.length _ _ _ h4
      have n2 : vs'.size = ys.length := by simpa using ReadsAll.length _ _ _ k4
      have he : ∀ j (j1 : j < vs.size) (j2 : j < vs'.size), EqAt A.in1 s vs[j] vs'[j] (pairEq xs ys j) := fun j j1 j2 => by
        have := eqAt_readsAllX xs ys A.in1 s vs.toList vs'.toList _ _ h4 k4 hc (room_in hu) j (by simpa using j1) (by simpa using j2)
        simpa using this
      show RcAt A s (.ref l) (.ref l') (PyData.eqvAll xs ys)
      rw [← eqvAll_eq xs ys, ← n1, ← n2]
      exact RcAt.tuples hl hl' (room_here hu) he
  | dict h1 h2 h3 h4 h5 =>
    have hl : IsDic s.heap _ := ⟨_, _, _, h1, h2, h3⟩
    cases rb with
    | none => exact RcAt_dict_none hl (room_here hu)
    | bool y => exact RcAt_dict_bool y hl (room_here hu)
    | int y u => exact RcAt_dict_int y u hl (room_here hu)
    | str y u => exact RcAt_dict_str y u hl (room_here hu)
    | list k1 k2 k3 k4 => exact RcAt_dict_list hl ⟨_, k1, k2, _, k3⟩ (room_here hu)
    | tuple k1 k2 k3 k4 => exact RcAt_dict_tuple hl ⟨_, k1, k2, _, k3⟩ (room_here hu)
    | dict => exact hc.elim (fun z => nomatch z) (fun z => nomatch z)
theorem rcNeAt_readsX {da db : PyData} {A : Around} {s : Shared} {a b : Value} {as bs : List Addr} (ra : Reads s.heap a da as) (rb : Reads s.heap b db bs) (hc : da.canLay0 = true ∨ db.canLay0 = true)
    (hu : A.units + min da.depth db.depth < cLine) : RcNeAt A s a b (!PyData.eqv da db) := by
  cases ra with
  | none =>
    cases rb with
    | none => exact RcNeAt.none_none
    | bool y => exact RcNeAt.none_bool y
    | int y u => exact RcNeAt.none_int y u
    | str y u => exact RcNeAt.none_str y u
    | list k1 k2 k3 k4 => exact RcNeAt.none_list ⟨_, k1, k2, _, k3⟩ (room_here hu)
    | tuple k1 k2 k3 k4 => exact RcNeAt.none_tuple ⟨_, k1, k2, _, k3⟩ (room_here hu)
    | dict k1 k2 k3 k4 k5 => exact RcNeAt_none_dict ⟨_, _, _, k1, k2, k3⟩ (room_here hu)
  | bool x =>
    cases rb with
    | none => exact RcNeAt.bool_none x
    | bool y => exact RcNeAt.bool_bool x y
    | int y u => exact RcNeAt.bool_int x y u
    | str y u => exact RcNeAt.bool_str x y u
    | list k1 k2 k3 k4 => exact RcNeAt.bool_list x ⟨_, k1, k2, _, k3⟩ (room_here hu)
    | tuple k1 k2 k3 k4 => exact RcNeAt.bool_tuple x ⟨_, k1, k2, _, k3⟩ (room_here hu)
    | dict k1 k2 k3 k4 k5 => exact RcNeAt_bool_dict x ⟨_, _, _, k1, k2, k3⟩ (room_here hu)
  | int x t =>
    cases rb with
    | none => exact RcNeAt.int_none x t
    | bool y => exact RcNeAt.int_bool x t y
    | int y u => exact RcNeAt.int_int x t y u
    | str y u => exact RcNeAt.int_str x t y u
    | list k1 k2 k3 k4 => exact RcNeAt.int_list x t ⟨_, k1, k2, _, k3⟩ (room_here hu)
    | tuple k1 k2 k3 k4 => exact RcNeAt.int_tuple x t ⟨_, k1, k2, _, k3⟩ (room_here hu)
    | dict k1 k2 k3 k4 k5 => exact RcNeAt_int_dict x t ⟨_, _, _, k1, k2, k3⟩ (room_here hu)
  | str x t =>
    cases rb with
    | none => exact RcNeAt.str_none x t
    | bool y => exact RcNeAt.str_bool x t y
    | int y u => exact RcNeAt.str_int x t y u
    | str y u => exact RcNeAt.str_str x t y u
    | list k1 k2 k3 k4 => exact RcNeAt.str_list x t ⟨_, k1, k2, _, k3⟩ (room_here hu)
    | tuple k1 k2 k3 k4 => exact RcNeAt.str_tuple x t ⟨_, k1, k2, _, k3⟩ (room_here hu)
    | dict k1 k2 k3 k4 k5 => exact RcNeAt_str_dict x t ⟨_, _, _, k1, k2, k3⟩ (room_here hu)
  | @list l o vs n xs as₁ h1 h2 h3 h4 =>
    have hl : s.heap.IsList l vs := ⟨_, h1, h2, _, h3⟩
    cases rb with
    | none => exact RcNeAt.list_none hl (room_here hu)
    | bool y => exact RcNeAt.list_bool y hl (room_here hu)
    | int y u => exact RcNeAt.list_int y u hl (room_here hu)
    | str y u => exact RcNeAt.list_str y u hl (room_here hu)
    | tuple k1 k2 k3 k4 => exact RcNeAt.list_tuple hl ⟨_, k1, k2, _, k3⟩ (room_here hu)
    | dict k1 k2 k3 k4 k5 => exact RcNeAt_list_dict hl ⟨_, _, _, k1, k2, k3⟩ (room_here hu)
    | @list l' o' vs' n' ys bs₁ k1 k2 k3 k4 =>
      have hl' : s.heap.IsList l' vs' := ⟨_, k1, k2, _, k3⟩
      have n1 : vs.size = xs.length := by simpa using ReadsAll.length _ _ _ h4
      have n2 : vs'.size = ys.length := by simpa using ReadsAll.length _ _ _ k4
      have he : ∀ j (j1 : j < vs.size) (j2 : j < vs'.size), EqAt A.in1 s vs[j] vs'[j] (pairEq xs ys j) := fun j j1 j2 => by
        have := eqAt_readsAllX xs ys A.in1 s vs.toList vs'.toList _ _ h4 k4 hc (room_in hu) j (by simpa using j1) (by simpa using j2)
        simpa using this
      show RcNeAt A s (.ref l) (.ref l') (!PyData.eqvAll xs ys)
      by_cases hsz : vs.size = vs'.size
      · rw [← eqvAll_same_length (by omega : xs.length = ys.length), ← n1]
        exact RcNeAt.lists hl hl' hsz (room_here hu) he
      · rw [eqvAll_other_length (by omega : xs.length ≠ ys.length)]
        exact RcNeAt.lists_lengths hl hl' (by simpa using hsz) (room_here hu)
  | @tuple l o vs n xs as₁ h1 h2 h3 h4 =>
    have hl : s.heap.IsTuple l vs := ⟨_, h1, h2, _, h3⟩
    cases rb with
    | none => exact RcNeAt.tuple_none hl (room_here hu)
    | bool y => exact RcNeAt.tuple_bool y hl (room_here hu)
    | int y u => exact RcNeAt.tuple_int y u hl (room_here hu)
    | str y u => exact RcNeAt.tuple_str y u hl (room_here hu)
    | list k1 k2 k3 k4 => exact RcNeAt.tuple_list hl ⟨_, k1, k2, _, k3⟩ (room_here hu)
    | dict k1 k2 k3 k4 k5 => exact RcNeAt_tuple_dict hl ⟨_, _, _, k1, k2, k3⟩ (room_here hu)
    | @tuple l' o' vs' n' ys bs₁ k1 k2 k3 k4 =>
      have hl' : s.heap.IsTuple l' vs' := ⟨_, k1, k2, _, k3⟩
      have n1 : vs.size = xs.length := by simpa using ReadsAll.length _ _ _ h4
      have n2 : vs'.size = ys.length := by simpa using ReadsAll.length _ _ _ k4
      have he : ∀ j (j1 : j < vs.size) (j2 : j < vs'.size), EqAt A.in1 s vs[j] vs'[j] (pairEq xs ys j) := fun j j1 j2 => by
        have := eqAt_readsAllX xs ys A.in1 s vs.toList vs'.toList _ _ h4 k4 hc (room_in hu) j (by simpa using j1) (by simpa using j2)
        simpa using this
      show RcNeAt A s (.ref l) (.ref l') (!PyData.eqvAll xs ys)
      rw [← eqvAll_eq xs ys, ← n1, ← n2]
      exact RcNeAt.tuples hl hl' (room_here hu) he
  | dict h1 h2 h3 h4 h5 =>
    have hl : IsDic s.heap _ := ⟨_, _, _, h1, h2, h3⟩
    cases rb with
    | none => exact RcNeAt_dict_none hl (room_here hu)
    | bool y => exact RcNeAt_dict_bool y hl (room_here hu)
    | int y u => exact RcNeAt_dict_int y u hl (room_here hu)
    | str y u => exact RcNeAt_dict_str y u hl (room_here hu)
    | list k1 k2 k3 k4 => exact RcNeAt_dict_list hl ⟨_, k1, k2, _, k3⟩ (room_here hu)
    | tuple k1 k2 k3 k4 => exact RcNeAt_dict_tuple hl ⟨_, k1, k2, _, k3⟩ (room_here hu)
    | dict => exact hc.elim (fun z => nomatch z) (fun z => nomatch z)

section
variable {prog : Program} {w : World} {A : Around} {E : Value → Shared → Prop} {s : Shared}
theorem items_eqX {vs : Array Value} {xs : List PyData} {as bs : List Addr} {x : Value} {d : PyData} (rs : ReadsAll s.heap vs.toList xs as) (rx : Reads s.heap x d bs) (hxs : PyData.canLayAll0 xs = true)
    (hu : A.units + 1 + min (PyData.depthAll xs) d.depth < cLine) : ∀ y, y ∈ vs → EqAt A.in1 s y x (PyData.eqv (readOf s.heap y) d) := fun y hy => by
  obtain ⟨dy, cs, ry, hcy, hle⟩ := readsAll_mem xs _ _ hxs rs y (by simpa using hy)
  rw [readOf_eq hcy ry]
  refine eqAt_readsX dy d A.in1 s y x _ _ ry rx (.inl hcy) ?_
  have h1 : min dy.depth d.depth ≤ min (PyData.depthAll xs) d.depth := Nat.le_min.mpr ⟨Nat.le_trans (Nat.min_le_left _ _) hle, Nat.min_le_right _ _⟩
  show A.units + 1 + min dy.depth d.depth < cLine
  omega
theorem in_tupleX {c x : Value} {xs : List PyData} {d : PyData} {as bs : List Addr} {Q : Value → Shared → Prop} (rc : Reads s.heap c (.tuple xs) as) (rx : Reads s.heap x d bs) (hxs : PyData.canLayAll0 xs = true)
    (hu : A.units + 1 + min (PyData.depthAll xs) d.depth < cLine) (h : Q (.bool (xs.any fun y => PyData.eqv y d)) s) : wpAny (model prog w) A (compareOp .In x c) Q E s := by
  cases rc with
  | tuple h1 h2 h3 h4 => exact in_tupleAt _ ⟨_, h1, h2, _, h3⟩ (items_eqX h4 rx hxs hu) (by rw [any_by_data h4 hxs]; exact h)
theorem notIn_tupleX {c x : Value} {xs : List PyData} {d : PyData} {as bs : List Addr} {Q : Value → Shared → Prop} (rc : Reads s.heap c (.tuple xs) as) (rx : Reads s.heap x d bs) (hxs : PyData.canLayAll0 xs = true)
    (hu : A.units + 1 + min (PyData.depthAll xs) d.depth < cLine) (h : Q (.bool (!xs.any fun y => PyData.eqv y d)) s) : wpAny (model prog w) A (compareOp .NotIn x c) Q E s := by
  cases rc with
  | tuple h1 h2 h3 h4 => exact notIn_tupleAt _ ⟨_, h1, h2, _, h3⟩ (items_eqX h4 rx hxs hu) (by rw [any_by_data h4 hxs]; exact h)
end
end G

/-! Operations on values. -/
namespace G
open PySem PySem.Spec PyProof.Rows L2

abbrev D1 := D → Hd → Pq → Prop
abbrev D2 := D → D → Hd → Pq → Prop
abbrev DN := List D → Hd → Pq → Prop
abbrev DM := D → List D → Hd → Pq → Prop
def R1of (K : PySem.W.Frag) (o : D1) : V → Hp → VK → Prop := fun x H Q => ∃ w h a QD, w.H = H ∧ RelW K w h ∧ RD K w a x ∧ o a h QD ∧ Post K w h QD Q
def R2of (K : PySem.W.Frag) (o : D2) : R2 := fun x y H Q => ∃ w h a b QD, w.H = H ∧ RelW K w h ∧ RD K w a x ∧ RD K w b y ∧ o a b h QD ∧ Post K w h QD Q
def RNof (K : PySem.W.Frag) (o : DN) : List V → Hp → VK → Prop := fun xs H Q => ∃ w h ds QD, w.H = H ∧ RelW K w h ∧ RDs K w ds xs ∧ o ds h QD ∧ Post K w h QD Q
def RMof (K : PySem.W.Frag) (o : DM) : V → List V → Hp → VK → Prop := fun x xs H Q => ∃ w h d ds QD, w.H = H ∧ RelW K w h ∧ RD K w d x ∧ RDs K w ds xs ∧ o d ds h QD ∧ Post K w h QD Q

section
variable {X : Cx}
/-! ### numbers, texts, lists, tuples joined -/
/-- a factor that is small, or both of few bits -/
def MulOk (i j : Int) : Prop := i.natAbs < 4611686018427387904 ∨ j.natAbs < 4611686018427387904 ∨ i.natAbs.log2 + j.natAbs.log2 < 1000000
def DivOk (j : Int) : Prop := 0 < j ∧ (j < 4611686018427387904 ∨ j.natAbs.log2 < 9000)
theorem log2_small {n : Nat} (h : n < 4611686018427387904) : n.log2 < 62 := by
  by_cases h0 : n = 0
  · subst h0; decide
  · exact (Nat.log2_lt h0).mpr h

def addD : D2 := fun a b h Q => match view h a, view h b with
  | .int i, .int j => Q (.int (i + j)) h
  | .str x, .str y => x.length + y.length ≤ sizeLine ∧ Q (.str (x ++ y)) h
  | .lst x, .lst y => x.length + y.length ≤ sizeLine ∧ Q (.lst (x ++ y)) h
  | .tup x, .tup y => x.length + y.length ≤ sizeLine ∧ Q (.tup (x ++ y)) h
  | .bl p, .int j => Q (.int ((if p = true then 1 else 0) + j)) h
  | .int i, .bl p => Q (.int (i + if p = true then 1 else 0)) h
  | _, _ => False
theorem o_add : OpR X (binaryOp .Add) (R2of X.K addD) := by
  intro pins s σ H x y v u Q I rx ry hq
  obtain ⟨w, h, a, b, QD, rfl, rel, ra, rb, o, post⟩ := hq
  unfold addD at o
  split at o
  · rename_i i j e1 e2
    cases view_int ra e1
    cases view_int rb e2
    exact op_add pins s σ _ _ _ v u Q I rx ry ⟨i, j, rfl, rfl, post.now rel (.int _) o⟩
  · rename_i i j e1 e2
    cases view_str ra e1
    cases view_str rb e2
    exact op_add_str pins s σ _ _ _ v u Q I rx ry ⟨i, j, rfl, rfl, o.1, post.now rel (.str _) o.2⟩
  · rename_i i j e1 e2
    obtain ⟨p, xs, rfl, hp, rs, l1⟩ := view_lst rel ra e1
    obtain ⟨q, ys, rfl, hq, ss, l2⟩ := view_lst rel rb e2
    exact op_cat pins s σ _ _ _ v u Q I rx ry ⟨p, q, xs, ys, rfl, rfl, hp, hq, by rw [← rs.length, ← ss.length]; exact o.1, fun l hl => post_lst rel hl (rs.append ss) (by rw [List.length_append]; exact o.1) o.2 post⟩
  · rename_i i j e1 e2
    obtain ⟨p, xs, rfl, hp, rs, l1⟩ := view_tup ra e1
    obtain ⟨q, ys, rfl, hq, ss, l2⟩ := view_tup rb e2
    refine op_catA pins s σ _ _ _ v u Q I rx ry ⟨p, q, xs, ys, rfl, rfl, hp.sq, hq.sq, by rw [← rs.length, ← ss.length]; exact o.1, fun hz => ?_, fun _ hz => ?_, fun _ _ l hl => post_tup rel hl (rs.append ss) (by rw [List.length_append]; exact o.1) o.2 post⟩
    · subst hz
      have ei : i = [] := List.length_eq_zero_iff.mp rs.length
      subst ei
      exact post.now rel (.tup hq l2 ss) o.2
    · subst hz
      have ej : j = [] := List.length_eq_zero_iff.mp ss.length
      subst ej
      rw [List.append_nil] at o
      exact post.now rel (.tup hp l1 rs) o.2
  · rename_i p j e1 e2
    cases view_bl ra e1
    cases view_int rb e2
    cases rx
    obtain ⟨t', rfl⟩ := ry
    exact IntBool.add_bool_int ⟨.int _, w.H, I.tok _, ⟨_, rfl⟩, post.now rel (.int _) o⟩
  · rename_i i p e1 e2
    cases view_int ra e1
    cases view_bl rb e2
    cases ry
    obtain ⟨t, rfl⟩ := rx
    exact add_int_bool ⟨.int _, w.H, I.tok _, ⟨_, rfl⟩, post.now rel (.int _) o⟩
  · exact o.elim
def subD : D2 := fun a b h Q => match a, b with
  | .int i, .int j => Q (.int (i - j)) h
  | .bl p, .int j => Q (.int ((if p = true then 1 else 0) - j)) h
  | .int i, .bl p => Q (.int (i - if p = true then 1 else 0)) h
  | _, _ => False
theorem o_sub : OpR X (binaryOp .Sub) (R2of X.K subD) := by
  intro pins s σ H x y v u Q I rx ry hq
  obtain ⟨w, h, a, b, QD, rfl, rel, ra, rb, o, post⟩ := hq
  unfold subD at o
  split at o
  · rename_i i j
    cases ra
    cases rb
    exact op_sub pins s σ _ _ _ v u Q I rx ry ⟨i, j, rfl, rfl, post.now rel (.int _) o⟩
  · cases ra
    cases rb
    cases rx
    obtain ⟨t', rfl⟩ := ry
    exact IntBool.sub_bool_int ⟨.int _, w.H, I.tok _, ⟨_, rfl⟩, post.now rel (.int _) o⟩
  · cases ra
    cases rb
    cases ry
    obtain ⟨t, rfl⟩ := rx
    exact IntBool.sub_int_bool ⟨.int _, w.H, I.tok _, ⟨_, rfl⟩, post.now rel (.int _) o⟩
  · exact o.elim
def repL (ds : List D) : Nat → List D
  | 0 => []
  | k + 1 => ds ++ repL ds k
def mulD : D2 := fun a b h Q => match view h a, b with
  | .int i, .int j => MulOk i j ∧ Q (.int (i * j)) h
  | .lst ds, .int j => (-(9223372036854775808) ≤ j ∧ j < 9223372036854775808 ∧ ds.length * j.toNat ≤ sizeLine) ∧ Q (.lst (List.replicate j.toNat ds).flatten) h
  | .int i, .bl p => Q (.int (i * if p = true then 1 else 0)) h
  | .tup ds, .int j => (ds ≠ [] ∧ 1 ≤ j ∧ j ≤ 1000 ∧ ds.length ≤ 1000) ∧ Q (.tup (List.replicate j.toNat ds).flatten) h
  | _, _ => False
/-- a tuple once: itself -/
theorem tuple_mul1 (l : Addr) (items : Array Value) (n : Nat) (dd : Option Addr) (sl : Array (Option Value)) (u : Tok) :
    Meets (Builtin.«tuple.__mul__» ⟨[.ref l, .int 1 u], []⟩) (fun _ R s => s.heap.get? l = some { cls := .type "tuple", dict := dd, data := .seq items n, slots := sl } ∧ R (.ok (.ret (Value.ref l))) s) :=
  .of_wp fun prog w A R s h => by
    obtain ⟨hp, g, d, tk, os⟩ := s
    obtain ⟨hl, h⟩ := h
    have f1 := AutoSeq1.idx_int
    have c1 : (items.isEmpty || (1 : Int) == 1) = true := by rw [Bool.or_eq_true]; exact .inr rfl
    wp_walk using wpAny_loadPart' hl
    repeat (first
      | (refine wpAny_ite_false (decide_eq_false (by decide)) ?_; wp_walk using wpAny_loadPart' hl)
      | (refine wpAny_ite_true (decide_eq_true c1) ?_; wp_walk using wpAny_loadPart' hl))
    exact ⟨_, rfl, h⟩
theorem op_rep1 : OpR X (binaryOp .Mult) (fun x y H Q => ∃ l xs, x = .ref l ∧ y = .int 1 ∧ SqT X.K H l xs ∧ Q (.ref l) H) := by
  intro pins s σ H x y v u Q I rx ry h
  obtain ⟨l, xs, rfl, rfl, hT, q⟩ := h
  cases rx
  obtain ⟨t, rfl⟩ := ry
  obtain ⟨its, r, ⟨⟨cls, dd, data, sl⟩, ho, hc, n, hd⟩, hs⟩ := I.tuple hT
  simp only at hc hd
  subst hc hd
  exact wpAny_binaryOp_repeat_ref (T := "tuple") (U := "int") (by decide) ⟨_, ho, rfl⟩ (fun s' => typeIs_int s' 1 t) noFill_tuple_mul F.fills_int_mul F.slot_int_rmul repeat_tuple F.slot_int_index.lookup
    (call_meets F.slot_int_rmul (typeIs_int s 1 t) F.entry_int_rmul (F.args_int_rmul_2 _ _) (int_rmul_tuple 1 t l its.toArray n dd sl)
      ⟨ho, rfl, ⟨_, ho, rfl⟩, call_meets F.slot_tuple_mul ⟨_, ho, rfl⟩ F.entry_tuple_mul (F.args_tuple_mul_2 _ _) (tuple_mul1 l its.toArray n dd sl t) ⟨ho, .ref l, H, I, rfl, q⟩⟩)
theorem MulOk.ok {i j : Int} (h : MulOk i j) : IntMulOk i j := by
  rcases h with h | h | h
  · exact .of_left (intBits_le_64 (by omega) (by omega))
  · exact .of_right (intBits_le_64 (by omega) (by omega))
  · exact CMulW.ok h
theorem RDs.rep {K : PySem.W.Frag} {w : Wd} {ds : List D} {vs : List V} (r : RDs K w ds vs) : ∀ k : Nat, RDs K w (List.replicate k ds).flatten (List.replicate k vs).flatten
  | 0 => .nil
  | k + 1 => by
    rw [List.replicate_succ, List.replicate_succ, List.flatten_cons, List.flatten_cons]
    exact r.append (RDs.rep r k)
theorem o_mul : OpR X (binaryOp .Mult) (R2of X.K mulD) := by
  intro pins s σ H x y v u Q I rx ry hq
  obtain ⟨w, h, a, b, QD, rfl, rel, ra, rb, o, post⟩ := hq
  unfold mulD at o
  split at o
  · rename_i i j e1
    cases view_int ra e1
    cases rb
    obtain ⟨t, rfl⟩ := rx
    obtain ⟨t', rfl⟩ := ry
    exact mul_int ⟨.int (i * j), w.H, I.tok _, ⟨_, rfl⟩, post.now rel (.int _) o.2⟩ o.1.ok
  · rename_i ds j e1
    obtain ⟨p, xs, rfl, hp, rs, l1⟩ := view_lst rel ra e1
    cases rb
    exact op_rep pins s σ _ _ _ v u Q I rx ry ⟨p, j, xs, rfl, rfl, hp, o.1.1, o.1.2.1, by rw [← rs.length]; exact o.1.2.2, fun l hl => post_lst rel hl (rs.rep _) (by rw [List.length_flatten, List.map_replicate, List.sum_replicate_nat, Nat.mul_comm]; exact o.1.2.2) o.2 post⟩
  · rename_i i p e1
    cases view_int ra e1
    cases rb
    cases ry
    obtain ⟨t, rfl⟩ := rx
    exact IntBool.mul_int_bool ⟨.int _, w.H, I.tok _, ⟨_, rfl⟩, post.now rel (.int _) o⟩
  · rename_i ds j e1
    obtain ⟨⟨ne, j1, j2, l1⟩, o⟩ := o
    obtain ⟨a, xs, rfl, hp, rs, l2⟩ := view_tup ra e1
    cases rb
    by_cases e : j = 1
    · subst e
      refine op_rep1 pins s σ _ _ _ v u Q I rx ry ⟨a, xs, rfl, rfl, hp.sq, post.now rel (.tup hp l2 rs) ?_⟩
      simpa using o
    · refine op_repT pins s σ _ _ _ v u Q I rx ry ⟨a, j, xs, rfl, rfl, hp.sq, fun z => ne ?_, by omega, j2, by rw [← rs.length]; exact l1, fun p hn => post_tup rel hn (rs.rep _) ?_ o post⟩
      · subst z
        cases rs
        rfl
      · rw [List.length_flatten, List.map_replicate, List.sum_replicate_nat, sizeLine_eq]
        have a1 : j.toNat * ds.length ≤ 1000 * 1000 := Nat.mul_le_mul (by omega) l1
        omega
  · exact o.elim
def fdivD : D2 := fun a b h Q => match a, b with
  | .int i, .int j => DivOk j ∧ Q (.int (i / j)) h
  | _, _ => False
theorem DivOk.ok {i j : Int} (h : DivOk j) : CDivW i j := by
  refine ⟨h.1, ?_⟩
  rcases h.2 with q | q
  · have := h.1
    exact Nat.lt_trans (log2_small (n := j.natAbs) (by omega)) (by decide)
  · exact q
theorem o_fdiv : OpR X (binaryOp .FloorDiv) (R2of X.K fdivD) := by
  intro pins s σ H x y v u Q I rx ry hq
  obtain ⟨w, h, a, b, QD, rfl, rel, ra, rb, o, post⟩ := hq
  unfold fdivD at o
  split at o
  · rename_i i j
    cases ra
    cases rb
    exact op_fdivW pins s σ _ _ _ v u Q I rx ry ⟨i, j, rfl, rfl, o.1.ok, post.now rel (.int _) o.2⟩
  · exact o.elim
def modD : D2 := fun a b h Q => match a, b with
  | .int i, .int j => 0 < j ∧ Q (.int (i % j)) h
  | _, _ => False
theorem o_mod : OpR X (binaryOp .Mod) (R2of X.K modD) := by
  intro pins s σ H x y v u Q I rx ry hq
  obtain ⟨w, h, a, b, QD, rfl, rel, ra, rb, o, post⟩ := hq
  unfold modD at o
  split at o
  · rename_i i j
    cases ra
    cases rb
    exact op_mod pins s σ _ _ _ v u Q I rx ry ⟨i, j, rfl, rfl, o.1, post.now rel (.int _) o.2⟩
  · exact o.elim
def powD : D2 := fun a b h Q => match a, b with
  | .int i, .int j => (0 ≤ j ∧ j ≤ 1000000 ∧ i.natAbs < 18446744073709551616) ∧ Q (.int (i ^ j.toNat)) h
  | _, _ => False
theorem o_pow : OpR X (binaryOp .Pow) (R2of X.K powD) := by
  intro pins s σ H x y v u Q I rx ry hq
  obtain ⟨w, h, a, b, QD, rfl, rel, ra, rb, o, post⟩ := hq
  unfold powD at o
  split at o
  · rename_i i j
    cases ra
    cases rb
    exact op_pow pins s σ _ _ _ v u Q I rx ry ⟨i, j, rfl, rfl, o.1, post.now rel (.int _) o.2⟩
  · exact o.elim
def binD : Operator → D2
  | .Add => addD
  | .Sub => subD
  | .Mult => mulD
  | .FloorDiv => fdivD
  | .Mod => modD
  | .Pow => powD
  | _ => fun _ _ _ _ => False
theorem OpR.of_false {f : Value → Value → Sem Value} : OpR X f (R2of X.K fun _ _ _ _ => False) := by
  intro pins s σ H x y v u Q I rx ry hq
  obtain ⟨_, _, _, _, _, _, _, _, _, o, _⟩ := hq
  exact o.elim
theorem o_bin (op : Operator) : OpR X (binaryOp op) (R2of X.K (binD op)) := by
  cases op <;> first | exact o_add | exact o_sub | exact o_mul | exact o_fdiv | exact o_mod | exact o_pow | exact OpR.of_false
/-! in place: numbers; a list grows by another way -/
def iaddD : D2 := fun a b h Q => match a, b with
  | .int i, .int j => Q (.int (i + j)) h
  | .str x, .str y => x.length + y.length ≤ sizeLine ∧ Q (.str (x ++ y)) h
  | _, _ => False
def imulD : D2 := fun a b h Q => match a, b with
  | .int i, .int j => MulOk i j ∧ Q (.int (i * j)) h
  | _, _ => False
def augD : Operator → D2
  | .Add => iaddD
  | .Sub => subD
  | .Mult => imulD
  | .FloorDiv => fdivD
  | .Mod => modD
  | _ => fun _ _ _ _ => False
theorem o_aug (op : Operator) : OpR X (inplaceOp op) (R2of X.K (augD op)) := by
  cases op <;> try exact OpR.of_false
  · intro pins s σ H x y v u Q I rx ry hq
    obtain ⟨w, h, a, b, QD, rfl, rel, ra, rb, o, post⟩ := hq
    replace o : iaddD a b h QD := o
    unfold iaddD at o
    split at o
    · rename_i i j
      cases ra
      cases rb
      exact iop_add pins s σ _ _ _ v u Q I rx ry ⟨i, j, rfl, rfl, post.now rel (.int _) o⟩
    · rename_i i j
      cases ra
      cases rb
      exact iop_add_str pins s σ _ _ _ v u Q I rx ry ⟨i, j, rfl, rfl, o.1, post.now rel (.str _) o.2⟩
    · exact o.elim
  · intro pins s σ H x y v u Q I rx ry hq
    obtain ⟨w, h, a, b, QD, rfl, rel, ra, rb, o, post⟩ := hq
    replace o : subD a b h QD := o
    unfold subD at o
    split at o
    · rename_i i j
      cases ra
      cases rb
      exact iop_sub pins s σ _ _ _ v u Q I rx ry ⟨i, j, rfl, rfl, post.now rel (.int _) o⟩
    · cases ra
      cases rb
      cases rx
      obtain ⟨t', rfl⟩ := ry
      exact IntBool.isub_bool_int ⟨.int _, w.H, I.tok _, ⟨_, rfl⟩, post.now rel (.int _) o⟩
    · cases ra
      cases rb
      cases ry
      obtain ⟨t, rfl⟩ := rx
      exact IntBool.isub_int_bool ⟨.int _, w.H, I.tok _, ⟨_, rfl⟩, post.now rel (.int _) o⟩
    · exact o.elim
  · intro pins s σ H x y v u Q I rx ry hq
    obtain ⟨w, h, a, b, QD, rfl, rel, ra, rb, o, post⟩ := hq
    replace o : imulD a b h QD := o
    unfold imulD at o
    split at o
    · rename_i i j
      cases ra
      cases rb
      obtain ⟨t, rfl⟩ := rx
      obtain ⟨t', rfl⟩ := ry
      exact imul_int ⟨.int (i * j), w.H, I.tok _, ⟨_, rfl⟩, post.now rel (.int _) o.2⟩ o.1.ok
    · exact o.elim
  · intro pins s σ H x y v u Q I rx ry hq
    obtain ⟨w, h, a, b, QD, rfl, rel, ra, rb, o, post⟩ := hq
    replace o : modD a b h QD := o
    unfold modD at o
    split at o
    · rename_i i j
      cases ra
      cases rb
      exact iop_mod pins s σ _ _ _ v u Q I rx ry ⟨i, j, rfl, rfl, o.1, post.now rel (.int _) o.2⟩
    · exact o.elim
  · intro pins s σ H x y v u Q I rx ry hq
    obtain ⟨w, h, a, b, QD, rfl, rel, ra, rb, o, post⟩ := hq
    replace o : fdivD a b h QD := o
    unfold fdivD at o
    split at o
    · rename_i i j
      cases ra
      cases rb
      obtain ⟨t, rfl⟩ := rx
      obtain ⟨t', rfl⟩ := ry
      have h1 : (0 : Int) < j := o.1.1
      exact ifloordiv_int (by omega) (by rw [Int.fdiv_eq_ediv_of_nonneg i (by omega)]; exact ⟨.int (i / j), w.H, I.tok _, ⟨_, rfl⟩, post.now rel (.int _) o.2⟩) (.inl (PyProof.noPylong_of_log2 (DivOk.ok (i := i) o.1).2))
    · exact o.elim
def negD : D1 := fun a h Q => match a with
  | .int i => Q (.int (-i)) h
  | _ => False
theorem o_neg : UnR X (unaryOp .USub) (R1of X.K negD) := by
  intro pins s σ H x v Q I rx hq
  obtain ⟨w, h, a, QD, rfl, rel, ra, o, post⟩ := hq
  unfold negD at o
  split at o
  · rename_i i
    cases ra
    exact un_neg pins s σ _ _ v Q I rx ⟨i, rfl, post.now rel (.int _) o⟩
  · exact o.elim

/-! ### comparisons -/
def ordD (pi : Int → Int → Bool) (ps : List Nat → List Nat → Bool) : D2 := fun a b h Q => match a, b with
  | .int i, .int j => Q (.bl (pi i j)) h
  | .str x, .str y => Q (.bl (ps x.cps.toList y.cps.toList)) h
  | _, _ => False
theorem o_ord {op : CmpOp} {pi : Int → Int → Bool} {ps : List Nat → List Nat → Bool} (hi : OpR X (compareOp op) (rI0 fun i j => .bl (pi i j)))
    (hs : OpR X (compareOp op) (fun x y H Q => ∃ i j, x = .str i ∧ y = .str j ∧ Q (.bl (ps i.cps.toList j.cps.toList)) H)) : OpR X (compareOp op) (R2of X.K (ordD pi ps)) := by
  intro pins s σ H x y v u Q I rx ry hq
  obtain ⟨w, h, a, b, QD, rfl, rel, ra, rb, o, post⟩ := hq
  unfold ordD at o
  split at o
  · rename_i i j
    cases ra
    cases rb
    exact hi pins s σ _ _ _ v u Q I rx ry ⟨i, j, rfl, rfl, post.now rel (.bl _) o⟩
  · rename_i i j
    cases ra
    cases rb
    exact hs pins s σ _ _ _ v u Q I rx ry ⟨i, j, rfl, rfl, post.now rel (.bl _) o⟩
  · exact o.elim
/-- data of which one has no dict within -/
def EqOk (x y : D) : Prop := x.isF = true ∧ y.isF = true ∧ (SeqAt.shaped x.py = true ∨ SeqAt.shaped y.py = true)
theorem EqOk.of {x y : D} (h : x.isD = true ∧ y.isD = true ∧ SeqAt.shaped x.py = true ∧ SeqAt.shaped y.py = true) : EqOk x y := ⟨isF_of _ h.1, isF_of _ h.2.1, .inl h.2.2.1⟩
theorem EqOk.lay {x y : D} (h : EqOk x y) {u : Nat} (hu : u + 64 < cLine) : (x.py.canLay0 = true ∨ y.py.canLay0 = true) ∧ u + min x.py.depth y.py.depth < cLine := by
  rcases h.2.2 with k | k
  · refine ⟨.inl (SeqAt.canLay_of_shaped k), ?_⟩
    unfold SeqAt.shaped at k
    rw [Bool.and_eq_true, decide_eq_true_eq] at k
    have := Nat.min_le_left x.py.depth y.py.depth
    omega
  · refine ⟨.inr (SeqAt.canLay_of_shaped k), ?_⟩
    unfold SeqAt.shaped at k
    rw [Bool.and_eq_true, decide_eq_true_eq] at k
    have := Nat.min_le_right x.py.depth y.py.depth
    omega
def eqD (neg : Bool) : D2 := fun a b h Q => match view h a, view h b with
  | .int i, .int j => Q (.bl (if neg then !decide (i = j) else decide (i = j))) h
  | .str i, .str j => Q (.bl (if neg then !decide (i = j) else decide (i = j))) h
  | x, y => EqOk x y ∧ Q (.bl (if neg then !PyData.eqv x.py y.py else PyData.eqv x.py y.py)) h
theorem o_eq (hu : X.A.units + 64 < cLine) : OpR X (compareOp .Eq) (R2of X.K (eqD false)) := by
  intro pins s σ H x y v u Q I rx ry hq
  obtain ⟨w, h, a, b, QD, rfl, rel, ra, rb, o, post⟩ := hq
  unfold eqD at o
  split at o
  · rename_i i j e1 e2
    cases view_int ra e1
    cases view_int rb e2
    refine op_eq pins s σ _ _ _ v u Q I rx ry ⟨rfl, post.now rel (.bl _) ?_⟩
    have e : decide (V.int i = V.int j) = decide (i = j) := by rw [dec_int, Bool.eq_iff_iff]; simp
    rw [e]
    exact o
  · rename_i i j e1 e2
    cases view_str ra e1
    cases view_str rb e2
    refine op_eq pins s σ _ _ _ v u Q I rx ry ⟨rfl, post.now rel (.bl _) ?_⟩
    have e : decide (V.str i = V.str j) = decide (i = j) := by rw [dec_str, Bool.eq_iff_iff]; simp
    rw [e]
    exact o
  · obtain ⟨ok, o⟩ := o
    obtain ⟨as, r1⟩ := view_reads0 I rel ra rx ok.1
    obtain ⟨bs, r2⟩ := view_reads0 I rel rb ry ok.2.1
    obtain ⟨c, d⟩ := ok.lay hu
    exact rcAt_readsX r1 r2 c d _ _ _ _ ⟨.bl _, w.H, I, rfl, post.now rel (.bl _) o⟩
theorem o_ne (hu : X.A.units + 64 < cLine) : OpR X (compareOp .NotEq) (R2of X.K (eqD true)) := by
  intro pins s σ H x y v u Q I rx ry hq
  obtain ⟨w, h, a, b, QD, rfl, rel, ra, rb, o, post⟩ := hq
  unfold eqD at o
  split at o
  · rename_i i j e1 e2
    cases view_int ra e1
    cases view_int rb e2
    refine op_ne pins s σ _ _ _ v u Q I rx ry ⟨rfl, post.now rel (.bl _) ?_⟩
    have e : decide (V.int i = V.int j) = decide (i = j) := by rw [dec_int, Bool.eq_iff_iff]; simp
    rw [e]
    exact o
  · rename_i i j e1 e2
    cases view_str ra e1
    cases view_str rb e2
    refine op_ne pins s σ _ _ _ v u Q I rx ry ⟨rfl, post.now rel (.bl _) ?_⟩
    have e : decide (V.str i = V.str j) = decide (i = j) := by rw [dec_str, Bool.eq_iff_iff]; simp
    rw [e]
    exact o
  · obtain ⟨ok, o⟩ := o
    obtain ⟨as, r1⟩ := view_reads0 I rel ra rx ok.1
    obtain ⟨bs, r2⟩ := view_reads0 I rel rb ry ok.2.1
    obtain ⟨c, d⟩ := ok.lay hu
    exact rcNeAt_readsX r1 r2 c d _ _ _ _ ⟨.bl _, w.H, I, rfl, post.now rel (.bl _) o⟩
/-- is: None, a truth -/
def isNon : D → Bool
  | .non => true
  | _ => false
def isD2 (neg : Bool) : D2 := fun a b h Q => match b with
  | .non => Q (.bl (if neg then !isNon a else isNon a)) h
  | .bl c => match a with
    | .bl d => Q (.bl (if neg then !decide (d = c) else decide (d = c))) h
    | _ => False
  | _ => False
theorem isNon_of {K : PySem.W.Frag} {w : Wd} {a : D} {x : V} (r : RD K w a x) : decide (x = V.non) = isNon a := by
  cases r <;> simp [isNon]
theorem o_is : OpR X (compareOp .Is) (R2of X.K (isD2 false)) := by
  intro pins s σ H x y v u Q I rx ry hq
  obtain ⟨w, h, a, b, QD, rfl, rel, ra, rb, o, post⟩ := hq
  unfold isD2 at o
  split at o
  · cases rb
    refine op_isN pins s σ _ _ _ v u Q I rx ry ⟨rfl, post.now rel (.bl _) ?_⟩
    rw [isNon_of ra]
    exact o
  · cases rb
    split at o
    · cases ra
      exact op_isBl pins s σ _ _ _ v u Q I rx ry ⟨_, _, rfl, rfl, post.now rel (.bl _) o⟩
    · exact o.elim
  · exact o.elim
theorem o_isnot : OpR X (compareOp .IsNot) (R2of X.K (isD2 true)) := by
  intro pins s σ H x y v u Q I rx ry hq
  obtain ⟨w, h, a, b, QD, rfl, rel, ra, rb, o, post⟩ := hq
  unfold isD2 at o
  split at o
  · cases rb
    refine op_notN pins s σ _ _ _ v u Q I rx ry ⟨rfl, post.now rel (.bl _) ?_⟩
    rw [isNon_of ra]
    exact o
  · cases rb
    split at o
    · cases ra
      exact op_notBl pins s σ _ _ _ v u Q I rx ry ⟨_, _, rfl, rfl, post.now rel (.bl _) o⟩
    · exact o.elim
  · exact o.elim
end
end G

/-! Operations on values, further. -/
namespace G
open PySem PySem.Spec PyProof.Rows L2
section
variable {X : Cx}

/-! ### a list or a tuple -/
theorem view_seq {K : PySem.W.Frag} {w : Wd} {h : Hd} {d : D} {ds : List D} {v : V} (rel : RelW K w h) (r : RD K w d v) (e : view h d = .lst ds ∨ view h d = .tup ds) : ∃ a xs, v = .ref a ∧ (SqL K w.H a xs ∨ SqT K w.H a xs) ∧ RDs K w ds xs ∧ ds.length ≤ sizeLine := by
  rcases e with e | e
  · obtain ⟨a, xs, e1, e2, rs, l⟩ := view_lst rel r e
    exact ⟨a, xs, e1, .inl (.inl (.inl e2)), rs, l⟩
  · obtain ⟨a, xs, e1, e2, rs, l⟩ := view_tup r e
    exact ⟨a, xs, e1, .inr e2.sq, rs, l⟩
def seqD (h : Hd) (d : D) : Option (List D) := match view h d with
  | .lst ds => some ds
  | .tup ds => some ds
  | _ => none
theorem seqD_of {h : Hd} {d : D} {ds : List D} (e : seqD h d = some ds) : view h d = .lst ds ∨ view h d = .tup ds := by
  unfold seqD at e
  split at e
  · rename_i q; cases e; exact .inl q
  · rename_i q; cases e; exact .inr q
  · cases e

/-! ### in -/
def D.flat : D → Bool
  | .non => true
  | .bl _ => true
  | .int _ => true
  | .str _ => true
  | _ => false
theorem RD.flat {K : PySem.W.Frag} {w : Wd} {d : D} {v : V} (r : RD K w d v) (f : d.flat = true) : flatV v = true := by
  cases r <;> first | rfl | (simp [D.flat] at f)
theorem RD.eqV {K : PySem.W.Frag} {w : Wd} {d e : D} {v u : V} (r : RD K w d v) (s : RD K w e u) (f : d.flat = true) (g : e.flat = true) : eqV v u = PyData.eqv d.py e.py := by
  cases r <;> first | (simp [D.flat] at f; done) | (cases s <;> first | (simp [D.flat] at g; done) | simp [L2.eqV, D.py, PyData.eqv])
theorem RDs.anyEq {K : PySem.W.Frag} {w : Wd} {e : D} {u : V} (s : RD K w e u) (g : e.flat = true) : ∀ {ds : List D} {vs : List V}, RDs K w ds vs → ds.all D.flat = true → vs.all flatV = true ∧ inV u vs = ds.any fun z => PyData.eqv z.py e.py
  | _, _, .nil, _ => ⟨rfl, rfl⟩
  | _, _, .cons r rs, f => by
    rw [List.all_cons, Bool.and_eq_true] at f
    obtain ⟨h1, h2⟩ := RDs.anyEq s g rs f.2
    refine ⟨by rw [List.all_cons, r.flat f.1, h1]; rfl, ?_⟩
    rw [List.any_cons, ← h2, ← r.eqV s f.1 g]
    rfl
theorem pys_any (e : PyData) : ∀ ds : List D, ((D.pys ds).any fun z => PyData.eqv z e) = ds.any fun z => PyData.eqv z.py e
  | [] => by simp [D.pys]
  | d :: ds => by simp only [D.pys, List.any_cons, pys_any e ds]
def keyD : D → Option Key
  | .int i => some (.inl i)
  | .str x => some (.inr x)
  | _ => none
def lookK {α : Type} (kvs : List (Key × α)) (k : Key) : Option α := (kvs.find? fun kv => decide (kv.1 = k)).map (·.2)
def putKD (kvs : List (Key × D)) (k : Key) (v : D) : List (Key × D) :=
  if (kvs.any fun kv => decide (kv.1 = k)) = true then kvs.map (fun kv => if kv.1 = k then (kv.1, v) else kv) else kvs ++ [(k, v)]
theorem keyD_of {K : PySem.W.Frag} {w : Wd} {d : D} {v : V} {k : Key} (r : RD K w d v) (e : keyD d = some k) : v = kV k := by
  cases r <;> first | (simp [keyD] at e; done) | (simp only [keyD, Option.some.injEq] at e; subst e; rfl)
theorem lookK_rel {K : PySem.W.Frag} {w : Wd} (k : Key) : ∀ {kvs : List (Key × D)} {xs : List (Key × V)}, xs.map (·.1) = kvs.map (·.1) → RDs K w (kvs.map (·.2)) (xs.map (·.2)) →
    (lookK kvs k = none ∧ valV xs k = none) ∨ ∃ d v, lookK kvs k = some d ∧ valV xs k = some v ∧ RD K w d v
  | [], [], _, _ => .inl ⟨rfl, rfl⟩
  | [], _ :: _, e, _ => by simp at e
  | _ :: _, [], e, _ => by simp at e
  | (k1, d) :: kvs, (k2, v) :: xs, e, r => by
    simp only [List.map_cons, List.cons.injEq] at e
    obtain ⟨e1, e2⟩ := e
    subst e1
    simp only [List.map_cons] at r
    cases r with
    | cons r rs =>
      by_cases hk : k2 = k
      · exact .inr ⟨d, v, by simp [lookK, List.find?_cons, hk], valV_pos hk, r⟩
      · have h1 : lookK ((k2, d) :: kvs) k = lookK kvs k := by simp [lookK, List.find?_cons, hk]
        have h2 : valV ((k2, v) :: xs) k = valV xs k := valV_neg hk
        rw [h1, h2]
        exact lookK_rel k e2 rs
def inD (neg : Bool) : D2 := fun a b h Q => match b with
  | .ref n => match h n with
    | some (.lst ds) => (a.isD = true ∧ D.areD ds = true ∧ SeqAt.shaped a.py = true ∧ SeqAt.shaped (.list (D.pys ds)) = true) ∧ Q (.bl (if neg then !ds.any fun z => PyData.eqv z.py a.py else ds.any fun z => PyData.eqv z.py a.py)) h
    | some (.dK kvs) => match keyD a with
      | some k => Q (.bl (if neg then !(lookK kvs k).isSome else (lookK kvs k).isSome)) h
      | none => False
    | none => False
  | .lst ds => (a.isD = true ∧ D.areD ds = true ∧ SeqAt.shaped a.py = true ∧ SeqAt.shaped (.list (D.pys ds)) = true) ∧ Q (.bl (if neg then !ds.any fun z => PyData.eqv z.py a.py else ds.any fun z => PyData.eqv z.py a.py)) h
  | .tup ds => ((a.flat = true ∧ ds.all D.flat = true) ∨ (a.isF = true ∧ D.areD ds = true ∧ SeqAt.shaped (.tuple (D.pys ds)) = true)) ∧ Q (.bl (if neg then !ds.any fun z => PyData.eqv z.py a.py else ds.any fun z => PyData.eqv z.py a.py)) h
  | .str y => match a with
    | .str x => match x.cps.toList with
      | [c] => Q (.bl (if neg then !decide (c ∈ y.cps.toList) else decide (c ∈ y.cps.toList))) h
      | _ => False
    | _ => False
  | _ => False
theorem one_sign {x : Str} {c : Nat} (e : x.cps.toList = [c]) : x = ⟨#[c]⟩ := by
  obtain ⟨a⟩ := x
  have : a = #[c] := by
    apply Array.ext'
    simpa using e
  rw [this]
theorem o_in (hu : X.A.units + 65 < cLine) (neg : Bool) : OpR X (compareOp (if neg then .NotIn else .In)) (R2of X.K (inD neg)) := by
  intro pins s σ H x y v u Q I rx ry hq
  obtain ⟨w, h, a, b, QD, rfl, rel, ra, rb, o, post⟩ := hq
  unfold inD at o
  have lst : ∀ ds, (a.isD = true ∧ D.areD ds = true ∧ SeqAt.shaped a.py = true ∧ SeqAt.shaped (.list (D.pys ds)) = true) ∧ QD (.bl (if neg then !ds.any fun z => PyData.eqv z.py a.py else ds.any fun z => PyData.eqv z.py a.py)) h →
      (∃ p xs, y = .ref p ∧ w.H p = some (.lst xs) ∧ RDs X.K w ds xs) → wpAny (model X.prog X.w) X.A (compareOp (if neg then .NotIn else .In) v u) (EP X pins σ Q) X.xe s := by
    rintro ds ⟨⟨h1, h2, h3, h4⟩, o⟩ ⟨p, xs, rfl, e, rs⟩
    have dp : Dp X.K w.H (.ref p) (.list (D.pys ds)) := .lst (.inl (.inl e)) (rs.dps h2)
    rw [← pys_any] at o
    cases neg with
    | false => exact op_inD hu pins s σ _ _ _ v u Q I rx ry ⟨_, _, ra.dp h1, dp, h3, h4, post.now rel (.bl _) o⟩
    | true => exact op_notInD hu pins s σ _ _ _ v u Q I rx ry ⟨_, _, ra.dp h1, dp, h3, h4, post.now rel (.bl _) o⟩
  split at o
  · rename_i n
    split at o
    · rename_i ds e
      obtain ⟨p, xs, e1, e2, rs, ll⟩ := view_lst (d := .ref n) (ds := ds) rel rb (by simp [view, e])
      exact lst ds o ⟨p, xs, e1, e2, rs⟩
    · rename_i kvs e
      obtain ⟨p, e1, xs, e2, e3, rs⟩ := rel.has n _ e
      cases rb with
      | ref q =>
        rw [q] at e1; cases e1
        split at o
        · rename_i k ek
          cases keyD_of ra ek
          cases ry
          have g : DGet w.H p (kV k) (valV xs k) := DGet.k e2
          have eo : (valV xs k).isSome = (lookK kvs k).isSome := by
            rcases lookK_rel k e3 rs with ⟨a1, a2⟩ | ⟨d, v', a1, a2, _⟩ <;> rw [a1, a2] <;> rfl
          cases neg with
          | false => exact d_in (by omega) I g rx fun s' I' => ⟨.bl (valV xs k).isSome, w.H, I', rfl, by rw [eo]; exact post.now rel (.bl _) o⟩
          | true => exact d_notIn (by omega) I g rx fun s' I' => ⟨.bl (!(valV xs k).isSome), w.H, I', rfl, by rw [eo]; exact post.now rel (.bl _) o⟩
        · exact o.elim
    · exact o.elim
  · rename_i ds
    obtain ⟨p, xs, e1, e2, rs, ll⟩ := view_lst (h := h) (d := .lst ds) (ds := ds) rel rb rfl
    exact lst ds o ⟨p, xs, e1, e2, rs⟩
  · rename_i ds
    obtain ⟨⟨h1, h2⟩ | ⟨h1, h2, h4⟩, o⟩ := o
    case inr =>
      cases rb with
      | tup st ll rs =>
        have dp : Dp X.K w.H _ (.tuple (D.pys ds)) := .tup st.sq (rs.dps h2)
        rw [← pys_any] at o
        obtain ⟨as, r1⟩ := RD.reads0 I ra rx h1
        obtain ⟨bs, r2⟩ := Dp.reads I _ _ _ dp ry
        have c1 := SeqAt.canLay_of_shaped h4
        simp only [PyData.canLay0] at c1
        have dl : PyData.depthAll (D.pys ds) ≤ 63 := by
          have := h4
          unfold SeqAt.shaped at this
          rw [Bool.and_eq_true, decide_eq_true_eq] at this
          have := this.2
          simp only [PyData.depth] at this
          omega
        have um : X.A.units + 1 + min (PyData.depthAll (D.pys ds)) a.py.depth < cLine := by
          have := Nat.min_le_left (PyData.depthAll (D.pys ds)) a.py.depth
          omega
        cases neg with
        | false => exact in_tupleX r2 r1 c1 um ⟨.bl _, w.H, I, rfl, post.now rel (.bl _) o⟩
        | true => exact notIn_tupleX r2 r1 c1 um ⟨.bl _, w.H, I, rfl, post.now rel (.bl _) o⟩
    case inl =>
    cases rb with
    | tup st ll rs =>
      obtain ⟨g1, g2⟩ := RDs.anyEq ra h1 rs h2
      rw [← g2] at o
      cases neg with
      | false => exact op_in_seq pins s σ _ _ _ v u Q I rx ry ⟨_, _, rfl, .inr st.sq, ra.flat h1, g1, post.now rel (.bl _) o⟩
      | true => exact op_notIn_seq pins s σ _ _ _ v u Q I rx ry ⟨_, _, rfl, .inr st.sq, ra.flat h1, g1, post.now rel (.bl _) o⟩
  · rename_i z
    cases rb
    split at o
    · rename_i x'
      cases ra
      split at o
      · rename_i c e
        cases one_sign e
        cases neg with
        | false => exact op_in_sign pins s σ _ _ _ v u Q I rx ry ⟨c, z, rfl, rfl, post.now rel (.bl _) o⟩
        | true => exact op_notIn_sign pins s σ _ _ _ v u Q I rx ry ⟨c, z, rfl, rfl, post.now rel (.bl _) o⟩
      · exact o.elim
    · exact o.elim
  · exact o.elim
def cmpD : CmpOp → D2
  | .Eq => eqD false
  | .NotEq => eqD true
  | .Lt => ordD (fun i j => decide (i < j)) (fun x y => decide (x < y))
  | .LtE => ordD (fun i j => decide (i ≤ j)) (fun x y => !decide (y < x))
  | .Gt => ordD (fun i j => decide (j < i)) (fun x y => decide (y < x))
  | .GtE => ordD (fun i j => decide (j ≤ i)) (fun x y => !decide (x < y))
  | .Is => isD2 false
  | .IsNot => isD2 true
  | .In => inD false
  | .NotIn => inD true
theorem o_cmp (hu : X.A.units + 65 < cLine) (op : CmpOp) : OpR X (compareOp op) (R2of X.K (cmpD op)) := by
  cases op with
  | Eq => exact o_eq (by omega)
  | NotEq => exact o_ne (by omega)
  | Lt => exact o_ord (ps := fun x y => decide (x < y)) op_lt op_lt_str
  | LtE => exact o_ord (ps := fun x y => !decide (y < x)) op_le op_le_str
  | Gt => exact o_ord (ps := fun x y => decide (y < x)) op_gt op_gt_str
  | GtE => exact o_ord (ps := fun x y => !decide (x < y)) op_ge op_ge_str
  | Is => exact o_is
  | IsNot => exact o_isnot
  | In => exact o_in hu false
  | NotIn => exact o_in hu true

/-! ### truth -/
def truthD (d : D) (h : Hd) (Q : Bool → Prop) : Prop := match view h d with
  | .bl b => Q b
  | .int i => Q (i != 0)
  | .non => Q false
  | .str x => x.length ≤ sizeLine ∧ Q ((x.length : Int) != 0)
  | .lst ds => Q (!ds.isEmpty)
  | .tup ds => Q (!ds.isEmpty)
  | _ => False
theorem RDs.isEmpty {K : PySem.W.Frag} {w : Wd} {ds : List D} {vs : List V} (r : RDs K w ds vs) : vs.isEmpty = ds.isEmpty := by cases r <;> rfl
theorem truth_of {K : PySem.W.Frag} {w : Wd} {h : Hd} {d : D} {v : V} {Q : Bool → Prop} (rel : RelW K w h) (r : RD K w d v) (q : truthD d h Q) : ∃ k, TruV K v w.H k ∧ Q k := by
  unfold truthD at q
  split at q
  · rename_i b e; cases view_bl r e; exact ⟨_, rfl, q⟩
  · rename_i b e; cases view_int r e; exact ⟨_, rfl, q⟩
  · rename_i e; cases view_non r e; exact ⟨_, rfl, q⟩
  · rename_i b e; cases view_str r e; exact ⟨_, ⟨q.1, rfl⟩, q.2⟩
  · rename_i ds e
    obtain ⟨a, xs, rfl, e2, rs, ll⟩ := view_lst rel r e
    exact ⟨_, .inl ⟨xs, .inl (.inl e2), rfl⟩, by rw [rs.isEmpty]; exact q⟩
  · rename_i ds e
    obtain ⟨a, xs, rfl, e2, rs, ll⟩ := view_tup r e
    exact ⟨_, .inr (.inl ⟨xs, e2.sq, rfl⟩), by rw [rs.isEmpty]; exact q⟩
  · exact q.elim

/-! ### items, slices -/
theorem RDs.atI {K : PySem.W.Frag} {w : Wd} {ds : List D} {vs : List V} {i : Int} {d : D} (r : RDs K w ds vs) (e : atI ds i = some d) : ∃ v, L2.atI vs i = some v ∧ RD K w d v := by
  unfold L2.atI at e ⊢
  rw [← r.length]
  cases q : ixN ds.length i with
  | none => rw [q] at e; cases e
  | some j =>
    rw [q] at e
    exact r.get e
def cutD (ds : List D) (lo hi : Option Int) : List D := (ds.drop (HT.sIx ds.length 0 lo)).take (HT.sIx ds.length ds.length hi - HT.sIx ds.length 0 lo)
theorem cutD_length (ds : List D) (lo hi : Option Int) : (cutD ds lo hi).length ≤ ds.length := by
  unfold cutD
  rw [List.length_take, List.length_drop]
  omega
theorem RDs.cut {K : PySem.W.Frag} {w : Wd} {ds : List D} {vs : List V} (r : RDs K w ds vs) (lo hi : Option Int) : RDs K w (cutD ds lo hi) (cutV vs lo hi) := by
  unfold cutD cutV
  rw [r.length]
  exact (r.drop _).take _
def subsD : D2 := fun a b h Q => match a with
  | .ref n => match h n with
    | some (.lst ds) => match b with
      | .int i => match atI ds i with
        | some d => Q d h
        | none => False
      | _ => False
    | some (.dK kvs) => match keyD b with
      | some k => match lookK kvs k with
        | some d => Q d h
        | none => False
      | none => False
    | none => False
  | .lst ds => match b with
      | .int i => match atI ds i with
        | some d => Q d h
        | none => False
      | _ => False
  | .tup ds => match b with
      | .int i => match atI ds i with
        | some d => Q d h
        | none => False
      | _ => False
  | .str x => match b with
      | .int i => x.length ≤ sizeLine ∧ match atI x.cps.toList i with
        | some c => Q (.str ⟨#[c]⟩) h
        | none => False
      | _ => False
  | _ => False
theorem ix_dict (hu : X.A.units + 1 < cLine) : IxR X (fun x y H Q => ∃ a v, x = .ref a ∧ DGet H a y (some v) ∧ Q v H) := by
  intro value slice pins s σ H x y v u Q I rx ry h hs
  obtain ⟨a, z, rfl, g, q⟩ := h
  cases rx
  exact tail_any (dict_typeIs I g) PySem.F.slot_dict_getitem.lookup (d_getItem hu I g ry fun w' s' I' r' => ⟨z, H, I', r', q⟩) hs
theorem o_subs (hu : X.A.units + 1 < cLine) : IxR X (R2of X.K subsD) := by
  intro value slice pins s σ H x y v u Q I rx ry hq hs
  obtain ⟨w, h, a, b, QD, rfl, rel, ra, rb, o, post⟩ := hq
  have lst : ∀ (ds : List D) (i : Int), y = .int i → (match L2.atI ds i with | some d => QD d h | none => False) → (∃ p xs, x = .ref p ∧ w.H p = some (.lst xs) ∧ RDs X.K w ds xs) →
      wpAny (model X.prog X.w) X.A (subscriptTail value slice v u) (EP X pins σ Q) X.xe s := by
    rintro ds i rfl o ⟨p, xs, rfl, e, rs⟩
    split at o
    · rename_i d ed
      obtain ⟨z, ez, rz⟩ := rs.atI ed
      exact ix_list value slice pins s σ _ _ _ v u Q I rx ry ⟨p, xs, i, z, rfl, rfl, .inl (.inl e), ez, post.now rel rz o⟩ hs
    · exact o.elim
  unfold subsD at o
  split at o
  · rename_i n
    split at o
    · rename_i ds e
      obtain ⟨p, xs, e1, e2, rs, ll⟩ := view_lst (d := .ref n) (ds := ds) rel ra (by simp [view, e])
      split at o
      · cases rb
        exact lst ds _ rfl o ⟨p, xs, e1, e2, rs⟩
      · exact o.elim
    · rename_i kvs e
      obtain ⟨p, e1, xs, e2, e3, rs⟩ := rel.has n _ e
      cases ra with
      | ref q =>
        rw [q] at e1; cases e1
        split at o
        · rename_i k ek
          cases keyD_of rb ek
          split at o
          · rename_i d ed
            rcases lookK_rel k e3 rs with ⟨a1, a2⟩ | ⟨d', v', a1, a2, rd⟩
            · rw [a1] at ed; cases ed
            · rw [a1] at ed; cases ed
              exact ix_dict hu value slice pins s σ _ _ _ v u Q I rx ry ⟨p, v', rfl, by rw [← a2]; exact DGet.k e2, post.now rel rd o⟩ hs
          · exact o.elim
        · exact o.elim
    · exact o.elim
  · rename_i ds
    obtain ⟨p, xs, e1, e2, rs, ll⟩ := view_lst (h := h) (d := .lst ds) (ds := ds) rel ra rfl
    split at o
    · cases rb
      exact lst ds _ rfl o ⟨p, xs, e1, e2, rs⟩
    · exact o.elim
  · rename_i ds
    cases ra with
    | tup st ll rs =>
      split at o
      · rename_i i
        cases rb
        split at o
        · rename_i d ed
          obtain ⟨z, ez, rz⟩ := rs.atI ed
          exact ix_tup value slice pins s σ _ _ _ v u Q I rx ry ⟨_, _, i, z, rfl, rfl, st.sq, ez, post.now rel rz o⟩ hs
        · exact o.elim
      · exact o.elim
  · rename_i z
    cases ra
    split at o
    · rename_i i
      cases rb
      obtain ⟨hz, o⟩ := o
      split at o
      · rename_i c ec
        exact ix_str value slice pins s σ _ _ _ v u Q I rx ry ⟨z, i, c, rfl, rfl, hz, ec, post.now rel (.str _) o⟩ hs
      · exact o.elim
    · exact o.elim
  · exact o.elim
def sliceD (a : D) (lo hi : Option Int) : Hd → Pq → Prop := fun h Q => match view h a with
  | .lst ds => Q (.lst (cutD ds lo hi)) h
  | .tup ds => Q (.tup (cutD ds lo hi)) h
  | .str x => x.length ≤ sizeLine ∧ Q (.str (cutS x lo hi)) h
  | .scr => ∀ ns : List Int, ns.length ≤ 63 → Q (.lst (cutD (ns.map D.int) lo hi)) h
  | _ => False
theorem intsR {K : PySem.W.Frag} {w : Wd} : ∀ (ns : List Int), RDs K w (ns.map D.int) (ns.map V.int)
  | [] => .nil
  | n :: ns => .cons (.int n) (intsR ns)
theorem view_scr {h : Hd} {d : D} (e : view h d = .scr) : d = .scr := by
  cases d <;> first | (simp only [view] at e; first | (split at e <;> cases e; done) | cases e; done) | rfl
theorem cut_whole {ds : List D} {lo hi : Option Int} (h : HT.sIx ds.length 0 lo = 0 ∧ HT.sIx ds.length ds.length hi = ds.length) : cutD ds lo hi = ds := by
  unfold cutD
  rw [h.1, h.2]
  simp
def RSof (K : PySem.W.Frag) : V → Option Int → Option Int → Hp → VK → Prop := fun x lo hi H Q => ∃ w h a QD, w.H = H ∧ RelW K w h ∧ RD K w a x ∧ sliceD a lo hi h QD ∧ Post K w h QD Q
theorem o_slice : SlR X (RSof X.K) := by
  intro pins s σ H x v vl vu lo hi sl Q I rx hs pl pu hq
  obtain ⟨w, h, a, QD, rfl, rel, ra, o, post⟩ := hq
  unfold sliceD at o
  split at o
  · rename_i ds e
    obtain ⟨p, xs, rfl, e2, rs, ll⟩ := view_lst rel ra e
    exact sl_list pins s σ _ _ v vl vu lo hi sl Q I rx hs pl pu ⟨p, xs, rfl, .inl (.inl e2), fun l hl => post_lst rel hl (rs.cut lo hi) (Nat.le_trans (cutD_length ds lo hi) ll) o post⟩
  · rename_i ds e
    obtain ⟨p, xs, rfl, e2, rs, ll⟩ := view_tup ra e
    refine sl_tupA pins s σ _ _ v vl vu lo hi sl Q I rx hs pl pu ⟨p, xs, rfl, e2.sq, fun hw => ?_, fun _ l hl => post_tup rel hl (rs.cut lo hi) (Nat.le_trans (cutD_length ds lo hi) ll) o post⟩
    rw [← rs.length] at hw
    rw [cut_whole hw] at o
    exact post.now rel (.tup e2 ll rs) o
  · rename_i z e
    cases view_str ra e
    exact sl_str pins s σ _ _ v vl vu lo hi sl Q I rx hs pl pu ⟨z, rfl, o.1, post.now rel (.str _) o.2⟩
  · rename_i e
    cases view_scr e
    cases ra with
    | @scr p ns e2 l n => exact sl_list pins s σ _ _ v vl vu lo hi sl Q I rx hs pl pu ⟨p, _, rfl, e2, fun y hy => post_lst rel hy ((intsR ns).cut lo hi) (Nat.le_trans (cutD_length _ lo hi) (by rw [List.length_map]; exact Nat.le_trans l (by decide))) (o ns l) post⟩
  · exact o.elim
end
end G

/-! Built-ins and methods on values. -/
namespace G
open PySem PySem.Spec PyProof.Rows L2

inductive Bl where
  | len | sum | all | any | tuple | list | listN | min | max | abs | int | isinst | repr | str | divmod | sorted
  deriving DecidableEq
def Bl.name : Bl → Str
  | .len => "len"
  | .sum => "sum"
  | .all => "all"
  | .any => "any"
  | .tuple => "tuple"
  | .list => "list"
  | .listN => "list"
  | .min => "min"
  | .max => "max"
  | .abs => "abs"
  | .int => "int"
  | .isinst => "isinstance"
  | .repr => "repr"
  | .str => "str"
  | .divmod => "divmod"
  | .sorted => "sorted"
def Bl.val : Bl → Value
  | .len => .builtin "len"
  | .sum => .builtin "sum"
  | .all => .builtin "all"
  | .any => .builtin "any"
  | .tuple => .type "tuple"
  | .list => .type "list"
  | .listN => .type "list"
  | .min => .builtin "min"
  | .max => .builtin "max"
  | .abs => .builtin "abs"
  | .int => .type "int"
  | .isinst => .builtin "isinstance"
  | .repr => .builtin "repr"
  | .str => .type "str"
  | .divmod => .builtin "divmod"
  | .sorted => .builtin "sorted"
theorem Bl.boot (b : Bl) : bootBuiltins b.name = some b.val := by cases b <;> decide +kernel
theorem Bl.nn (b : Bl) : b.name ≠ "__name__" := by cases b <;> decide
theorem Bl.nd (b : Bl) : (b.name == ("__debug__" : Str)) = false := by cases b <;> decide

def intsOf : List D → Option (List Int)
  | [] => some []
  | .int i :: ds => (intsOf ds).map (i :: ·)
  | _ :: _ => none
def isPairD : D → Bool
  | .tup [.int _, .int _] => true
  | _ => false
def blsOf : List D → Option (List Bool)
  | [] => some []
  | .bl b :: ds => (blsOf ds).map (b :: ·)
  | _ :: _ => none
theorem intsOf_rel {K : PySem.W.Frag} {w : Wd} : ∀ {ds : List D} {vs : List V} {ns : List Int}, RDs K w ds vs → intsOf ds = some ns → vs = ns.map V.int
  | _, _, _, .nil, e => by simp [intsOf] at e; subst e; rfl
  | d :: ds, v :: vs, ns, .cons r rs, e => by
    cases r <;> simp only [intsOf] at e <;> first | (cases e; done) | skip
    obtain ⟨ms, e1, e2⟩ := Option.map_eq_some_iff.mp e
    subst e2
    rw [intsOf_rel rs e1]
    rfl
theorem blsOf_rel {K : PySem.W.Frag} {w : Wd} : ∀ {ds : List D} {vs : List V} {ns : List Bool}, RDs K w ds vs → blsOf ds = some ns → vs = ns.map V.bl
  | _, _, _, .nil, e => by simp [blsOf] at e; subst e; rfl
  | d :: ds, v :: vs, ns, .cons r rs, e => by
    cases r <;> simp only [blsOf] at e <;> first | (cases e; done) | skip
    obtain ⟨ms, e1, e2⟩ := Option.map_eq_some_iff.mp e
    subst e2
    rw [blsOf_rel rs e1]
    rfl
theorem intsOf_map (ns : List Int) : intsOf (ns.map D.int) = some ns := by
  induction ns with
  | nil => rfl
  | cons n ns ih => simp [intsOf, ih]
theorem blsOf_map (ns : List Bool) : blsOf (ns.map D.bl) = some ns := by
  induction ns with
  | nil => rfl
  | cons n ns ih => simp [blsOf, ih]

/-- the class of a value, as isinstance asks -/
def isTy (h : Hd) (d : D) (t : Ty) : Option Bool := match d with
  | .non => some false
  | .bl _ => some (t == .bool || t == .int)
  | .int _ => some (t == .int)
  | .str _ => some (t == .str)
  | .tup _ => some (t == .tuple)
  | .lst _ => some (t == .list)
  | .dic _ _ => some (t == .dict)
  | .ref n => match h n with
    | some (.lst _) => some (t == .list)
    | some (.dK _) => some (t == .dict)
    | none => none
  | .ty _ => none
  | .deck => none
  | .scr => none
def tyS (h : Hd) (d : D) : Option String := match d with
  | .non => some "NoneType"
  | .bl _ => some "bool"
  | .int _ => some "int"
  | .str _ => some "str"
  | .tup _ => some "tuple"
  | .lst _ => some "list"
  | .dic _ _ => some "dict"
  | .ref n => match h n with
    | some (.lst _) => some "list"
    | some (.dK _) => some "dict"
    | none => none
  | .ty _ => none
  | .deck => none
  | .scr => none
theorem isTy_kit {K : PySem.W.Frag} {w : Wd} {h : Hd} {d : D} {v : V} {t : Ty} {b : Bool} (rel : RelW K w h) (r : RD K w d v) (e : isTy h d t = some b) : ∃ s, TyX K w.H v (.type s) ∧ kitB s t.name = some b := by
  cases r with
  | non => refine ⟨_, .base .non, ?_⟩; simp only [isTy, Option.some.injEq] at e; subst e; cases t <;> decide +kernel
  | bl c => refine ⟨_, .base (.bl c), ?_⟩; simp only [isTy, Option.some.injEq] at e; subst e; cases t <;> decide +kernel
  | int i => refine ⟨_, .base (.int i), ?_⟩; simp only [isTy, Option.some.injEq] at e; subst e; cases t <;> decide +kernel
  | str x => refine ⟨_, .base (.str x), ?_⟩; simp only [isTy, Option.some.injEq] at e; subst e; cases t <;> decide +kernel
  | ty n => cases e
  | deck q => cases e
  | scr s l n => cases e
  | tup st ll rs =>
    simp only [isTy, Option.some.injEq] at e
    subst e
    refine ⟨"tuple", ?_, by cases t <;> decide +kernel⟩
    rcases st with ⟨_, st⟩ | ⟨o, its, n, h1, h2, _⟩
    · exact .base (.tup st)
    · exact .kTuple h1 h2
  | lst st ll rs =>
    simp only [isTy, Option.some.injEq] at e
    subst e
    exact ⟨"list", .base (.lst st.2), by cases t <;> decide +kernel⟩
  | dic st ll rs =>
    simp only [isTy, Option.some.injEq] at e
    subst e
    exact ⟨"dict", .base (.dK st.2), by cases t <;> decide +kernel⟩
  | ref q =>
    rename_i n a
    simp only [isTy] at e
    split at e
    · rename_i ds en
      simp only [Option.some.injEq] at e
      subst e
      obtain ⟨p, e1, xs, e2, _⟩ := rel.has n _ en
      rw [q] at e1; cases e1
      exact ⟨"list", .base (.lst e2), by cases t <;> decide +kernel⟩
    · rename_i ds en
      simp only [Option.some.injEq] at e
      subst e
      obtain ⟨p, e1, xs, e2, _⟩ := rel.has n _ en
      rw [q] at e1; cases e1
      exact ⟨"dict", .base (.dK e2), by cases t <;> decide +kernel⟩
    · cases e

/-- the keys of a dict, all whole numbers -/
def keyInts : List (Key × D) → Option (List Int)
  | [] => some []
  | (.inl i, _) :: r => (keyInts r).map (i :: ·)
  | (.inr _, _) :: _ => none
theorem keyInts_map : ∀ {kvs : List (Key × D)} {ns : List Int}, keyInts kvs = some ns → kvs.map (·.1) = ns.map Sum.inl
  | [], ns, e => by simp only [keyInts, Option.some.injEq] at e; subst e; rfl
  | (.inl i, d) :: r, ns, e => by
    simp only [keyInts, Option.map_eq_some_iff] at e
    obtain ⟨ms, e1, rfl⟩ := e
    simp only [List.map_cons, keyInts_map e1]
  | (.inr _, _) :: _, _, e => by cases e
/-- repr is told: data, numbers of at most some 570 figures, a text that fits, not too deep -/
def Shows (d : D) : Prop := d.isF = true ∧ d.py.showable = true ∧ d.py.depth ≤ 64 ∧ d.py.shown.length ≤ sizeLine
def bltD : Bl → DN
  | .len => fun ds h Q => match ds with
    | [.ref n] => (match h n with
      | some (.lst xs) => Q (.int xs.length) h
      | some (.dK kvs) => Q (.int kvs.length) h
      | none => False)
    | [.lst xs] => Q (.int xs.length) h
    | [.tup xs] => Q (.int xs.length) h
    | [.str x] => x.length ≤ sizeLine ∧ Q (.int x.length) h
    | _ => False
  | .sum => fun ds h Q => match ds with
    | [d] => (match view h d with
      | .lst xs => (match intsOf xs with
        | some ns => Q (.int ns.sum) h
        | none => False)
      | _ => False)
    | _ => False
  | .all => fun ds h Q => match ds with
    | [d] => (match view h d with
      | .lst xs => (match blsOf xs with
        | some ns => Q (.bl (ns.all id)) h
        | none => False)
      | _ => False)
    | _ => False
  | .any => fun ds h Q => match ds with
    | [d] => (match view h d with
      | .lst xs => (match blsOf xs with
        | some ns => Q (.bl (ns.any id)) h
        | none => False)
      | _ => False)
    | _ => False
  | .tuple => fun ds h Q => match ds with
    | [d] => (match view h d with
      | .lst xs => Q (.tup xs) h
      | .tup xs => Q (.tup xs) h
      | _ => False)
    | _ => False
  | .list => fun ds h Q => match ds with
    | [d] => (match seqD h d with
      | some xs => Q (.lst xs) h
      | _ => False)
    | _ => False
  | .listN => fun ds h Q => match ds with
    | [d] => (match seqD h d with
      | some xs => ∀ n, h n = none → Q (.ref n) (h.set n (.lst xs))
      | _ => False)
    | _ => False
  | .min => fun ds h Q => match ds with
    | [.int i, .int j] => Q (.int (if j < i then j else i)) h
    | _ => False
  | .max => fun ds h Q => match ds with
    | [.int i, .int j] => Q (.int (if j > i then j else i)) h
    | _ => False
  | .abs => fun ds h Q => match ds with
    | [.int i] => Q (.int (if i < 0 then -i else i)) h
    | _ => False
  | .int => fun ds h Q => match ds with
    | [.int i] => Q (.int i) h
    | [.bl b] => Q (.int (if b then 1 else 0)) h
    | _ => False
  | .divmod => fun ds h Q => match ds with
    | [.int i, .int j] => DivOk j ∧ Q (.tup [.int (i / j), .int (i % j)]) h
    | _ => False
  | .sorted => fun ds h Q => match ds with
    | [d] => (match view h d with
      | .lst xs => (match intsOf xs with
        | some ns => ∀ ns' : List Int, ns'.Perm ns → ns'.Pairwise (· ≤ ·) → Q (.lst (ns'.map D.int)) h
        | none => xs.all isPairD = true ∧ ∀ ys : List D, ys.Perm xs → Q (.lst ys) h)
      | .tup xs => (match intsOf xs with
        | some ns => ∀ ns' : List Int, ns'.Perm ns → ns'.Pairwise (· ≤ ·) → Q (.lst (ns'.map D.int)) h
        | none => xs.all isPairD = true ∧ ∀ ys : List D, ys.Perm xs → Q (.lst ys) h)
      | .ref n => (match h n with
        | some (.dK kvs) => (match keyInts kvs with
          | some ns => ∀ ns' : List Int, ns'.Perm ns → ns'.Pairwise (· ≤ ·) → Q (.lst (ns'.map D.int)) h
          | none => False)
        | _ => False)
      | _ => False)
    | _ => False
  | .isinst => fun ds h Q => match ds with
    | [d, .ty t] => (match isTy h d t with
      | some b => Q (.bl b) h
      | none => False)
    | _ => False
  | .repr => fun ds h Q => match ds with
    | [d] => Shows (view h d) ∧ Q (.str (view h d).py.shown) h
    | _ => False
  | .str => fun ds h Q => match ds with
    | [.int i] => i.natAbs.log2 < 1920 ∧ Q (.str (toString i)) h
    | [.str x] => Q (.str x) h
    | [d] => Shows (view h d) ∧ Q (.str (view h d).py.shown) h
    | _ => False
section
variable {X : Cx}
theorem rds1 {K : PySem.W.Frag} {w : Wd} {d : D} {vs : List V} (r : RDs K w [d] vs) : ∃ v, vs = [v] ∧ RD K w d v := by
  cases r with
  | cons r rs => cases rs; exact ⟨_, rfl, r⟩
theorem rds2 {K : PySem.W.Frag} {w : Wd} {d e : D} {vs : List V} (r : RDs K w [d, e] vs) : ∃ v u, vs = [v, u] ∧ RD K w d v ∧ RD K w e u := by
  cases r with
  | cons r rs =>
    obtain ⟨u, rfl, s⟩ := rds1 rs
    exact ⟨_, _, rfl, r, s⟩
theorem rds0 {K : PySem.W.Frag} {w : Wd} {vs : List V} (r : RDs K w [] vs) : vs = [] := by cases r; rfl
theorem b_len : CallR X (.builtin "len") (RNof X.K (bltD .len)) := by
  intro pins s σ H xs us Q I rs hq
  obtain ⟨w, h, ds, QD, rfl, rel, rd, o, post⟩ := hq
  simp only [bltD] at o
  split at o
  · rename_i n
    obtain ⟨v, rfl, r⟩ := rds1 rd
    split at o
    · rename_i ds en
      obtain ⟨p, ys, rfl, e2, rs', ll⟩ := view_lst (d := .ref n) (ds := ds) rel r (by simp [view, en])
      exact L2.call_len_seq pins s σ _ _ us Q I rs ⟨p, ys, rfl, .inl (.inl (.inl e2)), by rw [← rs'.length]; exact post.now rel (.int _) o⟩
    · rename_i kvs en
      obtain ⟨p, e1, ys, e2, e3, rs'⟩ := rel.has n _ en
      cases r with
      | ref q =>
        rw [q] at e1; cases e1
        refine L2.call_lenD pins s σ _ _ us Q I rs ⟨p, ys, rfl, e2, ?_⟩
        have hl : kvs.length = ys.length := by
          have := congrArg List.length e3
          simpa using this.symm
        rw [← hl]
        exact post.now rel (.int _) o
    · exact o.elim
  · rename_i ds
    obtain ⟨v, rfl, r⟩ := rds1 rd
    obtain ⟨p, ys, rfl, e2, rs', ll⟩ := view_lst (h := h) (d := .lst ds) (ds := ds) rel r rfl
    exact L2.call_len_seq pins s σ _ _ us Q I rs ⟨p, ys, rfl, .inl (.inl (.inl e2)), by rw [← rs'.length]; exact post.now rel (.int _) o⟩
  · rename_i ds
    obtain ⟨v, rfl, r⟩ := rds1 rd
    cases r with
    | tup st ll rs' => exact L2.call_len_seq pins s σ _ _ us Q I rs ⟨_, _, rfl, .inr st.sq, by rw [← rs'.length]; exact post.now rel (.int _) o⟩
  · rename_i x
    obtain ⟨v, rfl, r⟩ := rds1 rd
    cases r
    exact L2.call_len_str pins s σ _ _ us Q I rs ⟨x, rfl, o.1, post.now rel (.int _) o.2⟩
  · exact o.elim
theorem b_sum (hc : X.calm = true) : CallR X (.builtin "sum") (RNof X.K (bltD .sum)) := by
  intro pins s σ H xs us Q I rs hq
  obtain ⟨w, h, ds, QD, rfl, rel, rd, o, post⟩ := hq
  simp only [bltD] at o
  split at o
  · obtain ⟨v, rfl, r⟩ := rds1 rd
    split at o
    · rename_i ds e
      split at o
      · rename_i ns en
        obtain ⟨p, ys, rfl, e2, rs', ll⟩ := view_lst rel r e
        exact cr_sum hc pins s σ _ _ us Q I rs ⟨p, ns, rfl, by rw [← intsOf_rel rs' en]; exact .inl (.inl e2), post.now rel (.int _) o⟩
      · exact o.elim
    · exact o.elim
  · exact o.elim
theorem b_all (hc : X.calm = true) : CallR X (.builtin "all") (RNof X.K (bltD .all)) := by
  intro pins s σ H xs us Q I rs hq
  obtain ⟨w, h, ds, QD, rfl, rel, rd, o, post⟩ := hq
  simp only [bltD] at o
  split at o
  · obtain ⟨v, rfl, r⟩ := rds1 rd
    split at o
    · rename_i ds e
      split at o
      · rename_i ns en
        obtain ⟨p, ys, rfl, e2, rs', ll⟩ := view_lst rel r e
        exact cr_all hc pins s σ _ _ us Q I rs ⟨p, ns, rfl, by rw [← blsOf_rel rs' en]; exact .inl (.inl e2), post.now rel (.bl _) o⟩
      · exact o.elim
    · exact o.elim
  · exact o.elim
theorem b_any (hc : X.calm = true) : CallR X (.builtin "any") (RNof X.K (bltD .any)) := by
  intro pins s σ H xs us Q I rs hq
  obtain ⟨w, h, ds, QD, rfl, rel, rd, o, post⟩ := hq
  simp only [bltD] at o
  split at o
  · obtain ⟨v, rfl, r⟩ := rds1 rd
    split at o
    · rename_i ds e
      split at o
      · rename_i ns en
        obtain ⟨p, ys, rfl, e2, rs', ll⟩ := view_lst rel r e
        exact cr_any hc pins s σ _ _ us Q I rs ⟨p, ns, rfl, by rw [← blsOf_rel rs' en]; exact .inl (.inl e2), post.now rel (.bl _) o⟩
      · exact o.elim
    · exact o.elim
  · exact o.elim
theorem b_tuple : CallR X (.type "tuple") (RNof X.K (bltD .tuple)) := by
  intro pins s σ H xs us Q I rs hq
  obtain ⟨w, h, ds, QD, rfl, rel, rd, o, post⟩ := hq
  simp only [bltD] at o
  split at o
  · obtain ⟨v, rfl, r⟩ := rds1 rd
    split at o
    · rename_i ds e
      obtain ⟨p, ys, rfl, e2, rs', ll⟩ := view_lst rel r e
      exact call_tuple_of pins s σ _ _ us Q I rs ⟨p, ys, rfl, .inl ⟨.inl (.inl e2), fun l hl => post_tup rel hl rs' ll o post⟩⟩
    · rename_i ds e
      obtain ⟨p, ys, rfl, e2, rs', ll⟩ := view_tup r e
      exact call_tuple_of pins s σ _ _ us Q I rs ⟨p, ys, rfl, .inr ⟨e2.sq, post.now rel (.tup e2 ll rs') o⟩⟩
    · exact o.elim
  · exact o.elim
theorem b_list : CallR X (.type "list") (RNof X.K (bltD .list)) := by
  intro pins s σ H xs us Q I rs hq
  obtain ⟨w, h, ds, QD, rfl, rel, rd, o, post⟩ := hq
  simp only [bltD] at o
  split at o
  · obtain ⟨v, rfl, r⟩ := rds1 rd
    split at o
    · rename_i ds e
      obtain ⟨p, ys, rfl, e2, rs', ll⟩ := view_seq rel r (seqD_of e)
      exact call_list_of pins s σ _ _ us Q I rs ⟨p, ys, rfl, e2, fun l hl => post_lst rel hl rs' ll o post⟩
    · exact o.elim
  · exact o.elim
theorem b_listN : CallR X (.type "list") (RNof X.K (bltD .listN)) := by
  intro pins s σ H xs us Q I rs hq
  obtain ⟨w, h, ds, QD, rfl, rel, rd, o, post⟩ := hq
  simp only [bltD] at o
  split at o
  · obtain ⟨v, rfl, r⟩ := rds1 rd
    split at o
    · rename_i ds e
      obtain ⟨p, ys, rfl, e2, rs', ll⟩ := view_seq rel r (seqD_of e)
      exact call_list_of pins s σ _ _ us Q I rs ⟨p, ys, rfl, e2, fun l hl => post_new rel hl rs' ll o post⟩
    · exact o.elim
  · exact o.elim
theorem b_min (hc : X.calm = true) : CallR X (.builtin "min") (RNof X.K (bltD .min)) := by
  intro pins s σ H xs us Q I rs hq
  obtain ⟨w, h, ds, QD, rfl, rel, rd, o, post⟩ := hq
  simp only [bltD] at o
  split at o
  · obtain ⟨v, u, rfl, r1, r2⟩ := rds2 rd
    cases r1
    cases r2
    exact call_min2 hc pins s σ _ _ us Q I rs ⟨_, _, rfl, post.now rel (.int _) o⟩
  · exact o.elim
theorem b_max (hc : X.calm = true) : CallR X (.builtin "max") (RNof X.K (bltD .max)) := by
  intro pins s σ H xs us Q I rs hq
  obtain ⟨w, h, ds, QD, rfl, rel, rd, o, post⟩ := hq
  simp only [bltD] at o
  split at o
  · obtain ⟨v, u, rfl, r1, r2⟩ := rds2 rd
    cases r1
    cases r2
    exact call_max2 hc pins s σ _ _ us Q I rs ⟨_, _, rfl, post.now rel (.int _) o⟩
  · exact o.elim
theorem b_abs : CallR X (.builtin "abs") (RNof X.K (bltD .abs)) := by
  intro pins s σ H xs us Q I rs hq
  obtain ⟨w, h, ds, QD, rfl, rel, rd, o, post⟩ := hq
  simp only [bltD] at o
  split at o
  · obtain ⟨v, rfl, r1⟩ := rds1 rd
    cases r1
    exact call_abs pins s σ _ _ us Q I rs ⟨_, rfl, post.now rel (.int _) o⟩
  · exact o.elim
theorem b_int : CallR X (.type "int") (RNof X.K (bltD .int)) := by
  intro pins s σ H xs us Q I rs hq
  obtain ⟨w, h, ds, QD, rfl, rel, rd, o, post⟩ := hq
  simp only [bltD] at o
  split at o
  · obtain ⟨v, rfl, r1⟩ := rds1 rd
    cases r1
    exact call_int1 pins s σ _ _ us Q I rs (.inl ⟨_, rfl, post.now rel (.int _) o⟩)
  · obtain ⟨v, rfl, r1⟩ := rds1 rd
    cases r1
    exact call_int1 pins s σ _ _ us Q I rs (.inr ⟨_, rfl, post.now rel (.int _) o⟩)
  · exact o.elim
theorem b_isinst : CallR X (.builtin "isinstance") (RNof X.K (bltD .isinst)) := by
  intro pins s σ H xs us Q I rs hq
  obtain ⟨w, h, ds, QD, rfl, rel, rd, o, post⟩ := hq
  simp only [bltD] at o
  split at o
  · obtain ⟨v, u, rfl, r1, r2⟩ := rds2 rd
    cases r2
    split at o
    · rename_i b e
      obtain ⟨s', ty, k⟩ := isTy_kit rel r1 e
      exact call_isi pins s σ _ _ us Q I rs ⟨v, _, _, _, b, rfl, .ty _, ty, kit_ty k, post.now rel (.bl _) o⟩
    · exact o.elim
  · exact o.elim
theorem b_repr (hs : ∃ o, X.base.get? sysModules = some o) (hg : X.A.guards = some []) (hu : X.A.units + 70 < cLine) : CallR X (.builtin "repr") (RNof X.K (bltD .repr)) := by
  intro pins s σ H xs us Q I rs hq
  obtain ⟨w, h, ds, QD, rfl, rel, rd, o, post⟩ := hq
  simp only [bltD] at o
  split at o
  · rename_i d
    obtain ⟨v, rfl, r⟩ := rds1 rd
    obtain ⟨⟨h1, h2, h3, h4⟩, o⟩ := o
    obtain ⟨u, rfl, rv⟩ := vals1 rs
    obtain ⟨as, rr, nd⟩ := view_reads I hs rel r rv h1
    generalize (view h d).py = q at h2 h3 h4 o rr
    have fin : ∀ h' u tk, (∀ b o, s.heap.get? b = some o → h'.get? b = some o) → EP X pins σ Q (.str q.shown u) { s with heap := h', toks := tk } := fun h' u tk hk =>
      ⟨.str _, w.H, I.kept hk, ⟨_, rfl⟩, post.now rel (.str _) o⟩
    cases rr with
    | none => simp only [PyData.shown] at fin; exact PySem.P.repr_of_none (fin s.heap _ _ fun _ _ e => e)
    | bool b => simp only [PyData.shown] at fin; exact PySem.P.repr_of_bool (fin s.heap _ _ fun _ _ e => e)
    | int i t => simp only [PyData.shown] at fin; exact PySem.P.repr_of_int (by simpa [PyData.showable] using h2) (fin s.heap _ _ fun _ _ e => e)
    | str x t => simp only [PyData.shown] at fin h4; exact PySem.P.repr_of_str (fin s.heap _ _ fun _ _ e => e) h4
    | list q1 q2 q3 q4 => exact repr_of_reads' (.list q1 q2 q3 q4) h2 (fun _ => nd) hg (by omega) (fun _ _ e => e) fin h4
    | tuple q1 q2 q3 q4 => exact repr_of_reads' (.tuple q1 q2 q3 q4) h2 (fun _ => nd) hg (by omega) (fun _ _ e => e) fin h4
    | dict q1 q2 q3 q4 q5 => exact repr_of_reads' (.dict q1 q2 q3 q4 q5) h2 (fun _ => nd) hg (by omega) (fun _ _ e => e) fin h4
  · exact o.elim
theorem b_str (hs : ∃ o, X.base.get? sysModules = some o) (hg : X.A.guards = some []) (hu : X.A.units + 70 < cLine) : CallR X (.type "str") (RNof X.K (bltD .str)) := by
  intro pins s σ H xs us Q I rs hq
  obtain ⟨w, h, ds, QD, rfl, rel, rd, o, post⟩ := hq
  simp only [bltD] at o
  split at o
  · obtain ⟨v, rfl, r1⟩ := rds1 rd
    cases r1
    exact call_str_int pins s σ _ _ us Q I rs ⟨_, rfl, o.1, post.now rel (.str _) o.2⟩
  · obtain ⟨v, rfl, r1⟩ := rds1 rd
    cases r1
    exact SkE.call_str_str pins s σ _ _ us Q I rs ⟨_, rfl, post.now rel (.str _) o⟩
  · rename_i d ni ns
    obtain ⟨v, rfl, r⟩ := rds1 rd
    obtain ⟨⟨h1, h2, h3, h4⟩, o⟩ := o
    obtain ⟨u, rfl, rv⟩ := vals1 rs
    obtain ⟨as, rr, nd⟩ := view_reads I hs rel r rv h1
    have hnot : (∀ i, v ≠ .int i) ∧ ∀ x, v ≠ .str x := by
      cases r with
      | int i => exact absurd rfl (ni i)
      | str x => exact absurd rfl (ns x)
      | _ => exact ⟨fun _ => nofun, fun _ => nofun⟩
    generalize (view h d).py = q at h2 h3 h4 o rr
    have fin : ∀ h' u tk, (∀ b o, s.heap.get? b = some o → h'.get? b = some o) → EP X pins σ Q (.str q.shown u) { s with heap := h', toks := tk } := fun h' u tk hk =>
      ⟨.str _, w.H, I.kept hk, ⟨_, rfl⟩, post.now rel (.str _) o⟩
    cases rr with
    | none => simp only [PyData.shown] at fin; exact PySem.P.str_of_none (fin s.heap _ _ fun _ _ e => e)
    | bool b => simp only [PyData.shown] at fin; exact PySem.P.str_of_bool (fin s.heap _ _ fun _ _ e => e)
    | int i t => cases v <;> first | exact absurd rfl (hnot.1 _) | (obtain ⟨_, z⟩ := rv; cases z; done) | (cases rv; done)
    | str x t => cases v <;> first | exact absurd rfl (hnot.2 _) | (obtain ⟨_, z⟩ := rv; cases z; done) | (cases rv; done)
    | list q1 q2 q3 q4 => exact PySem.str_of_reads (.list q1 q2 q3 q4) h2 (fun _ => nd) hg (by omega) (fun _ _ e => e) fin h4
    | tuple q1 q2 q3 q4 => exact PySem.str_of_reads (.tuple q1 q2 q3 q4) h2 (fun _ => nd) hg (by omega) (fun _ _ e => e) fin h4
    | dict q1 q2 q3 q4 q5 => exact PySem.str_of_reads (.dict q1 q2 q3 q4 q5) h2 (fun _ => nd) hg (by omega) (fun _ _ e => e) fin h4
  · exact o.elim
theorem b_divmod : CallR X (.builtin "divmod") (RNof X.K (bltD .divmod)) := by
  intro pins s σ H xs us Q I rs hq
  obtain ⟨w, h, ds, QD, rfl, rel, rd, o, post⟩ := hq
  simp only [bltD] at o
  split at o
  · rename_i i j
    obtain ⟨v, u, rfl, r1, r2⟩ := rds2 rd
    cases r1
    cases r2
    obtain ⟨c1, c2⟩ := DivOk.ok (i := i) o.1
    exact call_divmodW pins s σ _ _ us Q I rs ⟨i, j, rfl, ⟨c1, PyProof.noPylong_of_log2 c2⟩, fun p hp => post_tup (ds := [.int (i / j), .int (i % j)]) rel hp (.cons (.int _) (.cons (.int _) .nil)) (by show 2 ≤ sizeLine; decide) o.2 post⟩
  · exact o.elim
theorem rds_intsOf {K : PySem.W.Frag} {w : Wd} (ns : List Int) : RDs K w (ns.map D.int) (ns.map V.int) := by
  induction ns with
  | nil => exact .nil
  | cons n ns ih => exact .cons (.int n) ih
theorem each_int {vs : List (Key × Value)} {ks : List Int} {acc : Array Value} (hk : vs.map (·.1) = ks.map Sum.inl) (hl : acc.toList.length = ks.length) (ha : ∀ (j : Nat) (v : Value), acc[j]? = some v → ∃ (k : Key) (x : Value), vs[j]? = some (k, x) ∧ keyIs k v = true) : IntsAre acc.toList ks :=
  ints_each hl fun j v e => by
    obtain ⟨k, x, e1, e2⟩ := ha j v (by rw [← Array.getElem?_toList]; exact e)
    have e3 : (vs.map (·.1))[j]? = some k := by simp only [List.getElem?_map, e1, Option.map_some]
    rw [hk, List.getElem?_map, Option.map_eq_some_iff] at e3
    obtain ⟨y, e4, e5⟩ := e3
    rw [← e5] at e2
    rcases keyIs_shape e2 with ⟨i, t, z, rfl⟩ | ⟨i, t, z, _⟩
    · injection z with z
      exact ⟨i, t, by rw [e4, z], rfl⟩
    · cases z
/-- sorted(d), the keys being whole numbers, any number of them -/
theorem srtD_any (hc : X.calm = true) : CallR X (.builtin "sorted") (fun xs H Q => ∃ (a : Addr) (kvs : List (Key × V)) (ks : List Int), xs = [.ref a] ∧ H a = some (.dK kvs) ∧ kvs.map (·.1) = ks.map Sum.inl ∧
    ∀ (ys : List Int) (p : Addr), ys.Perm ks → ys.Pairwise (· ≤ ·) → H p = none → Q (.ref p) (upd H p (.lst (ys.map V.int)))) := by
  rintro pins s σ H xs us Q I r ⟨a, kvs, ks, rfl, hd, hks, q⟩
  obtain ⟨u, rfl, rx⟩ := vals1 r
  cases rx
  obtain ⟨lz, lo, vs, kv, dd⟩ := dk_of I.hok hd
  obtain ⟨ep, hat⟩ := dd.dictAt
  have hkey : vs.map (·.1) = ks.map Sum.inl := kv.keys.symm.trans hks
  have l1 : vs.length = ks.length := by simpa using congrArg List.length hkey
  have l2 : kvs.length = ks.length := by simpa using congrArg List.length hks
  refine Calls.call_function_entry kind_sorted plain_sorted entry_sorted (args_sorted1 _) ?_
  unfold Builtin.«sorted»
  refine wpAny_bind (m := checkCount "sorted" 1 1 _) (wpAny_pure (wpAny_bind (PySem.W.kdu_collect (A := X.A.in1) (PySem.W.kdl_dict (knd := mixKind X.prog X.w) (kvs := vs) (ep := ep) lo) (I.ok.hd hc) hat (by omega) fun h2 t2 acc hk2 ha2 => ?_)))
  have al : acc.toList.length = ks.length := by rw [Array.length_toList, ha2.1, l1]
  have hI : IntsAre acc.toList ks := each_int hkey al ha2.2
  have I2 : Inv X pins σ H { s with heap := h2, toks := t2 } := I.kept hk2
  refine wpAny_bind (wpAny_newList ?_ (by omega))
  have ob : (h2.push (seqObj "list" acc.toList.toArray 0)).get? h2.objs.size = some (seqObj "list" acc.toList.toArray 0) := Heap.get?_push_size _ rfl
  show wpAny _ _ _ _ _ { s with heap := h2.push (seqObj "list" acc.toList.toArray 0), toks := t2 }
  refine wpAny_bind (wpAny_holding (wpAny_call_entry slot_list_sort ⟨_, ob, rfl⟩ entry_list_sort
    (SrtO.list_sort_ord (s := { s with heap := h2.push (seqObj "list" acc.toList.toArray 0), toks := t2 }) SrtO.swo_int ob (by omega) (fun two => SrtO.ints_sortable hI two) fun out g1 g2 => ⟨_, rfl, ?_⟩) (args_list_sort _)))
  obtain ⟨k1, k2, k3⟩ := SrtO.ints_out hI g1 g2
  obtain ⟨e2, he2⟩ := sortedHeap_at (vs := acc.toList) (out := out.toArray) ob
  have ll : ((out.map SrtO.iv).map V.int).length ≤ sizeLine := by rw [List.length_map, k2.length_eq]; omega
  refine wpAny_pure ⟨_, rfl, .ref h2.objs.size, upd H h2.objs.size (.lst ((out.map SrtO.iv).map V.int)), I2.laid (t' := t2) (fun b o e => ?_) (Nat.le_refl _) ⟨ll, out, e2, vals_of_ints k1, he2⟩, rfl, q _ _ k2 k3 (I2.hok.fresh (Nat.le_refl _))⟩
  have bl : b < h2.objs.size := Heap.lt_size e
  rw [sortedHeap_old (Nat.ne_of_lt bl) (size_push' _ _ ▸ Nat.lt_succ_of_lt bl)]
  exact Heap.get?_push_of_some _ e
/-- sorted(t), whole numbers in a tuple -/
theorem srtT_any : CallR X (.builtin "sorted") (fun xs H Q => ∃ (a : Addr) (ns : List Int), xs = [.ref a] ∧ SqT X.K H a (ns.map V.int) ∧
    ∀ (ys : List Int) (p : Addr), ys.Perm ns → ys.Pairwise (· ≤ ·) → H p = none → Q (.ref p) (upd H p (.lst (ys.map V.int)))) := by
  rintro pins s σ H xs us Q I r ⟨a, ns, rfl, ht, q⟩
  obtain ⟨u, rfl, rx⟩ := vals1 r
  cases rx
  obtain ⟨its, rv, ⟨o, ho, hc, n, hd⟩, hz⟩ := I.tuple ht
  have hI := rv.ints
  have lz : its.length ≤ sizeLine := by rw [← rv.length]; exact hz
  have ln : its.length = ns.length := by rw [← rv.length, List.length_map]
  refine Calls.call_function_entry kind_sorted plain_sorted entry_sorted (args_sorted1 _) ?_
  unfold Builtin.«sorted»
  refine wpAny_bind (m := checkCount "sorted" 1 1 _) (wpAny_pure (wpAny_bind (wpAny_collect_seq a (.inr rfl) ho hc hd (fun h2 hk2 => ?_) (by simpa using lz))))
  have I2 : Inv X pins σ H { s with heap := h2, toks := s.toks } := I.kept hk2
  refine wpAny_bind (wpAny_newList ?_ (by simpa using lz))
  have ob : (h2.push (seqObj "list" its.toArray.toList.toArray 0)).get? h2.objs.size = some (seqObj "list" its.toArray.toList.toArray 0) := Heap.get?_push_size _ rfl
  show wpAny _ _ _ _ _ { s with heap := h2.push (seqObj "list" its.toArray.toList.toArray 0), toks := s.toks }
  have hI : IntsAre its.toArray.toList ns := by simpa using hI
  refine wpAny_bind (wpAny_holding (wpAny_call_entry slot_list_sort ⟨_, ob, rfl⟩ entry_list_sort
    (SrtO.list_sort_ord (s := { s with heap := h2.push (seqObj "list" its.toArray.toList.toArray 0), toks := s.toks }) SrtO.swo_int ob (by simpa using lz) (fun two => SrtO.ints_sortable hI two) fun out g1 g2 => ⟨_, rfl, ?_⟩) (args_list_sort _)))
  obtain ⟨k1, k2, k3⟩ := SrtO.ints_out hI g1 g2
  obtain ⟨e2, he2⟩ := sortedHeap_at (vs := its.toArray.toList) (out := out.toArray) ob
  have ll : ((out.map SrtO.iv).map V.int).length ≤ sizeLine := by rw [List.length_map, k2.length_eq, ← ln]; exact lz
  refine wpAny_pure ⟨_, rfl, .ref h2.objs.size, upd H h2.objs.size (.lst ((out.map SrtO.iv).map V.int)), I2.laid (t' := s.toks) (fun b o e => ?_) (Nat.le_refl _) ⟨ll, out, e2, vals_of_ints k1, he2⟩, rfl, q _ _ k2 k3 (I2.hok.fresh (Nat.le_refl _))⟩
  have bl : b < h2.objs.size := Heap.lt_size e
  rw [sortedHeap_old (Nat.ne_of_lt bl) (size_push' _ _ ▸ Nat.lt_succ_of_lt bl)]
  exact Heap.get?_push_of_some _ e
/-- sorted(l) of pairs of whole numbers: the same pairs in some order -/
theorem cr_sortedQ : CallR X (.builtin "sorted") (fun vs H Q => ∃ a xs, vs = [V.ref a] ∧ SqL X.K H a xs ∧ (∀ x ∈ xs, ∃ t i j, x = V.ref t ∧ SqT X.K H t [.int i, .int j]) ∧ ∀ ys p, ys.Perm xs → H p = none → Q (.ref p) (upd H p (.lst ys))) := by
  intro pins s σ H vs us Q I r h
  obtain ⟨a, xs, rfl, hs, hx, q⟩ := h
  obtain ⟨its, rv, hl, hz⟩ := I.list hs
  obtain ⟨u, rfl, ru⟩ := vals1 r
  obtain rfl : u = Value.ref a := ru
  obtain ⟨e1, e2⟩ := refs_back rv fun x m => by
    obtain ⟨t, _, _, e, _⟩ := hx x m
    exact ⟨t, e⟩
  refine Srt.sorted_pairs hl.isList (by rw [← rv.length]; exact hz) (fun v hv => ?_) fun h' d out hp k hd hn => ?_
  · obtain ⟨t, rfl⟩ := e2 v hv
    have hm : V.ref t ∈ xs := by rw [e1]; exact List.mem_map.mpr ⟨_, hv, rfl⟩
    obtain ⟨t', i, j, e, ht⟩ := hx _ hm
    cases e
    obtain ⟨its2, r2, ⟨o, ho, hc, n, hd⟩, _⟩ := I.tuple ht
    obtain ⟨u1, u2, rfl, ri, rj⟩ := vals2 r2
    obtain ⟨t1, rfl⟩ := ri
    obtain ⟨t2, rfl⟩ := rj
    exact ⟨i, j, t, o, t1, t2, n, rfl, ho, hc, hd⟩
  · have h3 : ∀ u ∈ out, ∃ a, u = Value.ref a := fun u hu => e2 u (hp.mem_iff.mp hu)
    obtain ⟨n, hn⟩ := hn
    refine ⟨.ref d, upd H d (.lst (out.map backV)), I.laid (t' := s.toks) k hd ⟨?_, out, n, vals_back h3, hn⟩, rfl, q _ d ?_ (I.hok.fresh hd)⟩
    · rw [List.length_map, hp.length_eq, ← rv.length]; exact hz
    · rw [e1]; exact hp.map backV
/-- sorted(t) of pairs of whole numbers -/
theorem cr_sortedTQ : CallR X (.builtin "sorted") (fun vs H Q => ∃ a xs, vs = [V.ref a] ∧ SqT X.K H a xs ∧ (∀ x ∈ xs, ∃ t i j, x = V.ref t ∧ SqT X.K H t [.int i, .int j]) ∧ ∀ ys p, ys.Perm xs → H p = none → Q (.ref p) (upd H p (.lst ys))) := by
  rintro pins s σ H vs us Q I r ⟨a, xs, rfl, ht, hx, q⟩
  obtain ⟨u, rfl, rx⟩ := vals1 r
  cases rx
  obtain ⟨its, rv, ⟨o, ho, hc, n, hd⟩, hz⟩ := I.tuple ht
  have lz : its.length ≤ sizeLine := by rw [← rv.length]; exact hz
  obtain ⟨e1, e2⟩ := refs_back rv fun x m => by
    obtain ⟨t, _, _, e, _⟩ := hx x m
    exact ⟨t, e⟩
  refine Calls.call_function_entry kind_sorted plain_sorted entry_sorted (args_sorted1 _) ?_
  unfold Builtin.«sorted»
  refine wpAny_bind (m := checkCount "sorted" 1 1 _) (wpAny_pure (wpAny_bind (wpAny_collect_seq a (.inr rfl) ho hc hd (fun h2 hk2 => ?_) (by simpa using lz))))
  have I2 : Inv X pins σ H { s with heap := h2, toks := s.toks } := I.kept hk2
  refine wpAny_bind (wpAny_newList ?_ (by simpa using lz))
  have ob : (h2.push (seqObj "list" its.toArray.toList.toArray 0)).get? h2.objs.size = some (seqObj "list" its.toArray.toList.toArray 0) := Heap.get?_push_size _ rfl
  show wpAny _ _ _ _ _ { s with heap := h2.push (seqObj "list" its.toArray.toList.toArray 0), toks := s.toks }
  have hpr : ∀ v ∈ its.toArray.toList, ∃ x y, Srt.IsPair (h2.push (seqObj "list" its.toArray.toList.toArray 0)) v x y := fun v hv => by
    have hv : v ∈ its := by simpa using hv
    obtain ⟨t, rfl⟩ := e2 v hv
    have hm : V.ref t ∈ xs := by rw [e1]; exact List.mem_map.mpr ⟨_, hv, rfl⟩
    obtain ⟨t', i, j, e, ht'⟩ := hx _ hm
    cases e
    obtain ⟨its2, r2, ⟨o2, ho2, hc2, n2, hd2⟩, _⟩ := I2.tuple ht'
    obtain ⟨u1, u2, rfl, ri, rj⟩ := vals2 r2
    obtain ⟨t1, rfl⟩ := ri
    obtain ⟨t2, rfl⟩ := rj
    exact ⟨i, j, t, o2, t1, t2, n2, rfl, Heap.get?_push_of_some _ ho2, hc2, hd2⟩
  refine wpAny_bind (wpAny_holding (wpAny_call_entry slot_list_sort ⟨_, ob, rfl⟩ entry_list_sort
    (Srt.list_sort_any (s := { s with heap := h2.push (seqObj "list" its.toArray.toList.toArray 0), toks := s.toks }) ob (by simpa using lz) (fun two => Srt.pairs_sortable (s := { s with heap := h2.push (seqObj "list" its.toArray.toList.toArray 0), toks := s.toks }) (by omega) hpr fun o e => ?_) fun out hp => ⟨_, rfl, ?_⟩) (args_list_sort _)))
  · have e' : some o = some (seqObj "list" its.toArray.toList.toArray 0) := e.symm.trans ob
    cases e'
    intro c
    exact absurd (Value.type.inj c) (by decide)
  obtain ⟨e3, he3⟩ := sortedHeap_at (vs := its.toArray.toList) (out := out.toArray) ob
  have hp : out.Perm its := by simpa using hp
  have h3 : ∀ u ∈ out, ∃ a, u = Value.ref a := fun u hu => e2 u (hp.mem_iff.mp hu)
  refine wpAny_pure ⟨_, rfl, .ref h2.objs.size, upd H h2.objs.size (.lst (out.map backV)), I2.laid (t' := s.toks) (fun b o e => ?_) (Nat.le_refl _) ⟨?_, out, e3, vals_back h3, he3⟩, rfl, q _ _ ?_ (I2.hok.fresh (Nat.le_refl _))⟩
  · have bl : b < h2.objs.size := Heap.lt_size e
    rw [sortedHeap_old (Nat.ne_of_lt bl) (size_push' _ _ ▸ Nat.lt_succ_of_lt bl)]
    exact Heap.get?_push_of_some _ e
  · rw [List.length_map, hp.length_eq]; exact lz
  · rw [e1]; exact hp.map backV
theorem pairs_rel {K : PySem.W.Frag} {w : Wd} : ∀ {ds : List D} {xs : List V}, RDs K w ds xs → ds.all isPairD = true → ∀ x ∈ xs, ∃ t i j, x = V.ref t ∧ SqT K w.H t [.int i, .int j]
  | [], [], _, _, x, hx => by cases hx
  | d :: ds, y :: xs, .cons r rs, h, x, hx => by
    rw [List.all_cons, Bool.and_eq_true] at h
    rcases List.mem_cons.mp hx with rfl | hx
    · have h1 := h.1
      unfold isPairD at h1
      split at h1
      · cases r with
        | tup s l r =>
          cases r with
          | cons r1 r2 =>
            cases r2 with
            | cons r2 r3 =>
              cases r3
              cases r1
              cases r2
              exact ⟨_, _, _, rfl, s.sq⟩
      · cases h1
    · exact pairs_rel rs h.2 x hx
theorem rds_perm {K : PySem.W.Frag} {w : Wd} {ys xs : List V} (p : ys.Perm xs) : ∀ {ds : List D}, RDs K w ds xs → ∃ es : List D, es.Perm ds ∧ RDs K w es ys := by
  induction p with
  | nil => intro ds r; cases r; exact ⟨[], .nil, .nil⟩
  | cons x p ih =>
    intro ds r
    cases r with
    | cons r rs =>
      obtain ⟨es, pe, re⟩ := ih rs
      exact ⟨_ :: es, pe.cons _, .cons r re⟩
  | swap x y l =>
    intro ds r
    cases r with
    | cons r rs =>
      cases rs with
      | cons r2 rs => exact ⟨_, .swap _ _ _, .cons r2 (.cons r rs)⟩
  | trans p1 p2 ih1 ih2 =>
    intro ds r
    obtain ⟨es, pe, re⟩ := ih2 r
    obtain ⟨fs, pf, rf⟩ := ih1 re
    exact ⟨fs, pf.trans pe, rf⟩
theorem b_sorted (hc : X.calm = true) : CallR X (.builtin "sorted") (RNof X.K (bltD .sorted)) := by
  intro pins s σ H xs us Q I rs hq
  obtain ⟨w, h, ds, QD, rfl, rel, rd, o, post⟩ := hq
  simp only [bltD] at o
  split at o
  · obtain ⟨v, rfl, r1⟩ := rds1 rd
    split at o
    · rename_i xs e
      split at o
      · rename_i ns en
        obtain ⟨a, ys, rfl, e2, ry, ly⟩ := view_lst rel r1 e
        have ey := intsOf_rel ry en
        subst ey
        refine cr_sortedI pins s σ _ _ us Q I rs ⟨a, ns, rfl, .inl (.inl e2), fun ns' p hp hs hn => ?_⟩
        have ll : ns'.length ≤ sizeLine := by
          have l1 := hp.length_eq
          have l2 := ry.length
          rw [List.length_map] at l2
          omega
        exact post_lst (ds := ns'.map D.int) rel hn (rds_intsOf ns') (by rw [List.length_map]; exact ll) (o ns' hp hs) post
      · obtain ⟨op, o⟩ := o
        obtain ⟨a, ys, rfl, e2, ry, ly⟩ := view_lst rel r1 e
        refine cr_sortedQ pins s σ _ _ us Q I rs ⟨a, ys, rfl, .inl (.inl e2), pairs_rel ry op, fun zs p hp hn => ?_⟩
        obtain ⟨es, pe, re⟩ := rds_perm hp ry
        exact post_lst rel hn re (by rw [pe.length_eq]; exact ly) (o es pe) post
    · rename_i xs e
      split at o
      · rename_i ns en
        obtain ⟨a, ys, rfl, e2, ry, ly⟩ := view_tup r1 e
        have ey := intsOf_rel ry en
        subst ey
        refine srtT_any pins s σ _ _ us Q I rs ⟨a, ns, rfl, e2.sq, fun ns' p hp hs hn => ?_⟩
        have ll : ns'.length ≤ sizeLine := by
          have l1 := hp.length_eq
          have l2 := ry.length
          rw [List.length_map] at l2
          omega
        exact post_lst (ds := ns'.map D.int) rel hn (rds_intsOf ns') (by rw [List.length_map]; exact ll) (o ns' hp hs) post
      · obtain ⟨op, o⟩ := o
        obtain ⟨a, ys, rfl, e2, ry, ly⟩ := view_tup r1 e
        refine cr_sortedTQ pins s σ _ _ us Q I rs ⟨a, ys, rfl, e2.sq, pairs_rel ry op, fun zs p hp hn => ?_⟩
        obtain ⟨es, pe, re⟩ := rds_perm hp ry
        exact post_lst rel hn re (by rw [pe.length_eq]; exact ly) (o es pe) post
    · rename_i n e
      split at o
      · rename_i kvs en
        split at o
        · rename_i ns ek
          obtain ⟨a, ea, ys, e2, e3, ry⟩ := rel.has n _ en
          have dn : v = .ref a := by
            cases r1 with
            | ref q =>
              have : view h (.ref _) = .ref _ := e
              simp only [view] at e
              split at e
              · cases e
              · cases e
                rw [q] at ea
                cases ea
                rfl
            | _ => cases e
          subst dn
          refine srtD_any hc pins s σ _ _ us Q I rs ⟨a, ys, ns, rfl, e2, by rw [e3]; exact keyInts_map ek, fun ns' p hp hs hn => ?_⟩
          have ll : ns'.length ≤ sizeLine := by
            have l1 := hp.length_eq
            have l2 := congrArg List.length e3
            have l3 := congrArg List.length (keyInts_map ek)
            simp only [List.length_map] at l2 l3
            have l4 := (dk_of I.hok e2).1
            omega
          exact post_lst (ds := ns'.map D.int) rel hn (rds_intsOf ns') (by rw [List.length_map]; exact ll) (o ns' hp hs) post
        · exact o.elim
      · exact o.elim
    · exact o.elim
  · exact o.elim
theorem o_blt (hs : ∃ o, X.base.get? sysModules = some o) (hc : X.calm = true) (hg : X.A.guards = some []) (hu : X.A.units + 70 < cLine) (b : Bl) : CallR X b.val (RNof X.K (bltD b)) := by
  cases b with
  | len => exact b_len
  | sum => exact b_sum hc
  | all => exact b_all hc
  | any => exact b_any hc
  | tuple => exact b_tuple
  | list => exact b_list
  | listN => exact b_listN
  | min => exact b_min hc
  | max => exact b_max hc
  | abs => exact b_abs
  | int => exact b_int
  | isinst => exact b_isinst
  | repr => exact b_repr hs hg hu
  | str => exact b_str hs hg hu
  | divmod => exact b_divmod
  | sorted => exact b_sorted hc

/-! ### methods -/
end
inductive Mt where
  | append | pop | popAt | extend | upper | join
  deriving DecidableEq
def Mt.name : Mt → Str
  | .append => "append"
  | .pop => "pop"
  | .popAt => "pop"
  | .extend => "extend"
  | .upper => "upper"
  | .join => "join"
def Mt.T : Mt → String
  | .append => "list"
  | .pop => "list"
  | .popAt => "list"
  | .extend => "list"
  | .upper => "str"
  | .join => "str"
def Mt.id : Mt → String
  | .append => "list.append"
  | .pop => "list.pop"
  | .popAt => "list.pop"
  | .extend => "list.extend"
  | .upper => "str.upper"
  | .join => "str.join"
theorem Mt.pa (m : Mt) : PlainAttrs m.T := by cases m <;> first | exact PySem.F.plainAttrs_list | exact PySem.F.plainAttrs_str
theorem Mt.slot (m : Mt) : Slot m.T m.name m.id := by
  cases m
  · exact PySem.F.slot_list_append
  · exact PySem.F.slot_list_pop
  · exact PySem.F.slot_list_pop
  · exact PySem.F.slot_list_extend
  · exact PySem.F.slot_str_upper
  · exact PySem.F.slot_str_join
theorem Mt.ty (m : Mt) : typeOf (.builtin m.id) = pure (.type "method_descriptor") := by
  cases m
  · exact PySem.F.type_list_append
  · exact PySem.F.type_list_pop
  · exact PySem.F.type_list_pop
  · exact PySem.F.type_list_extend
  · exact PySem.F.type_str_upper
  · exact PySem.F.type_str_join
/-- the receiver is of the method's class -/
def tyD (m : Mt) (d : D) (h : Hd) : Prop := match m.T, d with
  | "list", .ref n => (match h n with | some (.lst _) => True | _ => False)
  | "list", .lst _ => True
  | "str", .str _ => True
  | _, _ => False
def lstOf (d : D) (h : Hd) (Q : Nat → List D → Prop) : Prop := match d with
  | .ref n => match h n with
    | some (.lst ds) => Q n ds
    | _ => False
  | _ => False
def mAppend (as : List D) (h : Hd) (Q : Pq) (n : Nat) (ds : List D) : Prop := match as with
  | [x] => ds.length < sizeLine ∧ Q .non (h.set n (.lst (ds ++ [x])))
  | _ => False
def mPop (as : List D) (h : Hd) (Q : Pq) (n : Nat) (ds : List D) : Prop := match as with
  | [] => (match ds[ds.length - 1]? with
    | some y => Q y (h.set n (.lst ds.dropLast))
    | none => False)
  | _ => False
def mPopAt (as : List D) (h : Hd) (Q : Pq) (n : Nat) (ds : List D) : Prop := match as with
  | [.int i] => (match ixN ds.length i with
    | some k => (match ds[k]? with
      | some y => Q y (h.set n (.lst (ds.eraseIdx k)))
      | none => False)
    | none => False)
  | _ => False
def mExtend (as : List D) (h : Hd) (Q : Pq) (n : Nat) (ds : List D) : Prop := match as with
  | [e] => (match view h e with
    | .lst es => ds.length + es.length ≤ sizeLine ∧ Q .non (h.set n (.lst (ds ++ es)))
    | _ => False)
  | _ => False
def strsOf : List D → Option (List Str)
  | [] => some []
  | .str x :: ds => (strsOf ds).map (x :: ·)
  | _ :: _ => none
theorem strsOf_rel {K : PySem.W.Frag} {w : Wd} : ∀ {ds : List D} {vs : List V} {ns : List Str}, RDs K w ds vs → strsOf ds = some ns → vs = ns.map V.str
  | _, _, _, .nil, e => by simp [strsOf] at e; subst e; rfl
  | d :: ds, v :: vs, ns, .cons r rs, e => by
    cases r <;> simp only [strsOf] at e <;> first | (cases e; done) | skip
    obtain ⟨ms, e1, e2⟩ := Option.map_eq_some_iff.mp e
    subst e2
    rw [strsOf_rel rs e1]
    rfl
theorem strsOf_map (ns : List Str) : strsOf (ns.map D.str) = some ns := by
  induction ns with
  | nil => rfl
  | cons n ns ih => simp [strsOf, ih]
def mUpper (d : D) (as : List D) (h : Hd) (Q : Pq) : Prop := match d, as with
  | .str x, [] => x.length ≤ 5592405 ∧ Q (.str (Txt.upper x)) h
  | _, _ => False
def mJoin (d : D) (as : List D) (h : Hd) (Q : Pq) : Prop := match d, as with
  | .str x, [e] => (match view h e with
    | .lst es => (match strsOf es with
      | some ys => (ys.map (·.length)).sum + ys.length * x.length ≤ 16777216 ∧ Q (.str (Txt.join x ys)) h
      | none => False)
    | _ => False)
  | _, _ => False
def mthD : Mt → DM
  | .append => fun d as h Q => lstOf d h (mAppend as h Q)
  | .pop => fun d as h Q => lstOf d h (mPop as h Q)
  | .popAt => fun d as h Q => lstOf d h (mPopAt as h Q)
  | .extend => fun d as h Q => lstOf d h (mExtend as h Q)
  | .upper => fun d as h Q => mUpper d as h Q
  | .join => fun d as h Q => mJoin d as h Q
section
variable {X : Cx}
theorem lstOf_rel {K : PySem.W.Frag} {w : Wd} {h : Hd} {d : D} {v : V} {Q : Nat → List D → Prop} (rel : RelW K w h) (r : RD K w d v) (o : lstOf d h Q) : ∃ n ds a xs, d = .ref n ∧ h n = some (.lst ds) ∧ v = .ref a ∧ w.m n = some a ∧ w.H a = some (.lst xs) ∧ RDs K w ds xs ∧ Q n ds ∧ ds.length ≤ sizeLine := by
  unfold lstOf at o
  split at o
  · rename_i n
    split at o
    · rename_i ds e
      obtain ⟨p, e1, xs, e2, rs, ll⟩ := rel.has n _ e
      cases r with
      | ref q =>
        rw [q] at e1; cases e1
        exact ⟨n, ds, p, xs, rfl, e, rfl, q, e2, rs, o, ll⟩
    · exact o.elim
  · exact o.elim
theorem RDs.dropLast {K : PySem.W.Frag} {w : Wd} {ds : List D} {vs : List V} (r : RDs K w ds vs) : RDs K w ds.dropLast vs.dropLast := by
  rw [List.dropLast_eq_take, List.dropLast_eq_take, r.length]
  exact r.take _
theorem ixN_lt {n : Nat} {i : Int} {k : Nat} (e : ixN n i = some k) : -(n : Int) ≤ i ∧ i < n := by
  have := ixN_seq e
  exact ⟨this.2.2.1, this.2.2.2⟩
theorem o_mth (m : Mt) : MtR X m.id (RMof X.K (mthD m)) := by
  intro pins s σ H x xs v us Q I rx rs hq
  obtain ⟨w, h, d, ds, QD, rfl, rel, rd, rds, o, post⟩ := hq
  cases m with
  | append =>
    obtain ⟨n, es, a, ys, rfl, en, rfl, em, ea, re, o, ll⟩ := lstOf_rel (Q := mAppend ds h QD) rel rd o
    cases ds with
    | nil => exact False.elim o
    | cons d1 ds1 =>
      cases ds1 with
      | cons _ _ => exact False.elim o
      | nil =>
        obtain ⟨y, rfl, ry⟩ := rds1 rds
        exact mt_append pins s σ _ _ _ v us Q I rx rs ⟨a, ys, y, rfl, rfl, ea, by rw [← re.length]; exact o.1, post_chg rel em en (re.append (.cons ry .nil)) (by rw [List.length_append]; exact o.1) .non o.2 post⟩
  | pop =>
    obtain ⟨n, es, a, ys, rfl, en, rfl, em, ea, re, o, ll⟩ := lstOf_rel (Q := mPop ds h QD) rel rd o
    cases ds with
    | cons _ _ => exact False.elim o
    | nil =>
      cases rds0 rds
      replace o : (match es[es.length - 1]? with | some y => QD y (h.set n (.lst es.dropLast)) | none => False) := o
      split at o
      · rename_i y ey
        obtain ⟨z, ez, rz⟩ := re.get ey
        exact mt_pop pins s σ _ _ _ v us Q I rx rs ⟨a, ys, z, rfl, rfl, ea, by rw [← re.length]; exact ez, post_chg rel em en re.dropLast (by rw [List.length_dropLast]; omega) rz o post⟩
      · exact o.elim
  | popAt =>
    obtain ⟨n, es, a, ys, rfl, en, rfl, em, ea, re, o, ll⟩ := lstOf_rel (Q := mPopAt ds h QD) rel rd o
    cases ds with
    | nil => exact False.elim o
    | cons d1 ds1 =>
      cases ds1 with
      | cons _ _ => exact (by cases d1 <;> exact False.elim o)
      | nil =>
        obtain ⟨y, rfl, ry⟩ := rds1 rds
        obtain ⟨i, rfl⟩ : ∃ i, d1 = .int i := by
          cases d1 <;> first | exact ⟨_, rfl⟩ | exact False.elim o
        cases ry
        replace o : (match ixN es.length i with | some k => (match es[k]? with | some y => QD y (h.set n (.lst (es.eraseIdx k))) | none => False) | none => False) := o
        split at o
        · rename_i k ek
          split at o
          · rename_i y ey
            obtain ⟨z, ez, rz⟩ := re.get ey
            have hl : ys.length ≤ sizeLine := (I.lstM ea).1
            have hs : sizeLine = 16777216 := sizeLine_eq
            have hb := ixN_lt ek
            have hlen := re.length
            exact mt_popAt pins s σ _ _ _ v us Q I rx rs ⟨a, ys, i, k, z, rfl, rfl, ea, by omega, by omega, by rw [← re.length]; exact (ixN_seq ek).1, ez, post_chg rel em en (re.eraseIdx k) (Nat.le_trans (len_erase es k) ll) rz o post⟩
          · exact o.elim
        · exact o.elim
  | extend =>
    obtain ⟨n, es, a, ys, rfl, en, rfl, em, ea, re, o, ll⟩ := lstOf_rel (Q := mExtend ds h QD) rel rd o
    cases ds with
    | nil => exact False.elim o
    | cons d1 ds1 =>
      cases ds1 with
      | cons _ _ => exact False.elim o
      | nil =>
        obtain ⟨y, rfl, ry⟩ := rds1 rds
        replace o : (match view h d1 with | .lst zs => es.length + zs.length ≤ sizeLine ∧ QD .non (h.set n (.lst (es ++ zs))) | _ => False) := o
        split at o
        · rename_i zs ez
          obtain ⟨b, ws, rfl, eb, rb, _⟩ := view_lst rel ry ez
          exact mt_extend pins s σ _ _ _ v us Q I rx rs ⟨a, b, ys, ws, rfl, rfl, ea, eb, by rw [← re.length, ← rb.length]; exact o.1, post_chg rel em en (re.append rb) (by rw [List.length_append]; exact o.1) .non o.2 post⟩
        · exact o.elim
  | upper =>
    replace o : mUpper d ds h QD := o
    unfold mUpper at o
    split at o
    · cases rds0 rds
      cases rd
      exact mt_upper pins s σ _ _ _ v us Q I rx rs ⟨_, rfl, rfl, o.1, post.now rel (.str _) o.2⟩
    · exact o.elim
  | join =>
    replace o : mJoin d ds h QD := o
    unfold mJoin at o
    split at o
    · obtain ⟨y, rfl, ry⟩ := rds1 rds
      cases rd
      split at o
      · rename_i es ez
        split at o
        · rename_i ys ey
          obtain ⟨b, ws, rfl, eb, rb, _⟩ := view_lst rel ry ez
          cases strsOf_rel rb ey
          exact mt_join pins s σ _ _ _ v us Q I rx rs ⟨_, b, ys, rfl, rfl, .inl (.inl (.inl eb)), o.1, post.now rel (.str _) o.2⟩
        · exact o.elim
      · exact o.elim
    · exact o.elim
theorem tyD_of {K : PySem.W.Frag} {w : Wd} {h : Hd} {d : D} {v : V} (m : Mt) (rel : RelW K w h) (r : RD K w d v) (t : tyD m d h) : tyV K m.T v w.H := by
  unfold tyD at t
  split at t
  · rename_i n hT
    rw [hT]
    split at t
    · rename_i ds e
      obtain ⟨p, xs, rfl, e2, _⟩ := view_lst (d := .ref n) (ds := ds) rel r (by simp [view, e])
      exact .inl ⟨rfl, xs, .inl (.inl e2)⟩
    · exact t.elim
  · rename_i ds hT
    rw [hT]
    obtain ⟨p, xs, rfl, e2, _⟩ := view_lst (h := h) (d := .lst ds) (ds := ds) rel r rfl
    exact .inl ⟨rfl, xs, .inl (.inl e2)⟩
  · rename_i x hT
    rw [hT]
    cases r
    rfl
  · exact t.elim

/-! ### o[i] = v -/
def setD (o i v : D) (h : Hd) (Q : Hd → Prop) : Prop := match o with
  | .ref n => match h n with
    | some (.lst ds) => (match i with
      | .int k => (match ixN ds.length k with
        | some j => Q (h.set n (.lst (ds.set j v)))
        | none => False)
      | _ => False)
    | some (.dK kvs) => (match keyD i with
      | some k => kvs.length < sizeLine ∧ Q (h.set n (.dK (putKD kvs k v)))
      | none => False)
    | none => False
  | _ => False
def RSetof (K : PySem.W.Frag) : TSet := fun o i v H Q => ∃ w h d e f QD, w.H = H ∧ RelW K w h ∧ RD K w d o ∧ RD K w e i ∧ RD K w f v ∧ setD d e f h QD ∧ ∀ w' h', Ext w w' h h' → RelW K w' h' → QD h' → Q w'.H
theorem putK_rel {K : PySem.W.Frag} {w : Wd} (k : Key) {d : D} {v : V} (r : RD K w d v) {kvs : List (Key × D)} {xs : List (Key × V)} (e : xs.map (·.1) = kvs.map (·.1)) (rs : RDs K w (kvs.map (·.2)) (xs.map (·.2))) :
    (putK xs k v).map (·.1) = (putKD kvs k d).map (·.1) ∧ RDs K w ((putKD kvs k d).map (·.2)) ((putK xs k v).map (·.2)) := by
  have any : (xs.any fun kv => decide (kv.1 = k)) = (kvs.any fun kv => decide (kv.1 = k)) := by
    have h1 : (xs.any fun kv => decide (kv.1 = k)) = (xs.map (·.1)).any fun z => decide (z = k) := by rw [List.any_map]; rfl
    have h2 : (kvs.any fun kv => decide (kv.1 = k)) = (kvs.map (·.1)).any fun z => decide (z = k) := by rw [List.any_map]; rfl
    rw [h1, h2, e]
  unfold putK putKD
  rw [any]
  split
  · rename_i hany
    clear any hany
    induction kvs generalizing xs with
    | nil =>
      cases xs with
      | nil => exact ⟨rfl, .nil⟩
      | cons x xs => simp at e
    | cons kv kvs ih =>
      cases xs with
      | nil => simp at e
      | cons x xs =>
        simp only [List.map_cons, List.cons.injEq] at e
        simp only [List.map_cons] at rs
        cases rs with
        | cons r1 r2 =>
          obtain ⟨i1, i2⟩ := ih e.2 r2
          simp only [List.map_cons]
          rw [e.1]
          by_cases hk : kv.1 = k
          · rw [if_pos hk, if_pos hk]
            exact ⟨by rw [i1], .cons r i2⟩
          · rw [if_neg hk, if_neg hk]
            exact ⟨by rw [i1, e.1], .cons r1 i2⟩
  · rw [List.map_append, List.map_append, List.map_append, List.map_append, e]
    exact ⟨rfl, rs.append (.cons r .nil)⟩
theorem o_set (hu : X.A.units + 1 < cLine) : PSet X (RSetof X.K) := by
  intro pins s σ H o i v ov iv u Q I ro ri rv hq
  obtain ⟨w, h, d, e, f, QD, rfl, rel, rd, re, rf, t, post⟩ := hq
  unfold setD at t
  split at t
  · rename_i n
    split at t
    · rename_i ds en
      obtain ⟨a, e1, xs, e2, rs, ll⟩ := rel.has n _ en
      cases rd with
      | ref q =>
        rw [q] at e1; cases e1
        split at t
        · rename_i k
          cases re
          split at t
          · rename_i j ej
            refine set_list pins s σ _ _ _ _ ov iv u Q I ro ri rv ⟨a, xs, k, j, rfl, rfl, e2, by rw [← rs.length]; exact ej, ?_⟩
            have x : Ext w (w.put a (.lst (xs.set j v))) h (h.set n (.lst (ds.set j f))) := ext_chg rel q en
            exact post _ _ x (rel_chg rel q en ⟨_, upd_same, (rs.set rf j).mono x, by rw [List.length_set]; exact ll⟩) t
          · exact t.elim
        · exact t.elim
    · rename_i kvs en
      obtain ⟨a, e1, xs, e2, e3, rs⟩ := rel.has n _ en
      cases rd with
      | ref q =>
        rw [q] at e1; cases e1
        split at t
        · rename_i k ek
          cases keyD_of re ek
          cases ro
          have hl : xs.length < sizeLine := by
            have := congrArg List.length e3
            simp only [List.length_map] at this
            rw [this]; exact t.1
          refine d_setItem hu I (DPut.k (k := k) e2 hl) ri rv fun s' I' => ⟨_, I', ?_⟩
          have x : Ext w (w.put a (.dK (putK xs k v))) h (h.set n (.dK (putKD kvs k f))) := ext_chg rel q en
          obtain ⟨p1, p2⟩ := putK_rel k rf e3 rs
          exact post _ _ x (rel_chg rel q en ⟨_, upd_same, p1, p2.mono x⟩) t.2
        · exact t.elim
    · exact t.elim
  · exact t.elim
end
end G

/-! Defs: how arguments bind, what they promise, how they are called, the law's end. -/
namespace G
open PySem PySem.Spec PyProof.Rows L2
theorem grow_loop (f : Str × Value → List (Str × Value) × List (Str × Value) → Sem (ForInStep (List (Str × Value) × List (Str × Value)))) :
    ∀ (kw S : List (Str × Value)), (∀ x S, x ∈ kw → S.lookup x.1 = none → f x (S, []) = pure (.yield (S ++ [x], []))) → (S.map (·.1) ++ kw.map (·.1)).Nodup → forIn kw (S, []) f = pure (S ++ kw, [])
  | [], S, _, _ => by simp
  | x :: kw, S, hf, hn => by
    have h1 : S.lookup x.1 = none := by
      rw [List.lookup_eq_none_iff]
      intro p hp
      rw [List.map_cons, List.nodup_append] at hn
      have := hn.2.2 p.1 (List.mem_map_of_mem hp) x.1 (by simp)
      simpa using fun e => this e.symm
    rw [List.forIn_cons, hf x S (by simp) h1]
    simp only [pure_bind]
    rw [grow_loop f kw (S ++ [x]) (fun y T hy => hf y T (List.mem_cons_of_mem _ hy)) (by simpa using hn)]
    simp
theorem bind_kw {fd : FuncData} {us : List Value} {kw : List (Str × Value)} {ps : List Str} (hp : fd.params.args.map (·.arg) = ps) (h1 : fd.params.posonlyargs = []) (h2 : fd.params.vararg = none) (h3 : fd.params.kwonlyargs = []) (h4 : fd.params.kwarg = none) (h5 : fd.defaults = .none)
    (hin : ∀ p ∈ kw, p.1 ∈ ps) (hnd : ((ps.zip us).map (·.1) ++ kw.map (·.1)).Nodup) (hl : us.length ≤ ps.length) (hall : ∀ n ∈ ps, ((ps.zip us ++ kw).lookup n).isSome = true) :
    bindArgs fd ⟨us, kw⟩ = pure (ps.filterMap fun n => ((ps.zip us ++ kw).lookup n).map (n, ·)) := by
  unfold bindArgs
  simp only [h1, h2, h3, h4, h5, hp, List.map_nil, List.nil_append, List.append_nil]
  rw [grow_loop _ kw (ps.zip us) (fun x S hx hs => by
    have hc : ps.contains x.1 = true := by simpa using hin x hx
    simp only [hc, hs, Bool.true_or, if_true, Option.isSome_none, Bool.false_eq_true, if_false]) hnd]
  have hm : (ps.filter fun n => ((ps.zip us ++ kw).lookup n).isNone) = [] := by
    rw [List.filter_eq_nil_iff]
    intro n hn
    have := hall n hn
    rw [Option.isNone_iff_eq_none]
    intro e
    rw [e] at this
    cases this
  have hg : ¬ (decide (us.length > ps.length) && (none : Option Arg).isNone) = true := by simp; omega
  simp only [pure_bind]
  have hs : seqItems? Value.none = pure none := rfl
  rw [hs]
  simp only [pure_bind, Option.getD_none, List.length_nil, Nat.zero_sub, List.drop_zero, Nat.sub_zero, List.take_length, hm, List.isEmpty_nil, Bool.not_true, Bool.false_eq_true, if_false, List.drop_length, List.zip_nil_left, List.forIn_nil, hg]

theorem lookup_zip : ∀ {ps : List Str} {us : List Value} {j : Nat} {n : Str}, ps.Nodup → ps[j]? = some n → (ps.zip us).lookup n = us[j]?
  | [], _, _, _, _, h => by simp at h
  | p :: ps, [], j, n, _, _ => by simp
  | p :: ps, u :: us, 0, n, _, h => by
    simp at h
    subst h
    simp [List.lookup]
  | p :: ps, u :: us, j + 1, n, nd, h => by
    have hm : n ∈ ps := List.mem_of_getElem? (by simpa using h)
    have ne : (n == p) = false := by
      rw [beq_eq_false_iff_ne]
      rintro rfl
      exact (List.nodup_cons.mp nd).1 hm
    rw [List.zip_cons_cons, List.lookup_cons, ne]
    simpa using lookup_zip (us := us) (j := j) (List.nodup_cons.mp nd).2 (by simpa using h)
/-- how written keywords stand to the parameters: pm, of each parameter the place of its argument -/
def kwC (ps : List Str) (np : Nat) (ks : List Str) (pm : List Nat) : Bool :=
  decide ps.Nodup && decide ks.Nodup && decide (np + ks.length = ps.length) && decide (pm.length = ps.length) && (ks.all fun k => decide (k ∈ ps.drop np)) &&
    (List.range ps.length).all fun j => match pm[j]?, ps[j]? with
      | some i, some n => if j < np then i == j else (decide (np ≤ i) && decide (ks[i - np]? = some n))
      | _, _ => false
def pick {α : Type} (xs : List α) (pm : List Nat) : List α := pm.filterMap fun i => xs[i]?
theorem zip_of {f : Str → Option Value} : ∀ {ps : List Str} {os : List Value}, ps.map f = os.map some → ps.filterMap (fun n => (f n).map (n, ·)) = ps.zip os
  | [], [], _ => rfl
  | [], _ :: _, h => by simp at h
  | _ :: _, [], h => by simp at h
  | p :: ps, o :: os, h => by
    simp only [List.map_cons, List.cons.injEq] at h
    rw [List.filterMap_cons, h.1, List.zip_cons_cons]
    simp only [Option.map_some]
    rw [zip_of h.2]
theorem pick_some {α : Type} (xs : List α) : ∀ (pm : List Nat), (∀ i ∈ pm, i < xs.length) → pm.map (fun i => xs[i]?) = (pick xs pm).map some
  | [], _ => rfl
  | i :: pm, h => by
    have hi := h i (by simp)
    have e : xs[i]? = some xs[i] := List.getElem?_eq_getElem hi
    unfold pick
    rw [List.filterMap_cons]
    simp only [e, List.map_cons, List.cons.injEq, true_and]
    exact pick_some xs pm fun k hk => h k (List.mem_cons_of_mem _ hk)
theorem binds_kw {fd : FuncData} {ps ks : List Str} {np : Nat} {pm : List Nat} (hp : fd.params.args.map (·.arg) = ps) (h1 : fd.params.posonlyargs = []) (h2 : fd.params.vararg = none) (h3 : fd.params.kwonlyargs = []) (h4 : fd.params.kwarg = none) (h5 : fd.defaults = .none)
    (hc : kwC ps np ks pm = true) {us ws : List Value} (hu : us.length = np) (hw : ws.length = ks.length) : bindArgs fd ⟨us, ks.zip ws⟩ = pure (ps.zip (pick (us ++ ws) pm)) := by
  unfold kwC at hc
  simp only [Bool.and_eq_true, decide_eq_true_eq, List.all_eq_true, List.mem_range] at hc
  obtain ⟨⟨⟨⟨⟨c1, c2⟩, c3⟩, c4⟩, c6⟩, c5⟩ := hc
  have at_ : ∀ (j : Nat) (n : Str), ps[j]? = some n → ∃ i, pm[j]? = some i ∧ i < (us ++ ws).length ∧ (ps.zip us ++ ks.zip ws).lookup n = (us ++ ws)[i]? := by
    intro j n hj
    have jl : j < ps.length := (List.getElem?_eq_some_iff.mp hj).1
    have q := c5 j jl
    rw [hj] at q
    cases e : pm[j]? with
    | none => rw [e] at q; cases q
    | some i =>
      rw [e] at q
      refine ⟨i, rfl, ?_⟩
      have z1 : (ps.zip us).lookup n = us[j]? := lookup_zip c1 hj
      rw [List.lookup_append, z1]
      simp only at q
      split at q
      · rename_i hlt
        have : i = j := by simpa using q
        subst this
        have hl : i < us.length := by omega
        refine ⟨by rw [List.length_append]; omega, ?_⟩
        rw [List.getElem?_append_left hl, List.getElem?_eq_getElem hl]
        rfl
      · rename_i hge
        simp only [Bool.and_eq_true, decide_eq_true_eq] at q
        have z2 : (ks.zip ws).lookup n = ws[i - np]? := lookup_zip c2 q.2
        have hi : i - np < ks.length := (List.getElem?_eq_some_iff.mp q.2).1
        refine ⟨by rw [List.length_append]; omega, ?_⟩
        rw [z2, List.getElem?_eq_none (by omega : us.length ≤ j), List.getElem?_append_right (by omega), hu]
        rfl
  have hmap : ps.map (fun n => (ps.zip us ++ ks.zip ws).lookup n) = (pick (us ++ ws) pm).map some := by
    rw [← pick_some _ _ (fun i hi => by
      obtain ⟨j, hj⟩ := List.mem_iff_getElem?.mp hi
      have jl : j < ps.length := by rw [← c4]; exact (List.getElem?_eq_some_iff.mp hj).1
      obtain ⟨i', e1, e2, _⟩ := at_ j _ (List.getElem?_eq_getElem jl)
      rw [hj] at e1; cases e1
      exact e2)]
    apply List.ext_getElem?
    intro j
    rw [List.getElem?_map, List.getElem?_map]
    by_cases jl : j < ps.length
    · obtain ⟨i, e1, _, e3⟩ := at_ j _ (List.getElem?_eq_getElem jl)
      rw [e1, List.getElem?_eq_getElem jl]
      simp only [Option.map_some, e3]
    · rw [List.getElem?_eq_none (by omega), List.getElem?_eq_none (by omega)]
      rfl
  have hz : (ks.zip ws).map (·.1) = ks := by rw [List.map_fst_zip]; omega
  have hz2 : (ps.zip us).map (·.1) = ps.take np := by
    rw [← hu]
    have : ∀ (ps : List Str) (us : List Value), (ps.zip us).map (·.1) = ps.take us.length := by
      intro ps
      induction ps with
      | nil => intro us; simp
      | cons p ps ih => intro us; cases us <;> simp_all
    exact this ps us
  rw [← zip_of hmap]
  refine bind_kw hp h1 h2 h3 h4 h5 (fun p h => ?_) ?_ (by omega) (fun n hn => ?_)
  · have : p.1 ∈ ks := by rw [← hz]; exact List.mem_map_of_mem h
    exact List.mem_of_mem_drop (c6 _ this)
  · rw [hz, hz2, List.nodup_append]
    refine ⟨c1.sublist (List.take_sublist _ _), c2, fun a ha b hb e => ?_⟩
    subst e
    have hb' : a ∈ ps.drop np := c6 _ hb
    have := c1
    rw [← List.take_append_drop np ps, List.nodup_append] at this
    exact this.2.2 a ha a hb' rfl
  · obtain ⟨j, hj⟩ := List.mem_iff_getElem?.mp hn
    obtain ⟨i, _, e2, e3⟩ := at_ j n hj
    rw [e3, List.getElem?_eq_getElem e2]
    rfl

/-- a def's promise on values -/
abbrev Spd := List D → Hd → Pq → Prop

section
variable (P : Program) (w : World) (K : PySem.W.Frag) (mg : Str → Option Value) (base : Heap)
structure FnG (k : Nat) (f : Addr) (fd : FuncData) (ps : List Str) (sp : Spd) : Prop where
  len : ∀ ds h Q, sp ds h Q → ds.length = ps.length
  run : ∀ (A : Around) (outer : List Env) (s : Shared) (wd : Wd) (h : Hd) (ds : List D) (args : Args) (us : List Value) (vs : List V) (QD : Pq) (Q : VK),
    Room k A → A.guards = some [] → Env0 P w K mg base A outer s wd.H → BindsTo s fd args (ps.zip us) → Vals vs us →
    RelW K wd h → RDs K wd ds vs → sp ds h QD → Post K wd h QD Q →
    codeAny (model P w) A (.call (.ref f) args) (CR CX0 outer P w wd.H s Q E0) s

/-- the module's name x is a def of parameters ps that keeps sp, by at most k calls one in another -/
structure FnAt (k : Nat) (x : Str) (ps : List Str) (sp : Spd) : Prop where
  ex : ∃ (f : Addr) (fd : FuncData), mg x = some (.ref f) ∧ PySem.W.keepIn K (.ref f) = true ∧
    (fd.params.args.map (·.arg) = ps ∧ fd.params.posonlyargs = [] ∧ fd.params.vararg = none ∧ fd.params.kwonlyargs = [] ∧ fd.params.kwarg = none ∧ fd.defaults = .none ∧ ps.Nodup) ∧ FnG P w K mg base k f fd ps sp
end
section
variable {P : Program} {w : World} {K : PySem.W.Frag} {mg : Str → Option Value} {base : Heap}
theorem FnG.up {j k : Nat} {f : Addr} {fd : FuncData} {ps : List Str} {sp : Spd} (F : FnG P w K mg base j f fd ps sp) (h : j ≤ k) : FnG P w K mg base k f fd ps sp :=
  ⟨F.len, fun A outer s wd hd ds args us vs QD Q hr => F.run A outer s wd hd ds args us vs QD Q (hr.mono h)⟩
theorem FnAt.up {j k : Nat} {x : Str} {ps : List Str} {sp : Spd} (F : FnAt P w K mg base j x ps sp) (h : j ≤ k) : FnAt P w K mg base k x ps sp := by
  obtain ⟨f, fd, a, b, c, G⟩ := F.ex
  exact ⟨f, fd, a, b, c, G.up h⟩
/-- a promise that asks more, or gives less -/
theorem FnAt.weak {k : Nat} {x : Str} {ps : List Str} {sp sp' : Spd} (F : FnAt P w K mg base k x ps sp) (i : ∀ ds h Q, sp' ds h Q → sp ds h Q) : FnAt P w K mg base k x ps sp' := by
  obtain ⟨f, fd, a, b, c, G⟩ := F.ex
  exact ⟨f, fd, a, b, c, fun ds h Q q => G.len ds h Q (i _ _ _ q), fun A outer s wd hd ds args us vs QD Q h1 h2 h3 h4 h5 h6 h7 h8 => G.run A outer s wd hd ds args us vs QD Q h1 h2 h3 h4 h5 h6 h7 (i _ _ _ h8)⟩
end

/-! ### calls -/
section
variable {X : Cx} {k : Nat} {x : Str} {ps : List Str} {sp : Spd}
/-- a call with positional values us and keywords' values ws -/
theorem fn_call {f : Addr} {fd : FuncData} (F : FnG X.prog X.w X.K X.mg X.base k f fd ps sp) (hr : Room k X.A) (hg : X.A.guards = some []) {pins : List (Addr × Obj)} {σ : L2.St} {s : Shared} {wd : Wd} {h : Hd} {ds : List D} {us : List Value} {kw : List (Str × Value)} {full : List Value} {vs : List V} {QD : Pq} {Q : VK}
    (I : Inv X pins σ wd.H s) (hb : BindsTo s fd ⟨us, kw⟩ (ps.zip full)) (rv : Vals vs full) (rel : RelW X.K wd h) (rd : RDs X.K wd ds vs) (q : sp ds h QD) (post : Post X.K wd h QD Q) :
    wpAny (model X.prog X.w) X.A (call (.ref f) us kw) (EP X pins σ Q) X.xe s := by
  refine wpAny_call (codeAny_mono (F.run X.A X.stack s wd h ds ⟨us, kw⟩ full vs QD Q hr hg I.env0 hb rv rel rd q post) fun r s' hq => ?_)
  match r, hq with
  | .ok (.ret u), hq => exact I.after hq
  | .ok .next, hq => exact hq.elim
  | .ok .brk, hq => exact hq.elim
  | .ok .cont, hq => exact hq.elim
  | .error e, hq => exact hq.elim
theorem fn_binds {fd : FuncData} (hp : fd.params.args.map (·.arg) = ps ∧ fd.params.posonlyargs = [] ∧ fd.params.vararg = none ∧ fd.params.kwonlyargs = [] ∧ fd.params.kwarg = none ∧ fd.defaults = .none ∧ ps.Nodup) {s : Shared} {us : List Value} (hl : us.length = ps.length) :
    BindsTo s fd ⟨us, []⟩ (ps.zip us) := by
  refine .of_eq ?_
  have c : kwC ps ps.length [] (List.range ps.length) = true := by
    unfold kwC
    simp only [Bool.and_eq_true, decide_eq_true_eq, List.all_eq_true, List.mem_range]
    refine ⟨⟨⟨⟨⟨hp.2.2.2.2.2.2, List.nodup_nil⟩, by simp⟩, by simp⟩, by simp⟩, fun j hj => ?_⟩
    rw [List.getElem?_range hj, List.getElem?_eq_getElem hj]
    simp [hj]
  have e := binds_kw (us := us) (ws := []) hp.1 hp.2.1 hp.2.2.1 hp.2.2.2.1 hp.2.2.2.2.1 hp.2.2.2.2.2.1 c hl rfl
  have e2 : pick (us ++ []) (List.range ps.length) = us := by
    rw [List.append_nil, ← hl]
    unfold pick
    have : ∀ us : List Value, (List.range us.length).filterMap (fun i => us[i]?) = us := by
      intro us
      have q := pick_some us (List.range us.length) (fun i hi => List.mem_range.mp hi)
      have r : (List.range us.length).map (fun i => us[i]?) = us.map some := by
        apply List.ext_getElem?
        intro i
        by_cases h : i < us.length
        · simp [h]
        · rw [List.getElem?_eq_none (by simp; omega), List.getElem?_eq_none (by simp; omega)]
      rw [r] at q
      have inj : ∀ {a b : List Value}, a.map some = b.map some → a = b := fun {a b} h => by
        have := congrArg (List.filterMap id) h
        simpa using this
      exact (inj q).symm
    exact this us
  rw [e2] at e
  exact e
theorem RDs.pick {K : PySem.W.Frag} {wd : Wd} {ds : List D} {vs : List V} (r : RDs K wd ds vs) : ∀ pm : List Nat, RDs K wd (G.pick ds pm) (G.pick vs pm)
  | [] => .nil
  | i :: pm => by
    unfold G.pick
    rw [List.filterMap_cons, List.filterMap_cons]
    cases e : ds[i]? with
    | none =>
      have : vs[i]? = none := by
        rw [List.getElem?_eq_none_iff] at e ⊢
        rw [← r.length]; exact e
      rw [this]
      exact RDs.pick r pm
    | some d =>
      obtain ⟨v, e1, e2⟩ := r.get e
      rw [e1]
      exact .cons e2 (RDs.pick r pm)
theorem vals_pick {vs : List V} {us : List Value} (r : Vals vs us) : ∀ pm : List Nat, Vals (G.pick vs pm) (G.pick us pm)
  | [] => .nil
  | i :: pm => by
    unfold G.pick
    rw [List.filterMap_cons, List.filterMap_cons]
    cases e : vs[i]? with
    | none => rw [r.none_of e]; exact vals_pick r pm
    | some v =>
      obtain ⟨u, e1, e2⟩ := r.get e
      rw [e1]
      exact .cons e2 (vals_pick r pm)
end
end G

/-! A small syntax and what it is worth. -/
namespace G
open PySem PySem.Spec PyProof.Rows L2

/-! targets -/
mutual
inductive Tg where
  | nm (i : Nat)
  | tp (ts : Tgs)
inductive Tgs where
  | nil
  | cons (t : Tg) (ts : Tgs)
end
mutual
def slotsT : Tg → List Nat
  | .nm i => [i]
  | .tp ts => slotsTs ts
def slotsTs : Tgs → List Nat
  | .nil => []
  | .cons t ts => slotsT t ++ slotsTs ts
end
mutual
/-- expressions: lst, lc: a list that stays as it is; new, lcN: one that may change -/
inductive Ex where
  | cst (d : D)
  | var (i : Nat)
  | glb (x : Str) (d : D)
  | typ (t : Ty)
  | bin (o : Operator) (a b : Ex)
  | neg (a : Ex)
  | cmp (o : CmpOp) (a b : Ex)
  | chn (o p : CmpOp) (a b c : Ex)
  | not (a : Ex)
  | and (a b : Ex)
  | or (a b : Ex)
  | ife (c : Tx) (a b : Ex)
  | tup (es : Exs)
  | lst (es : Exs)
  | new (es : Exs)
  | sub (a i : Ex)
  | sl (a : Ex) (lo hi : Exo)
  | slN (a : Ex) (lo hi : Exo)
  | addN (a b : Ex)
  | orV (a b : Ex)
  | rev (n : Bool) (a : Ex)
  | call (x : Str) (ps : List Str) (sp : Spd) (es : Exs)
  | callK (x : Str) (ps : List Str) (sp : Spd) (es : Exs) (ks : List Str) (kes : Exs) (pm : List Nat)
  | callP (x y : Str) (ps qs : List Str) (sp sq : Spd) (i : Ex) (es : Exs)
  | slS (a lo st : Ex)
  | fdv (a b : Ex)
  | rgs (l : Bool) (a b : Ex)
  | srs (a : Ex)
  | upd (a : Ex) (own : List (Str × Nat)) (i : Nat) (l u s : Ex)
  | tabAt (x : Str) (ks : List Str) (ds : List D) (a : Ex)
  | tabIn (x : Str) (ks : List Str) (ds : List D) (a : Ex)
  | lc2 (own : List (Str × Nat)) (tg : Tg) (it : Ite) (c : Txo) (tg1 : Tg) (a1 : Ex) (c1 : Txo) (e : Ex)
  | blt (b : Bl) (es : Exs)
  | mth (m : Mt) (a : Ex) (es : Exs)
  | dct (n : Bool) (ks : List Key) (es : Exs)
  | lc (n : Bool) (own : List (Str × Nat)) (tg : Tg) (it : Ite) (c : Txo) (e : Ex)
inductive Exs where
  | nil
  | cons (e : Ex) (es : Exs)
inductive Exo where
  | none
  | some (e : Ex)
/-- tests -/
inductive Tx where
  | val (e : Ex)
  | not (t : Tx)
  | and (t u : Tx)
  | or (t u : Tx)
  | ch3 (o p r : CmpOp) (a b c d : Ex)
inductive Txo where
  | none
  | some (t : Tx)
/-- what is walked -/
inductive Ite where
  | seq (e : Ex)
  | rng1 (e : Ex)
  | rng2 (a b : Ex)
  | rng3 (a b c : Ex)
  | zip (a b : Ex)
  | revd (a : Ex)
  | zips (a b : Ex)
  | enum (k : Bool) (a : Ex)
end

def getS (σ : Sl) (i : Nat) (Q : D → Prop) : Prop := match σ[i]? with
  | some (some d) => Q d
  | _ => False
def boolD (d : D) (Q : Bool → Prop) : Prop := match d with
  | .bl b => Q b
  | _ => False
def intO (d : D) (Q : Int → Prop) : Prop := match d with
  | .int i => Q i
  | _ => False
/-! a target takes a value -/
mutual
def gT : Tg → D → Sl → (Sl → Prop) → Prop
  | .nm i, d, σ, Q => Q (σ.set i (some d))
  | .tp ts, d, σ, Q => match d with
    | .tup ds => gTs ts ds σ Q
    | _ => False
def gTs : Tgs → List D → Sl → (Sl → Prop) → Prop
  | .nil, ds, σ, Q => match ds with
    | [] => Q σ
    | _ :: _ => False
  | .cons t ts, ds, σ, Q => match ds with
    | [] => False
    | d :: ds => gT t d σ fun σ' => gTs ts ds σ' Q
end
def rngD (lo : Int) (n : Nat) : List D := (List.range n).map fun i => D.int (lo + (i : Nat))
def wipeD (σ : Sl) : List Nat → Sl
  | [] => σ
  | v :: vs => (wipeD σ vs).set v none
/-- the turns of a comprehension -/
def compL (g : D → (Sl → Prop) → Prop) (t : WT) (e : WE) (stay : Hd → Prop) : List D → List D → Hd → (List D → Hd → Prop) → Prop
  | [], acc, h, Q => stay h ∧ Q acc h
  | d :: ds, acc, h, Q => stay h ∧ g d fun σ => t σ h fun b h1 => if b = true then e σ h1 fun v h2 => compL g t e stay ds (acc ++ [v]) h2 Q else compL g t e stay ds acc h1 Q
/-- a comprehension of two clauses; the second walks a tuple -/
def comp2L (g : D → (Sl → Prop) → Prop) (t : WT) (a1 : WE) (g1 : D → Sl → (Sl → Prop) → Prop) (t1 : WT) (e : WE) (vs1 : List Nat) (stay : Hd → Prop) : List D → List D → Hd → (List D → Hd → Prop) → Prop
  | [], acc, h, Q => stay h ∧ Q acc h
  | d :: ds, acc, h, Q => stay h ∧ g d fun σ => t σ h fun b h1 => if b = true then a1 σ h1 fun x h2 => (match x with
      | .tup ds1 => acc.length + ds1.length ≤ sizeLine ∧ compL (fun d K => g1 d (wipeD σ vs1) K) t1 e (fun _ => True) ds1 acc h2 fun acc' h3 => comp2L g t a1 g1 t1 e vs1 stay ds acc' h3 Q
      | _ => False) else comp2L g t a1 g1 t1 e vs1 stay ds acc h1 Q
def fdvD : D2 := fun x y h Q => intO x fun i => intO y fun j => (j ≠ 0 ∧ j.natAbs.log2 < 9000) ∧ Q (.int (i.fdiv j)) h
def srsD (x : D) (h : Hd) (Q : Pq) : Prop := match x with
  | .tup ds => (match intsOf ds with
    | some ns => ns.length ≤ 1000 ∧ ∀ ys : List Int, ys.Pairwise (· < ·) → (∀ k : Int, k ∈ ys ↔ k ∈ ns) → Q (.lst (ys.map D.int)) h
    | none => False)
  | _ => False
def isDK (d : D) (h : Hd) : Prop := match d with
  | .ref n => (match h n with
    | some (.dK _) => True
    | _ => False)
  | _ => False
def updD (d x y z : D) (h : Hd) (Q : Pq) : Prop := match d with
  | .ref n => (match h n with
    | some (.dK kvs) => (∀ p ∈ kvs, p.2 = D.bl true) ∧ ∃ (i j c : Int) (m : Nat), x = .int i ∧ y = .int j ∧ z = .int c ∧ RgC i j c m ∧ kvs.length + m ≤ 16777215 ∧
        ∀ kvs' : List (Key × D), (∀ p ∈ kvs', p.2 = D.bl true) → kvs'.length ≤ kvs.length + m → (∀ k : Key, (lookK kvs' k).isSome = true ↔ (lookK kvs k).isSome = true ∨ ∃ t : Nat, t < m ∧ k = .inl (i + t * c)) → Q .non (h.set n (.dK kvs'))
    | _ => False)
  | _ => False
def rgsD (l : Bool) (x y : D) (h : Hd) (Q : Pq) : Prop := intO x fun i => intO y fun j => ((-4611686018427387904 ≤ i ∧ i < 4611686018427387904) ∧ (-4611686018427387904 ≤ j ∧ j < 4611686018427387904) ∧ j - i ≤ 16777216) ∧ Q (if l = true then .lst (rngD i (j - i).toNat) else .tup (rngD i (j - i).toNat)) h
/-- a whole number in a list that may change -/
def augG (x y : D) (h : Hd) (R : Int → Prop) : Prop := match x with
  | .ref n => (match h n with
    | some (.lst ds) => (match y with
      | .int k => 0 ≤ k ∧ ∃ a, ds[k.toNat]? = some (.int a) ∧ R a
      | _ => False)
    | _ => False)
  | _ => False
/-- a written table: what stands at a key -/
def lookT : List Str → List D → Str → Option D
  | k :: ks, d :: ds, z => if k = z then some d else lookT ks ds z
  | _, _, _ => none
/-- what is made is kept as it is, or may change -/
def listed (n : Bool) (ds : List D) (h : Hd) (Q : Pq) : Prop := match n with
  | false => Q (.lst ds) h
  | true => ∀ k, h k = none → Q (.ref k) (h.set k (.lst ds))
/-- a piece, a joining, that may change -/
def sliceN (a : D) (lo hi : Option Int) (h : Hd) (Q : Pq) : Prop := match view h a with
  | .lst ds => ∀ k, h k = none → Q (.ref k) (h.set k (.lst (cutD ds lo hi)))
  | _ => False
def catN : D2 := fun a b h Q => match view h a, view h b with
  | .lst x, .lst y => x.length + y.length ≤ sizeLine ∧ ∀ k, h k = none → Q (.ref k) (h.set k (.lst (x ++ y)))
  | _, _ => False
/-- a dict, finished or not -/
def dicted (n : Bool) (ks : List Key) (ds : List D) (h : Hd) (Q : Pq) : Prop := match n with
  | false => Q (.dic ks ds) h
  | true => ∀ k, h k = none → Q (.ref k) (h.set k (.dK (ks.zip ds)))
def zipD (ds es : List D) : List D := List.zipWith (fun a b => D.tup [a, b]) ds es
/-- a list that can be walked, and what must stay -/
def lstI (d : D) (h : Hd) : Option (List D × (Hd → Prop)) := match d with
  | .lst ds => some (ds, fun _ => True)
  | .ref n => match h n with
    | some (.lst ds) => some (ds, fun h => h n = some (.lst ds))
    | _ => none
  | _ => none
def zipI (x y : D) (h : Hd) (R : List D → (Hd → Prop) → Prop) : Prop := match x, y with
  | .tup ds, .tup es => R (zipD ds es) fun _ => True
  | x, y => match lstI x h, lstI y h with
    | some (ds, s1), some (es, s2) => R (zipD ds es) fun h => s1 h ∧ s2 h
    | _, _ => False
/-- lo, lo + c, .. -/
def stepD (lo c : Int) (n : Nat) : List D := (List.range n).map fun i => D.int (lo + (i : Nat) * c)
def rng3 (x y z : D) (R : List D → Prop) : Prop := ∃ (i j c : Int) (n : Nat), x = .int i ∧ y = .int j ∧ z = .int c ∧ RgC i j c n ∧ n ≤ 16777216 ∧ R (stepD i c n)
/-- what a starred target takes apart -/
def starI (d : D) (h : Hd) (R : List D → Prop) : Prop := match d with
  | .tup ds => R ds
  | d => match view h d with
    | .lst ds => R ds
    | _ => False
def revI (x : D) (h : Hd) (R : List D → (Hd → Prop) → Prop) : Prop := match x with
  | .tup ds => R ds.reverse fun _ => True
  | x => match lstI x h with
    | some (ds, st) => R ds.reverse st
    | none => False
/-- a list or a tuple that can be walked, and what must stay -/
def anyI (d : D) (h : Hd) : Option (Bool × List D × (Hd → Prop)) := match d with
  | .tup ds => some (true, ds, fun _ => True)
  | d => match lstI d h with
    | some (ds, st) => some (false, ds, st)
    | none => none
def zipSI (x y : D) (h : Hd) (R : List D → (Hd → Prop) → Prop) : Prop := match anyI x h, anyI y h with
  | some (_, ds, s1), some (_, es, s2) => ds.length = es.length ∧ R (zipD ds es) fun h => s1 h ∧ s2 h
  | _, _ => False
/-- each with its number, from k on -/
def enumD (k : Nat) (ds : List D) : List D := (ds.zipIdx k).map fun p => D.tup [.int ((p.2 : Nat) : Int), p.1]
def enumI (k : Nat) (x : D) (h : Hd) (R : List D → (Hd → Prop) → Prop) : Prop := match anyI x h with
  | some (_, ds, st) => R (enumD k ds) st
  | none => False
def lenTs : Tgs → Nat
  | .nil => 0
  | .cons _ ts => lenTs ts + 1
def seqI (d : D) (h : Hd) (R : List D → (Hd → Prop) → Prop) : Prop := match d with
  | .lst ds => R ds fun _ => True
  | .tup ds => R ds fun _ => True
  | .ref n => match h n with
    | some (.lst ds) => R ds fun h => h n = some (.lst ds)
    | _ => False
  | _ => False
mutual
def wE : Ex → Sl → Hd → Pq → Prop
  | .cst d, _, h, Q => Q d h
  | .var i, σ, h, Q => getS σ i fun d => Q d h
  | .glb _ d, _, h, Q => Q d h
  | .typ t, _, h, Q => Q (.ty t) h
  | .bin o a b, σ, h, Q => wE a σ h fun x h1 => wE b σ h1 fun y h2 => binD o x y h2 Q
  | .neg a, σ, h, Q => wE a σ h fun x h1 => negD x h1 Q
  | .cmp o a b, σ, h, Q => wE a σ h fun x h1 => wE b σ h1 fun y h2 => cmpD o x y h2 Q
  | .chn o p a b c, σ, h, Q => wE a σ h fun x h1 => wE b σ h1 fun y h2 => cmpD o x y h2 fun z h3 => boolD z fun k => if k = true then wE c σ h3 fun v h4 => cmpD p y v h4 Q else Q (.bl false) h3
  | .not a, σ, h, Q => wE a σ h fun x h1 => boolD x fun k => Q (.bl (!k)) h1
  | .and a b, σ, h, Q => wE a σ h fun x h1 => boolD x fun k => if k = true then wE b σ h1 Q else Q (.bl false) h1
  | .or a b, σ, h, Q => wE a σ h fun x h1 => boolD x fun k => if k = true then Q (.bl true) h1 else wE b σ h1 Q
  | .ife c a b, σ, h, Q => wT c σ h fun k h1 => if k = true then wE a σ h1 Q else wE b σ h1 Q
  | .tup es, σ, h, Q => wA es σ h fun ds h1 => Q (.tup ds) h1
  | .lst es, σ, h, Q => wA es σ h fun ds h1 => Q (.lst ds) h1
  | .new es, σ, h, Q => wA es σ h fun ds h1 => ∀ n, h1 n = none → Q (.ref n) (h1.set n (.lst ds))
  | .sub a i, σ, h, Q => wE a σ h fun x h1 => wE i σ h1 fun y h2 => subsD x y h2 Q
  | .sl a lo hi, σ, h, Q => wE a σ h fun x h1 => wO lo σ h1 fun l h2 => wO hi σ h2 fun u h3 => sliceD x l u h3 Q
  | .slN a lo hi, σ, h, Q => wE a σ h fun x h1 => wO lo σ h1 fun l h2 => wO hi σ h2 fun u h3 => sliceN x l u h3 Q
  | .addN a b, σ, h, Q => wE a σ h fun x h1 => wE b σ h1 fun y h2 => catN x y h2 Q
  | .orV a b, σ, h, Q => wE a σ h fun x h1 => truthD x h1 fun k => if k = true then Q x h1 else wE b σ h1 Q
  | .rev n a, σ, h, Q => wE a σ h fun x h1 => match view h1 x with
    | .lst ds => listed n ds.reverse h1 Q
    | .tup ds => Q (.tup ds.reverse) h1
    | _ => False
  | .call _ _ sp es, σ, h, Q => wA es σ h fun ds h1 => sp ds h1 Q
  | .callK _ _ sp es _ kes pm, σ, h, Q => wA es σ h fun ds h1 => wA kes σ h1 fun fs h2 => sp (pick (ds ++ fs) pm) h2 Q
  | .callP _ _ _ _ sp sq i es, σ, h, Q => wE i σ h fun d h1 => intO d fun k => (k = 0 ∧ wA es σ h1 fun ds h2 => sp ds h2 Q) ∨ (k = 1 ∧ wA es σ h1 fun ds h2 => sq ds h2 Q)
  | .slS a lo st, σ, h, Q => wE a σ h fun x h1 => wE lo σ h1 fun l h2 => intO l fun _ => wE st σ h2 fun k h3 => intO k fun j => match view h3 x with
    | .lst ds => j ≠ 0 ∧ ∀ es : List D, (∀ e ∈ es, e ∈ ds) → es.length ≤ ds.length → Q (.lst es) h3
    | _ => False
  | .fdv a b, σ, h, Q => wE a σ h fun x h1 => wE b σ h1 fun y h2 => fdvD x y h2 Q
  | .rgs l a b, σ, h, Q => wE a σ h fun x h1 => wE b σ h1 fun y h2 => rgsD l x y h2 Q
  | .srs a, σ, h, Q => wE a σ h fun x h1 => srsD x h1 Q
  | .upd a _ i l u s, σ, h, Q => wE a σ h fun d h1 => (isDK d h1 ∧ i < σ.length) ∧ wE l σ h1 fun x h2 => wE u σ h2 fun y h3 => wE s σ h3 fun z h4 => updD d x y z h4 Q
  | .tabAt _ ks ds a, σ, h, Q => wE a σ h fun x h1 => (match x with
    | .str z => (match lookT ks ds z with
      | some d => Q d h1
      | none => False)
    | _ => False)
  | .tabIn _ ks ds a, σ, h, Q => wE a σ h fun x h1 => (match x with
    | .str z => Q (.bl (lookT ks ds z).isSome) h1
    | _ => False)
  | .lc2 own tg it c tg1 a1 c1 e, σ, h, Q => wI it σ h fun ds stay h1 => comp2L (fun d K => gT tg d (wipeD σ (own.map (·.2))) K) (wTo c) (wE a1) (gT tg1) (wTo c1) (wE e) (slotsT tg1) stay ds [] h1 fun acc h2 => Q (.lst acc) h2
  | .blt b es, σ, h, Q => wA es σ h fun ds h1 => bltD b ds h1 Q
  | .mth m a es, σ, h, Q => wE a σ h fun x h1 => tyD m x h1 ∧ wA es σ h1 fun ds h2 => mthD m x ds h2 Q
  | .dct n ks es, σ, h, Q => wA es σ h fun ds h1 => dicted n ks ds h1 Q
  | .lc n own tg it c e, σ, h, Q => wI it σ h fun ds stay h1 => compL (fun d K => gT tg d (wipeD σ (own.map (·.2))) K) (wTo c) (wE e) stay ds [] h1 fun acc h2 => listed n acc h2 Q
def wA : Exs → Sl → Hd → (List D → Hd → Prop) → Prop
  | .nil, _, h, Q => Q [] h
  | .cons e es, σ, h, Q => wE e σ h fun d h1 => wA es σ h1 fun ds h2 => Q (d :: ds) h2
def wO : Exo → Sl → Hd → (Option Int → Hd → Prop) → Prop
  | .none, _, h, Q => Q Option.none h
  | .some e, σ, h, Q => wE e σ h fun d h1 => intO d fun i => Q (Option.some i) h1
def wT : Tx → Sl → Hd → (Bool → Hd → Prop) → Prop
  | .val e, σ, h, Q => wE e σ h fun d h1 => truthD d h1 fun k => Q k h1
  | .not t, σ, h, Q => wT t σ h fun k h1 => Q (!k) h1
  | .and t u, σ, h, Q => wT t σ h fun k h1 => if k = true then wT u σ h1 Q else Q false h1
  | .or t u, σ, h, Q => wT t σ h fun k h1 => if k = true then Q true h1 else wT u σ h1 Q
  | .ch3 o p r a b c d, σ, h, Q => wE a σ h fun x h1 => wE b σ h1 fun y h2 => cmpD o x y h2 fun z h3 => boolD z fun k => if k = true then wE c σ h3 fun v h4 => cmpD p y v h4 fun z2 h5 => boolD z2 fun k2 => if k2 = true then wE d σ h5 fun u h6 => cmpD r v u h6 fun z3 h7 => boolD z3 fun k3 => Q k3 h7 else Q false h5 else Q false h3
def wTo : Txo → Sl → Hd → (Bool → Hd → Prop) → Prop
  | .none, _, h, Q => Q true h
  | .some t, σ, h, Q => wT t σ h Q
def wI : Ite → Sl → Hd → (List D → (Hd → Prop) → Hd → Prop) → Prop
  | .seq e, σ, h, R => wE e σ h fun d h1 => seqI d h1 fun ds st => R ds st h1
  | .rng1 e, σ, h, R => wE e σ h fun d h1 => intO d fun n => (-4611686018427387904 ≤ n ∧ n ≤ 16777216) ∧ R (rngD 0 n.toNat) (fun _ => True) h1
  | .rng2 a b, σ, h, R => wE a σ h fun x h1 => wE b σ h1 fun y h2 => intO x fun i => intO y fun j => ((-4611686018427387904 ≤ i ∧ i < 4611686018427387904) ∧ (-4611686018427387904 ≤ j ∧ j < 4611686018427387904) ∧ j - i ≤ 16777216) ∧ R (rngD i (j - i).toNat) (fun _ => True) h2
  | .rng3 a b c, σ, h, R => wE a σ h fun x h1 => wE b σ h1 fun y h2 => wE c σ h2 fun z h3 => rng3 x y z fun ds => R ds (fun _ => True) h3
  | .zip a b, σ, h, R => wE a σ h fun x h1 => wE b σ h1 fun y h2 => zipI x y h2 fun ds st => R ds st h2
  | .revd a, σ, h, R => wE a σ h fun x h1 => revI x h1 fun ds st => R ds st h1
  | .zips a b, σ, h, R => wE a σ h fun x h1 => wE b σ h1 fun y h2 => zipSI x y h2 fun ds st => R ds st h2
  | .enum k a, σ, h, R => wE a σ h fun x h1 => enumI (if k = true then 1 else 0) x h1 fun ds st => R ds st h1
end

/-! statements -/
structure Ed where
  nx : Sl → Hd → Prop
  rt : Pq
  bk : Sl → Hd → Prop := fun _ _ => False
  ct : Sl → Hd → Prop := fun _ _ => False
mutual
inductive St where
  | asg (t : Tg) (e : Ex)
  | par (is : List Nat) (es : Exs)
  | put (o i e : Ex)
  | aug (i : Nat) (o : Operator) (e : Ex)
  | augI (o i e : Ex)
  | star (i : Nat) (nw : Bool) (ts : Tgs) (e : Ex)
  | exp (e : Ex)
  | ret (e : Ex)
  | retN
  | ite (c : Tx) (a b : Sts)
  | whl (c : Tx) (b : Sts)
  | for (t : Tg) (it : Ite) (b : Sts)
  | pass
  | brk
  | cont
inductive Sts where
  | nil
  | cons (s : St) (ss : Sts)
end
def setAll (σ : Sl) : List Nat → List D → Sl
  | i :: is, d :: ds => setAll (σ.set i (some d)) is ds
  | _, _ => σ
/-- the turns of a for -/
def forL (g : D → Sl → (Sl → Prop) → Prop) (b : Ed → Sl → Hd → Prop) (stay : Hd → Prop) (E : Ed) : List D → Sl → Hd → Prop
  | [], σ, h => stay h ∧ E.nx σ h
  | d :: ds, σ, h => stay h ∧ g d σ fun σ' => b { nx := forL g b stay E ds, ct := forL g b stay E ds, bk := E.nx, rt := E.rt } σ' h
def whileL (t : WT) (b : Ed → Sl → Hd → Prop) (E : Ed) (σ : Sl) (h : Hd) : Prop :=
  ∃ W : Nat → Sl → Hd → Prop, (∃ m, W m σ h) ∧ ∀ m σ h, W m σ h →
    t σ h fun k h1 => if k = true then b { nx := fun σ' h' => ∃ m', m' < m ∧ W m' σ' h', ct := fun σ' h' => ∃ m', m' < m ∧ W m' σ' h', bk := E.nx, rt := E.rt } σ h1 else E.nx σ h1
mutual
def wS : St → Ed → Sl → Hd → Prop
  | .asg t e, E, σ, h => wE e σ h fun d h1 => gT t d σ fun σ' => E.nx σ' h1
  | .par is es, E, σ, h => wA es σ h fun ds h1 => E.nx (setAll σ is ds) h1
  | .put o i e, E, σ, h => wE e σ h fun v h1 => wE o σ h1 fun x h2 => wE i σ h2 fun y h3 => setD x y v h3 fun h4 => E.nx σ h4
  | .aug i o e, E, σ, h => getS σ i fun x => wE e σ h fun y h1 => augD o x y h1 fun z h2 => E.nx (σ.set i (some z)) h2
  | .augI o i e, E, σ, h => wE o σ h fun x h1 => wE i σ h1 fun y h2 => augG x y h2 fun a => wE e σ h2 fun v h3 => intO v fun b => setD x y (.int (a + b)) h3 fun h4 => E.nx σ h4
  | .star i nw ts e, E, σ, h => wE e σ h fun d h1 => starI d h1 fun ds => lenTs ts ≤ ds.length + 1 ∧ listed nw ((ds.drop i).take (ds.length - (lenTs ts - 1))) h1 fun m h2 => gTs ts (ds.take i ++ [m] ++ ds.drop (ds.length - (lenTs ts - 1 - i))) σ fun σ' => E.nx σ' h2
  | .exp e, E, σ, h => wE e σ h fun _ h1 => E.nx σ h1
  | .ret e, E, σ, h => wE e σ h E.rt
  | .retN, E, _, h => E.rt .non h
  | .ite c a b, E, σ, h => wT c σ h fun k h1 => if k = true then wSs a E σ h1 else wSs b E σ h1
  | .whl c b, E, σ, h => whileL (wT c) (wSs b) E σ h
  | .for t it b, E, σ, h => wI it σ h fun ds stay h1 => forL (gT t) (wSs b) stay E ds σ h1
  | .pass, E, σ, h => E.nx σ h
  | .brk, E, σ, h => E.bk σ h
  | .cont, E, σ, h => E.ct σ h
def wSs : Sts → Ed → Sl → Hd → Prop
  | .nil, E, σ, h => E.nx σ h
  | .cons s ss, E, σ, h => wS s { nx := wSs ss E, rt := E.rt, bk := E.bk, ct := E.ct } σ h
end
end G

/-! t[::-1] of a tuple. -/
namespace G
open PySem PySem.Spec PyProof.Rows L2 HT
section
variable {prog : Program} {w : World} {A : Around} {E : Value → Shared → Prop} {s : Shared}
theorem places_rev (n : Nat) : Builtin.Slice.slicePlaces ((n : Int) - 1) (-1) (-1) = n := by
  unfold Builtin.Slice.slicePlaces
  have h1 : ¬ ((-1 : Int) > 0) := by omega
  have h2 : (- (-1 : Int)) = 1 := by omega
  simp only [h1, if_false, h2, Int.ediv_one]
  split <;> omega
theorem sliceApplied_rev {sl : Addr} {vs : Value} {n : Nat} {Q : Int × Int × Nat → Shared → Prop} (hs : s.heap.IsSliceOf sl .none .none vs) (ps : IsPart vs (some (-1)))
    (h : Q (((n : Int) - 1), -1, n) s) : wpAny (model prog w) A (Builtin.Slice.sliceApplied (.ref sl) (pure (n : Int))) Q E s := by
  obtain ⟨os, hos, hcs, hds⟩ := id hs
  unfold Builtin.Slice.sliceApplied Builtin.Slice.sliceFields
  refine wpAny_bind (wpAny_bind (wpAny_field hos hds (x := .none) rfl (wpAny_bind (wpAny_field hos hds (x := .none) rfl (wpAny_bind (wpAny_field hos hds (x := vs) rfl (wpAny_pure ?_)))))))
  refine wpAny_bind (slicePart_ ps ?_)
  show wpAny _ _ (if ((-1 : Int) == 0) = true then _ else _) _ _ s
  rw [if_neg (by decide)]
  refine wpAny_bind (slicePart_none (wpAny_bind (slicePart_none (wpAny_bind (wpAny_pure ?_)))))
  show wpAny _ _ (pure (((n : Int) - 1), (-1 : Int), Builtin.Slice.slicePlaces ((n : Int) - 1) (-1) (-1))) _ _ s
  rw [places_rev]
  exact wpAny_pure h
theorem pick_rev (xs : Array Value) : ((List.range xs.size).filterMap fun (m : Nat) => xs[(((xs.size : Int) - 1) + (m : Int) * (-1)).toNat]?) = xs.toList.reverse := by
  have e : ∀ m ∈ List.range xs.size, xs[(((xs.size : Int) - 1) + (m : Int) * (-1)).toNat]? = xs.toList.reverse[m]? := by
    intro m hm
    have hm' : m < xs.size := List.mem_range.mp hm
    have : (((xs.size : Int) - 1) + (m : Int) * (-1)).toNat = xs.size - 1 - m := by omega
    rw [this, List.getElem?_reverse (by simpa using hm')]
    simp
  have g : ∀ (l : List Value) (f : Nat → Option Value) (k : Nat), (∀ m, m < k → f m = l[m]?) → (List.range k).filterMap f = l.take k := by
    intro l f k
    induction k with
    | zero => intro _; simp
    | succ k ih =>
      intro hf
      rw [List.range_succ, List.filterMap_append, ih fun m hm => hf m (by omega), List.take_add_one]
      congr 1
      simp only [List.filterMap_cons, List.filterMap_nil, hf k (by omega)]
      cases l[k]? <;> rfl
  rw [g xs.toList.reverse _ xs.size fun m hm => e m (List.mem_range.mpr hm)]
  exact List.take_of_length_le (by simp)
theorem getItem_tuple_rev {t sl : Addr} {items : Array Value} {vs : Value} {Q : Value → Shared → Prop} (ht : IsTup s.heap t items) (hs : s.heap.IsSliceOf sl .none .none vs) (ps : IsPart vs (some (-1)))
    (h : Q (.ref s.heap.objs.size) { s with heap := s.heap.push { cls := .type "tuple", data := .seq items.toList.reverse.toArray } })
    (hsz : items.size ≤ sizeLine) : wpAny (model prog w) A (getItem (.ref t) (.ref sl)) Q E s := by
  have htake : sizeOk (.seq items.toList.reverse.toArray) := by
    show items.toList.reverse.toArray.size ≤ sizeLine
    rw [List.size_toArray, List.length_reverse, Array.length_toList]
    omega
  obtain ⟨os, hos, hcs, hds⟩ := id hs
  have hTs : s.TypeIs (.ref sl) "slice" := ⟨os, hos, hcs⟩
  unfold getItem
  try with_reducible refine wpAny_holding ?_
  first | refine wpAny_bind (wpAny_pure ?_) | skip
  refine wpAny_bind (wpAny_sequenceKey ht.typeIs (by decide) ?_)
  refine wpAny_bind (wpAny_callSpecial?_slot (name := Str.ofString "__getitem__") ht.typeIs PyProof.Rows.slot_tuple_getitem
    (wpAny_call_entry PyProof.Rows.slot_tuple_getitem ht.typeIs entry_tuple_getitem ?_ (args_tuple_getitem _ _)))
  show wpAny _ _ (Builtin.Tuple.tupleItemsOf (.ref t) >>= _) _ _ s
  refine wpAny_bind (tupleItemsOf_ ht ?_)
  refine wpAny_bind (wpAny_typeOf hTs ?_)
  rw [if_pos (by decide)]
  refine wpAny_bind (sliceApplied_rev hs ps ?_)
  have hno : ¬ ((((items.size : Int) - 1) == 0 && (-1 : Int) == 1 && items.size == items.size) = true) := by
    simp
  show wpAny _ _ (if (((items.size : Int) - 1) == 0 && (-1 : Int) == 1 && items.size == items.size) = true then _ else _) _ _ s
  rw [if_neg hno, pick_rev]
  first
    | exact wpAny_bind (m := Builtin.Tuple.tupleExact _) (wpAny_newObj_type (wpAny_pure ⟨_, rfl, wpAny_pure h⟩) htake)
    | exact wpAny_bind (m := Builtin.Tuple.tupleExact _) (wpAny_newObj_type (wpAny_bind (wpAny_pure (wpAny_pure ⟨_, rfl, wpAny_pure h⟩))) htake)
    | exact wpAny_bind (wpAny_bind (m := Builtin.Tuple.tupleExact _) (wpAny_newObj_type (wpAny_pure (wpAny_pure ⟨_, rfl, wpAny_pure h⟩)) htake))
    | exact wpAny_bind (wpAny_bind (m := Builtin.Tuple.tupleExact _) (wpAny_newObj_type (wpAny_pure ⟨_, rfl, wpAny_pure h⟩) htake))
end
section
variable {X : Cx}
def tRevA (K : PySem.W.Frag) (te : TE) : TE := fun σ H Q => te σ H fun x H1 => ∃ a xs, x = .ref a ∧ ((SqL K H1 a xs ∧ ∀ p, H1 p = none → Q (.ref p) (upd H1 p (.lst xs.reverse))) ∨ (SqT K H1 a xs ∧ ∀ p, H1 p = none → Q (.ref p) (upd H1 p (.tup xs.reverse))))
theorem pe_revA {e : Expr} {te : TE} {k : Nat} {p1 p2 p3 pos : Pos} (he : PE X e te) : PE X (.Subscript e (.Slice none none (some (.UnaryOp .USub (.Constant (.int 1) k p1) p2)) p3) pos) (tRevA X.K te) := by
  refine ⟨fun pins s σ H Q I h => ?_⟩
  refine Subscript_ (thn (he.run pins s σ H _ I h) fun v s1 ⟨x, H1, I1, r1, q1⟩ => ?_)
  obtain ⟨a, xs, ex, hx⟩ := q1
  subst ex
  cases r1
  have hst : PO X (some (.UnaryOp .USub (.Constant (.int 1) k p1) p2)) (tPart (tUn (rU fun i => .int (-i)) (tC (.int 1)))) := po_some (pe_un un_neg pe_int)
  refine wpAny_Slice (thn (po_none.run pins s1 σ H1 (fun o H2 => o = none ∧ H2 = H1) I1 ⟨rfl, rfl⟩) fun vl s2 ⟨l, H2, I2, pl, el, e2⟩ => ?_)
  subst el e2
  refine thn (po_none.run pins s2 σ H2 (fun o H3 => o = none ∧ H3 = H2) I2 ⟨rfl, rfl⟩) fun vu s3 ⟨u, H3, I3, pu, eu, e3⟩ => ?_
  subst eu e3
  refine thn (hst.run pins s3 σ H3 (fun o H4 => o = some (-1) ∧ H4 = H3) I3 ⟨1, rfl, -1, rfl, rfl, rfl⟩) fun vs s4 ⟨o, H4, I4, ps, eo, e4⟩ => ?_
  subst eo e4
  have I5 : Inv X pins σ H4 { s4 with heap := s4.heap.push { cls := .type "slice", data := .fields #[vl, vu, vs] } } := I4.kept (t' := s4.toks) fun b ob q => Heap.get?_push_of_some _ q
  show wpAny (model X.prog X.w) X.A (subscriptTail e (.Slice none none (some (.UnaryOp .USub (.Constant (.int 1) k p1) p2)) p3) (.ref a) (.ref s4.heap.objs.size)) (EP X pins σ Q) X.xe { s4 with heap := s4.heap.push { cls := .type "slice", data := .fields #[vl, vu, vs] } }
  rcases hx with ⟨hx, q⟩ | ⟨hx, q⟩
  · obtain ⟨its, r, ht, hz⟩ := I5.list hx
    have hlen := r.length
    refine tail_any (ops := [.ref a, .ref s4.heap.objs.size]) ht.isList.typeIs (PySem.slot_list_getitem.lookup) ?_ (by with_unfolding_all rfl)
    refine wpAny_getItem_list_slice ht.isList (Heap.IsSliceOf.new _ vl vu vs) pl pu ps (by decide) ?_ (by rw [List.size_toArray]; omega)
    rw [PySem.W.krv_pick]
    refine ⟨.ref _, _, I5.laid (t' := s4.toks) (o := .lst xs.reverse) (fun b ob q => Heap.get?_push_of_some _ q) (Nat.le_refl _) ?_, rfl, q _ (I5.hok.fresh (Nat.le_refl _))⟩
    exact ⟨by rw [List.length_reverse]; exact hz, _, 0, r.reverse, Heap.get?_push_size _ rfl⟩
  · obtain ⟨its, r, ht, hz⟩ := I5.tuple hx
    have hlen := r.length
    cases pl
    cases pu
    refine tail_any (ops := [.ref a, .ref s4.heap.objs.size]) ht.typeIs (PyProof.Rows.slot_tuple_getitem.lookup) ?_ (by with_unfolding_all rfl)
    refine getItem_tuple_rev ht (Heap.IsSliceOf.new _ _ _ vs) ps ?_ (by rw [List.size_toArray]; omega)
    refine ⟨.ref _, _, I5.laid (t' := s4.toks) (o := .tup xs.reverse) (fun b ob q => Heap.get?_push_of_some _ q) (Nat.le_refl _) ?_, rfl, q _ (I5.hok.fresh (Nat.le_refl _))⟩
    exact ⟨by rw [List.length_reverse]; exact hz, _, r.reverse, _, Heap.get?_push_size _ rfl, rfl, 0, rfl⟩
end
end G

/-! The rules over the small syntax. -/
namespace G
open PySem PySem.Spec PyProof.Rows L2

/-! ### plain expressions -/
def pl : Expr → Bool
  | .Starred _ _ => false
  | .Slice _ _ _ _ => false
  | .Set _ _ _ => false
  | _ => true
theorem star_pl {e : Expr} {es : List Expr} {env : Env} (h : pl e = true) : starEach (e :: es) env = (false, eval e env) :: starEach es env := by
  cases e <;> first | (cases h; done) | rfl
theorem star_all : ∀ {es : List Expr} {env : Env} {pos : Pos}, es.all pl = true → (backTo pos (starEach es env)).any (·.1) = false
  | [], _, _, _ => rfl
  | e :: es, env, pos, h => by
    rw [List.all_cons, Bool.and_eq_true] at h
    rw [star_pl h.1]
    show (false || (backTo pos (starEach es env)).any (·.1)) = false
    rw [star_all h.2]
    rfl
theorem star_none {es : List Expr} {env : Env} {pos : Pos} (h : es.all pl = true) : (backTo pos (starEach es env)).all (fun x => !x.1) = true := by
  have q := star_all (env := env) (pos := pos) h
  rw [List.any_eq_false] at q
  rw [List.all_eq_true]
  intro x hx
  have := q x hx
  simpa using this
theorem ix_pl {e : Expr} (h : pl e = true) : PlainIx e := by
  intro o i
  cases e <;> first | (cases h; done) | rfl
theorem fold_pl {e : Expr} {env : Env} (h : pl e = true) (x : Value) : foldedSetIterable e env x = pure x := by
  cases e <;> first | (cases h; done) | rfl
def nsup : Expr → Bool
  | .Call (.Name _ _) [] [] _ => false
  | _ => true
theorem base_nsup {o : Expr} {name : Str} {env : Env} {x : Sem Value} (h : nsup o = true) : attributeBase o name env x = x := by
  unfold attributeBase
  split
  · cases h
  · rfl
/-- no comprehension: its value isn't stored within -/
def nlc : Expr → Bool
  | .ListComp _ _ _ _ => false
  | .SetComp _ _ _ _ => false
  | .DictComp _ _ _ _ _ => false
  | _ => true
theorem sw_nlc {e : Expr} {t : Option Expr} {l : Nat} {env : Env} (h : nlc e = true) : swapsWith e t l env = pure false := by
  cases e <;> first | (cases h; done) | rfl
/-- an expression whose test is its value's truth -/
def ptv : Expr → Bool
  | .UnaryOp .Not _ _ => false
  | .BoolOp _ _ _ => false
  | .IfExp _ _ _ _ => false
  | .Compare _ _ _ _ => false
  | _ => true
theorem true_ptv {e : Expr} {env : Env} (h : ptv e = true) (whole : Sem Value) : isTrue e env whole = (do let v ← whole; standAt e.pos; holding [v] (truthy v)) := by
  cases e <;> first | (cases h; done) | rfl | skip
  rename_i op x pos
  cases op <;> first | (cases h; done) | rfl

section
variable {X : Cx} {e e1 e2 e3 : Expr} {es : List Expr} {pos : Pos} {wa wb wc : WE} {ta tb : WT} {wl wl' : WA}

theorem l_cst {d : D} {v : V} (h : PE X e (tC v)) (r : ∀ w, RD X.K w d v) : PE X e (liftE X.K fun _ h Q => Q d h) := by
  refine pe_imp h fun σ H Q ⟨w, σd, hd, QD, eH, rel, rs, q, post⟩ => ?_
  subst eH
  exact post.now rel (r w) q
theorem l_var {i : Nat} (h : PE X e (tVar i)) : PE X e (liftE X.K fun σ h Q => getS σ i fun d => Q d h) := by
  refine pe_imp h fun σ H Q ⟨w, σd, hd, QD, eH, rel, rs, q, post⟩ => ?_
  subst eH
  replace q : getS σd i fun d => QD d hd := q
  unfold getS at q
  split at q
  · rename_i d ed
    obtain ⟨v, e1, r⟩ := rs.at_ i d ed
    exact ⟨v, e1, post.now rel r q⟩
  · exact q.elim
/-- one value, then an operation -/
theorem lift1 {o : D1} (σ : L2.St) (H : Hp) (Q : VK) (h : liftE X.K (fun σ h Q => wa σ h fun x h1 => o x h1 Q) σ H Q) : liftE X.K wa σ H fun x H1 => R1of X.K o x H1 Q := by
  obtain ⟨w, σd, hd, QD, eH, rel, rs, q, post⟩ := h
  exact ⟨w, σd, hd, fun x h1 => o x h1 QD, eH, rel, rs, q, fun w1 h1 d1 v1 x1 rel1 r1 q1 => ⟨w1, h1, d1, QD, rfl, rel1, r1, q1, post.ext x1⟩⟩
theorem lift2 {o : D2} (σ : L2.St) (H : Hp) (Q : VK) (h : liftE X.K (fun σ h Q => wa σ h fun x h1 => wb σ h1 fun y h2 => o x y h2 Q) σ H Q) :
    liftE X.K wa σ H fun x H1 => liftE X.K wb σ H1 fun y H2 => R2of X.K o x y H2 Q := by
  obtain ⟨w, σd, hd, QD, eH, rel, rs, q, post⟩ := h
  exact ⟨w, σd, hd, fun x h1 => wb σd h1 fun y h2 => o x y h2 QD, eH, rel, rs, q, fun w1 h1 d1 v1 x1 rel1 r1 q1 =>
    ⟨w1, σd, h1, fun y h2 => o d1 y h2 QD, rfl, rel1, rs.mono x1, q1, fun w2 h2 d2 v2 x2 rel2 r2 q2 => ⟨w2, h2, d1, d2, QD, rfl, rel2, r1.mono x2, r2, q2, post.ext (x1.trans x2)⟩⟩⟩
theorem l_bin {o : Operator} (ha : PE X e1 (liftE X.K wa)) (hb : PE X e2 (liftE X.K wb)) : PE X (.BinOp e1 o e2 pos) (liftE X.K fun σ h Q => wa σ h fun x h1 => wb σ h1 fun y h2 => binD o x y h2 Q) :=
  pe_imp (pe_op (o_bin o) ha hb) lift2
theorem l_neg (ha : PE X e1 (liftE X.K wa)) : PE X (.UnaryOp .USub e1 pos) (liftE X.K fun σ h Q => wa σ h fun x h1 => negD x h1 Q) :=
  pe_imp (pe_un o_neg ha) lift1
theorem l_cmp {o : CmpOp} (hu : X.A.units + 65 < cLine) (hm : behindInMarks o e2 = false) (ha : PE X e1 (liftE X.K wa)) (hb : PE X e2 (liftE X.K wb)) :
    PE X (.Compare e1 [o] [e2] pos) (liftE X.K fun σ h Q => wa σ h fun x h1 => wb σ h1 fun y h2 => cmpD o x y h2 Q) :=
  pe_imp (pe_cmpR (o_cmp hu o) ha hb hm) lift2
/-- what a comparison tells is a truth -/
theorem cmpD_bl {o : CmpOp} {x y : D} {h : Hd} {Q : Pq} (q : cmpD o x y h Q) : cmpD o x y h fun d h' => Q d h' ∧ h' = h ∧ ∃ k, d = .bl k := by
  have ord : ∀ pi ps, ordD pi ps x y h Q → ordD pi ps x y h fun d h' => Q d h' ∧ h' = h ∧ ∃ k, d = .bl k := fun pi ps q => by
    unfold ordD at q ⊢
    split at q <;> first | exact ⟨q, rfl, _, rfl⟩ | exact q.elim
  have eq : ∀ b, eqD b x y h Q → eqD b x y h fun d h' => Q d h' ∧ h' = h ∧ ∃ k, d = .bl k := fun b q => by
    unfold eqD at q ⊢
    split at q <;> first | exact ⟨q, rfl, _, rfl⟩ | exact ⟨q.1, q.2, rfl, _, rfl⟩
  have is : ∀ b, isD2 b x y h Q → isD2 b x y h fun d h' => Q d h' ∧ h' = h ∧ ∃ k, d = .bl k := fun b q => by
    unfold isD2 at q ⊢
    split at q
    · exact ⟨q, rfl, _, rfl⟩
    · split at q <;> first | exact ⟨q, rfl, _, rfl⟩ | exact q.elim
    · exact q.elim
  have inn : ∀ b, inD b x y h Q → inD b x y h fun d h' => Q d h' ∧ h' = h ∧ ∃ k, d = .bl k := fun b q => by
    unfold inD at q ⊢
    split at q
    · split at q
      · exact ⟨q.1, q.2, rfl, _, rfl⟩
      · split at q <;> first | exact ⟨q, rfl, _, rfl⟩ | exact q.elim
      · exact q.elim
    · exact ⟨q.1, q.2, rfl, _, rfl⟩
    · exact ⟨q.1, q.2, rfl, _, rfl⟩
    · split at q
      · split at q <;> first | exact ⟨q, rfl, _, rfl⟩ | exact q.elim
      · exact q.elim
    · exact q.elim
  cases o <;> simp only [cmpD] at q ⊢ <;> first | exact ord _ _ q | exact eq _ q | exact is _ q | exact inn _ q
/-- as a test -/
theorem lt_cmp {o : CmpOp} (hu : X.A.units + 65 < cLine) (hm : behindInMarks o e2 = false) (ha : PE X e1 (liftE X.K wa)) (hb : PE X e2 (liftE X.K wb)) :
    PT X (.Compare e1 [o] [e2] pos) (liftT X.K fun σ h Q => wa σ h fun x h1 => wb σ h1 fun y h2 => cmpD o x y h2 fun d h3 => truthD d h3 fun k => Q k h3) := by
  refine pt_imp (pt_cmpR (o_cmp hu o) ha hb hm) fun σ H Q ⟨w, σd, hd, QD, eH, rel, rs, q, post⟩ => ?_
  refine ⟨w, σd, hd, fun x h1 => wb σd h1 fun y h2 => cmpD o x y h2 fun d h3 => truthD d h3 fun k => QD k h3, eH, rel, rs, q, fun w1 h1 d1 v1 x1 rel1 r1 q1 => ?_⟩
  refine ⟨w1, σd, h1, fun y h2 => cmpD o d1 y h2 fun d h3 => truthD d h3 fun k => QD k h3, rfl, rel1, rs.mono x1, q1, fun w2 h2 d2 v2 x2 rel2 r2 q2 => ?_⟩
  refine ⟨w2, h2, d1, d2, _, rfl, rel2, r1.mono x2, r2, cmpD_bl q2, fun w3 h3 d3 v3 x3 rel3 r3 q3 => ?_⟩
  obtain ⟨q3, eh, k, rfl⟩ := q3
  cases r3
  exact ⟨k, rfl, post w3 h3 k ((x1.trans x2).trans x3) rel3 q3⟩
theorem chain_post {o p : CmpOp} {σ : L2.St} {H : Hp} {Q : VK} {w : Wd} {σd : Sl} {hd : Hd} {QD : Pq} (eH : w.H = H) (rel : RelW X.K w hd) (rs : RSl X.K w σd σ)
    (q : wa σd hd fun x h1 => wb σd h1 fun y h2 => cmpD o x y h2 fun z h3 => boolD z fun k => if k = true then wc σd h3 fun v h4 => cmpD p y v h4 QD else QD (.bl false) h3) (post : Post X.K w hd QD Q) :
    tChain (R2of X.K (cmpD o)) (R2of X.K (cmpD p)) (liftE X.K wa) (liftE X.K wb) (liftE X.K wc) σ H Q := by
  refine ⟨w, σd, hd, _, eH, rel, rs, q, fun w1 h1 d1 v1 x1 rel1 r1 q1 => ?_⟩
  refine ⟨w1, σd, h1, _, rfl, rel1, rs.mono x1, q1, fun w2 h2 d2 v2 x2 rel2 r2 q2 => ?_⟩
  refine ⟨w2, h2, d1, d2, _, rfl, rel2, r1.mono x2, r2, q2, fun w3 h3 d3 v3 x3 rel3 r3 q3 => ?_⟩
  unfold boolD at q3
  split at q3
  · rename_i k
    cases r3
    refine ⟨k, rfl, ?_⟩
    cases k with
    | false =>
      rw [if_neg Bool.false_ne_true] at q3 ⊢
      exact post w3 h3 _ _ ((x1.trans x2).trans x3) rel3 (.bl false) q3
    | true =>
      rw [if_pos rfl] at q3 ⊢
      refine ⟨w3, σd, h3, _, rfl, rel3, ((rs.mono x1).mono x2).mono x3, q3, fun w4 h4 d4 v4 x4 rel4 r4 q4 => ?_⟩
      exact ⟨w4, h4, d2, d4, _, rfl, rel4, (r2.mono x3).mono x4, r4, q4, post.ext (((x1.trans x2).trans x3).trans x4)⟩
  · exact q3.elim
theorem l_chn {o p : CmpOp} (hu : X.A.units + 65 < cLine) (hm : lastMarks [o, p] [e2, e3] = false) (ha : PE X e1 (liftE X.K wa)) (hb : PE X e2 (liftE X.K wb)) (hc : PE X e3 (liftE X.K wc)) :
    PE X (.Compare e1 [o, p] [e2, e3] pos) (liftE X.K fun σ h Q => wa σ h fun x h1 => wb σ h1 fun y h2 => cmpD o x y h2 fun z h3 => boolD z fun k => if k = true then wc σ h3 fun v h4 => cmpD p y v h4 Q else Q (.bl false) h3) :=
  pe_imp (pe_chain (o_cmp hu o) (o_cmp hu p) ha hb hc hm) fun σ H Q ⟨w, σd, hd, QD, eH, rel, rs, q, post⟩ => chain_post eH rel rs q post
theorem lt_chn {o p : CmpOp} (hu : X.A.units + 65 < cLine) (hm : lastMarks [o, p] [e2, e3] = false) (ha : PE X e1 (liftE X.K wa)) (hb : PE X e2 (liftE X.K wb)) (hc : PE X e3 (liftE X.K wc)) :
    PT X (.Compare e1 [o, p] [e2, e3] pos) (liftT X.K fun σ h Q => wa σ h fun x h1 => wb σ h1 fun y h2 => cmpD o x y h2 fun z h3 => boolD z fun k => if k = true then wc σ h3 fun v h4 => cmpD p y v h4 fun d h5 => truthD d h5 fun k => Q k h5 else truthD (.bl false) h3 fun k => Q k h3) := by
  refine pt_imp (pt_chain (o_cmp hu o) (o_cmp hu p) ha hb hc hm) fun σ H Q ⟨w, σd, hd, QD, eH, rel, rs, q, post⟩ => ?_
  refine ⟨w, σd, hd, _, eH, rel, rs, q, fun w1 h1 d1 v1 x1 rel1 r1 q1 => ?_⟩
  refine ⟨w1, σd, h1, _, rfl, rel1, rs.mono x1, q1, fun w2 h2 d2 v2 x2 rel2 r2 q2 => ?_⟩
  refine ⟨w2, h2, d1, d2, _, rfl, rel2, r1.mono x2, r2, q2, fun w3 h3 d3 v3 x3 rel3 r3 q3 => ?_⟩
  unfold boolD at q3
  split at q3
  · rename_i k
    cases r3
    refine ⟨k, rfl, ?_⟩
    cases k with
    | false =>
      rw [if_neg Bool.false_ne_true] at q3 ⊢
      exact ⟨false, rfl, post w3 h3 false ((x1.trans x2).trans x3) rel3 q3⟩
    | true =>
      rw [if_pos rfl] at q3 ⊢
      refine ⟨w3, σd, h3, _, rfl, rel3, ((rs.mono x1).mono x2).mono x3, q3, fun w4 h4 d4 v4 x4 rel4 r4 q4 => ?_⟩
      refine ⟨w4, h4, d2, d4, _, rfl, rel4, (r2.mono x3).mono x4, r4, cmpD_bl q4, fun w5 h5 d5 v5 x5 rel5 r5 q5 => ?_⟩
      obtain ⟨q5, eh, k, rfl⟩ := q5
      cases r5
      exact ⟨k, rfl, post w5 h5 k ((((x1.trans x2).trans x3).trans x4).trans x5) rel5 q5⟩
  · exact q3.elim
theorem boolD_of {K : PySem.W.Frag} {w : Wd} {d : D} {v : V} {Q : Bool → Prop} (r : RD K w d v) (q : boolD d Q) : ∃ k, v = .bl k ∧ Q k := by
  unfold boolD at q
  split at q
  · cases r; exact ⟨_, rfl, q⟩
  · exact q.elim
theorem l_not (ha : PE X e1 (liftE X.K wa)) : PE X (.UnaryOp .Not e1 pos) (liftE X.K fun σ h Q => wa σ h fun x h1 => boolD x fun k => Q (.bl (!k)) h1) := by
  refine pe_imp (pe_not ha) fun σ H Q ⟨w, σd, hd, QD, eH, rel, rs, q, post⟩ => ?_
  refine ⟨w, σd, hd, _, eH, rel, rs, q, fun w1 h1 d1 v1 x1 rel1 r1 q1 => ?_⟩
  obtain ⟨k, rfl, q1⟩ := boolD_of r1 q1
  exact ⟨k, rfl, post w1 h1 _ _ x1 rel1 (.bl _) q1⟩
theorem l_and {rest : List Expr} (ha : PE X e1 (liftE X.K wa)) (hb : PE X (.BoolOp .And (e2 :: rest) pos) (liftE X.K wb)) :
    PE X (.BoolOp .And (e1 :: e2 :: rest) pos) (liftE X.K fun σ h Q => wa σ h fun x h1 => boolD x fun k => if k = true then wb σ h1 Q else Q (.bl false) h1) := by
  refine pe_imp (pe_and ha hb) fun σ H Q ⟨w, σd, hd, QD, eH, rel, rs, q, post⟩ => ?_
  refine ⟨w, σd, hd, _, eH, rel, rs, q, fun w1 h1 d1 v1 x1 rel1 r1 q1 => ?_⟩
  obtain ⟨k, rfl, q1⟩ := boolD_of r1 q1
  refine ⟨k, rfl, ?_⟩
  cases k with
  | false => exact post w1 h1 _ _ x1 rel1 (.bl _) q1
  | true => exact ⟨w1, σd, h1, QD, rfl, rel1, rs.mono x1, q1, post.ext x1⟩
theorem l_or {rest : List Expr} (ha : PE X e1 (liftE X.K wa)) (hb : PE X (.BoolOp .Or (e2 :: rest) pos) (liftE X.K wb)) :
    PE X (.BoolOp .Or (e1 :: e2 :: rest) pos) (liftE X.K fun σ h Q => wa σ h fun x h1 => boolD x fun k => if k = true then Q (.bl true) h1 else wb σ h1 Q) := by
  refine pe_imp (pe_or ha hb) fun σ H Q ⟨w, σd, hd, QD, eH, rel, rs, q, post⟩ => ?_
  refine ⟨w, σd, hd, _, eH, rel, rs, q, fun w1 h1 d1 v1 x1 rel1 r1 q1 => ?_⟩
  obtain ⟨k, rfl, q1⟩ := boolD_of r1 q1
  refine ⟨k, rfl, ?_⟩
  cases k with
  | true => exact post w1 h1 _ _ x1 rel1 (.bl _) q1
  | false => exact ⟨w1, σd, h1, QD, rfl, rel1, rs.mono x1, q1, post.ext x1⟩
theorem l_orV {rest : List Expr} (ha : PE X e1 (liftE X.K wa)) (hb : PE X (.BoolOp .Or (e2 :: rest) pos) (liftE X.K wb)) :
    PE X (.BoolOp .Or (e1 :: e2 :: rest) pos) (liftE X.K fun σ h Q => wa σ h fun x h1 => truthD x h1 fun k => if k = true then Q x h1 else wb σ h1 Q) := by
  refine pe_imp (pe_orT ha hb) fun σ H Q ⟨w, σd, hd, QD, eH, rel, rs, q, post⟩ => ?_
  refine ⟨w, σd, hd, _, eH, rel, rs, q, fun w1 h1 d1 v1 x1 rel1 r1 q1 => ?_⟩
  obtain ⟨k, e, q1⟩ := truth_of rel1 r1 q1
  refine ⟨k, e, ?_⟩
  cases k with
  | true => exact post w1 h1 _ _ x1 rel1 r1 q1
  | false => exact ⟨w1, σd, h1, QD, rfl, rel1, rs.mono x1, q1, post.ext x1⟩
theorem l_ife (hc : PT X e3 (liftT X.K ta)) (ha : PE X e1 (liftE X.K wa)) (hb : PE X e2 (liftE X.K wb)) : PE X (.IfExp e3 e1 e2 pos) (liftE X.K fun σ h Q => ta σ h fun k h1 => if k = true then wa σ h1 Q else wb σ h1 Q) := by
  refine pe_imp (pe_ifExp hc ha hb) fun σ H Q ⟨w, σd, hd, QD, eH, rel, rs, q, post⟩ => ?_
  refine ⟨w, σd, hd, _, eH, rel, rs, q, fun w1 h1 k x1 rel1 q1 => ?_⟩
  cases k with
  | true => exact ⟨w1, σd, h1, QD, rfl, rel1, rs.mono x1, q1, post.ext x1⟩
  | false => exact ⟨w1, σd, h1, QD, rfl, rel1, rs.mono x1, q1, post.ext x1⟩
/-! tests -/
theorem lt_val (h : ptv e = true) (ha : PE X e (liftE X.K wa)) : PT X e (liftT X.K fun σ h Q => wa σ h fun d h1 => truthD d h1 fun k => Q k h1) := by
  refine pt_imp (pt_truth ha (true_ptv h)) fun σ H Q ⟨w, σd, hd, QD, eH, rel, rs, q, post⟩ => ?_
  refine ⟨w, σd, hd, _, eH, rel, rs, q, fun w1 h1 d1 v1 x1 rel1 r1 q1 => ?_⟩
  obtain ⟨k, t, q⟩ := truth_of rel1 r1 q1
  exact ⟨k, t, post w1 h1 k x1 rel1 q⟩
theorem lt_not (ha : PT X e (liftT X.K ta)) : PT X (.UnaryOp .Not e pos) (liftT X.K fun σ h Q => ta σ h fun k h1 => Q (!k) h1) := by
  refine pt_imp (pt_not ha) fun σ H Q ⟨w, σd, hd, QD, eH, rel, rs, q, post⟩ => ?_
  exact ⟨w, σd, hd, _, eH, rel, rs, q, fun w1 h1 k x1 rel1 q1 => post w1 h1 _ x1 rel1 q1⟩
theorem lt_and {rest : List Expr} (ha : PT X e1 (liftT X.K ta)) (hb : PW X (.BoolOp .And (e2 :: rest) pos) (liftT X.K tb)) :
    PW X (.BoolOp .And (e1 :: e2 :: rest) pos) (liftT X.K fun σ h Q => ta σ h fun k h1 => if k = true then tb σ h1 Q else Q false h1) := by
  refine pw_imp (pw_and ha hb) fun σ H Q ⟨w, σd, hd, QD, eH, rel, rs, q, post⟩ => ?_
  refine ⟨w, σd, hd, _, eH, rel, rs, q, fun w1 h1 k x1 rel1 q1 => ?_⟩
  cases k with
  | false => exact post w1 h1 _ x1 rel1 q1
  | true => exact ⟨w1, σd, h1, QD, rfl, rel1, rs.mono x1, q1, post.ext x1⟩
theorem lt_or {rest : List Expr} (ha : PT X e1 (liftT X.K ta)) (hb : PW X (.BoolOp .Or (e2 :: rest) pos) (liftT X.K tb)) :
    PW X (.BoolOp .Or (e1 :: e2 :: rest) pos) (liftT X.K fun σ h Q => ta σ h fun k h1 => if k = true then Q true h1 else tb σ h1 Q) := by
  refine pw_imp (pw_or ha hb) fun σ H Q ⟨w, σd, hd, QD, eH, rel, rs, q, post⟩ => ?_
  refine ⟨w, σd, hd, _, eH, rel, rs, q, fun w1 h1 k x1 rel1 q1 => ?_⟩
  cases k with
  | true => exact post w1 h1 _ x1 rel1 q1
  | false => exact ⟨w1, σd, h1, QD, rfl, rel1, rs.mono x1, q1, post.ext x1⟩
/-! lists of expressions -/
theorem la_nil : PA X [] (liftA X.K 0 fun _ h Q => Q [] h) :=
  pa_imp pa_nil fun σ H Q ⟨w, σd, hd, QD, eH, rel, rs, q, post⟩ => by subst eH; exact post w hd [] [] (Ext.refl w hd) rel .nil rfl q
theorem la_cons {n : Nat} (hp : pl e = true) (ha : PE X e (liftE X.K wa)) (hr : PA X es (liftA X.K n wl)) : PA X (e :: es) (liftA X.K (n + 1) fun σ h Q => wa σ h fun d h1 => wl σ h1 fun ds h2 => Q (d :: ds) h2) := by
  refine pa_imp (pa_cons ha hr (star_pl hp)) fun σ H Q ⟨w, σd, hd, QD, eH, rel, rs, q, post⟩ => ?_
  refine ⟨w, σd, hd, _, eH, rel, rs, q, fun w1 h1 d1 v1 x1 rel1 r1 q1 => ?_⟩
  exact ⟨w1, σd, h1, _, rfl, rel1, rs.mono x1, q1, fun w2 h2 ds vs x2 rel2 r2 l2 q2 => post w2 h2 _ _ (x1.trans x2) rel2 (.cons (r1.mono x2) r2) (by rw [List.length_cons, l2]) q2⟩
theorem lk_nil : PK X [] (liftA X.K 0 fun _ h Q => Q [] h) :=
  pk_imp pk_nil fun σ H Q ⟨w, σd, hd, QD, eH, rel, rs, q, post⟩ => by subst eH; exact post w hd [] [] (Ext.refl w hd) rel .nil rfl q
theorem lk_cons {n : Nat} {nm : Option Str} {kpos : Pos} {kws : List Keyword} (ha : PE X e (liftE X.K wa)) (hr : PK X kws (liftA X.K n wl)) : PK X (⟨nm, e, kpos⟩ :: kws) (liftA X.K (n + 1) fun σ h Q => wa σ h fun d h1 => wl σ h1 fun ds h2 => Q (d :: ds) h2) := by
  refine pk_imp (pk_cons ha hr) fun σ H Q ⟨w, σd, hd, QD, eH, rel, rs, q, post⟩ => ?_
  refine ⟨w, σd, hd, _, eH, rel, rs, q, fun w1 h1 d1 v1 x1 rel1 r1 q1 => ?_⟩
  exact ⟨w1, σd, h1, _, rfl, rel1, rs.mono x1, q1, fun w2 h2 ds vs x2 rel2 r2 l2 q2 => post w2 h2 _ _ (x1.trans x2) rel2 (.cons (r1.mono x2) r2) (by rw [List.length_cons, l2]) q2⟩
/-- the length of what a list of expressions comes to -/
theorem small_len {n : Nat} (h : n ≤ 1000) : n ≤ sizeLine := Nat.le_of_lt (small1000 h)
theorem l_tup {kk n : Nat} (hl : n ≤ 1000) (ha : PA X es (liftA X.K n wl)) : PE X (.Tuple es kk pos) (liftE X.K fun σ h Q => wl σ h fun ds h1 => Q (.tup ds) h1) := by
  refine pe_imp (pe_tup ha) fun σ H Q ⟨w, σd, hd, QD, eH, rel, rs, q, post⟩ => ?_
  refine ⟨w, σd, hd, _, eH, rel, rs, q, fun w1 h1 ds vs x1 rel1 r1 l1 q1 => ⟨by rw [← r1.length, l1]; exact small_len hl, fun p hp => ?_⟩⟩
  exact post_tup rel1 hp r1 (by rw [l1]; exact small_len hl) q1 (post.ext x1)
theorem l_lst {n : Nat} (hl : n ≤ 1000) (ha : PA X es (liftA X.K n wl)) : PE X (.List es pos) (liftE X.K fun σ h Q => wl σ h fun ds h1 => Q (.lst ds) h1) := by
  refine pe_imp (pe_lst ha) fun σ H Q ⟨w, σd, hd, QD, eH, rel, rs, q, post⟩ => ?_
  refine ⟨w, σd, hd, _, eH, rel, rs, q, fun w1 h1 ds vs x1 rel1 r1 l1 q1 => ⟨by rw [← r1.length, l1]; exact small_len hl, fun p hp => ?_⟩⟩
  exact post_lst rel1 hp r1 (by rw [l1]; exact small_len hl) q1 (post.ext x1)
theorem l_new {n : Nat} (hl : n ≤ 1000) (ha : PA X es (liftA X.K n wl)) : PE X (.List es pos) (liftE X.K fun σ h Q => wl σ h fun ds h1 => ∀ n, h1 n = none → Q (.ref n) (h1.set n (.lst ds))) := by
  refine pe_imp (pe_lst ha) fun σ H Q ⟨w, σd, hd, QD, eH, rel, rs, q, post⟩ => ?_
  refine ⟨w, σd, hd, _, eH, rel, rs, q, fun w1 h1 ds vs x1 rel1 r1 l1 q1 => ⟨by rw [← r1.length, l1]; exact small_len hl, fun p hp => ?_⟩⟩
  exact post_new rel1 hp r1 (by rw [l1]; exact small_len hl) q1 (post.ext x1)
theorem l_sub (hu : X.A.units + 1 < cLine) (hp : pl e2 = true) (ha : PE X e1 (liftE X.K wa)) (hb : PE X e2 (liftE X.K wb)) : PE X (.Subscript e1 e2 pos) (liftE X.K fun σ h Q => wa σ h fun x h1 => wb σ h1 fun y h2 => subsD x y h2 Q) :=
  pe_imp (pe_ix (o_subs hu) ha hb (ix_pl hp)) lift2
/-! slices -/
abbrev WO := Sl → Hd → (Option Int → Hd → Prop) → Prop
def liftO (K : PySem.W.Frag) (wp : WO) : TO := fun σ H Q => ∃ w σd h QD, w.H = H ∧ RelW K w h ∧ RSl K w σd σ ∧ wp σd h QD ∧ ∀ w' h' o, Ext w w' h h' → RelW K w' h' → QD o h' → Q o w'.H
theorem po_imp {eo : Option Expr} {t t' : TO} (p : PO X eo t) (i : ∀ σ H Q, t' σ H Q → t σ H Q) : PO X eo t' := ⟨fun pins s σ H Q I h => p.run pins s σ H Q I (i σ H Q h)⟩
theorem lo_none : PO X none (liftO X.K fun _ h Q => Q none h) := po_imp po_none fun σ H Q ⟨w, σd, hd, QD, eH, rel, rs, q, post⟩ => by subst eH; exact post w hd none (Ext.refl w hd) rel q
theorem intO_of {K : PySem.W.Frag} {w : Wd} {d : D} {v : V} {Q : Int → Prop} (r : RD K w d v) (q : intO d Q) : ∃ k, v = .int k ∧ Q k := by
  unfold intO at q
  split at q
  · cases r; exact ⟨_, rfl, q⟩
  · exact q.elim
theorem lo_some (ha : PE X e (liftE X.K wa)) : PO X (some e) (liftO X.K fun σ h Q => wa σ h fun d h1 => intO d fun i => Q (some i) h1) := by
  refine po_imp (po_some ha) fun σ H Q ⟨w, σd, hd, QD, eH, rel, rs, q, post⟩ => ?_
  refine ⟨w, σd, hd, _, eH, rel, rs, q, fun w1 h1 d1 v1 x1 rel1 r1 q1 => ?_⟩
  obtain ⟨i, rfl, q1⟩ := intO_of r1 q1
  exact ⟨i, rfl, post w1 h1 _ x1 rel1 q1⟩
theorem l_sl {lo hi : Option Expr} {p2 : Pos} {wl wh : WO} (ha : PE X e (liftE X.K wa)) (hl : PO X lo (liftO X.K wl)) (hh : PO X hi (liftO X.K wh)) :
    PE X (.Subscript e (.Slice lo hi none p2) pos) (liftE X.K fun σ h Q => wa σ h fun x h1 => wl σ h1 fun l h2 => wh σ h2 fun u h3 => sliceD x l u h3 Q) := by
  refine pe_imp (pe_slice o_slice ha hl hh) fun σ H Q ⟨w, σd, hd, QD, eH, rel, rs, q, post⟩ => ?_
  refine ⟨w, σd, hd, _, eH, rel, rs, q, fun w1 h1 d1 v1 x1 rel1 r1 q1 => ?_⟩
  refine ⟨w1, σd, h1, _, rfl, rel1, rs.mono x1, q1, fun w2 h2 l x2 rel2 q2 => ?_⟩
  refine ⟨w2, σd, h2, _, rfl, rel2, (rs.mono x1).mono x2, q2, fun w3 h3 u x3 rel3 q3 => ?_⟩
  exact ⟨w3, h3, d1, QD, rfl, rel3, (r1.mono x2).mono x3, q3, post.ext ((x1.trans x2).trans x3)⟩
def RSN (K : PySem.W.Frag) : V → Option Int → Option Int → Hp → VK → Prop := fun x lo hi H Q => ∃ w h a QD, w.H = H ∧ RelW K w h ∧ RD K w a x ∧ sliceN a lo hi h QD ∧ Post K w h QD Q
theorem o_sliceN : SlR X (RSN X.K) := by
  intro pins s σ H x v vl vu lo hi sl Q I rx hs pl pu hq
  obtain ⟨w, h, a, QD, rfl, rel, ra, o, post⟩ := hq
  unfold sliceN at o
  split at o
  · rename_i ds e
    obtain ⟨p, xs, rfl, e2, rs, ll⟩ := view_lst rel ra e
    exact sl_list pins s σ _ _ v vl vu lo hi sl Q I rx hs pl pu ⟨p, xs, rfl, .inl (.inl e2), fun l hl => post_new rel hl (rs.cut lo hi) (Nat.le_trans (cutD_length ds lo hi) ll) o post⟩
  · exact o.elim
theorem l_slN {lo hi : Option Expr} {p2 : Pos} {wl wh : WO} (ha : PE X e (liftE X.K wa)) (hl : PO X lo (liftO X.K wl)) (hh : PO X hi (liftO X.K wh)) :
    PE X (.Subscript e (.Slice lo hi none p2) pos) (liftE X.K fun σ h Q => wa σ h fun x h1 => wl σ h1 fun l h2 => wh σ h2 fun u h3 => sliceN x l u h3 Q) := by
  refine pe_imp (pe_slice o_sliceN ha hl hh) fun σ H Q ⟨w, σd, hd, QD, eH, rel, rs, q, post⟩ => ?_
  refine ⟨w, σd, hd, _, eH, rel, rs, q, fun w1 h1 d1 v1 x1 rel1 r1 q1 => ?_⟩
  refine ⟨w1, σd, h1, _, rfl, rel1, rs.mono x1, q1, fun w2 h2 l x2 rel2 q2 => ?_⟩
  refine ⟨w2, σd, h2, _, rfl, rel2, (rs.mono x1).mono x2, q2, fun w3 h3 u x3 rel3 q3 => ?_⟩
  exact ⟨w3, h3, d1, QD, rfl, rel3, (r1.mono x2).mono x3, q3, post.ext ((x1.trans x2).trans x3)⟩
theorem o_catN : OpR X (binaryOp .Add) (R2of X.K catN) := by
  intro pins s σ H x y v u Q I rx ry hq
  obtain ⟨w, h, a, b, QD, rfl, rel, ra, rb, o, post⟩ := hq
  unfold catN at o
  split at o
  · rename_i i j e1 e2
    obtain ⟨p, xs, rfl, hp, rs, l1⟩ := view_lst rel ra e1
    obtain ⟨q, ys, rfl, hq, ss, l2⟩ := view_lst rel rb e2
    exact op_cat pins s σ _ _ _ v u Q I rx ry ⟨p, q, xs, ys, rfl, rfl, hp, hq, by rw [← rs.length, ← ss.length]; exact o.1, fun l hl => post_new rel hl (rs.append ss) (by rw [List.length_append]; exact o.1) o.2 post⟩
  · exact o.elim
theorem l_addN (ha : PE X e1 (liftE X.K wa)) (hb : PE X e2 (liftE X.K wb)) : PE X (.BinOp e1 .Add e2 pos) (liftE X.K fun σ h Q => wa σ h fun x h1 => wb σ h1 fun y h2 => catN x y h2 Q) :=
  pe_imp (pe_op o_catN ha hb) lift2
theorem l_rev {n : Bool} {kk : Nat} {p1 p2 p3 : Pos} (ha : PE X e (liftE X.K wa)) : PE X (.Subscript e (.Slice none none (some (.UnaryOp .USub (.Constant (.int 1) kk p1) p2)) p3) pos) (liftE X.K fun σ h Q => wa σ h fun x h1 => match view h1 x with
    | .lst ds => listed n ds.reverse h1 Q
    | .tup ds => Q (.tup ds.reverse) h1
    | _ => False) := by
  refine pe_imp (pe_revA ha) fun σ H Q ⟨w, σd, hd, QD, eH, rel, rs, q, post⟩ => ?_
  refine ⟨w, σd, hd, _, eH, rel, rs, q, fun w1 h1 d1 v1 x1 rel1 r1 q1 => ?_⟩
  split at q1
  · rename_i ds ed
    obtain ⟨a, xs, rfl, e2, rr, ll⟩ := view_lst rel1 r1 ed
    refine ⟨a, xs, rfl, .inl ⟨.inl (.inl e2), fun p hp => ?_⟩⟩
    cases n with
    | false => exact post_lst rel1 hp rr.reverse (by rw [List.length_reverse]; exact ll) q1 (post.ext x1)
    | true => exact post_new rel1 hp rr.reverse (by rw [List.length_reverse]; exact ll) q1 (post.ext x1)
  · rename_i ds ed
    obtain ⟨a, xs, rfl, e2, rr, ll⟩ := view_tup r1 ed
    exact ⟨a, xs, rfl, .inr ⟨e2.sq, fun p hp => post_tup rel1 hp rr.reverse (by rw [List.length_reverse]; exact ll) q1 (post.ext x1)⟩⟩
  · exact q1.elim
/-! calls -/
theorem l_blt (hs : ∃ o, X.base.get? sysModules = some o) (hc : X.calm = true) (hg : X.A.guards = some []) (hu : X.A.units + 70 < cLine) {b : Bl} {p : Pos} (gl : Gl X b.name) (hm : X.mg b.name = none) (hp : pl e = true) (hps : es.all pl = true) {n : Nat} (ha : PA X (e :: es) (liftA X.K n wl)) :
    PE X (.Call (.Name b.name p) (e :: es) [] pos) (liftE X.K fun σ h Q => wl σ h fun ds h1 => bltD b ds h1 Q) := by
  have base : PE X (.Call (.Name b.name p) (e :: es) [] pos) (tCB (RNof X.K (bltD b)) (liftA X.K n wl)) := by
    have hc' := o_blt (X := X) hs hc hg hu b
    have bo := b.boot
    generalize hv : b.val = v at hc' bo
    cases b <;> cases hv <;> first
      | exact pe_callB hc' gl hm bo ha (Bl.nn _) (Bl.nd _) (star_pl hp) (star_all hps)
      | exact pe_callTy hc' gl hm bo ha (Bl.nn _) (Bl.nd _) (star_pl hp) (star_all hps)
  refine pe_imp base fun σ H Q ⟨w, σd, hd, QD, eH, rel, rs, q, post⟩ => ?_
  exact ⟨w, σd, hd, _, eH, rel, rs, q, fun w1 h1 ds vs x1 rel1 r1 _ q1 => ⟨w1, h1, ds, QD, rfl, rel1, r1, q1, post.ext x1⟩⟩
theorem l_mth0 {m : Mt} {apos : Pos} (hb : nsup e = true) (hl : (apos.endLine == pos.line) = true) (ha : PE X e (liftE X.K wa)) :
    PE X (.Call (.Attribute e m.name apos) [] [] pos) (liftE X.K fun σ h Q => wa σ h fun x h1 => tyD m x h1 ∧ mthD m x [] h1 Q) := by
  refine pe_imp (pe_bm0 m.pa m.slot m.ty (o_mth m) ha (base_nsup hb) hl) fun σ H Q ⟨w, σd, hd, QD, eH, rel, rs, q, post⟩ => ?_
  exact ⟨w, σd, hd, _, eH, rel, rs, q, fun w1 h1 d1 v1 x1 rel1 r1 q1 => ⟨tyD_of m rel1 r1 q1.1, w1, h1, d1, [], QD, rfl, rel1, r1, .nil, q1.2, post.ext x1⟩⟩
theorem l_mth {m : Mt} {apos : Pos} (hb : nsup e = true) (hl : (apos.endLine == pos.line) = true) (hp : pl e1 = true) (hps : es.all pl = true) (hfew : es.length < 20) {n : Nat} (ha : PE X e (liftE X.K wa)) (hs : PA X (e1 :: es) (liftA X.K n wl)) :
    PE X (.Call (.Attribute e m.name apos) (e1 :: es) [] pos) (liftE X.K fun σ h Q => wa σ h fun x h1 => tyD m x h1 ∧ wl σ h1 fun ds h2 => mthD m x ds h2 Q) := by
  have few : ((backTo pos (starEach (e1 :: es) X.env)).all (fun x => !x.1) && (backToKw pos (keywordEach [] X.env)).all (fun x => x.1.isSome)
      && decide ((e1 :: es).length + ([] : List Keyword).length + (if ([] : List Keyword).isEmpty then 0 else 1) < 30)) = true := by
    rw [star_none (by rw [List.all_cons, hp, hps]; rfl)]
    have : decide ((e1 :: es).length + ([] : List Keyword).length + (if ([] : List Keyword).isEmpty then 0 else 1) < 30) = true := decide_eq_true (by simp; omega)
    rw [this]
    rfl
  refine pe_imp (pe_bm m.pa m.slot m.ty (o_mth m) ha hs (base_nsup hb) few hl (star_pl hp) (star_all hps)) fun σ H Q ⟨w, σd, hd, QD, eH, rel, rs, q, post⟩ => ?_
  refine ⟨w, σd, hd, _, eH, rel, rs, q, fun w1 h1 d1 v1 x1 rel1 r1 q1 => ⟨tyD_of m rel1 r1 q1.1, ?_⟩⟩
  exact ⟨w1, σd, h1, _, rfl, rel1, rs.mono x1, q1.2, fun w2 h2 ds vs x2 rel2 r2 _ q2 => ⟨w2, h2, d1, ds, QD, rfl, rel2, r1.mono x2, r2, q2, post.ext (x1.trans x2)⟩⟩
theorem l_call0 {k : Nat} {x : Str} {p : Pos} {ps : List Str} {sp : Spd} (F : FnAt X.prog X.w X.K X.mg X.base k x ps sp) (hr : Room k X.A) (hg : X.A.guards = some []) (gl : Gl X x) (hd : (x == ("__debug__" : Str)) = false) :
    PE X (.Call (.Name x p) [] [] pos) (liftE X.K fun σ h Q => sp [] h Q) := by
  obtain ⟨f, fd, hm, hk, hp, G⟩ := F.ex
  refine ⟨fun pins s σ H Q I hw => ?_⟩
  obtain ⟨w, σd, h, QD, eH, rel, rs, q, post⟩ := hw
  subst eH
  refine wpAny_Call_Name_kw (ld_glob I gl hm ?_ hd)
  exact PySem.W.callWith_K0 I.kIn hk (fn_call (us := []) G hr hg I (fn_binds hp (G.len _ _ _ q)) .nil rel .nil q post)
theorem l_call {k : Nat} {x : Str} {p : Pos} {ps : List Str} {sp : Spd} (F : FnAt X.prog X.w X.K X.mg X.base k x ps sp) (hr : Room k X.A) (hg : X.A.guards = some []) (gl : Gl X x) (hd : (x == ("__debug__" : Str)) = false) (hq : pl e = true) (hps : es.all pl = true) {n : Nat} (ha : PA X (e :: es) (liftA X.K n wl)) :
    PE X (.Call (.Name x p) (e :: es) [] pos) (liftE X.K fun σ h Q => wl σ h fun ds h1 => sp ds h1 Q) := by
  obtain ⟨f, fd, hm, hk, hp, G⟩ := F.ex
  refine ⟨fun pins s σ H Q I hw => ?_⟩
  obtain ⟨w, σd, h, QD, eH, rel, rs, q, post⟩ := hw
  subst eH
  refine wpAny_Call_Name_kw (ld_glob I gl hm ?_ hd)
  have hA := ha.run pos pins s σ w.H (fun vs H1 => ∃ w1 h1 ds, w1.H = H1 ∧ RelW X.K w1 h1 ∧ RDs X.K w1 ds vs ∧ sp ds h1 QD ∧ Post X.K w1 h1 QD Q) I
    ⟨w, σd, h, _, rfl, rel, rs, q, fun w1 h1 ds vs x1 rel1 r1 _ q1 => ⟨w1, h1, ds, rfl, rel1, r1, q1, post.ext x1⟩⟩
  refine PySem.W.callWith_K (h₀ := X.base) I.ok.mod.kin hk (thn hA fun us s1 ⟨vs, H1, I1, r, q⟩ => ⟨I1.kIn, ?_⟩) (star_pl hq) (star_all hps)
  obtain ⟨w1, h1, ds, rfl, rel1, r1, q1, post1⟩ := q
  have hl : us.length = ps.length := by rw [← r.length, ← r1.length]; exact G.len _ _ _ q1
  exact fn_call G hr hg I1 (fn_binds hp hl) r rel1 r1 q1 post1
theorem kw_names {kws : List Keyword} {ks : List Str} {env : Env} (h : kws.map (·.arg) = ks.map some) : (backToKw pos (keywordEach kws env)).all (·.1.isSome) = true ∧ (backToKw pos (keywordEach kws env)).filterMap (·.1) = ks ∧ (backToKw pos (keywordEach kws env)).any (·.1.isNone) = false := by
  induction kws generalizing ks with
  | nil =>
    cases ks with
    | nil => exact ⟨rfl, rfl, rfl⟩
    | cons _ _ => cases h
  | cons kw kws ih =>
    cases ks with
    | nil => cases h
    | cons k ks =>
      obtain ⟨nm, v, p⟩ := kw
      simp only [List.map_cons, List.cons.injEq] at h
      obtain ⟨h1, h2⟩ := h
      subst h1
      obtain ⟨i1, i2, i3⟩ := ih h2
      refine ⟨?_, ?_, ?_⟩
      · show (true && (backToKw pos (keywordEach kws env)).all (·.1.isSome)) = true
        rw [i1]; rfl
      · show k :: (backToKw pos (keywordEach kws env)).filterMap (·.1) = k :: ks
        rw [i2]
      · show (false || (backToKw pos (keywordEach kws env)).any (·.1.isNone)) = false
        rw [i3]; rfl
theorem kw_step {k : Nat} {ps ks : List Str} {sp : Spd} {pm : List Nat} {f : Addr} {fd : FuncData} (G : FnG X.prog X.w X.K X.mg X.base k f fd ps sp) (hr : Room k X.A) (hg : X.A.guards = some [])
    (hp : fd.params.args.map (·.arg) = ps ∧ fd.params.posonlyargs = [] ∧ fd.params.vararg = none ∧ fd.params.kwonlyargs = [] ∧ fd.params.kwarg = none ∧ fd.defaults = .none ∧ ps.Nodup)
    {np : Nat} (hc : kwC ps np ks pm = true) {pins : List (Addr × Obj)} {σ : L2.St} {s : Shared} {w : Wd} {h : Hd} {ds fs : List D} {us ws : List Value} {vs zs : List V} {QD : Pq} {Q : VK} (hu : us.length = np) (hw : ws.length = ks.length)
    (I : Inv X pins σ w.H s) (r : Vals vs us) (rz : Vals zs ws) (rel : RelW X.K w h) (rd : RDs X.K w ds vs) (rf : RDs X.K w fs zs) (q : sp (pick (ds ++ fs) pm) h QD) (post : Post X.K w h QD Q) :
    wpAny (model X.prog X.w) X.A (call (.ref f) us (ks.zip ws)) (EP X pins σ Q) X.xe s :=
  fn_call G hr hg I (.of_eq (binds_kw hp.1 hp.2.1 hp.2.2.1 hp.2.2.2.1 hp.2.2.2.2.1 hp.2.2.2.2.2.1 hc hu hw)) (vals_pick (r.append rz) pm) rel ((rd.append rf).pick pm) q post
theorem l_callK0 {k : Nat} {x : Str} {p : Pos} {ps ks : List Str} {sp : Spd} {pm : List Nat} {kws : List Keyword} (F : FnAt X.prog X.w X.K X.mg X.base k x ps sp) (hr : Room k X.A) (hg : X.A.guards = some []) (gl : Gl X x) (hd : (x == ("__debug__" : Str)) = false)
    (hn : kws.map (·.arg) = ks.map some) (hc : kwC ps 0 ks pm = true) (hk : PK X kws (liftA X.K ks.length wl)) :
    PE X (.Call (.Name x p) [] kws pos) (liftE X.K fun σ h Q => wl σ h fun fs h2 => sp (pick ([] ++ fs) pm) h2 Q) := by
  obtain ⟨f, fd, hm, hkp, hp, G⟩ := F.ex
  refine ⟨fun pins s σ H Q I hw => ?_⟩
  obtain ⟨w, σd, h, QD, eH, rel, rs, q, post⟩ := hw
  subst eH
  refine wpAny_Call_Name_kw (ld_glob I gl hm ?_ hd)
  obtain ⟨n1, n2, n3⟩ := kw_names (pos := pos) (env := X.env) hn
  have hK := hk.run pos pins s σ w.H (fun zs H1 => ∃ w1 h1 fs, w1.H = H1 ∧ RelW X.K w1 h1 ∧ RDs X.K w1 fs zs ∧ fs.length = ks.length ∧ sp (pick ([] ++ fs) pm) h1 QD ∧ Post X.K w1 h1 QD Q) I
    ⟨w, σd, h, _, rfl, rel, rs, q, fun w1 h1 ds vs x1 rel1 r1 l1 q1 => ⟨w1, h1, ds, rfl, rel1, r1, l1, q1, post.ext x1⟩⟩
  refine PySem.W.callWith_KW0 (h₀ := X.base) I.ok.mod.kin hkp n1 (thn hK fun ws s1 ⟨zs, H1, I1, r, q⟩ => ⟨I1.kIn, ?_⟩) (by rw [n3]; rfl)
  rw [n2]
  obtain ⟨w1, h1, fs, rfl, rel1, r1, ln, q1, post1⟩ := q
  exact kw_step (us := []) (vs := []) (ds := []) G hr hg hp hc rfl (by rw [← r.length, ← r1.length]; exact ln) I1 .nil r rel1 .nil r1 q1 post1
theorem l_callK {k : Nat} {x : Str} {p : Pos} {ps ks : List Str} {sp : Spd} {pm : List Nat} {kws : List Keyword} (F : FnAt X.prog X.w X.K X.mg X.base k x ps sp) (hr : Room k X.A) (hg : X.A.guards = some []) (gl : Gl X x) (hd : (x == ("__debug__" : Str)) = false) (hq : pl e = true) (hps : es.all pl = true)
    (hn : kws.map (·.arg) = ks.map some) (hc : kwC ps (es.length + 1) ks pm = true) (ha : PA X (e :: es) (liftA X.K (es.length + 1) wl')) (hk : PK X kws (liftA X.K ks.length wl)) :
    PE X (.Call (.Name x p) (e :: es) kws pos) (liftE X.K fun σ h Q => wl' σ h fun ds h1 => wl σ h1 fun fs h2 => sp (pick (ds ++ fs) pm) h2 Q) := by
  obtain ⟨f, fd, hm, hkp, hp, G⟩ := F.ex
  refine ⟨fun pins s σ H Q I hw => ?_⟩
  obtain ⟨w, σd, h, QD, eH, rel, rs, q, post⟩ := hw
  subst eH
  refine wpAny_Call_Name_kw (ld_glob I gl hm ?_ hd)
  obtain ⟨n1, n2, n3⟩ := kw_names (pos := pos) (env := X.env) hn
  have hA := ha.run pos pins s σ w.H (fun vs H1 => ∃ w1 h1 ds, w1.H = H1 ∧ RelW X.K w1 h1 ∧ RSl X.K w1 σd σ ∧ RDs X.K w1 ds vs ∧ ds.length = es.length + 1 ∧ (wl σd h1 fun fs h2 => sp (pick (ds ++ fs) pm) h2 QD) ∧ Post X.K w1 h1 QD Q) I
    ⟨w, σd, h, _, rfl, rel, rs, q, fun w1 h1 ds vs x1 rel1 r1 l1 q1 => ⟨w1, h1, ds, rfl, rel1, rs.mono x1, r1, l1, q1, post.ext x1⟩⟩
  refine PySem.W.callWith_KW (h₀ := X.base) I.ok.mod.kin hkp n1 (thn hA fun us s1 ⟨vs, H1, I1, r, q⟩ => ?_) (by rw [n3, star_all (by rw [List.all_cons, hq, hps]; rfl)]; rfl) (star_pl hq)
  obtain ⟨w1, h1, ds, rfl, rel1, rs1, r1, l1, q1, post1⟩ := q
  have hK := hk.run pos pins s1 σ w1.H (fun zs H1 => ∃ w2 h2 fs, w2.H = H1 ∧ RelW X.K w2 h2 ∧ RDs X.K w2 ds vs ∧ RDs X.K w2 fs zs ∧ fs.length = ks.length ∧ sp (pick (ds ++ fs) pm) h2 QD ∧ Post X.K w2 h2 QD Q) I1
    ⟨w1, σd, h1, _, rfl, rel1, rs1, q1, fun w2 h2 fs vs' x2 rel2 r2 l2 q2 => ⟨w2, h2, fs, rfl, rel2, r1.mono x2, r2, l2, q2, post1.ext x2⟩⟩
  refine thn hK fun ws s2 ⟨zs, H2, I2, rz, q⟩ => ⟨I2.kIn, ?_⟩
  rw [n2]
  obtain ⟨w2, h2, fs, rfl, rel2, r1', r2, ln, q2, post2⟩ := q
  exact kw_step (us := us) G hr hg hp hc (by rw [← r.length, ← r1'.length]; exact l1) (by rw [← rz.length, ← r2.length]; exact ln) I2 r rz rel2 r1' r2 q2 post2
end
end G

/-! Targets, what is walked, comprehensions. -/
namespace G
open PySem PySem.Spec PyProof.Rows L2

/-! ### targets -/
def lenT : Tgs → Nat
  | .nil => 0
  | .cons _ ts => lenT ts + 1
/-- the slots besides those of a target stay -/
def Beside (vs : List Nat) (σ σ' : L2.St) : Prop := σ'.length = σ.length ∧ ∀ i, i ∉ vs → σ'[i]? = σ[i]?
theorem Beside.refl (vs : List Nat) (σ : L2.St) : Beside vs σ σ := ⟨rfl, fun _ _ => rfl⟩
theorem Beside.set {vs : List Nat} {σ : L2.St} {i : Nat} {v : V} (h : i ∈ vs) : Beside vs σ (σ.set i (some v)) :=
  ⟨by simp, fun j hj => List.getElem?_set_ne (fun z : i = j => hj (by rw [← z]; exact h))⟩
theorem Beside.trans {vs : List Nat} {σ σ1 σ2 : L2.St} (a : Beside vs σ σ1) (b : Beside vs σ1 σ2) : Beside vs σ σ2 := ⟨b.1.trans a.1, fun i hi => (b.2 i hi).trans (a.2 i hi)⟩
theorem Beside.mono {vs us : List Nat} {σ σ' : L2.St} (a : Beside vs σ σ') (h : ∀ i ∈ vs, i ∈ us) : Beside us σ σ' := ⟨a.1, fun i hi => a.2 i fun z => hi (h i z)⟩
theorem wipe_at (σ : L2.St) (vs : List Nat) (i : Nat) : (wipe σ vs)[i]? = if i ∈ vs then (if i < σ.length then some none else none) else σ[i]? := by
  induction vs with
  | nil => simp [wipe]
  | cons v vs ih =>
    unfold wipe
    by_cases h : v = i
    · subst h
      by_cases hl : v < σ.length
      · rw [List.getElem?_set_self (by rw [wipe_length]; exact hl)]
        simp [hl]
      · rw [List.getElem?_eq_none (by rw [List.length_set, wipe_length]; omega)]
        simp [hl]
    · rw [List.getElem?_set_ne h, ih]
      have : i ∈ v :: vs ↔ i ∈ vs := by simp [Ne.symm h]
      simp only [this]
theorem Beside.wipe {vs : List Nat} {σ σ' : L2.St} (a : Beside vs (L2.wipe σ vs) σ') : L2.wipe σ' vs = L2.wipe σ vs := by
  apply List.ext_getElem?
  intro i
  rw [wipe_at, wipe_at]
  have hl := a.1
  rw [wipe_length] at hl
  by_cases h : i ∈ vs
  · rw [if_pos h, if_pos h, hl]
  · rw [if_neg h, if_neg h, a.2 i h, wipe_at, if_neg h]
theorem RSl.wipe {K : PySem.W.Frag} {w : Wd} {σd : Sl} {σ : L2.St} (r : RSl K w σd σ) : ∀ vs : List Nat, RSl K w (wipeD σd vs) (L2.wipe σ vs)
  | [] => r
  | v :: vs => by
    have ih := RSl.wipe r vs
    refine ⟨by simpa [wipeD, L2.wipe] using ih.len, fun i d e => ?_⟩
    unfold wipeD at e
    unfold L2.wipe
    by_cases h : v = i
    · subst h
      by_cases hl : v < (wipeD σd vs).length
      · rw [List.getElem?_set_self hl] at e; cases e
      · rw [List.getElem?_eq_none (by simpa using hl)] at e; cases e
    · rw [List.getElem?_set_ne h] at e ⊢
      exact ih.at_ i d e
def liftG (K : PySem.W.Frag) (vs : List Nat) (g : D → Sl → (Sl → Prop) → Prop) : TG := fun v σ H Q => ∃ w σd h d QD, w.H = H ∧ RelW K w h ∧ RSl K w σd σ ∧ RD K w d v ∧ g d σd QD ∧ ∀ σd' σ', RSl K w σd' σ' → Beside vs σ σ' → QD σd' → Q σ' w.H
def liftGs (K : PySem.W.Frag) (vs : List Nat) (g : List D → Sl → (Sl → Prop) → Prop) : TGs := fun xs σ H Q => ∃ w σd h ds QD, w.H = H ∧ RelW K w h ∧ RSl K w σd σ ∧ RDs K w ds xs ∧ g ds σd QD ∧ ∀ σd' σ', RSl K w σd' σ' → Beside vs σ σ' → QD σd' → Q σ' w.H
theorem pg_imp {X : Cx} {e : Expr} {t t' : TG} (p : PG X e t) (i : ∀ v σ H Q, t' v σ H Q → t v σ H Q) : PG X e t' := ⟨fun pins s σ H v u Q I r h => p.run pins s σ H v u Q I r (i v σ H Q h)⟩
theorem pgs_imp {X : Cx} {e : List Expr} {t t' : TGs} (p : PGs X e t) (i : ∀ v σ H Q, t' v σ H Q → t v σ H Q) : PGs X e t' := ⟨fun pins s σ H v u Q I r h => p.run pins s σ H v u Q I r (i v σ H Q h)⟩
section
variable {X : Cx} {pos : Pos}
theorem lg_nm {i : Nat} {x : Str} (hN : X.N.Nodup) (hi : X.N[i]? = some x) (hx : Loc X.env.scope x) (hf : X.fn x = true ∨ X.env.scope.names.lookup x = some .local) : PG X (.Name x pos) (liftG X.K [i] fun d σ Q => Q (σ.set i (some d))) :=
  pg_imp (pg_name hN hi hx hf) fun v σ H Q ⟨w, σd, h, d, QD, eH, rel, rs, r, q, post⟩ => by
    subst eH
    exact post _ _ (rs.set r i) (Beside.set (by simp)) q
theorem asg_cons {e : Expr} {es : List Expr} {env : Env} (h : pl e = true) : (assignEach (e :: es) env).map (·.2) = assign e env :: (assignEach es env).map (·.2) ∧ (assignEach (e :: es) env).length = (assignEach es env).length + 1 ∧ ((assignEach es env).findIdx? (·.1) = none → (assignEach (e :: es) env).findIdx? (·.1) = none) := by
  have q : assignEach (e :: es) env = (false, assign e env) :: assignEach es env := by cases e <;> first | (cases h; done) | rfl
  rw [q]
  refine ⟨rfl, rfl, fun z => ?_⟩
  rw [List.findIdx?_cons]
  simp [z]
theorem lgs_nil : PGs X [] (liftGs X.K [] fun ds σ Q => match ds with
    | [] => Q σ
    | _ :: _ => False) :=
  pgs_imp pgs_nil fun xs σ H Q ⟨w, σd, h, ds, QD, eH, rel, rs, r, q, post⟩ => by
    subst eH
    cases r with
    | nil => exact ⟨rfl, post _ _ rs (Beside.refl _ _) q⟩
    | cons _ _ => exact False.elim q
theorem lgs_cons {e : Expr} {es : List Expr} {vs us : List Nat} {g : D → Sl → (Sl → Prop) → Prop} {gs : List D → Sl → (Sl → Prop) → Prop} (hp : pl e = true) (h1 : PG X e (liftG X.K vs g)) (h2 : PGs X es (liftGs X.K us gs)) :
    PGs X (e :: es) (liftGs X.K (vs ++ us) fun ds σ Q => match ds with
      | [] => False
      | d :: ds => g d σ fun σ' => gs ds σ' Q) :=
  pgs_imp (pgs_cons h1 h2 (asg_cons hp).1) fun xs σ H Q ⟨w, σd, h, ds, QD, eH, rel, rs, r, q, post⟩ => by
    subst eH
    cases r with
    | nil => exact False.elim q
    | cons r rr =>
      refine ⟨_, _, rfl, w, σd, h, _, _, rfl, rel, rs, r, q, fun σd1 σ1 rs1 b1 q1 => ?_⟩
      exact ⟨w, σd1, h, _, _, rfl, rel, rs1, rr, q1, fun σd2 σ2 rs2 b2 q2 => post σd2 σ2 rs2 ((b1.mono fun i hi => List.mem_append_left _ hi).trans (b2.mono fun i hi => List.mem_append_right _ hi)) q2⟩
theorem lg_tp {es : List Expr} {kk n : Nat} {vs : List Nat} {gs : List D → Sl → (Sl → Prop) → Prop} (hc : X.calm = true) (hn : (assignEach es X.env).length = n) (hst : (assignEach es X.env).findIdx? (·.1) = none) (hl : ∀ ds σ Q, gs ds σ Q → ds.length = n)
    (h : PGs X es (liftGs X.K vs gs)) : PG X (.Tuple es kk pos) (liftG X.K vs fun d σ Q => match d with
      | .tup ds => gs ds σ Q
      | _ => False) :=
  pg_imp (pg_tup hc h hn hst) fun v σ H Q ⟨w, σd, h, d, QD, eH, rel, rs, r, q, post⟩ => by
    subst eH
    cases r with
    | tup st ll rr => exact ⟨_, _, rfl, st.sq, by rw [← rr.length]; exact hl _ _ _ q, w, σd, h, _, QD, rfl, rel, rs, rr, q, post⟩
    | _ => exact False.elim q
end

/-! ### what is walked -/
structure ItOk (K : PySem.W.Frag) (w : Wd) (h : Hd) (ds : List D) (stay : Hd → Prop) (J : It) : Prop where
  len : ds.length ≤ sizeLine
  go : ∀ w2 h2, Ext w w2 h h2 → RelW K w2 h2 → stay h2 → ∀ i d, ds[i]? = some d → J.go i w2.H ∧ ∀ x H', J.yld i w2.H x H' → ∃ w3, w3.H = H' ∧ Ext w2 w3 h2 h2 ∧ RelW K w3 h2 ∧ RD K w3 d x
  stop : ∀ w2 h2, Ext w w2 h h2 → RelW K w2 h2 → stay h2 → J.stop ds.length w2.H
abbrev WI := Sl → Hd → (List D → (Hd → Prop) → Hd → Prop) → Prop
def liftI (K : PySem.W.Frag) (wi : WI) : TI := fun σ H R => ∃ w σd h QD, w.H = H ∧ RelW K w h ∧ RSl K w σd σ ∧ wi σd h QD ∧ ∀ w' h' ds stay J, Ext w w' h h' → RelW K w' h' → ItOk K w' h' ds stay J → QD ds stay h' → R J w'.H
theorem pi_imp {X : Cx} {tg e : Expr} {t t' : TI} (p : PI X tg e t) (i : ∀ σ H R, t' σ H R → t σ H R) : PI X tg e t' := ⟨fun pins s σ H R I h => p.run pins s σ H R I (i σ H R h)⟩
theorem itok_list {K : PySem.W.Frag} {w : Wd} {h : Hd} {a : Addr} {ds : List D} {stay : Hd → Prop} (l : ds.length ≤ sizeLine) (at_ : ∀ w2 h2, Ext w w2 h h2 → RelW K w2 h2 → stay h2 → ∃ xs, SqL K w2.H a xs ∧ RDs K w2 ds xs) : ItOk K w h ds stay (Itl K a) where
  len := l
  go := fun w2 h2 x rel st i d e => by
    obtain ⟨xs, s, rs⟩ := at_ w2 h2 x rel st
    obtain ⟨v, ev, rv⟩ := rs.get e
    refine ⟨⟨xs, v, s, ev⟩, fun y H' hy => ?_⟩
    obtain ⟨rfl, hy⟩ := hy
    have := hy xs s
    rw [ev] at this
    cases this
    exact ⟨w2, rfl, Ext.refl _ _, rel, rv⟩
  stop := fun w2 h2 x rel st => by
    obtain ⟨xs, s, rs⟩ := at_ w2 h2 x rel st
    exact ⟨xs, s, by rw [rs.length]; exact Nat.le_refl _⟩
theorem itok_tup {K : PySem.W.Frag} {w : Wd} {h : Hd} {a : Addr} {ds : List D} {xs : List V} (l : ds.length ≤ sizeLine) (st : STup K w a xs) (rs : RDs K w ds xs) : ItOk K w h ds (fun _ => True) (Itt K a) where
  len := l
  go := fun w2 h2 x rel _ i d e => by
    obtain ⟨v, ev, rv⟩ := (rs.mono x).get e
    refine ⟨⟨xs, v, (st.mono x).sq, ev⟩, fun y H' hy => ?_⟩
    obtain ⟨rfl, hy⟩ := hy
    have := hy xs (st.mono x).sq
    rw [ev] at this
    cases this
    exact ⟨w2, rfl, Ext.refl _ _, rel, rv⟩
  stop := fun w2 h2 x rel _ => ⟨xs, (st.mono x).sq, by rw [rs.length]; exact Nat.le_refl _⟩
theorem itok_rng {K : PySem.W.Frag} {w : Wd} {h : Hd} {lo : Int} {n : Nat} (l : n ≤ sizeLine) : ItOk K w h (rngD lo n) (fun _ => True) (Itr lo n) where
  len := by simpa [rngD] using l
  go := fun w2 h2 x rel _ i d e => by
    unfold rngD at e
    rw [List.getElem?_map] at e
    obtain ⟨j, ej, ed⟩ := Option.map_eq_some_iff.mp e
    have hi : i < n := by
      have := (List.getElem?_eq_some_iff.mp ej).1
      simpa using this
    rw [List.getElem?_range hi] at ej
    cases ej
    subst ed
    refine ⟨hi, fun y H' hy => ?_⟩
    obtain ⟨rfl, rfl⟩ := hy
    exact ⟨w2, rfl, Ext.refl _ _, rel, .int _⟩
  stop := fun w2 h2 x rel _ => by
    show n ≤ _
    simp [rngD]
section
variable {X : Cx} {tg : Expr}
/-- a list or a tuple -/
def iSeq (K : PySem.W.Frag) (tl : TE) : TI := fun σ H R => tl σ H fun x H1 => ∃ a, x = .ref a ∧ (((∃ xs, SqL K H1 a xs) ∧ R (Itl K a) H1) ∨ ((∃ xs, SqT K H1 a xs) ∧ R (Itt K a) H1))
theorem pi_seq {l : Expr} {tl : TE} (hl : PE X l tl) : PI X tg l (iSeq X.K tl) := by
  refine ⟨fun pins s σ H R I hw => thn (hl.run pins s σ H _ I hw) fun u s1 ⟨x, H1, J1, r1, a, ex, q⟩ => ?_⟩
  subst ex
  cases (show u = Value.ref a from r1)
  have fr : H1 s1.heap.objs.size = none := J1.hok.fresh (Nat.le_refl _)
  have one : ∀ b ∈ [s1.heap.objs.size], FpOk X pins H1 b := fun b hb => by
    rw [List.mem_singleton.mp hb]
    exact J1.fpOk (Nat.le_refl _) fr
  rcases q with ⟨⟨xs, hq⟩, q⟩ | ⟨⟨xs, hq⟩, q⟩
  · obtain ⟨its, _, pl, _⟩ := J1.list hq
    exact wpAny_pyIter_list pl.isList ⟨_, [s1.heap.objs.size], _, _, H1, rfl, J1.kept (t' := s1.toks) (fun b o e => Heap.get?_push_of_some _ e), turn_list a _, ⟨_, Heap.get?_push_size _ rfl, rfl, rfl⟩, one, q⟩
  · obtain ⟨its, _, pt, _⟩ := J1.tuple hq
    exact wpAny_pyIter_tuple (show s1.heap.IsTuple a its.toArray from pt) ⟨_, [s1.heap.objs.size], _, _, H1, rfl, J1.kept (t' := s1.toks) (fun b o e => Heap.get?_push_of_some _ e), turn_tuple a _, ⟨_, Heap.get?_push_size _ rfl, rfl, rfl⟩, one, q⟩
theorem li_seq {l : Expr} {wa : WE} (hl : PE X l (liftE X.K wa)) : PI X tg l (liftI X.K fun σ h R => wa σ h fun d h1 => seqI d h1 fun ds st => R ds st h1) := by
  refine pi_imp (pi_seq hl) fun σ H R ⟨w, σd, h, QD, eH, rel, rs, q, post⟩ => ?_
  refine ⟨w, σd, h, _, eH, rel, rs, q, fun w1 h1 d v x1 rel1 r1 q1 => ?_⟩
  unfold seqI at q1
  split at q1
  · cases r1 with
    | lst st ll rr =>
      refine ⟨_, rfl, .inl ⟨⟨_, .inl (.inl st.2)⟩, post w1 h1 _ _ _ x1 rel1 (itok_list ll fun w2 h2 x2 _ _ => ?_) q1⟩⟩
      exact ⟨_, .inl (.inl (x2.keep _ _ st.1 st.2)), rr.mono x2⟩
  · cases r1 with
    | tup st ll rr => exact ⟨_, rfl, .inr ⟨⟨_, st.sq⟩, post w1 h1 _ _ _ x1 rel1 (itok_tup ll st rr) q1⟩⟩
  · rename_i n
    split at q1
    · rename_i ds en
      obtain ⟨b, e1, xs, e2, rr, ll⟩ := rel1.has n _ en
      cases r1 with
      | ref e =>
        rw [e] at e1; cases e1
        refine ⟨_, rfl, .inl ⟨⟨_, .inl (.inl e2)⟩, post w1 h1 _ _ _ x1 rel1 (itok_list ll fun w2 h2 x2 rel2 st => ?_) q1⟩⟩
        obtain ⟨b', e1', xs', e2', rr', _⟩ := rel2.has n _ st
        rw [x2.m n _ e] at e1'; cases e1'
        exact ⟨xs', .inl (.inl e2'), rr'⟩
    · exact q1.elim
  · exact q1.elim
theorem li_rng1 {e : Expr} {p pos : Pos} {wa : WE} (hg : Gl X "range") (hm : X.mg "range" = none) (hp : pl e = true) (he : PE X e (liftE X.K wa)) :
    PI X tg (.Call (.Name "range" p) [e] [] pos) (liftI X.K fun σ h R => wa σ h fun d h1 => intO d fun n => (-4611686018427387904 ≤ n ∧ n ≤ 16777216) ∧ R (rngD 0 n.toNat) (fun _ => True) h1) := by
  refine pi_imp (pi_range1 hg hm (la_cons hp he la_nil) (star_pl hp)) fun σ H R ⟨w, σd, h, QD, eH, rel, rs, q, post⟩ => ?_
  refine ⟨w, σd, h, fun ds h1 => match ds with | [d] => (intO d fun n => (-4611686018427387904 ≤ n ∧ n ≤ 16777216) ∧ QD (rngD 0 n.toNat) (fun _ => True) h1) | _ => False, eH, rel, rs, q, fun w1 h1 ds vs x1 rel1 r1 _ q1 => ?_⟩
  match ds, r1, q1 with
  | [d], r1, q1 =>
    obtain ⟨v, rfl, r⟩ := rds1 r1
    obtain ⟨n, rfl, hb, q1⟩ := intO_of r q1
    have hs : sizeLine = 16777216 := sizeLine_eq
    exact ⟨n, rfl, by omega, by omega, post w1 h1 _ _ _ x1 rel1 (itok_rng (by omega)) q1⟩
theorem li_rng2 {e e2 : Expr} {p pos : Pos} {wa wb : WE} (hg : Gl X "range") (hm : X.mg "range" = none) (hp : pl e = true) (hp2 : pl e2 = true) (he : PE X e (liftE X.K wa)) (he2 : PE X e2 (liftE X.K wb)) :
    PI X tg (.Call (.Name "range" p) [e, e2] [] pos) (liftI X.K fun σ h R => wa σ h fun x h1 => wb σ h1 fun y h2 => intO x fun i => intO y fun j => ((-4611686018427387904 ≤ i ∧ i < 4611686018427387904) ∧ (-4611686018427387904 ≤ j ∧ j < 4611686018427387904) ∧ j - i ≤ 16777216) ∧ R (rngD i (j - i).toNat) (fun _ => True) h2) := by
  refine pi_imp (pi_range2 hg hm (la_cons hp he (la_cons hp2 he2 la_nil)) (by rw [star_pl hp, star_pl hp2]; rfl) (star_pl hp2)) fun σ H R ⟨w, σd, h, QD, eH, rel, rs, q, post⟩ => ?_
  refine ⟨w, σd, h, fun ds h1 => match ds with | [x, y] => (intO x fun i => intO y fun j => ((-4611686018427387904 ≤ i ∧ i < 4611686018427387904) ∧ (-4611686018427387904 ≤ j ∧ j < 4611686018427387904) ∧ j - i ≤ 16777216) ∧ QD (rngD i (j - i).toNat) (fun _ => True) h1) | _ => False, eH, rel, rs, q, fun w1 h1 ds vs x1 rel1 r1 _ q1 => ?_⟩
  match ds, r1, q1 with
  | [d, d2], r1, q1 =>
    obtain ⟨v, v2, rfl, r, r2⟩ := rds2 r1
    obtain ⟨i, rfl, q1⟩ := intO_of r q1
    obtain ⟨j, rfl, hb, q1⟩ := intO_of r2 q1
    have hs : sizeLine = 16777216 := sizeLine_eq
    exact ⟨i, j, rfl, by omega, post w1 h1 _ _ _ x1 rel1 (itok_rng (by omega)) q1⟩
/-! ### a list that is being made -/
theorem own_dead {K : PySem.W.Frag} {w : Wd} {h : Hd} {n : Nat} {p : Addr} {o : HO} (rel : RelW K w h) (hm : w.m n = none) (hn : h n = none) (hp : w.H p = none) : Ext w (w.own n p o) h h ∧ RelW K (w.own n p o) h := by
  have x : Ext w (w.own n p o) h h := by
    have y : Ext w (w.own n p o) h (h.set n (.lst [])) := ext_own rel hm hp
    refine ⟨y.m, y.dk, y.keep, y.new, fun k a e q f => ⟨q, (y.dead k a e q f).2⟩⟩
  refine ⟨x, ?_⟩
  have mk : ∀ k, k ≠ n → (w.own n p o).m k = w.m k := fun k hk => if_neg hk
  have r : RelW K (w.own n p (.lst [])) (h.set n (.lst [])) := rel_own rel hm hp ⟨[], upd_same, .nil, Nat.zero_le _⟩
  have ne : ∀ k c, h k = some c → k ≠ n := fun k c e z => by rw [z, hn] at e; cases e
  refine ⟨r.inj, fun k c e => ?_, fun k c e => ?_, fun k a e => ?_, r.fin, fun q e => ?_, rel.dks⟩
  · obtain ⟨a, e1, rc⟩ := rel.has k c e
    refine ⟨a, (mk k (ne k c e)).trans e1, ?_⟩
    have ha : upd w.H p o a = w.H a := upd_ne fun z => rel.there k a e1 (z ▸ hp)
    cases c with
    | lst ds =>
      obtain ⟨xs, e2, rr, l⟩ := rc
      exact ⟨xs, ha.trans e2, rr.mono x, l⟩
    | dK kvs =>
      obtain ⟨xs, e2, e3, rr⟩ := rc
      exact ⟨xs, ha.trans e2, e3, rr.mono x⟩
  · exact fun z => rel.live k c e z.2
  · show upd w.H p o a ≠ none
    by_cases ha : a = p
    · rw [ha, upd_same]; simp
    · rw [upd_ne ha]
      by_cases hk : k = n
      · rw [hk, show (w.own n p o).m n = some p from if_pos rfl] at e
        cases e
        exact absurd rfl ha
      · rw [mk k hk] at e
        exact rel.there k a e
  · obtain ⟨⟨z1, ns, s, t, z2, z3, z4⟩, z5⟩ := rel.deck q e
    have a1 : q.1 ≠ p := fun z => by rw [z, hp] at z2; cases z2
    have a2 : q.2 ≠ p := fun z => by rw [z, hp] at z3; cases z3
    exact ⟨⟨z1, ns, s, t, (upd_ne a1).trans z2, (upd_ne a2).trans z3, z4⟩, (r.deck q e).2⟩
/-- the dead cell's object is turned -/
theorem put_dead {K : PySem.W.Frag} {w : Wd} {h : Hd} {n : Nat} {p : Addr} {o : HO} (rel : RelW K w h) (hm : w.m n = some p) (hn : h n = none) (hf : ¬ w.fz n) : (∀ a u, ¬ w.mut a → w.H a = some u → (w.put p o).H a = some u) ∧ RelW K (w.put p o) h ∧ (∀ d v, RD K w d v → RD K (w.put p o) d v) ∧ ∀ ds vs, RDs K w ds vs → RDs K (w.put p o) ds vs := by
  have kp : ∀ a u, ¬ w.mut a → w.H a = some u → (w.put p o).H a = some u := fun a u q e => (upd_ne fun z : a = p => q (.inl ⟨n, by rw [z]; exact hm, hf⟩)).trans e
  -- as a step that forgets that the cell is dead
  have x : Ext w (w.put p o) (fun k => if k = n then some (.lst []) else h k) h := by
    refine ⟨fun _ _ e => e, fun _ e => e, kp, fun _ q => .inl q, fun k a e q f => ?_⟩
    have hk : k ≠ n := fun z => by rw [z, if_pos rfl] at q; cases q
    rw [if_neg hk] at q
    exact ⟨q, upd_ne fun z : a = p => hk (rel.inj k n p (z ▸ e) hm f hf), f⟩
  refine ⟨kp, ⟨rel.inj, fun k c e => ?_, rel.live, fun k a e => ?_, rel.fin, fun q e => ?_, rel.dks⟩, fun d v r => r.mono x, fun ds vs r => r.mono x⟩
  · obtain ⟨a, e1, rc⟩ := rel.has k c e
    have hk : k ≠ n := fun z => by rw [z, hn] at e; cases e
    have ha : upd w.H p o a = w.H a := upd_ne fun z : a = p => hk (rel.inj k n p (z ▸ e1) hm (rel.live k c e) hf)
    refine ⟨a, e1, ?_⟩
    cases c with
    | lst ds =>
      obtain ⟨xs, e2, rr, l⟩ := rc
      exact ⟨xs, ha.trans e2, rr.mono x, l⟩
    | dK kvs =>
      obtain ⟨xs, e2, e3, rr⟩ := rc
      exact ⟨xs, ha.trans e2, e3, rr.mono x⟩
  · show upd w.H p o a ≠ none
    by_cases ha : a = p
    · rw [ha, upd_same]; simp
    · rw [upd_ne ha]; exact rel.there k a e
  · obtain ⟨⟨z1, ns, s, t, z2, z3, z4⟩, z5⟩ := rel.deck q e
    have a1 : q.1 ≠ p := fun z => (z5 n hf).1 (z ▸ hm)
    have a2 : q.2 ≠ p := fun z => (z5 n hf).2 (z ▸ hm)
    exact ⟨⟨z1, ns, s, t, (upd_ne a1).trans z2, (upd_ne a2).trans z3, z4⟩, z5⟩
end
end G

/-! Comprehensions, loops. -/
namespace G
open PySem PySem.Spec PyProof.Rows L2

theorem ext_put_dead {K : PySem.W.Frag} {w w' : Wd} {h h' : Hd} {n : Nat} {p : Addr} {o : HO} (x : Ext w w' h h') (rel : RelW K w' h') (h0 : w.m n = none) (hm : w'.m n = some p) (hn : h' n = none) (hf : ¬ w'.fz n) : Ext w (w'.put p o) h h' := by
  obtain ⟨kp, _⟩ := put_dead (o := o) rel hm hn hf
  refine ⟨x.m, x.dk, fun a u q e => kp a u (x.nmut q e) (x.keep a u q e), x.new, fun k a e q f => ?_⟩
  obtain ⟨p1, p2, p3⟩ := x.dead k a e q f
  refine ⟨p1, ?_, p3⟩
  have ne : a ≠ p := fun z => by
    have := rel.inj k n p (z ▸ x.m k a e) hm p3 hf
    rw [this, h0] at e
    cases e
  exact (upd_ne ne).trans p2
/-- at a comprehension's end -/
theorem listed_end {K : PySem.W.Frag} {w w2 : Wd} {h h2 : Hd} {n : Nat} {p : Addr} {acc : List D} {xs : List V} {nw : Bool} {QD : Pq} {Q : VK} (x : Ext w w2 h h2) (rel : RelW K w2 h2) (h0 : w.m n = none) (hm : w2.m n = some p) (hn : h2 n = none) (hf : ¬ w2.fz n)
    (hp : w2.H p = some (.lst xs)) (r : RDs K w2 acc xs) (l : acc.length ≤ sizeLine) (q : listed nw acc h2 QD) (post : Post K w h QD Q) : Q (.ref p) w2.H := by
  have nk : ∀ k a, w.m k = some a → k ≠ n := fun k a e z => by rw [z, h0] at e; cases e
  cases nw with
  | true =>
    have q : QD (.ref n) (h2.set n (.lst acc)) := q n hn
    refine post w2 (h2.set n (.lst acc)) (.ref n) (.ref p) ⟨x.m, x.dk, x.keep, x.new, fun k a e z f => ?_⟩ ⟨rel.inj, fun k c e => ?_, fun k c e => ?_, rel.there, rel.fin, rel.deck, rel.dks⟩ (.ref hm) q
    · obtain ⟨p1, p2⟩ := x.dead k a e z f
      exact ⟨by rw [Hd.set_ne (nk k a e)]; exact p1, p2⟩
    · by_cases hk : k = n
      · subst hk
        rw [Hd.set_same] at e; cases e
        exact ⟨p, hm, xs, hp, r, l⟩
      · rw [Hd.set_ne hk] at e
        exact rel.has k c e
    · by_cases hk : k = n
      · rw [hk]; exact hf
      · rw [Hd.set_ne hk] at e
        exact rel.live k c e
  | false =>
    have q : QD (.lst acc) h2 := q
    let w3 : Wd := { w2 with fz := fun k => k = n ∨ w2.fz k }
    have sub : ∀ a, w3.mut a → w2.mut a := fun a z => by
      rcases z with ⟨k, e, nf⟩ | z
      · exact .inl ⟨k, e, fun y => nf (.inr y)⟩
      · exact .inr z
    have y : Ext w2 w3 (fun k => if k = n then some (.lst []) else h2 k) h2 := by
      refine ⟨fun _ _ e => e, fun _ e => e, fun _ _ _ e => e, fun a z => .inl (sub a z), fun k a e z f => ?_⟩
      have hk : k ≠ n := fun z' => by rw [z', if_pos rfl] at z; cases z
      rw [if_neg hk] at z
      exact ⟨z, rfl, fun u => u.elim (fun u => absurd u hk) f⟩
    have nm : ¬ w3.mut p := fun z => by
      rcases z with ⟨k, e, nf⟩ | ⟨dk, e, z⟩
      · exact nf (.inl (rel.inj k n p e hm (fun y => nf (.inr y)) hf))
      · obtain ⟨_, dn⟩ := rel.deck dk e
        rcases z with z | z
        · exact (dn n hf).1 (z ▸ hm)
        · exact (dn n hf).2 (z ▸ hm)
    refine post w3 h2 (.lst acc) (.ref p) ⟨x.m, x.dk, x.keep, fun a z => x.new a (sub a z), fun k a e z f => ?_⟩ ⟨fun i j a e1 e2 f1 f2 => rel.inj i j a e1 e2 (fun z => f1 (.inr z)) fun z => f2 (.inr z), fun k c e => ?_, fun k c e => ?_, rel.there, rel.fin, fun q e => ⟨(rel.deck q e).1, fun i f => (rel.deck q e).2 i fun z => f (.inr z)⟩, rel.dks⟩ (.lst ⟨nm, hp⟩ l (r.mono y)) q
    · obtain ⟨p1, p2, p3⟩ := x.dead k a e z f
      exact ⟨p1, p2, fun u => u.elim (fun u => absurd u (nk k a e)) p3⟩
    · obtain ⟨a, e1, rc⟩ := rel.has k c e
      refine ⟨a, e1, ?_⟩
      cases c with
      | lst ds =>
        obtain ⟨ys, e2, rr, l⟩ := rc
        exact ⟨ys, e2, rr.mono y, l⟩
      | dK kvs =>
        obtain ⟨ys, e2, e3, rr⟩ := rc
        exact ⟨ys, e2, e3, rr.mono y⟩
    · intro u
      rcases u with u | u
      · rw [u, hn] at e; cases e
      · exact rel.live k c e u
/-- the invariant of a comprehension -/
structure CI (K : PySem.W.Frag) (w : Wd) (h : Hd) (n : Nat) (p : Addr) (ds : List D) (go : List D → List D → Hd → Prop) (i : Nat) (H : Hp) : Prop where
  ex : ∃ w2 h2 acc xs, w2.H = H ∧ Ext w w2 h h2 ∧ RelW K w2 h2 ∧ w2.m n = some p ∧ h2 n = none ∧ ¬ w2.fz n ∧ w2.H p = some (.lst xs) ∧ RDs K w2 acc xs ∧ acc.length ≤ i ∧ go (ds.drop i) acc h2
theorem lc_read {K : PySem.W.Frag} {wi : WI} {gd : D → Sl → (Sl → Prop) → Prop} {td : WT} {ed : WE} {nw : Bool} {vs us : List Nat} (hv : ∀ i ∈ us, i ∈ vs) (σ : L2.St) (H : Hp) (Q : VK)
    (hq : liftE K (fun σ h Q => wi σ h fun ds stay h1 => compL (fun d K => gd d (wipeD σ vs) K) td ed stay ds [] h1 fun acc h2 => listed nw acc h2 Q) σ H Q) :
    tLc (liftI K wi) (liftG K us gd) (liftT K td) (liftE K ed) vs σ H Q := by
  obtain ⟨w, σd, h, QD, eH, rel, rs, q, post⟩ := hq
  refine ⟨w, σd, h, _, eH, rel, rs, q, fun w1 h1 ds stay J x1 rel1 it q1 p hp => ?_⟩
  obtain ⟨n, n1, n2⟩ := rel1.fresh
  obtain ⟨x2, rel2⟩ := own_dead (o := .lst []) rel1 n1 n2 hp
  let go := fun (ds acc : List D) (h2 : Hd) => compL (fun d K => gd d (wipeD σd vs) K) td ed stay ds acc h2 fun acc h2 => listed nw acc h2 QD
  refine ⟨fun i m H => m = ds.length - i ∧ i ≤ ds.length ∧ CI K w1 h1 n p ds go i H, ⟨_, rfl, Nat.zero_le _, ⟨_, h1, [], [], rfl, x2, rel2, if_pos rfl, n2, fun z => z.1 rfl, upd_same, .nil, Nat.le_refl _, q1⟩⟩, ?_⟩
  rintro i m H2 ⟨rfl, hi, ⟨w2, h2, acc, xs, rfl, x, rel, hm, hn, hf, hp2, r, la, q2⟩⟩
  by_cases hlt : i < ds.length
  · right
    have hd : ds[i]? = some ds[i] := List.getElem?_eq_getElem hlt
    have q2 : stay h2 ∧ gd ds[i] (wipeD σd vs) fun σ' => td σ' h2 fun b h3 => if b = true then ed σ' h3 fun v h4 => go (ds.drop (i + 1)) (acc ++ [v]) h4 else go (ds.drop (i + 1)) acc h3 := by
      have e := List.drop_eq_getElem_cons hlt
      have q2' : go (ds[i] :: ds.drop (i + 1)) acc h2 := by rw [← e]; exact q2
      exact q2'
    obtain ⟨g1, g2⟩ := it.go w2 h2 x rel q2.1 i _ hd
    refine ⟨g1, CI K w1 h1 n p ds go (i + 1), fun H' hw => ⟨_, by omega, rfl, hlt, hw⟩, fun y H' hy => ?_⟩
    obtain ⟨w3, rfl, x3, rel3, ry⟩ := g2 y H' hy
    have rs3 : RSl K w3 σd σ := ((rs.mono x1).mono x).mono x3
    refine ⟨w3, wipeD σd vs, h2, ds[i], _, rfl, rel3, rs3.wipe vs, ry, q2.2, fun σd' σ' rs' b' q3 => ⟨(b'.mono hv).wipe, ?_⟩⟩
    refine ⟨w3, σd', h2, _, rfl, rel3, rs', q3, fun w4 h4 b x4 rel4 q4 => ?_⟩
    have n3 : w3.m n = some p := x3.m n p hm
    have d3 := x3.dead n p hm hn hf
    have d4 := x4.dead n p n3 d3.1 d3.2.2
    cases b with
    | false =>
      replace q4 : go (ds.drop (i + 1)) acc h4 := q4
      show CI K w1 h1 n p ds go (i + 1) w4.H
      exact ⟨w4, h4, acc, xs, rfl, (x.trans x3).trans x4, rel4, x4.m n p n3, d4.1, d4.2.2, by rw [d4.2.1, d3.2.1]; exact hp2, (r.mono x3).mono x4, by omega, q4⟩
    | true =>
      replace q4 : ed σd' h4 fun v h4 => go (ds.drop (i + 1)) (acc ++ [v]) h4 := q4
      show liftE K ed σ' w4.H fun y H4 => ∃ acc, H4 p = some (.lst acc) ∧ acc.length < sizeLine ∧ CI K w1 h1 n p ds go (i + 1) (upd H4 p (.lst (acc ++ [y])))
      refine ⟨w4, σd', h4, _, rfl, rel4, rs'.mono x4, q4, fun w5 h5 d v x5 rel5 r5 q5 => ?_⟩
      have n4 := x4.m n p n3
      have d5 := x5.dead n p n4 d4.1 d4.2.2
      have n5 := x5.m n p n4
      have f5 : ¬ w5.fz n := d5.2.2
      have h5p : w5.H p = some (.lst xs) := by rw [d5.2.1, d4.2.1, d3.2.1]; exact hp2
      have xx : Ext w1 w5 h1 h5 := ((x.trans x3).trans x4).trans x5
      obtain ⟨_, rel6, _, rds6⟩ := put_dead (o := .lst (xs ++ [v])) rel5 n5 d5.1 f5
      have r6 : RDs K w5 (acc ++ [d]) (xs ++ [v]) := ((((r.mono x3).mono x4).mono x5)).append (.cons r5 .nil)
      have hl : xs.length < sizeLine := by
        have := it.len
        have := r.length
        omega
      refine ⟨xs, h5p, hl, ⟨w5.put p (.lst (xs ++ [v])), h5, acc ++ [d], xs ++ [v], rfl, ext_put_dead xx rel5 n1 n5 d5.1 f5, rel6, n5, d5.1, f5, upd_same, rds6 _ _ r6, ?_, q5⟩⟩
      rw [List.length_append]
      exact Nat.succ_le_succ la
  · left
    have ei : i = ds.length := by omega
    subst ei
    have q2 : stay h2 ∧ listed nw acc h2 QD := by
      have e : ds.drop ds.length = [] := List.drop_length
      have q2' : go [] acc h2 := by rw [← e]; exact q2
      exact q2'
    exact ⟨it.stop w2 h2 x rel q2.1, listed_end x rel n1 hm hn hf hp2 r (Nat.le_trans la it.len) q2.2 (post.ext x1)⟩

/-! ### statements -/
def PostS (K : PySem.W.Frag) (w : Wd) (h : Hd) (E : Ed) (D : Ends) : Prop :=
  (∀ w' h' σd σ, Ext w w' h h' → RelW K w' h' → RSl K w' σd σ → E.nx σd h' → D.nx σ w'.H) ∧ Post K w h E.rt D.rt ∧
  (∀ w' h' σd σ, Ext w w' h h' → RelW K w' h' → RSl K w' σd σ → E.bk σd h' → D.bk σ w'.H) ∧
  (∀ w' h' σd σ, Ext w w' h h' → RelW K w' h' → RSl K w' σd σ → E.ct σd h' → D.ct σ w'.H)
theorem PostS.ext {K : PySem.W.Frag} {w w1 : Wd} {h h1 : Hd} {E : Ed} {D : Ends} (p : PostS K w h E D) (x : Ext w w1 h h1) : PostS K w1 h1 E D :=
  ⟨fun w' h' σd σ y => p.1 w' h' σd σ (x.trans y), p.2.1.ext x, fun w' h' σd σ y => p.2.2.1 w' h' σd σ (x.trans y), fun w' h' σd σ y => p.2.2.2 w' h' σd σ (x.trans y)⟩
abbrev WS := Ed → Sl → Hd → Prop
def liftS (K : PySem.W.Frag) (wp : WS) : TS := fun D σ H => ∃ w σd h E, w.H = H ∧ RelW K w h ∧ RSl K w σd σ ∧ wp E σd h ∧ PostS K w h E D
section
variable {X : Cx} {e e1 e2 : Expr} {pos : Pos} {wa wb wc : WE} {ta : WT} {sa sb : WS}
theorem s_nil : PSs X [] (liftS X.K fun E σ h => E.nx σ h) := pss_imp pss_nil fun D σ H ⟨w, σd, h, E, eH, rel, rs, q, post⟩ => by subst eH; exact post.1 w h σd σ (Ext.refl _ _) rel rs q
theorem s_cons {st : Stmt} {ss : List Stmt} (h1 : PS X st (liftS X.K sa)) (h2 : PSs X ss (liftS X.K sb)) : PSs X (st :: ss) (liftS X.K fun E σ h => sa { nx := sb E, rt := E.rt, bk := E.bk, ct := E.ct } σ h) := by
  refine pss_imp (pss_cons h1 h2) fun D σ H ⟨w, σd, h, E, eH, rel, rs, q, post⟩ => ?_
  refine ⟨w, σd, h, _, eH, rel, rs, q, fun w1 h1 σd1 σ1 x1 rel1 rs1 q1 => ?_, post.2.1, post.2.2.1, post.2.2.2⟩
  exact ⟨w1, σd1, h1, E, rfl, rel1, rs1, q1, post.ext x1⟩
theorem s_pass : PS X (.Pass pos) (liftS X.K fun E σ h => E.nx σ h) := ps_imp ps_pass fun D σ H ⟨w, σd, h, E, eH, rel, rs, q, post⟩ => by subst eH; exact post.1 w h σd σ (Ext.refl _ _) rel rs q
theorem s_brk : PS X (.Break pos) (liftS X.K fun E σ h => E.bk σ h) := ps_imp ps_break fun D σ H ⟨w, σd, h, E, eH, rel, rs, q, post⟩ => by subst eH; exact post.2.2.1 w h σd σ (Ext.refl _ _) rel rs q
theorem s_cont : PS X (.Continue pos) (liftS X.K fun E σ h => E.ct σ h) := ps_imp ps_continue fun D σ H ⟨w, σd, h, E, eH, rel, rs, q, post⟩ => by subst eH; exact post.2.2.2 w h σd σ (Ext.refl _ _) rel rs q
theorem s_exp (hn : nlc e = true) (he : PE X e (liftE X.K wa)) : PS X (.Expr e pos) (liftS X.K fun E σ h => wa σ h fun _ h1 => E.nx σ h1) := by
  refine ps_imp (ps_expr he (sw_nlc hn)) fun D σ H ⟨w, σd, h, E, eH, rel, rs, q, post⟩ => ?_
  exact ⟨w, σd, h, _, eH, rel, rs, q, fun w1 h1 d v x1 rel1 r1 q1 => post.1 w1 h1 σd σ x1 rel1 (rs.mono x1) q1⟩
theorem s_ret (he : PE X e (liftE X.K wa)) : PS X (.Return (some e) pos) (liftS X.K fun E σ h => wa σ h E.rt) := by
  refine ps_imp (ps_ret he) fun D σ H ⟨w, σd, h, E, eH, rel, rs, q, post⟩ => ?_
  exact ⟨w, σd, h, _, eH, rel, rs, q, post.2.1⟩
theorem s_retN : PS X (.Return none pos) (liftS X.K fun E _ h => E.rt .non h) := ps_imp ps_retN fun D σ H ⟨w, σd, h, E, eH, rel, rs, q, post⟩ => by subst eH; exact post.2.1.now rel .non q
theorem s_ite {a b : List Stmt} (hc : PT X e (liftT X.K ta)) (ha : PSs X a (liftS X.K sa)) (hb : PSs X b (liftS X.K sb)) : PS X (.If e a b pos) (liftS X.K fun E σ h => ta σ h fun k h1 => if k = true then sa E σ h1 else sb E σ h1) := by
  refine ps_imp (ps_if hc ha hb) fun D σ H ⟨w, σd, h, E, eH, rel, rs, q, post⟩ => ?_
  refine ⟨w, σd, h, _, eH, rel, rs, q, fun w1 h1 k x1 rel1 q1 => ?_⟩
  cases k with
  | true => exact ⟨w1, σd, h1, E, rfl, rel1, rs.mono x1, q1, post.ext x1⟩
  | false => exact ⟨w1, σd, h1, E, rfl, rel1, rs.mono x1, q1, post.ext x1⟩
theorem s_asg {tg : Expr} {us : List Nat} {gd : D → Sl → (Sl → Prop) → Prop} (he : PE X e (liftE X.K wa)) (hg : PG X tg (liftG X.K us gd)) (hs : swapsWithSole [tg] e pos.line X.env = pure false) (hw : swappedStores [tg] e X.env = pure none) (h1 : (assignEach [tg] X.env).map (·.2) = [assign tg X.env]) :
    PS X (.Assign [tg] e pos) (liftS X.K fun E σ h => wa σ h fun d h1 => gd d σ fun σ' => E.nx σ' h1) := by
  refine ps_imp (ps_asg he hg hs hw h1) fun D σ H ⟨w, σd, h, E, eH, rel, rs, q, post⟩ => ?_
  refine ⟨w, σd, h, _, eH, rel, rs, q, fun w1 h1 d v x1 rel1 r1 q1 => ?_⟩
  exact ⟨w1, σd, h1, d, _, rfl, rel1, rs.mono x1, r1, q1, fun σd' σ' rs' _ q2 => post.1 w1 h1 σd' σ' x1 rel1 rs' q2⟩
theorem s_put (hu : X.A.units + 1 < cLine) (hp : pl e2 = true) (hn : nlc e = true) {tpos : Pos} (he : PE X e (liftE X.K wa)) (ho : PE X e1 (liftE X.K wb)) (hi : PE X e2 (liftE X.K wc)) :
    PS X (.Assign [.Subscript e1 e2 tpos] e pos) (liftS X.K fun E σ h => wa σ h fun v h1 => wb σ h1 fun x h2 => wc σ h2 fun y h3 => setD x y v h3 fun h4 => E.nx σ h4) := by
  have ha : ∀ v, assign (.Subscript e1 e2 tpos) X.env v = (do
      let ov ← holding [v] (eval e1 X.env)
      let iv ← holding [v, ov] (eval e2 X.env)
      standAt tpos
      holding [v, ov, iv] (setItem ov iv v)
      release [v, ov, iv] []) := by
    intro v
    cases e2 <;> first | (cases hp; done) | rfl
  refine ps_imp (ps_asg he (pg_sub ho hi (o_set hu) ha) (show swapsWith e (some (.Subscript e1 e2 tpos)) pos.line X.env = pure false from sw_nlc hn) (by cases e <;> rfl) rfl) fun D σ H ⟨w, σd, h, E, eH, rel, rs, q, post⟩ => ?_
  refine ⟨w, σd, h, _, eH, rel, rs, q, fun w1 h1 d1 v1 x1 rel1 r1 q1 => ?_⟩
  refine ⟨w1, σd, h1, _, rfl, rel1, rs.mono x1, q1, fun w2 h2 d2 v2 x2 rel2 r2 q2 => ?_⟩
  refine ⟨w2, σd, h2, _, rfl, rel2, (rs.mono x1).mono x2, q2, fun w3 h3 d3 v3 x3 rel3 r3 q3 => ?_⟩
  exact ⟨w3, h3, d2, d3, d1, _, rfl, rel3, r2.mono x3, r3, (r1.mono x2).mono x3, q3, fun w4 h4 x4 rel4 q4 => post.1 w4 h4 σd σ (((x1.trans x2).trans x3).trans x4) rel4 ((((rs.mono x1).mono x2).mono x3).mono x4) q4⟩
theorem s_aug {i : Nat} {x : Str} {op : Operator} {pos' : Pos} (hN : X.N.Nodup) (hi : X.N[i]? = some x) (hx : Loc X.env.scope x) (hf : X.fn x = true ∨ X.env.scope.names.lookup x = some .local) (he : PE X e (liftE X.K wa)) :
    PS X (.AugAssign (.Name x pos') op e pos) (liftS X.K fun E σ h => getS σ i fun x => wa σ h fun y h1 => augD op x y h1 fun z h2 => E.nx (σ.set i (some z)) h2) := by
  have ip : PIp X op (R2of X.K (augD op)) := fun pins s σ H x y v u Q I rx ry q => o_aug op pins s σ H x y v u Q I rx ry q
  refine ps_imp (ps_aug hN hi hx he ip hf) fun D σ H ⟨w, σd, h, E, eH, rel, rs, q, post⟩ => ?_
  replace q : getS σd i fun x => wa σd h fun y h1 => augD op x y h1 fun z h2 => E.nx (σd.set i (some z)) h2 := q
  unfold getS at q
  split at q
  · rename_i d ed
    obtain ⟨v, ev, rv⟩ := rs.at_ i d ed
    subst eH
    refine ⟨v, ev, w, σd, h, _, rfl, rel, rs, q, fun w1 h1 d1 v1 x1 rel1 r1 q1 => ?_⟩
    exact ⟨w1, h1, d, d1, _, rfl, rel1, rv.mono x1, r1, q1, fun w2 h2 d2 v2 x2 rel2 r2 q2 => post.1 w2 h2 _ _ (x1.trans x2) rel2 (((rs.mono x1).mono x2).set r2 i) q2⟩
  · exact q.elim
theorem s_whl {b : List Stmt} (hx : X.xe = fun _ _ => False) (hc : PT X e (liftT X.K ta)) (hb : PSs X b (liftS X.K sb)) : PS X (.While e b [] pos) (liftS X.K fun E σ h => whileL ta sb E σ h) := by
  have hp : PassesOwn (model X.prog X.w) X.A X.env X.xe := by rw [hx]; exact PassesOwn.never
  refine ps_imp (ps_while hp hc hb) fun D σ H ⟨w, σd, h, E, eH, rel, rs, q, post⟩ => ?_
  obtain ⟨W, ⟨m0, w0⟩, turn⟩ := q
  refine ⟨fun m σ H => ∃ w' σd' h', w'.H = H ∧ Ext w w' h h' ∧ RelW X.K w' h' ∧ RSl X.K w' σd' σ ∧ W m σd' h', ⟨m0, w, σd, h, eH, Ext.refl _ _, rel, rs, w0⟩, ?_⟩
  rintro m σ1 H1 ⟨w1, σd1, h1, rfl, x1, rel1, rs1, w1'⟩
  refine ⟨w1, σd1, h1, _, rfl, rel1, rs1, turn m σd1 h1 w1', fun w2 h2 k x2 rel2 q2 => ?_⟩
  cases k with
  | false => exact post.1 w2 h2 σd1 σ1 (x1.trans x2) rel2 (rs1.mono x2) q2
  | true =>
    have nx : ∀ w' h' σd' σ', Ext w2 w' h2 h' → RelW X.K w' h' → RSl X.K w' σd' σ' → (∃ m', m' < m ∧ W m' σd' h') → ∃ m', m' < m ∧ ∃ w'' σd'' h'', w''.H = w'.H ∧ Ext w w'' h h'' ∧ RelW X.K w'' h'' ∧ RSl X.K w'' σd'' σ' ∧ W m' σd'' h'' :=
      fun w' h' σd' σ' x' rel' rs' ⟨m', hm, hw⟩ => ⟨m', hm, w', σd', h', rfl, (x1.trans x2).trans x', rel', rs', hw⟩
    refine ⟨fun σ' H' => ∃ m', m' < m ∧ ∃ w' σd' h', w'.H = H' ∧ Ext w w' h h' ∧ RelW X.K w' h' ∧ RSl X.K w' σd' σ' ∧ W m' σd' h', fun σ' H' z => z, ?_⟩
    exact ⟨w2, σd1, h2, _, rfl, rel2, rs1.mono x2, q2, nx, post.2.1.ext (x1.trans x2), fun w' h' σd' σ' x' rel' rs' q' => post.1 w' h' σd' σ' ((x1.trans x2).trans x') rel' rs' q', nx⟩
theorem s_for {tg iter : Expr} {b : List Stmt} {us : List Nat} {wi : WI} {gd : D → Sl → (Sl → Prop) → Prop} (hx : X.xe = fun _ _ => False) (hc : X.calm = true) (hpl : pl iter = true) (hi : PI X tg iter (liftI X.K wi)) (hg : PG X tg (liftG X.K us gd)) (hb : PSs X b (liftS X.K sb)) :
    PS X (.For tg iter b [] pos) (liftS X.K fun E σ h => wi σ h fun ds stay h1 => forL gd sb stay E ds σ h1) := by
  have hp : PassesOwn (model X.prog X.w) X.A X.env X.xe := by rw [hx]; exact PassesOwn.never
  refine ps_imp (ps_for hp hc hi hg hb (fold_pl hpl)) fun D σ H ⟨w, σd, h, E, eH, rel, rs, q, post⟩ => ?_
  refine ⟨w, σd, h, _, eH, rel, rs, q, fun w1 h1 ds stay J x1 rel1 it q1 => ?_⟩
  refine ⟨fun i m σ H => m = ds.length - i ∧ i ≤ ds.length ∧ ∃ w' σd' h', w'.H = H ∧ Ext w1 w' h1 h' ∧ RelW X.K w' h' ∧ RSl X.K w' σd' σ ∧ forL gd sb stay E (ds.drop i) σd' h', ⟨_, rfl, Nat.zero_le _, w1, σd, h1, rfl, Ext.refl _ _, rel1, rs.mono x1, q1⟩, ?_⟩
  rintro i m σ2 H2 ⟨rfl, hi, w2, σd2, h2, rfl, x2, rel2, rs2, q2⟩
  by_cases hlt : i < ds.length
  · right
    have hd : ds[i]? = some ds[i] := List.getElem?_eq_getElem hlt
    have q2 : stay h2 ∧ gd ds[i] σd2 fun σ' => sb { nx := forL gd sb stay E (ds.drop (i + 1)), ct := forL gd sb stay E (ds.drop (i + 1)), bk := E.nx, rt := E.rt } σ' h2 := by
      rw [List.drop_eq_getElem_cons hlt] at q2
      exact q2
    obtain ⟨g1, g2⟩ := it.go w2 h2 x2 rel2 q2.1 i _ hd
    have xx := x1.trans x2
    refine ⟨g1, fun σ' H' => ∃ w' σd' h', w'.H = H' ∧ Ext w1 w' h1 h' ∧ RelW X.K w' h' ∧ RSl X.K w' σd' σ' ∧ forL gd sb stay E (ds.drop (i + 1)) σd' h', fun σ' H' z => ⟨_, by omega, rfl, hlt, z⟩, fun y H' hy => ?_⟩
    obtain ⟨w3, rfl, x3, rel3, ry⟩ := g2 y H' hy
    refine ⟨w3, σd2, h2, _, _, rfl, rel3, rs2.mono x3, ry, q2.2, fun σd3 σ3 rs3 _ q3 => ?_⟩
    refine ⟨w3, σd3, h2, _, rfl, rel3, rs3, q3, ?_, post.2.1.ext (xx.trans x3), fun w' h' σd' σ' x' rel' rs' q' => post.1 w' h' σd' σ' ((xx.trans x3).trans x') rel' rs' q', ?_⟩
    · exact fun w' h' σd' σ' x' rel' rs' q' => ⟨w', σd', h', rfl, (x2.trans x3).trans x', rel', rs', q'⟩
    · exact fun w' h' σd' σ' x' rel' rs' q' => ⟨w', σd', h', rfl, (x2.trans x3).trans x', rel', rs', q'⟩
  · left
    have ei : i = ds.length := by omega
    subst ei
    rw [List.drop_length] at q2
    exact ⟨it.stop w2 h2 x2 rel2 q2.1, post.1 w2 h2 σd2 σ2 (x1.trans x2) rel2 rs2 q2.2⟩
end
end G

/-! Stores of several names; a comprehension stored. -/
namespace G
open PySem PySem.Spec PyProof.Rows L2

def isTupE : Expr → Bool
  | .Tuple _ _ _ => true
  | _ => false
def locN (sc : Scope) (l : Nat) : Expr → Bool
  | .Name x p => decide (sc.names.lookup x = some .local) && (p.line == l)
  | _ => false
/-- the stores are not exchanged -/
def swNo (sc : Scope) (ts vs : List Expr) : Bool :=
  (!(ts.length == 2 || ts.length == 3)) || vs.all (foldedForSure 8) || ts.any fun t => !locN sc ((ts.head?.map (·.pos.line)).getD 0) t
theorem filt_lt {α β : Type} (f : α → Option β) : ∀ (l : List α), (∃ a ∈ l, f a = none) → (l.filterMap f).length ≠ l.length
  | [], h => by obtain ⟨_, h, _⟩ := h; cases h
  | a :: l, h => by
    rw [List.filterMap_cons]
    have le := List.length_filterMap_le f l
    cases e : f a with
    | none => simp; omega
    | some b =>
      simp only [List.length_cons, ne_eq, Nat.add_right_cancel_iff]
      obtain ⟨c, hc, z⟩ := h
      rcases List.mem_cons.mp hc with rfl | hc
      · rw [e] at z; cases z
      · exact filt_lt f l ⟨c, hc, z⟩
theorem sw_no {ts vs : List Expr} {k k2 : Nat} {p p2 : Pos} {env : Env} (h : swNo env.scope ts vs = true) : swappedStores [.Tuple ts k p] (.Tuple vs k2 p2) env = pure none := by
  unfold swappedStores
  simp only
  split
  · rfl
  · split
    · rfl
    · split
      · rfl
      · rename_i h1 h2 h3
        split
        · rfl
        · rename_i h4
          exfalso
          unfold swNo at h
          simp only [Bool.or_eq_true] at h
          rcases h with (h | h) | h
          · apply h1
            rw [h]
            rfl
          · exact h4 h
          · apply h3
            rw [Bool.or_eq_true]
            left
            rw [List.any_eq_true] at h
            obtain ⟨t, ht, hn⟩ := h
            rw [bne_iff_ne]
            refine filt_lt _ ts ⟨t, ht, ?_⟩
            cases t <;> try rfl
            rename_i x q
            simp only [locN, Bool.not_eq_true', Bool.and_eq_false_iff, decide_eq_false_iff_not] at hn
            have : ¬ (env.kindOf x == some NameKind.local && q.line == (ts.head?.map (·.pos.line)).getD 0) = true := by
              rw [Bool.and_eq_true, beq_iff_eq]
              rintro ⟨a, b⟩
              rcases hn with hn | hn
              · exact hn a
              · rw [hn] at b; cases b
            exact if_neg this
theorem sw_tup {e : Expr} {ts : List Expr} {k : Nat} {p : Pos} {env : Env} (h : isTupE e = false) : swappedStores [.Tuple ts k p] e env = pure none := by
  cases e <;> first | rfl | (cases h; done)
theorem sw_name {e : Expr} {x : Str} {p : Pos} {env : Env} : swappedStores [.Name x p] e env = pure none := rfl
def starE : Expr → Bool
  | .Starred _ _ => true
  | _ => false
theorem sw_2 {x y : Str} {px py p p2 : Pos} {k k2 : Nat} {a b : Expr} {env : Env} (hk : env.blockKind = .function) (ha : pl a = true) (hb : pl b = true) (hx : env.kindOf x = some .local) (hy : env.kindOf y = some .local) (hl : (py.line == px.line) = true) (ne : x ≠ y)
    (hf : [a, b].all (foldedForSure 8) = false) (hc : [a, b].all (constantsAlone 8) = false) : swappedStores [.Tuple [.Name x px, .Name y py] k p] (.Tuple [a, b] k2 p2) env = pure (some [x, y]) := by
  unfold swappedStores
  have st : ∀ e : Expr, pl e = true → (match e with | .Starred _ _ => true | _ => false) = false := fun e h => by cases e <;> first | rfl | (cases h; done)
  have hs : ([a, b].any fun | .Starred .. => true | _ => false) = false := by
    simp only [List.any_cons, List.any_nil, Bool.or_false, Bool.or_eq_false_iff]
    exact ⟨st a ha, st b hb⟩
  have h0 : (px.line == px.line) = true := beq_self_eq_true _
  have hd : [x, y].eraseDups = [x, y] := by
    simp [List.eraseDups_cons, ne.symm]
  simp only [List.length_cons, List.length_nil, hk, hs, hf, hc, Expr.pos, List.head?_cons, Option.map_some, Option.getD_some, List.filterMap_cons, List.filterMap_nil, hx, hy, hl, h0, hd, Bool.false_eq_true, if_false]
  simp [hx, hy, hl, hd, hf, hc]
  rintro (q | q)
  · cases a <;> first | (cases ha; done) | (cases q; done)
  · cases b <;> first | (cases hb; done) | (cases q; done)
theorem sw_3 {x y z : Str} {px py pz p p2 : Pos} {k k2 : Nat} {a b c : Expr} {env : Env} (hk : env.blockKind = .function) (ha : pl a = true) (hb : pl b = true) (hcc : pl c = true) (hx : env.kindOf x = some .local) (hy : env.kindOf y = some .local) (hz : env.kindOf z = some .local) (hl : (py.line == px.line) = true) (hl2 : (pz.line == px.line) = true) (ne : x ≠ y) (ne2 : x ≠ z) (ne3 : y ≠ z)
    (hf : [a, b, c].all (foldedForSure 8) = false) (hc : [a, b, c].all (constantsAlone 8) = false) : swappedStores [.Tuple [.Name x px, .Name y py, .Name z pz] k p] (.Tuple [a, b, c] k2 p2) env = pure (some [x, y, z]) := by
  unfold swappedStores
  have st : ∀ e : Expr, pl e = true → (match e with | .Starred _ _ => true | _ => false) = false := fun e h => by cases e <;> first | rfl | (cases h; done)
  have hs : ([a, b, c].any fun | .Starred .. => true | _ => false) = false := by
    simp only [List.any_cons, List.any_nil, Bool.or_false, Bool.or_eq_false_iff]
    exact ⟨st a ha, st b hb, st c hcc⟩
  have h0 : (px.line == px.line) = true := beq_self_eq_true _
  have hd : [x, y, z].eraseDups = [x, y, z] := by
    simp [List.eraseDups_cons, ne.symm, ne2.symm, ne3.symm]
  simp only [List.length_cons, List.length_nil, hk, hs, hf, hc, Expr.pos, List.head?_cons, Option.map_some, Option.getD_some, List.filterMap_cons, List.filterMap_nil, hx, hy, hz, hl, hl2, h0, hd, Bool.false_eq_true, if_false]
  simp [hx, hy, hz, hl, hl2, hd, hf, hc]
  rintro (q | q | q)
  · cases a <;> first | (cases ha; done) | (cases q; done)
  · cases b <;> first | (cases hb; done) | (cases q; done)
  · cases c <;> first | (cases hcc; done) | (cases q; done)
/-- whether the store of a comprehension is made within it -/
def swLc (sc : Scope) (y : Str) (py : Pos) (scope : Scope) (pos : Pos) : Bool :=
  decide (sc.names.lookup y = some .local) && (py.line == pos.line) && !(scope.names.any fun (n, k) => n == y && (k == .local || k == .cell))
theorem sw_lcF {elt : Expr} {gs : List Comprehension} {scope : Scope} {pos py : Pos} {y : Str} {l : Nat} {env : Env} (h : swLc env.scope y py scope pos = false) : swapsWith (.ListComp elt gs scope pos) (some (.Name y py)) l env = pure false := by
  unfold swapsWith
  simp only [Expr.pos]
  congr 1
  unfold swLc at h
  have e : (env.kindOf y == some NameKind.local) = decide (env.scope.names.lookup y = some .local) := by
    rw [Bool.eq_iff_iff, beq_iff_eq, decide_eq_true_iff]
    exact Iff.rfl
  rw [e, Bool.and_assoc, Bool.and_assoc, ← Bool.and_assoc (decide _), h, Bool.and_false]
section
variable {X : Cx} {pos : Pos} {wl : WA}
theorem rdsL2 {K : PySem.W.Frag} {w : Wd} {ds : List D} {vs : List V} (r : RDs K w ds vs) (l : ds.length = 2) : ∃ d e v u, ds = [d, e] ∧ vs = [v, u] ∧ RD K w d v ∧ RD K w e u := by
  match ds, l with
  | [d, e], _ =>
    obtain ⟨v, u, h1, h2, h3⟩ := rds2 r
    exact ⟨d, e, v, u, rfl, h1, h2, h3⟩
theorem s_par2 {i j : Nat} {x y : Str} {a b : Expr} {px py pt : Pos} {kt k2 : Nat} {pt2 : Pos} (hc : X.calm = true) (hN : X.N.Nodup) (hi : X.N[i]? = some x) (hj : X.N[j]? = some y) (hij : i ≠ j)
    (hx : X.env.scope.names.lookup x = some .local) (hy : X.env.scope.names.lookup y = some .local) (ha : PA X [a, b] (liftA X.K 2 wl))
    (hw : swappedStores [.Tuple [.Name x px, .Name y py] kt pt] (.Tuple [a, b] k2 pt2) X.env = pure (some [x, y])) :
    PS X (.Assign [.Tuple [.Name x px, .Name y py] kt pt] (.Tuple [a, b] k2 pt2) pos) (liftS X.K fun E σ h => wl σ h fun ds h1 => E.nx (setAll σ [i, j] ds) h1) := by
  refine ps_imp (ps_par hc hN hi hj hij hx hy ha hw rfl) fun D σ H ⟨w, σd, h, E, eH, rel, rs, q, post⟩ => ?_
  refine ⟨w, σd, h, _, eH, rel, rs, q, fun w1 h1 ds vs x1 rel1 r1 l1 q1 => ?_⟩
  obtain ⟨d, e, v, u, rfl, rfl, rv, ru⟩ := rdsL2 r1 l1
  exact ⟨v, u, rfl, post.1 w1 h1 _ _ x1 rel1 (((rs.mono x1).set rv i).set ru j) q1⟩
theorem s_par3 {i j l : Nat} {x y z : Str} {a b c : Expr} {px py pz pt : Pos} {kt k2 : Nat} {pt2 : Pos} (hc : X.calm = true) (hN : X.N.Nodup) (hi : X.N[i]? = some x) (hj : X.N[j]? = some y) (hll : X.N[l]? = some z) (hij : i ≠ j) (hil : i ≠ l) (hjl : j ≠ l)
    (hx : X.env.scope.names.lookup x = some .local) (hy : X.env.scope.names.lookup y = some .local) (hz : X.env.scope.names.lookup z = some .local) (ha : PA X [a, b, c] (liftA X.K 3 wl))
    (hw : swappedStores [.Tuple [.Name x px, .Name y py, .Name z pz] kt pt] (.Tuple [a, b, c] k2 pt2) X.env = pure (some [x, y, z])) :
    PS X (.Assign [.Tuple [.Name x px, .Name y py, .Name z pz] kt pt] (.Tuple [a, b, c] k2 pt2) pos) (liftS X.K fun E σ h => wl σ h fun ds h1 => E.nx (setAll σ [i, j, l] ds) h1) := by
  refine ps_imp (ps_par3 hc hN hi hj hll hij hil hjl hx hy hz ha hw rfl) fun D σ H ⟨w, σd, h, E, eH, rel, rs, q, post⟩ => ?_
  refine ⟨w, σd, h, _, eH, rel, rs, q, fun w1 h1 ds vs x1 rel1 r1 l1 q1 => ?_⟩
  match ds, l1, r1 with
  | [d, e, f], _, .cons rd rr =>
    obtain ⟨v, u, rfl, re, rf⟩ := rds2 rr
    exact ⟨_, v, u, rfl, post.1 w1 h1 _ _ x1 rel1 ((((rs.mono x1).set rd i).set re j).set rf l) q1⟩
/-- a comprehension as a value, as what is stored -/
theorem l_lc {elt tg iter : Expr} {ifs : List Expr} {scope : Scope} {own : List (Str × Nat)} {wi : WI} {us : List Nat} {gd : D → Sl → (Sl → Prop) → Prop} {td : WT} {ed : WE} {nw : Bool} (hc : X.calm = true) (hN : X.N.Nodup) (hv : ∀ i ∈ us, i ∈ own.map (·.2)) (hpl : pl iter = true)
    (hi : PI X tg iter (liftI X.K wi)) (ok : BlkOk X.N X.env.scope scope own)
    (hg : ∀ (s : Shared) (H : Hp) (C : Addr) (cl : List (Str × Addr)) (fp : List Addr), PG (X.blk s H scope (compEnvC scope cl C X.env) fp) tg (liftG X.K us gd))
    (ht : ∀ (s : Shared) (H : Hp) (C : Addr) (cl : List (Str × Addr)) (fp : List Addr), PTs (X.blk s H scope (compEnvC scope cl C X.env) fp) ifs (liftT X.K td))
    (he : ∀ (s : Shared) (H : Hp) (C : Addr) (cl : List (Str × Addr)) (fp : List Addr), PE (X.blk s H scope (compEnvC scope cl C X.env) fp) elt (liftE X.K ed)) :
    PE X (.ListComp elt [⟨tg, iter, ifs, 0⟩] scope pos) (liftE X.K fun σ h Q => wi σ h fun ds stay h1 => compL (fun d K => gd d (wipeD σ (own.map (·.2))) K) td ed stay ds [] h1 fun acc h2 => listed nw acc h2 Q) :=
  pe_imp (pe_lc hc hN hi ok hg ht he (fold_pl hpl)) (lc_read hv)
theorem s_setLc {i : Nat} {y : Str} {py spos : Pos} {elt tg iter : Expr} {ifs : List Expr} {scope : Scope} {own : List (Str × Nat)} {wi : WI} {us : List Nat} {gd : D → Sl → (Sl → Prop) → Prop} {td : WT} {ed : WE} {nw : Bool} (hc : X.calm = true) (hN : X.N.Nodup) (hv : ∀ i ∈ us, i ∈ own.map (·.2)) (hpl : pl iter = true)
    (hy : X.N[i]? = some y) (hyl : X.env.scope.names.lookup y = some .local) (hsw : swapsWith (.ListComp elt [⟨tg, iter, ifs, 0⟩] scope pos) (some (.Name y py)) spos.line X.env = pure true)
    (hi : PI X tg iter (liftI X.K wi)) (ok : BlkOk X.N X.env.scope scope own)
    (hg : ∀ (s : Shared) (H : Hp) (C : Addr) (cl : List (Str × Addr)) (fp : List Addr), PG (X.blk s H scope (compEnvC scope cl C X.env) fp) tg (liftG X.K us gd))
    (ht : ∀ (s : Shared) (H : Hp) (C : Addr) (cl : List (Str × Addr)) (fp : List Addr), PTs (X.blk s H scope (compEnvC scope cl C X.env) fp) ifs (liftT X.K td))
    (he : ∀ (s : Shared) (H : Hp) (C : Addr) (cl : List (Str × Addr)) (fp : List Addr), PE (X.blk s H scope (compEnvC scope cl C X.env) fp) elt (liftE X.K ed)) :
    PS X (.Assign [.Name y py] (.ListComp elt [⟨tg, iter, ifs, 0⟩] scope pos) spos) (liftS X.K fun E σ h => wi σ h fun ds stay h1 => compL (fun d K => gd d (wipeD σ (own.map (·.2))) K) td ed stay ds [] h1 fun acc h2 => listed nw acc h2 fun d h3 => E.nx (σ.set i (some d)) h3) := by
  refine ps_imp (ps_setLc hc hN hy hyl hsw hi ok hg ht he (fold_pl hpl)) fun D σ H ⟨w, σd, h, E, eH, rel, rs, q, post⟩ => ?_
  refine lc_read hv σ H _ ⟨w, σd, h, fun d h3 => E.nx (σd.set i (some d)) h3, eH, rel, rs, q, fun w1 h1 d v x1 rel1 r1 q1 => ?_⟩
  exact post.1 w1 h1 _ _ x1 rel1 ((rs.mono x1).set r1 i) q1
end

/-! ### dict displays -/
/-- a dead cell lives again -/
theorem revive {K : PySem.W.Frag} {w w2 : Wd} {h h2 : Hd} {n : Nat} {p : Addr} {c : Cell} (x : Ext w w2 h h2) (rel : RelW K w2 h2) (h0 : w.m n = none) (hm : w2.m n = some p) (hf : ¬ w2.fz n) (rc : RC K w2 c p) : Ext w w2 h (h2.set n c) ∧ RelW K w2 (h2.set n c) := by
  have nk : ∀ k a, w.m k = some a → k ≠ n := fun k a e z => by rw [z, h0] at e; cases e
  refine ⟨⟨x.m, x.dk, x.keep, x.new, fun k a e z f => ?_⟩, ⟨rel.inj, fun k d e => ?_, fun k d e => ?_, rel.there, rel.fin, rel.deck, rel.dks⟩⟩
  · rw [Hd.set_ne (nk k a e)]
    exact x.dead k a e z f
  · by_cases hk : k = n
    · subst hk
      rw [Hd.set_same] at e; cases e
      exact ⟨p, hm, rc⟩
    · rw [Hd.set_ne hk] at e
      exact rel.has k d e
  · by_cases hk : k = n
    · rw [hk]; exact hf
    · rw [Hd.set_ne hk] at e
      exact rel.live k d e
def PairsOk (K : PySem.W.Frag) (ks : List Key) (n : Nat) (wl : WA) (trs : List (TE × TE)) : Prop := ∀ w σd σ h QD Q, RelW K w h → RSl K w σd σ → wl σd h QD →
  (∀ w' h' ds vs, Ext w w' h h' → RelW K w' h' → RDs K w' ds vs → ds.length = n → QD ds h' → Q ((ks.zip vs).map fun kv => (kV kv.1, kv.2)) w'.H) → tPairs trs σ w.H Q
theorem pairs_nil {K : PySem.W.Frag} : PairsOk K [] 0 (fun _ h Q => Q [] h) [] := fun w σd σ h QD Q rel rs q post => post w h [] [] (Ext.refl _ _) rel .nil rfl q
theorem pairs_cons {K : PySem.W.Frag} {k : Key} {ks : List Key} {n : Nat} {wa : WE} {wl : WA} {trs : List (TE × TE)} (hr : PairsOk K ks n wl trs) :
    PairsOk K (k :: ks) (n + 1) (fun σ h Q => wa σ h fun d h1 => wl σ h1 fun ds h2 => Q (d :: ds) h2) ((tC (kV k), liftE K wa) :: trs) := fun w σd σ h QD Q rel rs q post => by
  show liftE K wa σ w.H _
  refine ⟨w, σd, h, _, rfl, rel, rs, q, fun w1 h1 d v x1 rel1 r1 q1 => ?_⟩
  refine hr w1 σd σ h1 _ _ rel1 (rs.mono x1) q1 fun w2 h2 ds vs x2 rel2 r2 hl q2 => ?_
  exact post w2 h2 (d :: ds) (v :: vs) (x1.trans x2) rel2 (.cons (r1.mono x2) r2) (by rw [List.length_cons, hl]) q2
theorem merge_new : ∀ (more acc : List (Key × V)), (acc.map (·.1) ++ more.map (·.1)).Nodup → mergeK acc more = acc ++ more
  | [], acc, _ => (List.append_nil acc).symm
  | p :: more, acc, nd => by
    have h1 : (acc.any fun kv => decide (kv.1 = p.1)) = false := by
      rw [List.any_eq_false]
      intro q hq z
      have z := of_decide_eq_true z
      rw [List.map_cons, List.nodup_append] at nd
      exact nd.2.2 q.1 (List.mem_map_of_mem hq) p.1 (by simp) z
    have h2 : putK acc p.1 p.2 = acc ++ [p] := by
      unfold putK
      rw [h1, if_neg (by decide)]
    show mergeK (putK acc p.1 p.2) more = _
    rw [h2, merge_new more (acc ++ [p]) (by simpa using nd)]
    simp
theorem zip_keys {α : Type} {ks : List Key} {vs : List α} (h : vs.length = ks.length) : (ks.zip vs).map (·.1) = ks ∧ (ks.zip vs).map (·.2) = vs := ⟨by rw [List.map_fst_zip]; omega, by rw [List.map_snd_zip]; omega⟩
theorem l_dct {X : Cx} {pos : Pos} {keys : List (Option Expr)} {values : List Expr} {ks : List Key} {wl : WA} {trs : List (TE × TE)} (hp : PPs X pos keys values trs) (ok : PairsOk X.K ks ks.length wl trs) (hall : keys.all (·.isSome) = true) (hl : keys.length = values.length) (h0 : keys ≠ [])
    (h15 : keys.length ≤ 15) (k15 : ks.length ≤ 15) (nd : ks.Nodup) : PE X (.Dict keys values pos) (liftE X.K fun σ h Q => wl σ h fun ds h1 => ∀ n, h1 n = none → Q (.ref n) (h1.set n (.dK (ks.zip ds)))) := by
  refine pe_imp (pe_disp hp hall hl h0 h15) fun σ H Q ⟨w, σd, h, QD, eH, rel, rs, q, post⟩ => ?_
  subst eH
  intro p hp
  obtain ⟨n, n1, n2⟩ := rel.fresh
  obtain ⟨x2, rel2⟩ := own_dead (o := .dK []) rel n1 n2 hp
  refine ok (w.own n p (.dK [])) σd σ h _ _ rel2 (rs.mono x2) q fun w3 h3 ds vs x3 rel3 r3 hl3 q3 => ?_
  have m2 : (w.own n p (.dK [])).m n = some p := if_pos rfl
  obtain ⟨d1, d2, d3⟩ := x3.dead n p m2 n2 fun z => z.1 rfl
  have m3 := x3.m n p m2
  have lv : vs.length = ks.length := by rw [← r3.length]; exact hl3
  refine ⟨d2.trans upd_same, ks.zip vs, rfl, by rw [List.length_zip]; omega, ?_⟩
  have em : mergeK [] (ks.zip vs) = ks.zip vs := merge_new _ [] (by rw [List.map_nil, List.nil_append, (zip_keys lv).1]; exact nd)
  rw [em]
  obtain ⟨_, rel4, _, rds4⟩ := put_dead (o := .dK (ks.zip vs)) rel3 m3 d1 d3
  have x4 : Ext w (w3.put p (.dK (ks.zip vs))) h h3 := ext_put_dead (x2.trans x3) rel3 n1 m3 d1 d3
  have ld : ds.length = ks.length := hl3
  obtain ⟨x5, rel5⟩ := revive (c := .dK (ks.zip ds)) x4 rel4 n1 m3 d3 ⟨ks.zip vs, upd_same, by rw [(zip_keys lv).1, (zip_keys ld).1], by rw [(zip_keys lv).2, (zip_keys ld).2]; exact rds4 _ _ r3⟩
  exact post _ _ (.ref n) (.ref p) x5 rel5 (.ref m3) (q3 n d1)
theorem l_dct0 {X : Cx} {pos : Pos} : PE X (.Dict [] [] pos) (liftE X.K fun σ h Q => ∀ n, h n = none → Q (.ref n) (h.set n (.dK []))) := by
  refine pe_imp pe_dnewK fun σ H Q ⟨w, σd, h, QD, eH, rel, rs, q, post⟩ => ?_
  subst eH
  intro p hp
  obtain ⟨n, n1, n2⟩ := rel.fresh
  have x : Ext w (w.own n p (.dK [])) h (h.set n (.dK [])) := ext_own rel n1 hp
  exact post _ _ (.ref n) (.ref p) x (rel_own rel n1 hp ⟨[], upd_same, rfl, .nil⟩) (.ref (if_pos rfl)) (q n n2)
/-- a dead cell is frozen -/
theorem ice_dead {K : PySem.W.Frag} {w w3 : Wd} {h h3 : Hd} {n : Nat} {p : Addr} (x : Ext w w3 h h3) (rel : RelW K w3 h3) (n1 : w.m n = none) (m3 : w3.m n = some p) (d1 : h3 n = none) (d3 : ¬ w3.fz n) :
    Ext w { w3 with fz := fun k => k = n ∨ w3.fz k } h h3 ∧ RelW K { w3 with fz := fun k => k = n ∨ w3.fz k } h3 ∧ ¬ ({ w3 with fz := fun k => k = n ∨ w3.fz k } : Wd).mut p ∧
      ∀ ds vs, RDs K w3 ds vs → RDs K { w3 with fz := fun k => k = n ∨ w3.fz k } ds vs := by
  have mu : ∀ a, ({ w3 with fz := fun k => k = n ∨ w3.fz k } : Wd).mut a → w3.mut a := fun a q => by
    rcases q with ⟨k, e, f⟩ | q
    · exact .inl ⟨k, e, fun z => f (.inr z)⟩
    · exact .inr q
  have y : Ext w3 { w3 with fz := fun k => k = n ∨ w3.fz k } (fun _ => some (.lst [])) h3 := ⟨fun _ _ e => e, fun _ e => e, fun _ _ _ e => e, fun a q => .inl (mu a q), fun _ _ _ e _ => by cases e⟩
  refine ⟨⟨x.m, x.dk, x.keep, fun a q => x.new a (mu a q), fun k a e q f => ?_⟩, ⟨fun i k a e1 e2 f1 f2 => rel.inj i k a e1 e2 (fun z => f1 (.inr z)) fun z => f2 (.inr z), fun i c e => ?_, fun i c e z => z.elim (fun z => ?_) (rel.live i c e), rel.there, rel.fin,
    fun q e => ⟨(rel.deck q e).1, fun i f => (rel.deck q e).2 i fun z => f (.inr z)⟩, rel.dks⟩, fun q => ?_, fun ds vs r => r.mono y⟩
  · obtain ⟨a1, a2, a3⟩ := x.dead k a e q f
    refine ⟨a1, a2, fun z => z.elim (fun z => ?_) a3⟩
    rw [z, n1] at e; cases e
  · obtain ⟨a, e1, rc⟩ := rel.has i c e
    refine ⟨a, e1, ?_⟩
    cases c with
    | lst ds =>
      obtain ⟨xs, e2, r, l⟩ := rc
      exact ⟨xs, e2, r.mono y, l⟩
    | dK kvs =>
      obtain ⟨xs, e2, e3, r⟩ := rc
      exact ⟨xs, e2, e3, r.mono y⟩
  · rw [z, d1] at e; cases e
  · rcases q with ⟨k, ek, fk⟩ | ⟨q, eq, z⟩
    · exact fk (.inl (rel.inj k n p ek m3 (fun z => fk (.inr z)) d3))
    · have d := (rel.deck q eq).2 n d3
      rcases z with z | z
      · exact d.1 (z ▸ m3)
      · exact d.2 (z ▸ m3)
theorem l_dcF {X : Cx} {pos : Pos} {keys : List (Option Expr)} {values : List Expr} {ks : List Key} {wl : WA} {trs : List (TE × TE)} (hp : PPs X pos keys values trs) (ok : PairsOk X.K ks ks.length wl trs) (hall : keys.all (·.isSome) = true) (hl : keys.length = values.length) (h0 : keys ≠ [])
    (h15 : keys.length ≤ 15) (k15 : ks.length ≤ 15) (nd : ks.Nodup) : PE X (.Dict keys values pos) (liftE X.K fun σ h Q => wl σ h fun ds h1 => Q (.dic ks ds) h1) := by
  refine pe_imp (pe_disp hp hall hl h0 h15) fun σ H Q ⟨w, σd, h, QD, eH, rel, rs, q, post⟩ => ?_
  subst eH
  intro p hp
  obtain ⟨n, n1, n2⟩ := rel.fresh
  obtain ⟨x2, rel2⟩ := own_dead (o := .dK []) rel n1 n2 hp
  refine ok (w.own n p (.dK [])) σd σ h _ _ rel2 (rs.mono x2) q fun w3 h3 ds vs x3 rel3 r3 hl3 q3 => ?_
  have m2 : (w.own n p (.dK [])).m n = some p := if_pos rfl
  obtain ⟨d1, d2, d3⟩ := x3.dead n p m2 n2 fun z => z.1 rfl
  have m3 := x3.m n p m2
  have lv : vs.length = ks.length := by rw [← r3.length]; exact hl3
  refine ⟨d2.trans upd_same, ks.zip vs, rfl, by rw [List.length_zip]; omega, ?_⟩
  have em : mergeK [] (ks.zip vs) = ks.zip vs := merge_new _ [] (by rw [List.map_nil, List.nil_append, (zip_keys lv).1]; exact nd)
  rw [em]
  obtain ⟨_, rel4, _, rds4⟩ := put_dead (o := .dK (ks.zip vs)) rel3 m3 d1 d3
  have x4 : Ext w (w3.put p (.dK (ks.zip vs))) h h3 := ext_put_dead (x2.trans x3) rel3 n1 m3 d1 d3
  obtain ⟨x5, rel5, nm, rds5⟩ := ice_dead x4 rel4 n1 m3 d1 d3
  exact post _ _ (.dic ks ds) (.ref p) x5 rel5 (.dic ⟨nm, upd_same⟩ hl3.symm (rds5 _ _ (rds4 _ _ r3))) q3
theorem l_dcF0 {X : Cx} {pos : Pos} : PE X (.Dict [] [] pos) (liftE X.K fun σ h Q => Q (.dic [] []) h) := by
  refine pe_imp pe_dnewK fun σ H Q ⟨w, σd, h, QD, eH, rel, rs, q, post⟩ => ?_
  subst eH
  intro p hp
  exact post _ _ (.dic [] []) (.ref p) (ext_put rel hp) (rel_put rel hp) (.dic ⟨fun z => rel.nmut hp z, upd_same⟩ rfl .nil) q
end G

/-! Starred targets. -/
namespace G
open PySem PySem.Spec PyProof.Rows L2

section
variable {prog : Program} {w : World} {A : Around} {E : Value → Shared → Prop} {I : Addr} {fp wr : List Addr} {n : Nat} {P : Nat → Value → Prop} {St : Nat → Heap → Prop}
theorem walk_shift (W : Walks prog w A I fp wr n P St) (k : Nat) (hk : k ≤ n) : Walks prog w A I fp wr (n - k) (fun i => P (k + i)) (fun i => St (k + i)) where
  sub := W.sub
  frame := fun i h h' st hk => W.frame (k + i) h h' st hk
  item := fun i s Q E hi st hQ => W.item (k + i) s Q E (by omega) st hQ
  done := fun s Q E st hQ => W.done s Q E (by rw [show k + (n - k) = n by omega] at st; exact st) hQ
  self := fun i s Q E st hQ => W.self (k + i) s Q E st hQ
theorem draw_walk (W : Walks prog w A I fp wr n P St) : ∀ (k i : Nat) (s : Shared) (Q : List Value → Shared → Prop), i + k ≤ n → St i s.heap →
    (∀ (vs : List Value) h' tk, vs.length = k → (∀ (j : Nat) (v : Value), vs[j]? = some v → P (i + j) v) → St (i + k) h' → (∀ b o, b ∉ wr → s.heap.get? b = some o → h'.get? b = some o) → Q vs { s with heap := h', toks := tk }) → wpAny (model prog w) A (draw (.ref I) k) Q E s
  | 0, i, s, Q, _, st, hQ => by
    show wpAny _ _ (pure []) Q E s
    exact wpAny_pure (hQ [] s.heap s.toks rfl (fun j v e => by simp at e) st fun _ _ _ e => e)
  | k + 1, i, s, Q, hk, st, hQ => by
    show wpAny _ _ (pyNext (.ref I) >>= _) Q E s
    refine wpAny_bind (W.item i s _ _ (by omega) st fun v h1 tk hP st1 k1 => ?_)
    refine wpAny_bind (wpAny_holding (draw_walk W k (i + 1) _ _ (by omega) st1 fun vs h2 tk2 hl hv st2 k2 => wpAny_pure ?_))
    refine hQ (v :: vs) h2 tk2 (by rw [List.length_cons, hl]) (fun j u e => ?_) (by rw [show i + (k + 1) = i + 1 + k by omega]; exact st2) fun b o hb e => k2 b o hb (k1 b o hb e)
    cases j with
    | zero => simp at e; subst e; exact hP
    | succ j =>
      have := hv j u (by simpa using e)
      rwa [show i + 1 + j = i + (j + 1) by omega] at this
/-- behind pyIter: the first ones, the rest, the list -/
theorem star_tail {items : List Value} {T : String} {s : Shared} {n i : Nat} {Q : List Value → Shared → Prop} (hTm : T = "str_ascii_iterator" ∨ T = "str_iterator" ∨ T = "list_iterator" ∨ T = "tuple_iterator")
    (W : Walks prog w A I fp [I] items.length (fun i v => items[i]? = some v) St) (W1 : Walks prog w A.in1 I fp [I] items.length (fun i v => items[i]? = some v) St)
    (hT : ∀ i (s : Shared), St i s.heap → s.TypeIs (.ref I) T) (hst : St 0 s.heap) (hfp : ∀ b ∈ fp, b ≠ I → ∃ o, s.heap.get? b = some o) (hI : I ∈ fp) (hin : i < n) (hle : n ≤ items.length + 1) (hsz : items.length ≤ sizeLine)
    (hQ : ∀ (h' : Heap) (tk : Nat), (∀ b o, b ≠ I → s.heap.get? b = some o → h'.get? b = some o) →
      Q (items.take i ++ [.ref h'.objs.size] ++ items.drop (items.length - (n - 1 - i))) { s with heap := h'.push { cls := .type "list", data := .seq ((items.drop i).take (items.length - (n - 1))).toArray }, toks := tk }) :
    wpAny (model prog w) A (do
      let first ← holding [.ref I] (draw (.ref I) i)
      if first.length < i then
        rule "unpack.star.too-few-before"
        raiseError "ValueError" s!"not enough values to unpack (expected at least {n - 1}, got {first.length})"
      let rest ← holding first (collect (.ref I))
      let after := n - 1 - i
      if rest.length < after then
        rule "unpack.star.too-few"
        raiseError "ValueError" s!"not enough values to unpack (expected at least {n - 1}, got {i + rest.length})"
      let mid := rest.length - after
      return first ++ [← newList (rest.take mid)] ++ rest.drop mid) Q E s := by
  refine wpAny_bind (wpAny_holding (draw_walk W i 0 s _ (by omega) hst fun first h1 tk1 hl hv st1 k1 => ?_))
  have ef : first = items.take i := by
    apply List.ext_getElem?
    intro j
    by_cases hj : j < i
    · rw [List.getElem?_take_of_lt hj]
      have e : first[j]? = some first[j] := List.getElem?_eq_getElem (by omega)
      rw [e]
      have := hv j _ e
      rw [Nat.zero_add] at this
      exact this.symm
    · rw [List.getElem?_eq_none (by omega), List.getElem?_eq_none (by rw [List.length_take]; omega)]
  rw [if_neg (by omega)]
  have fp1 : ∀ b ∈ fp, b < h1.objs.size := fun b hb => by
    by_cases hbI : b = I
    · obtain ⟨o, ho, _⟩ := hT _ { s with heap := h1, toks := tk1 } st1
      rw [hbI]
      exact Heap.lt_size ho
    · obtain ⟨o, ho⟩ := hfp b hb hbI
      exact Heap.lt_size (k1 b o (by simpa using hbI) ho)
  refine wpAny_bind (wpAny_holding (wpAny_collect_iter hTm ((walk_shift W1 i (by omega)).toS) (fun j s st => hT (i + j) s st) (by rw [Nat.zero_add] at st1; exact st1) fp1 hI (fun s' acc mv it => ?_) (by omega)))
  obtain ⟨h2, g2, d2, tk2, o2⟩ := s'
  obtain ⟨m1, m2, m3, m4, m5⟩ := mv
  have m2 : g2 = s.gens := m2
  have m3 : d2 = s.drawn := m3
  have m4 : o2 = s.os := m4
  subst m2 m3 m4
  have er : acc.toList = items.drop i := by
    apply List.ext_getElem?
    intro j
    have hz : acc.size = items.length - i := it.1
    by_cases hj : j < acc.size
    · have e : acc[j]? = some acc[j] := by simp [hj]
      have := it.2 j _ e
      rw [List.getElem?_drop, this, Array.getElem?_toList, e]
    · rw [List.getElem?_eq_none (by simp; omega), List.getElem?_eq_none (by rw [List.length_drop]; omega)]
  rw [er, ef]
  rw [if_neg (by rw [List.length_drop]; omega)]
  have e1 : (items.drop i).length - (n - 1 - i) = items.length - (n - 1) := by rw [List.length_drop]; omega
  have e2 : (items.drop i).drop (items.length - (n - 1)) = items.drop (items.length - (n - 1 - i)) := by rw [List.drop_drop]; congr 1; omega
  rw [e1]
  refine wpAny_bind (wpAny_newObj_type ?_ ?_)
  · rw [e2]
    exact wpAny_pure (hQ h2 tk2 fun b o hb e => m1 b o (by simpa using hb) (k1 b o (by simpa using hb) e))
  · show _ ≤ sizeLine
    simp
    omega

theorem unpack_star_tuple {t : Addr} {items : List Value} {targets : List (Bool × (Value → Sem Unit))} {i : Nat} {s : Shared} {Q : Unit → Shared → Prop} (hh : A.handled = none) (ht : IsTup s.heap t items.toArray) (hstar : targets.findIdx? (·.1) = some i)
    (hin : i < targets.length) (hle : targets.length ≤ items.length + 1) (hsz : items.length ≤ sizeLine)
    (h : ∀ (h' : Heap) (tk : Nat), (∀ b o, s.heap.get? b = some o → h'.get? b = some o) → wpAny (model prog w) A (assignInOrder (targets.map (·.2)) (items.take i ++ [.ref h'.objs.size] ++ items.drop (items.length - (targets.length - 1 - i)))) Q E
      { s with heap := h'.push { cls := .type "list", data := .seq ((items.drop i).take (items.length - (targets.length - 1))).toArray }, toks := tk }) :
    wpAny (model prog w) A (unpack (.ref t) targets) Q E s := by
  have hlt : t < s.heap.objs.size := by obtain ⟨o, ho, _⟩ := ht; exact Heap.lt_size ho
  unfold unpack
  rw [hstar]
  refine wpAny_bind (wpAny_holding ?_)
  unfold unpackItems
  refine wpAny_bind ?_
  unfold notIterableAtAll
  refine wpAny_bind (wpAny_specialOf ht.typeIs slot_tuple_iter.lookup ?_)
  refine wpAny_pure ?_
  simp only [Bool.false_eq_true, if_false]
  refine wpAny_bind (wpAny_holding (iter_tuple ht ?_))
  have ne : t ≠ s.heap.objs.size := Nat.ne_of_lt hlt
  refine star_tail (T := "tuple_iterator") (fp := [s.heap.objs.size, t]) (St := fun i h => h.IsTupleIter s.heap.objs.size t i ∧ h.IsTuple t items.toArray) (.inr (.inr (.inr rfl))) ?_ ?_ (fun i s st => st.1.typeIs) ⟨⟨_, Heap.get?_push_size _ rfl, rfl, rfl⟩, ht.push _⟩ (fun b hb nb => ?_) (by simp) hin hle hsz fun h' tk k => h h' tk fun b o e => k b o (Nat.ne_of_lt (Heap.lt_size e)) (Heap.get?_push_of_some _ e)
  · have W := Walks.tuple (prog := prog) (w := w) (A := A) hh s.heap.objs.size t ne items.toArray
    simpa using W
  · have W := Walks.tuple (prog := prog) (w := w) (A := A.in1) hh s.heap.objs.size t ne items.toArray
    simpa using W
  · have : b = t := by simpa [nb] using hb
    subst this
    obtain ⟨o, ho, _⟩ := ht
    exact ⟨o, Heap.get?_push_of_some _ ho⟩

theorem unpack_star_list {t : Addr} {items : List Value} {targets : List (Bool × (Value → Sem Unit))} {i : Nat} {s : Shared} {Q : Unit → Shared → Prop} (hh : A.handled = none) (ht : s.heap.IsList t items.toArray) (hstar : targets.findIdx? (·.1) = some i)
    (hin : i < targets.length) (hle : targets.length ≤ items.length + 1) (hsz : items.length ≤ sizeLine)
    (h : ∀ (h' : Heap) (tk : Nat), (∀ b o, s.heap.get? b = some o → h'.get? b = some o) → wpAny (model prog w) A (assignInOrder (targets.map (·.2)) (items.take i ++ [.ref h'.objs.size] ++ items.drop (items.length - (targets.length - 1 - i)))) Q E
      { s with heap := h'.push { cls := .type "list", data := .seq ((items.drop i).take (items.length - (targets.length - 1))).toArray }, toks := tk }) :
    wpAny (model prog w) A (unpack (.ref t) targets) Q E s := by
  have hlt : t < s.heap.objs.size := by obtain ⟨o, ho, _⟩ := ht; exact Heap.lt_size ho
  unfold unpack
  rw [hstar]
  refine wpAny_bind (wpAny_holding ?_)
  unfold unpackItems
  refine wpAny_bind ?_
  unfold notIterableAtAll
  refine wpAny_bind (wpAny_specialOf ht.typeIs slot_list_iter.lookup ?_)
  refine wpAny_pure ?_
  simp only [Bool.false_eq_true, if_false]
  refine wpAny_bind (wpAny_holding (wpAny_pyIter_list ht ?_))
  have ne : t ≠ s.heap.objs.size := Nat.ne_of_lt hlt
  refine star_tail (T := "list_iterator") (fp := [s.heap.objs.size, t]) (St := fun i h => h.IsListIter s.heap.objs.size t i ∧ h.IsList t items.toArray) (.inr (.inr (.inl rfl))) ?_ ?_ (fun i s st => st.1.typeIs) ⟨⟨_, Heap.get?_push_size _ rfl, rfl, rfl⟩, ht.push _⟩ (fun b hb nb => ?_) (by simp) hin hle hsz fun h' tk k => h h' tk fun b o e => k b o (Nat.ne_of_lt (Heap.lt_size e)) (Heap.get?_push_of_some _ e)
  · have W := Walks.list (prog := prog) (w := w) (A := A) hh s.heap.objs.size t ne items.toArray
    simpa using W
  · have W := Walks.list (prog := prog) (w := w) (A := A.in1) hh s.heap.objs.size t ne items.toArray
    simpa using W
  · have : b = t := by simpa [nb] using hb
    subst this
    obtain ⟨o, ho, _⟩ := ht
    exact ⟨o, Heap.get?_push_of_some _ ho⟩
end

/-- a, *b, c = .. -/
def gStar (K : PySem.W.Frag) (n i : Nat) (t : TGs) : TG := fun v σ H Q => ∃ a xs, v = .ref a ∧ (SqT K H a xs ∨ SqL K H a xs) ∧ n ≤ xs.length + 1 ∧ ∀ p, H p = none → t (xs.take i ++ [.ref p] ++ xs.drop (xs.length - (n - 1 - i))) σ (upd H p (.lst ((xs.drop i).take (xs.length - (n - 1))))) Q
theorem vals_take {vs : List V} {us : List Value} (r : Vals vs us) : ∀ n, Vals (vs.take n) (us.take n) := by
  intro n
  induction r generalizing n with
  | nil => simp; exact .nil
  | cons h t ih =>
    cases n with
    | zero => simp; exact .nil
    | succ n => rw [List.take_succ_cons, List.take_succ_cons]; exact .cons h (ih n)
theorem vals_drop {vs : List V} {us : List Value} (r : Vals vs us) : ∀ n, Vals (vs.drop n) (us.drop n) := by
  intro n
  induction r generalizing n with
  | nil => simp; exact .nil
  | cons h t ih =>
    cases n with
    | zero => exact .cons h t
    | succ n => rw [List.drop_succ_cons, List.drop_succ_cons]; exact ih n
theorem vals_append {vs ws : List V} {us xs : List Value} (r : Vals vs us) (q : Vals ws xs) : Vals (vs ++ ws) (us ++ xs) := by
  induction r with
  | nil => exact q
  | cons h t ih => exact .cons h ih
theorem pg_star {X : Cx} {pos : Pos} {es : List Expr} {k n i : Nat} {t : TGs} (hc : X.calm = true) (h : PGs X es t) (hn : (assignEach es X.env).length = n) (hst : (assignEach es X.env).findIdx? (·.1) = some i) (hin : i < n) : PG X (.Tuple es k pos) (gStar X.K n i t) := by
  refine ⟨fun pins s σ H v u Q I r hw => ?_⟩
  obtain ⟨a, xs, e1, hq, hl, hw⟩ := hw
  subst e1
  cases r
  subst hn
  have fin : ∀ (its : List Value), Vals xs its → xs.length ≤ sizeLine → ∀ (h' : Heap) (tk : Nat), (∀ b o, s.heap.get? b = some o → h'.get? b = some o) →
      wpAny (model X.prog X.w) X.A (assignInOrder ((assignEach es X.env).map (·.2)) (its.take i ++ [.ref h'.objs.size] ++ its.drop (its.length - ((assignEach es X.env).length - 1 - i)))) (fun _ s' => ∃ σ' H', Inv X pins σ' H' s' ∧ Q σ' H') X.xe
      { s with heap := h'.push { cls := .type "list", data := .seq ((its.drop i).take (its.length - ((assignEach es X.env).length - 1))).toArray }, toks := tk } := by
    intro its rv hz h' tk kp
    have hlen := rv.length
    have I1 : Inv X pins σ H { s with heap := h', toks := tk } := I.kept kp
    have I2 := I1.laid (a := h'.objs.size) (o := .lst ((xs.drop i).take (xs.length - ((assignEach es X.env).length - 1)))) (h' := h'.push { cls := .type "list", data := .seq ((its.drop i).take (its.length - ((assignEach es X.env).length - 1))).toArray }) (t' := tk) (fun _ _ q => Heap.get?_push_of_some _ q) (Nat.le_refl _)
      ⟨by rw [List.length_take, List.length_drop]; omega, (its.drop i).take (its.length - ((assignEach es X.env).length - 1)), _, by rw [hlen]; exact vals_take (vals_drop rv _) _, Heap.get?_push_size _ rfl⟩
    refine h.run pins _ σ _ _ _ Q I2 ?_ (hw _ (I1.hok.fresh (Nat.le_refl _)))
    rw [hlen]
    exact vals_append (vals_append (vals_take rv _) (.cons rfl .nil)) (vals_drop rv _)
  rw [assign_Tuple]
  refine wpAny_bind (wpAny_standAt ?_)
  rcases hq with hq | hq
  · obtain ⟨its, rv, ht, hz⟩ := I.tuple hq
    exact unpack_star_tuple (I.ok.hd hc) ht hst hin (by rw [← rv.length]; exact hl) (by rw [← rv.length]; exact hz) (fin its rv hz)
  · obtain ⟨its, rv, ht, hz⟩ := I.list hq
    exact unpack_star_list (I.ok.hd hc) ht.isList hst hin (by rw [← rv.length]; exact hl) (by rw [← rv.length]; exact hz) (fin its rv hz)

theorem starI_of {K : PySem.W.Frag} {w : Wd} {h : Hd} {d : D} {v : V} {R : List D → Prop} (rel : RelW K w h) (r : RD K w d v) (q : starI d h R) : ∃ a xs ds, v = .ref a ∧ (SqT K w.H a xs ∨ SqL K w.H a xs) ∧ RDs K w ds xs ∧ ds.length ≤ sizeLine ∧ R ds := by
  unfold starI at q
  split at q
  · cases r with
    | tup s l rr => exact ⟨_, _, _, rfl, .inl s.sq, rr, l, q⟩
  · split at q
    · rename_i ds e
      obtain ⟨a, xs, rfl, e2, rr, l⟩ := view_lst rel r e
      exact ⟨a, xs, ds, rfl, .inr (.inl (.inl e2)), rr, l, q⟩
    · exact q.elim
theorem s_star {X : Cx} {e : Expr} {es : List Expr} {kk i n : Nat} {pos tp : Pos} {nw : Bool} {wa : WE} {vs : List Nat} {gs : List D → Sl → (Sl → Prop) → Prop} (hc : X.calm = true) (he : PE X e (liftE X.K wa)) (hgs : PGs X es (liftGs X.K vs gs))
    (hn : (assignEach es X.env).length = n) (hst : (assignEach es X.env).findIdx? (·.1) = some i) (hin : i < n) (hsw : swapsWithSole [.Tuple es kk tp] e pos.line X.env = pure false) (hw : swappedStores [.Tuple es kk tp] e X.env = pure none) :
    PS X (.Assign [.Tuple es kk tp] e pos) (liftS X.K fun E σ h => wa σ h fun d h1 => starI d h1 fun ds => n ≤ ds.length + 1 ∧ listed nw ((ds.drop i).take (ds.length - (n - 1))) h1 fun m h2 =>
      gs (ds.take i ++ [m] ++ ds.drop (ds.length - (n - 1 - i))) σ fun σ' => E.nx σ' h2) := by
  refine ps_imp (ps_asg he (pg_star hc hgs hn hst hin) hsw hw rfl) fun D' σ H ⟨w, σd, h, E, eH, rel, rs, q, post⟩ => ?_
  refine ⟨w, σd, h, _, eH, rel, rs, q, fun w1 h1 d v x1 rel1 r1 q1 => ?_⟩
  obtain ⟨a, xs, ds, rfl, sq, rr, ll, hl, q2⟩ := starI_of rel1 r1 q1
  have len := rr.length
  refine ⟨a, xs, rfl, sq, by omega, fun p hp => ?_⟩
  rw [← len]
  have rm : RDs X.K w1 ((ds.drop i).take (ds.length - (n - 1))) ((xs.drop i).take (ds.length - (n - 1))) := (rr.drop i).take _
  have lm : ((ds.drop i).take (ds.length - (n - 1))).length ≤ sizeLine := by rw [List.length_take, List.length_drop]; omega
  cases nw with
  | false =>
    have x2 : Ext w1 (w1.put p (.lst ((xs.drop i).take (ds.length - (n - 1))))) h1 h1 := ext_put rel1 hp
    refine ⟨w1.put p (.lst ((xs.drop i).take (ds.length - (n - 1)))), σd, h1, _, _, rfl, rel_put rel1 hp, (rs.mono x1).mono x2, ?_, q2, fun σd' σ' rs' _ q3 => ?_⟩
    · exact (((rr.take i).mono x2).append (.cons (.lst ⟨rel1.nmut hp, upd_same⟩ lm (rm.mono x2)) .nil)).append ((rr.drop _).mono x2)
    · exact post.1 _ h1 σd' σ' (x1.trans x2) (rel_put rel1 hp) rs' q3
  | true =>
    obtain ⟨k, k1, k2⟩ := rel1.fresh
    have x2 : Ext w1 (w1.own k p (.lst ((xs.drop i).take (ds.length - (n - 1))))) h1 (h1.set k (.lst ((ds.drop i).take (ds.length - (n - 1))))) := ext_own rel1 k1 hp
    have rel2 : RelW X.K (w1.own k p (.lst ((xs.drop i).take (ds.length - (n - 1))))) (h1.set k (.lst ((ds.drop i).take (ds.length - (n - 1))))) := rel_own rel1 k1 hp ⟨_, upd_same, rm.mono x2, lm⟩
    refine ⟨_, σd, _, _, _, rfl, rel2, (rs.mono x1).mono x2, ?_, q2 k k2, fun σd' σ' rs' _ q3 => ?_⟩
    · exact (((rr.take i).mono x2).append (.cons (.ref (if_pos rfl)) .nil)).append ((rr.drop _).mono x2)
    · exact post.1 _ _ σd' σ' (x1.trans x2) rel2 rs' q3
end G

/-! More walks: zip, range with a step, reversed. -/
namespace G
open PySem PySem.Spec PyProof.Rows L2

theorem zipD_get {ds es : List D} {i : Nat} {d : D} (e : (zipD ds es)[i]? = some d) : ∃ a b, ds[i]? = some a ∧ es[i]? = some b ∧ d = .tup [a, b] := by
  unfold zipD at e
  rw [List.getElem?_zipWith] at e
  cases e1 : ds[i]? with
  | none => rw [e1] at e; cases e
  | some a =>
    cases e2 : es[i]? with
    | none => rw [e1, e2] at e; cases e
    | some b => rw [e1, e2] at e; cases e; exact ⟨a, b, rfl, rfl, rfl⟩
theorem lstI_of {K : PySem.W.Frag} {w : Wd} {h : Hd} {d : D} {v : V} {ds : List D} {st : Hd → Prop} (rel : RelW K w h) (r : RD K w d v) (e : lstI d h = some (ds, st)) :
    ds.length ≤ sizeLine ∧ st h ∧ ∃ a, v = .ref a ∧ ∀ w2 h2, Ext w w2 h h2 → RelW K w2 h2 → st h2 → ∃ xs, SqL K w2.H a xs ∧ RDs K w2 ds xs := by
  unfold lstI at e
  split at e
  · cases e
    cases r with
    | lst s ll rr => exact ⟨ll, trivial, _, rfl, fun w2 h2 x _ _ => ⟨_, .inl (.inl (x.keep _ _ s.1 s.2)), rr.mono x⟩⟩
  · rename_i n
    split at e
    · rename_i es en
      cases e
      obtain ⟨b, e1, xs, e2, rr, ll⟩ := rel.has n _ en
      cases r with
      | ref e =>
        rw [e] at e1; cases e1
        refine ⟨ll, en, _, rfl, fun w2 h2 x rel2 st => ?_⟩
        obtain ⟨b', e1', xs', e2', rr', _⟩ := rel2.has n _ st
        rw [x.m n _ e] at e1'; cases e1'
        exact ⟨xs', .inl (.inl e2'), rr'⟩
    · cases e
  · cases e
theorem zipD_len (ds es : List D) : (zipD ds es).length = min ds.length es.length := by unfold zipD; rw [List.length_zipWith]
/-- the pair that a turn hands on -/
theorem pair_turn {K : PySem.W.Frag} {w : Wd} {h : Hd} {T : Addr} {x y : V} {a b : D} (rel : RelW K w h) (hT : w.H T = none) (ra : RD K w a x) (rb : RD K w b y) :
    ∃ w3 : Wd, w3.H = upd w.H T (.tup [x, y]) ∧ Ext w w3 h h ∧ RelW K w3 h ∧ RD K w3 (.tup [a, b]) (.ref T) :=
  ⟨w.put T (.tup [x, y]), rfl, ext_put rel hT, rel_put rel hT, .tup (.inl ⟨rel.nmut hT, upd_same⟩) (by show 2 ≤ sizeLine; decide) (.cons (ra.mono (ext_put rel hT)) (.cons (rb.mono (ext_put rel hT)) .nil))⟩
theorem itok_zipL {K : PySem.W.Frag} {w : Wd} {h : Hd} {a b : Addr} {ds es : List D} {s1 s2 : Hd → Prop} (l : ds.length ≤ sizeLine) (at1 : ∀ w2 h2, Ext w w2 h h2 → RelW K w2 h2 → s1 h2 → ∃ xs, SqL K w2.H a xs ∧ RDs K w2 ds xs)
    (at2 : ∀ w2 h2, Ext w w2 h h2 → RelW K w2 h2 → s2 h2 → ∃ xs, SqL K w2.H b xs ∧ RDs K w2 es xs) : ItOk K w h (zipD ds es) (fun h => s1 h ∧ s2 h) (Itz K a b) where
  len := by rw [zipD_len]; omega
  go := fun w2 h2 x rel st i d e => by
    obtain ⟨xs, q1, r1⟩ := at1 w2 h2 x rel st.1
    obtain ⟨ys, q2, r2⟩ := at2 w2 h2 x rel st.2
    obtain ⟨da, db, ea, eb, rfl⟩ := zipD_get e
    obtain ⟨va, va1, va2⟩ := r1.get ea
    obtain ⟨vb, vb1, vb2⟩ := r2.get eb
    refine ⟨⟨xs, ys, va, vb, q1, q2, va1, vb1⟩, fun v H' hv => ?_⟩
    obtain ⟨T, x', y', rfl, nT, rfl, f1, f2⟩ := hv
    cases (f1 xs q1).symm.trans va1
    cases (f2 ys q2).symm.trans vb1
    exact pair_turn rel nT va2 vb2
  stop := fun w2 h2 x rel st => by
    obtain ⟨xs, q1, r1⟩ := at1 w2 h2 x rel st.1
    obtain ⟨ys, q2, r2⟩ := at2 w2 h2 x rel st.2
    refine ⟨xs, ys, q1, q2, ?_⟩
    rw [zipD_len, ← r1.length, ← r2.length]
    omega
theorem itok_zipT {K : PySem.W.Frag} {w : Wd} {h : Hd} {a b : Addr} {ds es : List D} {xs ys : List V} (l : ds.length ≤ sizeLine) (t1 : STup K w a xs) (r1 : RDs K w ds xs) (t2 : STup K w b ys) (r2 : RDs K w es ys) : ItOk K w h (zipD ds es) (fun _ => True) (RZ.ItzT K a b) where
  len := by rw [zipD_len]; omega
  go := fun w2 h2 x rel st i d e => by
    obtain ⟨da, db, ea, eb, rfl⟩ := zipD_get e
    obtain ⟨va, va1, va2⟩ := (r1.mono x).get ea
    obtain ⟨vb, vb1, vb2⟩ := (r2.mono x).get eb
    refine ⟨⟨xs, ys, va, vb, (t1.mono x).sq, (t2.mono x).sq, va1, vb1⟩, fun v H' hv => ?_⟩
    obtain ⟨T, x', y', rfl, nT, rfl, f1, f2⟩ := hv
    cases (f1 xs (t1.mono x).sq).symm.trans va1
    cases (f2 ys (t2.mono x).sq).symm.trans vb1
    exact pair_turn rel nT va2 vb2
  stop := fun w2 h2 x rel st => ⟨xs, ys, (t1.mono x).sq, (t2.mono x).sq, by rw [zipD_len, ← r1.length, ← r2.length]; omega⟩
section
variable {X : Cx} {tg : Expr}
theorem li_zip {elts : List Expr} {kk : Nat} {tpos : Pos} {e e2 : Expr} {p pos : Pos} {wa wb : WE} (hg : Gl X "zip") (hm : X.mg "zip" = none) (hp : pl e = true) (hp2 : pl e2 = true) (he : PE X e (liftE X.K wa)) (he2 : PE X e2 (liftE X.K wb)) :
    PI X (.Tuple elts kk tpos) (.Call (.Name "zip" p) [e, e2] [] pos) (liftI X.K fun σ h R => wa σ h fun x h1 => wb σ h1 fun y h2 => zipI x y h2 fun ds st => R ds st h2) := by
  refine pi_imp (RZ.pi_zipA hg hm (la_cons hp he (la_cons hp2 he2 la_nil)) (star_pl hp) (star_all (by simp [hp2]))) fun σ H R ⟨w, σd, h, QD, eH, rel, rs, q, post⟩ => ?_
  refine ⟨w, σd, h, fun ds h1 => match ds with | [x, y] => (zipI x y h1 fun ds st => QD ds st h1) | _ => False, eH, rel, rs, q, fun w1 h1 ds vs x1 rel1 r1 _ q1 => ?_⟩
  match ds, r1, q1 with
  | [d, d2], r1, q1 =>
    obtain ⟨v, v2, rfl, r, r2⟩ := rds2 r1
    replace q1 : zipI d d2 h1 fun ds st => QD ds st h1 := q1
    unfold zipI at q1
    split at q1
    · cases r with
      | tup s1 l1 q2 =>
        cases r2 with
        | tup s2 l2 q3 => exact ⟨_, _, _, _, rfl, .inr ⟨s1.sq, s2.sq, post w1 h1 _ _ _ x1 rel1 (itok_zipT l1 s1 q2 s2 q3) q1⟩⟩
    · split at q1
      · rename_i ds s1 es s2 e1 e2
        obtain ⟨l1, h1', a, rfl, at1⟩ := lstI_of rel1 r e1
        obtain ⟨l2, h2', b, rfl, at2⟩ := lstI_of rel1 r2 e2
        obtain ⟨xs, sx, _⟩ := at1 w1 h1 (Ext.refl _ _) rel1 h1'
        obtain ⟨ys, sy, _⟩ := at2 w1 h1 (Ext.refl _ _) rel1 h2'
        exact ⟨_, _, xs, ys, rfl, .inl ⟨sx, sy, post w1 h1 _ _ _ x1 rel1 (itok_zipL l1 at1 at2) q1⟩⟩
      · exact q1.elim

theorem itok_step {K : PySem.W.Frag} {w : Wd} {h : Hd} {lo c : Int} {n : Nat} (l : n ≤ sizeLine) : ItOk K w h (stepD lo c n) (fun _ => True) (Itc lo c n) where
  len := by simpa [stepD] using l
  go := fun w2 h2 x rel _ i d e => by
    unfold stepD at e
    rw [List.getElem?_map] at e
    obtain ⟨j, ej, ed⟩ := Option.map_eq_some_iff.mp e
    have hi : i < n := by
      have := (List.getElem?_eq_some_iff.mp ej).1
      simpa using this
    rw [List.getElem?_range hi] at ej
    cases ej
    subst ed
    refine ⟨hi, fun y H' hy => ?_⟩
    obtain ⟨rfl, rfl⟩ := hy
    exact ⟨w2, rfl, Ext.refl _ _, rel, .int _⟩
  stop := fun w2 h2 x rel _ => by
    show n ≤ _
    simp [stepD]
theorem rds3 {K : PySem.W.Frag} {w : Wd} {a b c : D} {vs : List V} (r : RDs K w [a, b, c] vs) : ∃ x y z, vs = [x, y, z] ∧ RD K w a x ∧ RD K w b y ∧ RD K w c z := by
  cases r with
  | cons r1 r => cases r with
    | cons r2 r => cases r with
      | cons r3 r =>
        cases r
        exact ⟨_, _, _, rfl, r1, r2, r3⟩
theorem li_rng3 {e e2 e3 : Expr} {p pos : Pos} {wa wb wc : WE} (hg : Gl X "range") (hm : X.mg "range" = none) (hp : pl e = true) (hp2 : pl e2 = true) (hp3 : pl e3 = true) (he : PE X e (liftE X.K wa)) (he2 : PE X e2 (liftE X.K wb)) (he3 : PE X e3 (liftE X.K wc)) :
    PI X tg (.Call (.Name "range" p) [e, e2, e3] [] pos) (liftI X.K fun σ h R => wa σ h fun x h1 => wb σ h1 fun y h2 => wc σ h2 fun z h3 => rng3 x y z fun ds => R ds (fun _ => True) h3) := by
  refine pi_imp (pi_range3 hg hm (la_cons hp he (la_cons hp2 he2 (la_cons hp3 he3 la_nil))) (star_pl hp) (star_all (by simp [hp2, hp3]))) fun σ H R ⟨w, σd, h, QD, eH, rel, rs, q, post⟩ => ?_
  refine ⟨w, σd, h, fun ds h1 => match ds with | [x, y, z] => (rng3 x y z fun ds => QD ds (fun _ => True) h1) | _ => False, eH, rel, rs, q, fun w1 h1 ds vs x1 rel1 r1 _ q1 => ?_⟩
  match ds, r1, q1 with
  | [d, d2, d3], r1, q1 =>
    replace q1 : rng3 d d2 d3 fun ds => QD ds (fun _ => True) h1 := q1
    obtain ⟨i, j, c, n, rfl, rfl, rfl, rg, hn, q1⟩ := q1
    obtain ⟨v1, v2, v3, rfl, r, r2, r3⟩ := rds3 r1
    cases r
    cases r2
    cases r3
    have hs : sizeLine = 16777216 := sizeLine_eq
    exact ⟨i, j, c, n, rfl, rg, post w1 h1 _ _ _ x1 rel1 (itok_step (by omega)) q1⟩
/-- reversed of a list or a tuple -/
theorem itok_revL {K : PySem.W.Frag} {w : Wd} {h : Hd} {a : Addr} {ds : List D} {st : Hd → Prop} (l : ds.length ≤ sizeLine) (at1 : ∀ w2 h2, Ext w w2 h h2 → RelW K w2 h2 → st h2 → ∃ xs, SqL K w2.H a xs ∧ RDs K w2 ds xs) : ItOk K w h ds.reverse st (Itv K a ds.length) where
  len := by rw [List.length_reverse]; exact l
  go := fun w2 h2 x rel s i d e => by
    obtain ⟨xs, q1, r1⟩ := at1 w2 h2 x rel s
    have hi : i < ds.length := by
      have := (List.getElem?_eq_some_iff.mp e).1
      simpa using this
    have e' : ds[ds.length - 1 - i]? = some d := by rw [← e, List.getElem?_reverse hi]
    obtain ⟨v, v1, v2⟩ := r1.get e'
    refine ⟨⟨hi, xs, v, q1, v1⟩, fun y H' hy => ?_⟩
    obtain ⟨rfl, hy⟩ := hy
    cases (hy xs q1).symm.trans v1
    exact ⟨w2, rfl, Ext.refl _ _, rel, v2⟩
  stop := fun w2 h2 x rel s => by show ds.length ≤ _; rw [List.length_reverse]; exact Nat.le_refl _
theorem itok_revT {K : PySem.W.Frag} {w : Wd} {h : Hd} {a : Addr} {ds : List D} {xs : List V} (l : ds.length ≤ sizeLine) (t1 : STup K w a xs) (r1 : RDs K w ds xs) : ItOk K w h ds.reverse (fun _ => True) (RT.ItvT K a ds.length) where
  len := by rw [List.length_reverse]; exact l
  go := fun w2 h2 x rel s i d e => by
    have hi : i < ds.length := by
      have := (List.getElem?_eq_some_iff.mp e).1
      simpa using this
    have e' : ds[ds.length - 1 - i]? = some d := by rw [← e, List.getElem?_reverse hi]
    obtain ⟨v, v1, v2⟩ := (r1.mono x).get e'
    refine ⟨⟨hi, xs, v, (t1.mono x).sq, v1⟩, fun y H' hy => ?_⟩
    obtain ⟨rfl, hy⟩ := hy
    cases (hy xs (t1.mono x).sq).symm.trans v1
    exact ⟨w2, rfl, Ext.refl _ _, rel, v2⟩
  stop := fun w2 h2 x rel s => by show ds.length ≤ _; rw [List.length_reverse]; exact Nat.le_refl _
theorem li_rev {e : Expr} {p pos : Pos} {wa : WE} (hg : Gl X "reversed") (hm : X.mg "reversed" = none) (hp : pl e = true) (he : PE X e (liftE X.K wa)) :
    PI X tg (.Call (.Name "reversed" p) [e] [] pos) (liftI X.K fun σ h R => wa σ h fun x h1 => revI x h1 fun ds st => R ds st h1) := by
  refine pi_imp (RT.pi_revA hg hm he (star_pl hp)) fun σ H R ⟨w, σd, h, QD, eH, rel, rs, q, post⟩ => ?_
  refine ⟨w, σd, h, _, eH, rel, rs, q, fun w1 h1 d v x1 rel1 r1 q1 => ?_⟩
  unfold revI at q1
  split at q1
  · cases r1 with
    | tup s1 l1 q2 =>
      refine ⟨_, _, rfl, .inr ⟨s1.sq, ?_⟩⟩
      rw [← q2.length]
      exact post w1 h1 _ _ _ x1 rel1 (itok_revT l1 s1 q2) q1
  · split at q1
    · rename_i ds st e1
      obtain ⟨l1, h1', a, rfl, at1⟩ := lstI_of rel1 r1 e1
      obtain ⟨xs, sx, rx⟩ := at1 w1 h1 (Ext.refl _ _) rel1 h1'
      refine ⟨_, xs, rfl, .inl ⟨sx, ?_⟩⟩
      rw [← rx.length]
      exact post w1 h1 _ _ _ x1 rel1 (itok_revL l1 at1) q1
    · exact q1.elim
end
end G

/-! enumerate over tuples. -/
namespace G
open PySem PySem.Spec PyProof.Rows L2
open AutoSeq1 (wpAny_loadPart')

set_option maxHeartbeats 1000000 in
theorem meets_enum_tup (l : Addr) (items : Array Value) :
    Meets (Builtin.«enumerate.__new__» ⟨[.type "enumerate", .ref l], []⟩) (fun _ R s => IsTup s.heap l items ∧
      R (.ok (.ret (.ref (s.heap.push { cls := .type "tuple_iterator", data := .fields #[.ref l, .int 0 0] }).objs.size)))
        { s with heap := (s.heap.push { cls := .type "tuple_iterator", data := .fields #[.ref l, .int 0 0] }).push { cls := .type "enumerate", data := .fields #[.none, .bool false, .ref s.heap.objs.size, rawInt 0, .none, .none] } }) :=
  .of_wp fun prog w A R s h => by
    obtain ⟨hp, g, d, tk, os⟩ := s
    obtain ⟨hT, h⟩ := h
    have hsub := sub_enumerate
    obtain ⟨o, hl, hcl, hda⟩ := id hT
    wp_walk using wpAny_loadPart' hl
    refine wpAny_stack_any fun st => wpAny_pure ?_
    split
    · rename_i c _ _ _ _ _
      cases (c == Value.type "enumerate")
      · wp_walk using wpAny_loadPart' hl, iter_tuple hT
        exact ⟨_, rfl, h⟩
      · wp_walk using wpAny_loadPart' hl, iter_tuple hT
        exact ⟨_, rfl, h⟩
    · wp_walk using wpAny_loadPart' hl, iter_tuple hT
      exact ⟨_, rfl, h⟩
set_option maxHeartbeats 1000000 in
theorem meets_enum_tupS (l : Addr) (items : Array Value) (t : Nat) :
    Meets (Builtin.«enumerate.__new__» ⟨[.type "enumerate", .ref l], [("start", .int 1 t)]⟩) (fun _ R s => IsTup s.heap l items ∧
      R (.ok (.ret (.ref (s.heap.push { cls := .type "tuple_iterator", data := .fields #[.ref l, .int 0 0] }).objs.size)))
        { s with heap := (s.heap.push { cls := .type "tuple_iterator", data := .fields #[.ref l, .int 0 0] }).push { cls := .type "enumerate", data := .fields #[.none, .bool false, .ref s.heap.objs.size, rawInt 1, .none, .none] } }) :=
  .of_wp fun prog w A R s h => by
    obtain ⟨hp, g, d, tk, os⟩ := s
    obtain ⟨hT, h⟩ := h
    have hsub := sub_enumerate
    obtain ⟨o, hl, hcl, hda⟩ := id hT
    wp_walk using wpAny_loadPart' hl
    refine wpAny_stack_any fun st => wpAny_pure ?_
    split
    · rename_i c _ _ _ _ _
      cases (c == Value.type "enumerate")
      · wp_walk using wpAny_loadPart' hl, iter_tuple hT
        exact ⟨_, rfl, h⟩
      · wp_walk using wpAny_loadPart' hl, iter_tuple hT
        exact ⟨_, rfl, h⟩
    · wp_walk using wpAny_loadPart' hl, iter_tuple hT
      exact ⟨_, rfl, h⟩
end G

namespace G
open PySem PySem.Spec PyProof.Rows L2
section
variable {prog : Program} {w : World} {A : Around} {E : Value → Shared → Prop} {s : Shared}
theorem init_kw {T newId : String} {ob : Value} {more : List Value} {kw : List (Str × Value)} (lk : typeLookup (.type T) "__init__" = pure (some (.builtin "object.__init__"))) (mk : Bind.madeBy (.type T) = pure (some newId)) (other : (some newId != some "object.__new__") = true) :
    Meets (Builtin.«object.__init__» ⟨ob :: more, kw⟩) (fun _ R s => s.TypeIs ob T ∧ R (.ok (.ret .none)) s) :=
  Meets.of_wp fun prog w A R s ⟨ty, q⟩ => by
    cases more with
    | nil =>
      cases kw with
      | nil => exact wpAny_pure ⟨_, rfl, q⟩
      | cons k kw =>
        repeat (any_goals (first | assumption | wp_step))
        exact ⟨_, rfl, q⟩
    | cons a more =>
      repeat (any_goals (first | assumption | wp_step))
      exact ⟨_, rfl, q⟩
theorem make_kw {T newId : String} {Bn : Builtin} {ps : List Value} {kw : List (Str × Value)} {S : PySem.Spec} {Q : Value → Shared → Prop} (ft : TypeCalled T newId "object.__init__") (other : (some newId != some "object.__new__") = true)
    (c1 : checkTypeCall T ⟨ps, kw⟩ = pure ()) (c2 : checkBuiltinCall newId ⟨.type T :: ps, kw⟩ = pure ()) (c3 : ∀ ob, argsOk "object.__init__" ⟨ob :: ps, kw⟩) (en : entryFor table newId = some Bn) (g : Meets (Bn ⟨.type T :: ps, kw⟩) S)
    (q : S A.in1 (wants (fun ob s1 => s1.TypeIs ob T ∧ Q ob s1) E) s) : wpAny (model prog w) A (call (.type T) ps kw) Q E s := by
  obtain ⟨c, tl, hmro⟩ := ft.mro
  have m1 := ft.made
  have m2 := ft.sub
  have m3 := ft.notType
  have m4 := ft.canCreate
  refine wpAny_call (codeAny_of_tree ?_)
  show wpAny _ _ (callAny (.type T) ⟨ps, kw⟩) _ _ _
  refine wpAny_pure ⟨Code.quiet_builtin _ (by decide +kernel), codeAny_builtin F.entry_type_call ?_⟩
  rw [Around.under_plain (weight_type_call_type T ps kw) (units_type_call_type T ps kw)]
  repeat (any_goals (first | assumption | wp_step))
  refine codeAny_mono (codeAny_call_builtin ft.plain en (wpAny_of_eq c2 (g prog w A.in1 _ s q))) fun r1 s1 w1 => ?_
  match r1, w1 with
  | .error e, w1 => exact w1
  | .ok .next, w1 => exact w1.elim
  | .ok .brk, w1 => exact w1.elim
  | .ok .cont, w1 => exact w1.elim
  | .ok (.ret ob), w1 =>
    obtain ⟨ty, w1⟩ := w1
    have l1 := ft.init.lookup
    have l2 := ft.init.bind ob
    repeat (any_goals (first | assumption | wp_step))
    refine codeAny_mono (R := fun r s2 => r = .ok (.ret .none) ∧ Q ob s2) (codeAny_call_builtin ft.init.plain F.entry_object_init (ft.init.check _ _ _ _ _ _ _ _ ty (c3 ob) (init_kw (more := ps) (kw := kw) ft.init.lookup ft.made other prog w A.in1 (fun r s2 => r = .ok (.ret .none) ∧ Q ob s2) s1 ⟨ty, rfl, w1⟩))) fun r2 s2 w2 => ?_
    obtain ⟨rfl, w2⟩ := w2
    repeat (any_goals (first | assumption | wp_step))
end
end G

/-! zip with strict, enumerate from a number on; each side a list or a tuple. -/
namespace G
open PySem PySem.Spec PyProof.Rows L2

theorem drawsLater {prog : Program} {w : World} {A : Around} {it : Addr} {fp : List Addr} {n : Nat} {P : Nat → Value → Prop} {St : Nat → Heap → Prop} (D : Draws prog w A it fp n P St) (k : Nat) :
    Draws prog w A it fp (n + k) (fun i v => ∃ j, i = j + k ∧ P j v) (fun i h => ∃ j, i = j + k ∧ St j h) where
  live := fun _ h ⟨j, _, q⟩ => D.live j h q
  frame := fun _ h h' ⟨j, e, q⟩ z => ⟨j, e, D.frame j h h' q z⟩
  item := fun i s Q E hi ⟨j, e, q⟩ z => D.item j s Q E (by omega) q fun x h' tk a b c => z x h' tk ⟨j, e, a⟩ ⟨j + 1, by omega, b⟩ c
  done := fun s Q E ⟨j, e, q⟩ z => D.done s Q E (by have : j = n := by omega
                                                    rw [← this]; exact q) z

/-- a list, or a tuple -/
def SqB (K : PySem.W.Frag) (t : Bool) (H : Hp) (a : Addr) (xs : List V) : Prop := match t with
  | true => SqT K H a xs
  | false => SqL K H a xs
def ItB (t : Bool) (h : Heap) (it a : Addr) (i : Nat) : Prop := match t with
  | true => h.IsTupleIter it a i
  | false => h.IsListIter it a i
def IsB (t : Bool) (h : Heap) (a : Addr) (its : Array Value) : Prop := match t with
  | true => h.IsTuple a its
  | false => h.IsList a its
def itObj (t : Bool) (a : Addr) : Obj := { cls := .type (match t with | true => "tuple_iterator" | false => "list_iterator"), data := .fields #[.ref a, .int 0 0] }
theorem ItB.at {t : Bool} {h h' : Heap} {it a : Addr} {i : Nat} (q : ItB t h it a i) (k : ∀ o, h.get? it = some o → h'.get? it = some o) : ItB t h' it a i := by
  cases t
  · exact (show h.IsListIter it a i from q).at k
  · exact (show h.IsTupleIter it a i from q).at k
theorem ItB.obj {t : Bool} {h : Heap} {it a : Addr} {i : Nat} (q : ItB t h it a i) : ∃ o, h.get? it = some o ∧ ∀ v, o.data ≠ .cell v := by
  cases t
  · obtain ⟨o, e, _, d⟩ := (show h.IsListIter it a i from q)
    exact ⟨o, e, fun v z => by rw [d] at z; cases z⟩
  · obtain ⟨o, e, _, d⟩ := (show h.IsTupleIter it a i from q)
    exact ⟨o, e, fun v z => by rw [d] at z; cases z⟩
theorem IsB.at {t : Bool} {h h' : Heap} {a : Addr} {its : Array Value} (q : IsB t h a its) (k : ∀ o, h.get? a = some o → h'.get? a = some o) : IsB t h' a its := by
  cases t
  · exact (show h.IsList a its from q).at k
  · exact (show h.IsTuple a its from q).at k
theorem IsB.there {t : Bool} {h : Heap} {a : Addr} {its : Array Value} (q : IsB t h a its) : a < h.objs.size := by
  cases t
  · obtain ⟨o, e, _⟩ := (show h.IsList a its from q)
    first | exact Heap.lt_size e | exact Heap.lt_size ‹_›
  · obtain ⟨o, e, _⟩ := (show h.IsTuple a its from q)
    exact Heap.lt_size e
theorem drawsB {prog : Program} {w : World} {A : Around} (hh : A.handled = none) (t : Bool) (it a : Addr) (ne : a ≠ it) (its : Array Value) :
    Draws prog w A it [it, a] its.size (fun i v => its[i]? = some v) (fun i h => ItB t h it a i ∧ IsB t h a its) := by
  cases t
  · exact Draws.list hh it a ne its
  · exact Draws.tuple hh it a ne its
theorem sqB_of {X : Cx} {pins : List (Addr × Obj)} {σ : L2.St} {H : Hp} {s : Shared} {t : Bool} {a : Addr} {xs : List V} (I : Inv X pins σ H s) (q : SqB X.K t H a xs) : ∃ its : List Value, Vals xs its ∧ IsB t s.heap a its.toArray := by
  cases t
  · obtain ⟨its, r, p, _⟩ := I.list (show SqL X.K H a xs from q)
    exact ⟨its, r, p.isList⟩
  · obtain ⟨its, r, p, _⟩ := I.tuple (show SqT X.K H a xs from q)
    exact ⟨its, r, p⟩
theorem sqB_inj {X : Cx} {pins : List (Addr × Obj)} {σ : L2.St} {H : Hp} {s : Shared} {t : Bool} {a : Addr} {xs ys : List V} (I : Inv X pins σ H s) (p : SqB X.K t H a xs) (q : SqB X.K t H a ys) : xs = ys := by
  cases t
  · exact I.list_inj p q
  · exact I.tuple_inj p q

section
variable {prog : Program} {w : World} {A : Around} {E : Value → Shared → Prop} {s : Shared}
theorem iter_B {t : Bool} {a : Addr} {its : Array Value} {Q : Value → Shared → Prop} (q : IsB t s.heap a its) (h : Q (.ref s.heap.objs.size) { s with heap := s.heap.push (itObj t a) }) : wpAny (model prog w) A (pyIter (.ref a)) Q E s := by
  cases t
  · exact wpAny_pyIter_list q h
  · exact wpAny_pyIter_tuple q h
/-! ### what strict draws -/
theorem more_item {it : Addr} {fp : List Addr} {n i : Nat} {P : Nat → Value → Prop} {St : Nat → Heap → Prop} {Q : Option Value → Shared → Prop} (D : Draws prog w A it fp n P St) (hi : i < n) (q : St i s.heap)
    (z : ∀ x h' tk, P i x → St (i + 1) h' → Heap.SameBut it s.heap h' → Q (some x) { s with heap := h', toks := tk }) : wpAny (model prog w) A (Builtin.SmallTypes.nextOrEnd (.ref it)) Q E s := by
  unfold Builtin.SmallTypes.nextOrEnd
  exact wpAny_bind (wpAny_attempt (D.item i s _ _ hi q fun x h' tk a b c => wpAny_pure (z x h' tk a b c)))
theorem more_end {it : Addr} {fp : List Addr} {n : Nat} {P : Nat → Value → Prop} {St : Nat → Heap → Prop} {Q : Option Value → Shared → Prop} (D : Draws prog w A it fp n P St) (q : St n s.heap)
    (z : ∀ h', Heap.ExtBut it s.heap h' → Q none { s with heap := h' }) : wpAny (model prog w) A (Builtin.SmallTypes.nextOrEnd (.ref it)) Q E s := by
  unfold Builtin.SmallTypes.nextOrEnd
  refine wpAny_bind (wpAny_attempt (D.done s _ _ q fun h' e x ⟨o, ho, hc⟩ => ?_))
  exact wpAny_bind (wpAny_isInstance (T := "StopIteration") (b := true) ⟨o, ho, hc⟩ isSubtype_stop (wpAny_pure (z h' x)))
end
/-- a strict zip -/
abbrev IsZS (h : Heap) (z TI TO : Addr) (f0 : Value) : Prop := h.get? z = some { cls := .type "zip", dict := none, data := .fields #[f0, .bool false, .bool true, .ref TI, .ref TO], slots := #[] }
/-- its objects stand apart -/
structure ZAp (z TI TO i1 i2 : Addr) (f1 f2 : List Addr) : Prop where
  n1 : TI ≠ z ∧ TO ≠ z ∧ i1 ≠ z ∧ i2 ≠ z
  n2 : TI ≠ TO ∧ TI ≠ i1 ∧ TI ≠ i2
  n3 : TO ≠ i1 ∧ TO ≠ i2 ∧ i1 ≠ i2
  n4 : z ∉ f1 ∧ z ∉ f2 ∧ TO ∉ f1 ∧ TO ∉ f2
  n5 : i1 ∉ f2 ∧ i2 ∉ f1
section
variable {prog : Program} {w : World} {A : Around} {E : Value → Shared → Prop} {s : Shared}
variable {z TI TO i1 i2 : Addr} {f1 f2 : List Addr} {n1 n2 k1 k2 : Nat} {P1 P2 : Nat → Value → Prop} {S1 S2 : Nat → Heap → Prop} {a b : Value}
theorem dbut {it b : Addr} {fp : List Addr} {n i : Nat} {P : Nat → Value → Prop} {St : Nat → Heap → Prop} {h h' : Heap} (D : Draws prog w A it fp n P St) (q : St i h) (x : Heap.ExtBut b h h') (nb : b ∉ fp) : St i h' :=
  D.frame i h h' q fun c hc o e => x c o (fun y => nb (y ▸ hc)) e
theorem zs_item {Q : Value → Shared → Prop} (D1 : Draws prog w A i1 f1 n1 P1 S1) (D2 : Draws prog w A i2 f2 n2 P2 S2) (Z : ZAp z TI TO i1 i2 f1 f2) (hz : IsZS s.heap z TI TO .none) (hI : IsPair s.heap TI (.ref i1) (.ref i2)) (hO : IsPair s.heap TO a b)
    (q1 : S1 k1 s.heap) (q2 : S2 k2 s.heap) (l1 : k1 < n1) (l2 : k2 < n2)
    (hQ : ∀ x y h' tk, P1 k1 x → P2 k2 y → IsZS h' z TI TO (rawInt s.heap.objs.size) → IsPair h' TO x y → S1 (k1 + 1) h' → S2 (k2 + 1) h' → IsPair h' s.heap.objs.size x y →
      (∀ c o, c ≠ z → c ≠ TO → c ≠ i1 → c ≠ i2 → s.heap.get? c = some o → h'.get? c = some o) → Q (.ref s.heap.objs.size) { s with heap := h', toks := tk }) :
    wpAny (model prog w) A (Builtin.«zip.__next__» ⟨[.ref z], []⟩) (fun fin s' => ∃ v, fin = .done (.ret v) ∧ Q v s') E s := by
  obtain ⟨⟨e1, e2, e3, e4⟩, ⟨e5, e6, e7⟩, ⟨e8, e9, e10⟩, ⟨m1, m2, m3, m4⟩, m5, m6⟩ := Z
  obtain ⟨H0, gg, dd, tk0, oo⟩ := s
  show wpAny _ _ (field (.ref z) 2 >>= _) _ _ _
  refine wpAny_bind (wpAny_field hz rfl (x := .bool true) rfl ?_)
  show wpAny _ _ (field (.ref z) 3 >>= _) _ _ _
  refine wpAny_bind (wpAny_field hz rfl (x := .ref TI) rfl (wpAny_bind (wpAny_seqItems hI rfl ?_)))
  show wpAny _ _ (Builtin.SmallTypes.ownedTupleIsFree (.ref z) >>= _) _ _ _
  refine wpAny_bind ?_
  unfold Builtin.SmallTypes.ownedTupleIsFree
  refine wpAny_bind (wpAny_field hz rfl (x := .none) rfl (wpAny_pure ?_))
  simp only [if_true]
  refine wpAny_bind (wpAny_rule (wpAny_bind (wpAny_field hz rfl (x := .ref TO) rfl ?_)))
  refine wpAny_bind (wpAny_setField_rec hz (by simp) fun H1 z1 b1 => ?_)
  replace z1 : IsZS H1 z TI TO .ellipsis := z1
  replace b1 : Heap.SameBut z H0 H1 := b1
  refine wpAny_bind ?_
  simp only [List.zipIdx_cons, List.zipIdx_nil, List.forIn_cons, List.forIn_nil]
  refine wpAny_bind (wpAny_bind (wpAny_onRaise ?_))
  show wpAny _ _ (Builtin.SmallTypes.nextOrEnd (.ref i1)) _ _ _
  refine more_item D1 l1 (dbut D1 q1 b1.extBut m1) fun x H2 t2 p1 q1' b2 => ?_
  replace b2 : Heap.SameBut i1 H1 H2 := b2
  have o2 : IsPair H2 TO a b := b2.extBut _ _ e8 (b1.extBut _ _ e2 hO)
  refine wpAny_bind (wpAny_seqItems o2 rfl (wpAny_bind (wpAny_updateSeq_pair o2 fun H3 o3 b3 => ?_)))
  replace o3 : IsPair H3 TO x b := o3
  replace b3 : Heap.SameBut TO H2 H3 := b3
  refine wpAny_bind (wpAny_letGo (wpAny_pure ?_))
  refine wpAny_bind (wpAny_bind (wpAny_onRaise ?_))
  show wpAny _ _ (Builtin.SmallTypes.nextOrEnd (.ref i2)) _ _ _
  refine more_item D2 l2 (dbut D2 (dbut D2 (dbut D2 q2 b1.extBut m2) b2.extBut m5) b3.extBut m4) fun y H4 t4 p2 q2' b4 => ?_
  replace b4 : Heap.SameBut i2 H3 H4 := b4
  have o4 : IsPair H4 TO x b := b4.extBut _ _ e9 o3
  refine wpAny_bind (wpAny_seqItems o4 rfl (wpAny_bind (wpAny_updateSeq_pair o4 fun H5 o5 b5 => ?_)))
  replace o5 : IsPair H5 TO x y := o5
  replace b5 : Heap.SameBut TO H4 H5 := b5
  refine wpAny_bind (wpAny_letGo (wpAny_pure (wpAny_pure ?_)))
  refine wpAny_bind (wpAny_seqItems o5 rfl (wpAny_bind (wpAny_newTuple ?_)))
  have sz : H5.objs.size = H0.objs.size := by rw [b5.1, b4.1, b3.1, b2.1, b1.1]
  have z5 : IsZS H5 z TI TO .ellipsis := b5.extBut _ _ e2.symm (b4.extBut _ _ e4.symm (b3.extBut _ _ e2.symm (b2.extBut _ _ e3.symm z1)))
  have k5 : ∀ c o, c ≠ z → c ≠ TO → c ≠ i1 → c ≠ i2 → H0.get? c = some o → H5.get? c = some o := fun c o c1 c2 c3 c4 e => b5.extBut _ _ c2 (b4.extBut _ _ c4 (b3.extBut _ _ c2 (b2.extBut _ _ c3 (b1.extBut _ _ c1 e))))
  have zl : z < H5.objs.size := Heap.lt_size z5
  show wpAny _ _ (Builtin.SmallTypes.ownedTupleHandOut (.ref z) (.ref H5.objs.size) >>= _) _ _ _
  refine wpAny_bind ?_
  unfold Builtin.SmallTypes.ownedTupleHandOut
  have z6 : IsZS (H5.push { cls := .type "tuple", data := .seq #[x, y] }) z TI TO .ellipsis := Heap.get?_push_of_some _ z5
  refine wpAny_bind (wpAny_setField_rec z6 (by simp) fun H7 z7 b7 => ?_)
  replace z7 : IsZS H7 z TI TO (rawInt H5.objs.size) := z7
  refine wpAny_setField_rec z7 (by simp) fun H8 z8 b8 => ?_
  replace z8 : IsZS H8 z TI TO (rawInt H5.objs.size) := z8
  replace b7 : Heap.SameBut z _ H7 := b7
  replace b8 : Heap.SameBut z H7 H8 := b8
  have up : ∀ c o, c ≠ z → H5.get? c = some o → H8.get? c = some o := fun c o c1 e => b8.extBut _ _ c1 (b7.extBut _ _ c1 (Heap.get?_push_of_some _ e))
  have t8 : IsPair H8 H5.objs.size x y := b8.extBut _ _ (Nat.ne_of_gt zl) (b7.extBut _ _ (Nat.ne_of_gt zl) (Heap.get?_push_size _ rfl))
  refine wpAny_pure ⟨_, rfl, ?_⟩
  show Q (.ref H5.objs.size) _
  rw [sz] at z8 t8 ⊢
  refine hQ x y H8 _ p1 p2 z8 (up _ _ e2 o5) ?_ ?_ t8 fun c o c1 c2 c3 c4 e => up c o c1 (k5 c o c1 c2 c3 c4 e)
  · exact D1.frame _ _ _ (dbut D1 (dbut D1 (dbut D1 q1' b3.extBut m3) b4.extBut m6) b5.extBut m3) fun c hc o e => up c o (fun y => m1 (y ▸ hc)) e
  · exact D2.frame _ _ _ (dbut D2 q2' b5.extBut m4) fun c hc o e => up c o (fun y => m2 (y ▸ hc)) e
theorem zs_end {Q : Fin → Shared → Prop} (hh : A.handled = none) (D1 : Draws prog w A i1 f1 n1 P1 S1) (D2 : Draws prog w A i2 f2 n2 P2 S2) (Z : ZAp z TI TO i1 i2 f1 f2) (hz : IsZS s.heap z TI TO .none) (hI : IsPair s.heap TI (.ref i1) (.ref i2)) (hO : IsPair s.heap TO a b)
    (q1 : S1 n1 s.heap) (q2 : S2 n2 s.heap) (hE : ∀ h' e, (∀ c o, c ≠ z → c ≠ i1 → c ≠ i2 → s.heap.get? c = some o → h'.get? c = some o) → (∃ o, h'.get? e = some o ∧ o.cls = .type "StopIteration") → E (.ref e) { s with heap := h' }) :
    wpAny (model prog w) A (Builtin.«zip.__next__» ⟨[.ref z], []⟩) Q E s := by
  obtain ⟨⟨e1, e2, e3, e4⟩, ⟨e5, e6, e7⟩, ⟨e8, e9, e10⟩, ⟨m1, m2, m3, m4⟩, m5, m6⟩ := Z
  obtain ⟨H0, gg, dd, tk0, oo⟩ := s
  show wpAny _ _ (field (.ref z) 2 >>= _) _ _ _
  refine wpAny_bind (wpAny_field hz rfl (x := .bool true) rfl ?_)
  show wpAny _ _ (field (.ref z) 3 >>= _) _ _ _
  refine wpAny_bind (wpAny_field hz rfl (x := .ref TI) rfl (wpAny_bind (wpAny_seqItems hI rfl ?_)))
  show wpAny _ _ (Builtin.SmallTypes.ownedTupleIsFree (.ref z) >>= _) _ _ _
  refine wpAny_bind ?_
  unfold Builtin.SmallTypes.ownedTupleIsFree
  refine wpAny_bind (wpAny_field hz rfl (x := .none) rfl (wpAny_pure ?_))
  simp only [if_true]
  refine wpAny_bind (wpAny_rule (wpAny_bind (wpAny_field hz rfl (x := .ref TO) rfl ?_)))
  refine wpAny_bind (wpAny_setField_rec hz (by simp) fun H1 z1 b1 => ?_)
  replace z1 : IsZS H1 z TI TO .ellipsis := z1
  replace b1 : Heap.SameBut z H0 H1 := b1
  refine wpAny_bind ?_
  simp only [List.zipIdx_cons, List.zipIdx_nil, List.forIn_cons, List.forIn_nil]
  refine wpAny_bind (wpAny_bind (wpAny_onRaise ?_))
  show wpAny _ _ (Builtin.SmallTypes.nextOrEnd (.ref i1)) _ _ _
  refine more_end D1 (dbut D1 q1 b1.extBut m1) fun H2 b2 => ?_
  replace b2 : Heap.ExtBut i1 H1 H2 := b2
  have z2 : IsZS H2 z TI TO .ellipsis := b2 _ _ e3.symm z1
  refine wpAny_bind (wpAny_setField_rec z2 (by simp) fun H3 z3 b3 => ?_)
  replace b3 : Heap.SameBut z H2 H3 := b3
  refine wpAny_bind ?_
  have q2' : S2 n2 H3 := dbut D2 (dbut D2 (dbut D2 q2 b1.extBut m2) b2 m5) b3.extBut m2
  k_delta "zipStrictEnd"
  dsimp only
  rw [if_neg (by decide : ¬ (0 > 0))]
  simp only [List.drop_succ_cons, List.drop_zero, List.zipIdx_cons, List.zipIdx_nil, List.forIn_cons, List.forIn_nil]
  refine wpAny_bind (wpAny_bind (wpAny_bind ?_))
  refine more_end D2 q2' fun H4 b4 => ?_
  replace b4 : Heap.ExtBut i2 H3 H4 := b4
  simp only [Option.isSome_none, Bool.false_eq_true, if_false]
  refine wpAny_pure (wpAny_pure (wpAny_bind (wpAny_rule ?_)))
  unfold Builtin.SmallTypes.stopIteration
  refine wpAny_bind ?_
  simp only [newExc, newTuple]
  refine wpAny_bind (wpAny_newObj_type ?_ (by size_fits))
  refine wpAny_bind (m := firstArgMember _ _) (wpAny_of_eq (a := Value.none) (by first | rfl | (simp only [firstArgMember]; rfl)) (wpAny_newObj_type ?_ (by size_fits)))
  simp only [raiseNew]
  refine wpAny_bind (wpAny_handled ?_)
  first | rw [show A.in1.handled = none from hh] | rw [hh]
  refine wpAny_bind (wpAny_pure (wpAny_throw (hE _ _ (fun c o c1 c2 c3 e => ?_) ⟨_, Heap.get?_push_size _ rfl, rfl⟩)))
  exact Heap.get?_push_of_some _ (Heap.get?_push_of_some _ (b4 _ _ c3 (b3.extBut _ _ c1 (b2 _ _ c2 (b1.extBut _ _ c1 e)))))
end
section
variable {prog : Program} {w : World} {A : Around} {E : Value → Shared → Prop} {s : Shared}
variable {z TI TO i1 i2 : Addr} {f1 f2 : List Addr} {n1 n2 k1 k2 : Nat} {P1 P2 : Nat → Value → Prop} {S1 S2 : Nat → Heap → Prop} {a b : Value}
theorem zs_next {Q : Option Value → Shared → Prop} (D1 : Draws prog w A.in1 i1 f1 n1 P1 S1) (D2 : Draws prog w A.in1 i2 f2 n2 P2 S2) (Z : ZAp z TI TO i1 i2 f1 f2) (hz : IsZS s.heap z TI TO .none) (hI : IsPair s.heap TI (.ref i1) (.ref i2)) (hO : IsPair s.heap TO a b)
    (q1 : S1 k1 s.heap) (q2 : S2 k2 s.heap) (l1 : k1 < n1) (l2 : k2 < n2)
    (hQ : ∀ x y h' tk, P1 k1 x → P2 k2 y → IsZS h' z TI TO (rawInt s.heap.objs.size) → IsPair h' TO x y → S1 (k1 + 1) h' → S2 (k2 + 1) h' → IsPair h' s.heap.objs.size x y →
      (∀ c o, c ≠ z → c ≠ TO → c ≠ i1 → c ≠ i2 → s.heap.get? c = some o → h'.get? c = some o) → Q (some (.ref s.heap.objs.size)) { s with heap := h', toks := tk }) : wpAny (model prog w) A (pyNext (.ref z)) Q E s := by
  have hT : s.TypeIs (.ref z) "zip" := ⟨_, hz, rfl⟩
  unfold pyNext
  exact wpAny_bind (wpAny_attempt (wpAny_callSpecial?_slot (name := Str.ofString "__next__") hT F.slot_zip_next (wpAny_call_entry F.slot_zip_next hT F.entry_zip_next
    (zs_item D1 D2 Z hz hI hO q1 q2 l1 l2 fun x y h' tk a1 a2 a3 a4 a5 a6 a7 a8 => wpAny_pure (hQ x y h' tk a1 a2 a3 a4 a5 a6 a7 a8)) (F.args_zip_next_1 _))))
theorem zs_stop {Q : Option Value → Shared → Prop} (hh : A.handled = none) (D1 : Draws prog w A.in1 i1 f1 n1 P1 S1) (D2 : Draws prog w A.in1 i2 f2 n2 P2 S2) (Z : ZAp z TI TO i1 i2 f1 f2) (hz : IsZS s.heap z TI TO .none) (hI : IsPair s.heap TI (.ref i1) (.ref i2)) (hO : IsPair s.heap TO a b)
    (q1 : S1 n1 s.heap) (q2 : S2 n2 s.heap) (hQ : ∀ h', (∀ c o, c ≠ z → c ≠ i1 → c ≠ i2 → s.heap.get? c = some o → h'.get? c = some o) → Q none { s with heap := h' }) : wpAny (model prog w) A (pyNext (.ref z)) Q E s := by
  have hT : s.TypeIs (.ref z) "zip" := ⟨_, hz, rfl⟩
  unfold pyNext
  refine wpAny_bind (wpAny_attempt (wpAny_callSpecial?_slot (name := Str.ofString "__next__") hT F.slot_zip_next (wpAny_call_entry F.slot_zip_next hT F.entry_zip_next
    (zs_end (show A.in1.handled = none from hh) D1 D2 Z hz hI hO q1 q2 fun h' e hk he => ?_) (F.args_zip_next_1 _))))
  obtain ⟨o, ho, hc⟩ := he
  exact wpAny_bind (wpAny_isInstance (T := "StopIteration") (b := true) ⟨o, ho, hc⟩ isSubtype_stop (wpAny_pure (hQ _ hk)))
theorem zs_go {elts : List Expr} {kk : Nat} {pos : Pos} {T : Addr} {Q : Unit → Shared → Prop} (hz : IsZS s.heap z TI TO (rawInt T)) (hQ : ∀ h', IsZS h' z TI TO .none → Heap.SameBut z s.heap h' → Q () { s with heap := h' }) :
    wpAny (model prog w) A (letOwnedTupleGo (.Tuple elts kk pos) (.ref z) (.ref T)) Q E s := by
  unfold letOwnedTupleGo
  refine wpAny_bind (wpAny_load hz ?_)
  dsimp only
  rw [if_pos (by simp)]
  refine wpAny_bind (wpAny_rule ?_)
  exact wpAny_setField_rec hz (by simp) fun h' hz' hs' => hQ h' hz' hs'
theorem zs_iter {f0 : Value} {Q : Value → Shared → Prop} (hz : IsZS s.heap z TI TO f0) (h : Q (.ref z) s) : wpAny (model prog w) A (pyIter (.ref z)) Q E s := by
  have hT : s.TypeIs (.ref z) "zip" := ⟨_, hz, rfl⟩
  refine wpAny_pyIter_slot hT F.slot_zip_iter (wpAny_call_entry F.slot_zip_iter hT F.entry_zip_iter ?_ (F.args_zip_iter_1 _))
  exact wpAny_pure ⟨_, rfl, "zip", _, hT, F.slot_zip_next.lookup, h⟩
end
/-- both as they stand at each turn -/
def ItZS (K : PySem.W.Frag) (t1 t2 : Bool) (a b : Addr) : It where
  go := fun i H => ∃ xs ys x y, SqB K t1 H a xs ∧ SqB K t2 H b ys ∧ xs[i]? = some x ∧ ys[i]? = some y
  yld := fun i H v H' => ∃ T x y, v = .ref T ∧ H T = none ∧ H' = upd H T (.tup [x, y]) ∧ (∀ xs, SqB K t1 H a xs → xs[i]? = some x) ∧ ∀ ys, SqB K t2 H b ys → ys[i]? = some y
  stop := fun i H => ∃ xs ys, SqB K t1 H a xs ∧ SqB K t2 H b ys ∧ xs.length = i ∧ ys.length = i
theorem turn_zs {P : Program} {w : World} {K : PySem.W.Frag} {elts : List Expr} {kk : Nat} {tpos : Pos} {t1 t2 : Bool} {a b z TI TO i1 i2 : Addr} (Z : ZAp z TI TO i1 i2 [i1, a] [i2, b]) :
    Turn P w K (.Tuple elts kk tpos) (ItZS K t1 t2 a b) [z, TI, TO, i1, i2] z (fun i h => IsZS h z TI TO .none ∧ IsPair h TI (.ref i1) (.ref i2) ∧ (∃ x y, IsPair h TO x y) ∧ ItB t1 h i1 a i ∧ ItB t2 h i2 b i) where
  mem := by simp
  obj := fun i h st c hc => by
    obtain ⟨hz, hI, ⟨x, y, hO⟩, q1, q2⟩ := st
    simp only [List.mem_cons, List.not_mem_nil, or_false] at hc
    rcases hc with rfl | rfl | rfl | rfl | rfl
    · exact ⟨_, hz, fun v q => nomatch q⟩
    · exact ⟨_, hI, fun v q => nomatch q⟩
    · exact ⟨_, hO, fun v q => nomatch q⟩
    · exact q1.obj
    · exact q2.obj
  keep := fun i h h' st k => by
    obtain ⟨hz, hI, ⟨x, y, hO⟩, q1, q2⟩ := st
    exact ⟨k z (by simp) _ hz, k TI (by simp) _ hI, ⟨x, y, k TO (by simp) _ hO⟩, q1.at fun o q => k i1 (by simp) o q, q2.at fun o q => k i2 (by simp) o q⟩
  item := by
    intro X hP hw hK hc i pins s σ H E I hf st hg
    subst hP hw hK
    obtain ⟨hz, hI, ⟨x0, y0, hO⟩, q1, q2⟩ := st
    obtain ⟨xs, ys, x, y, sx, sy, hx, hy⟩ := hg
    obtain ⟨its1, r1, p1⟩ := sqB_of I sx
    obtain ⟨its2, r2, p2⟩ := sqB_of I sy
    obtain ⟨u1, hu1, ru1⟩ := r1.get hx
    obtain ⟨u2, hu2, ru2⟩ := r2.get hy
    have zl : z < s.heap.objs.size := Heap.lt_size hz
    have hh : X.A.in1.handled = none := I.ok.hd hc
    have ne1 : a ≠ i1 := fun e => by
      obtain ⟨o, ho, hcl, n, hd⟩ : ∃ o, s.heap.get? a = some o ∧ True ∧ ∃ n, o.data = .seq its1.toArray n := by
        cases t1
        · obtain ⟨o, e, _, n, d⟩ := (show s.heap.IsList a _ from p1); exact ⟨o, e, trivial, n, d⟩
        · obtain ⟨o, e, _, n, d⟩ := (show s.heap.IsTuple a _ from p1); exact ⟨o, e, trivial, n, d⟩
      obtain ⟨o', ho', hd'⟩ : ∃ o, s.heap.get? i1 = some o ∧ o.data = .fields #[.ref a, .int i 0] := by
        cases t1
        · obtain ⟨o, e, _, d⟩ := (show s.heap.IsListIter i1 a i from q1); exact ⟨o, e, d⟩
        · obtain ⟨o, e, _, d⟩ := (show s.heap.IsTupleIter i1 a i from q1); exact ⟨o, e, d⟩
      rw [e, ho'] at ho
      cases ho
      rw [hd] at hd'
      cases hd'
    have ne2 : b ≠ i2 := fun e => by
      obtain ⟨o, ho, hcl, n, hd⟩ : ∃ o, s.heap.get? b = some o ∧ True ∧ ∃ n, o.data = .seq its2.toArray n := by
        cases t2
        · obtain ⟨o, e, _, n, d⟩ := (show s.heap.IsList b _ from p2); exact ⟨o, e, trivial, n, d⟩
        · obtain ⟨o, e, _, n, d⟩ := (show s.heap.IsTuple b _ from p2); exact ⟨o, e, trivial, n, d⟩
      obtain ⟨o', ho', hd'⟩ : ∃ o, s.heap.get? i2 = some o ∧ o.data = .fields #[.ref b, .int i 0] := by
        cases t2
        · obtain ⟨o, e, _, d⟩ := (show s.heap.IsListIter i2 b i from q2); exact ⟨o, e, d⟩
        · obtain ⟨o, e, _, d⟩ := (show s.heap.IsTupleIter i2 b i from q2); exact ⟨o, e, d⟩
      rw [e, ho'] at ho
      cases ho
      rw [hd] at hd'
      cases hd'
    have lt1 : i < its1.toArray.size := by rw [List.size_toArray]; exact (List.getElem?_eq_some_iff.mp hu1).1
    have lt2 : i < its2.toArray.size := by rw [List.size_toArray]; exact (List.getElem?_eq_some_iff.mp hu2).1
    refine zs_next (drawsB hh t1 i1 a ne1 its1.toArray) (drawsB hh t2 i2 b ne2 its2.toArray) Z hz hI hO ⟨q1, p1⟩ ⟨q2, p2⟩ lt1 lt2 fun v1 v2 h' tk e1 e2 z' O' s1 s2 hT hk => ?_
    have e1' : v1 = u1 := by simp only [List.getElem?_toArray] at e1; rw [hu1] at e1; exact (Option.some.inj e1).symm
    have e2' : v2 = u2 := by simp only [List.getElem?_toArray] at e2; rw [hu2] at e2; exact (Option.some.inj e2).symm
    subst e1'
    subst e2'
    refine ⟨_, rfl, zs_go (s := { s with heap := h', toks := tk }) z' fun h'' z'' sb => ?_⟩
    have hT2 : h''.get? s.heap.objs.size = some { cls := .type "tuple", data := .seq #[v1, v2] } := (sb.2 _ (Nat.ne_of_gt zl)).trans hT
    have new : ObjOk X.prog X.w (upd H s.heap.objs.size (.tup [x, y])) h'' s.heap.objs.size (.tup [x, y]) := ⟨by show 2 ≤ sizeLine; decide, [v1, v2], .cons ru1 (.cons ru2 .nil), ⟨_, hT2, rfl, _, rfl⟩⟩
    have I1 : Inv X pins σ (upd H s.heap.objs.size (.tup [x, y])) { s with heap := h'', toks := tk } :=
      I.turnedNew (t' := tk) (ch := [z, TI, TO, i1, i2]) (fun c o hb q => (sb.2 c (fun q' => hb (by simp [q']))).trans (hk c o (fun q' => hb (by simp [q'])) (fun q' => hb (by simp [q'])) (fun q' => hb (by simp [q'])) (fun q' => hb (by simp [q'])) q)) hf (Nat.le_refl _) new
    obtain ⟨⟨d1, d2, d3, d4⟩, ⟨d5, d6, d7⟩, ⟨d8, d9, d10⟩, _, _⟩ := Z
    refine ⟨.ref s.heap.objs.size, _, I1, rfl, ⟨_, x, y, rfl, I.hok.fresh (Nat.le_refl _), rfl, fun l hl => by rw [sqB_inj I hl sx]; exact hx, fun l hl => by rw [sqB_inj I hl sy]; exact hy⟩, ⟨z'', ?_, ⟨v1, v2, ?_⟩, ?_, ?_⟩, fun c hcm => ?_⟩
    · exact (sb.2 _ d1).trans (hk _ _ d1 d5 d6 d7 hI)
    · exact (sb.2 _ d2).trans O'
    · exact s1.1.at fun o q => (sb.2 _ d3).trans q
    · exact s2.1.at fun o q => (sb.2 _ d4).trans q
    · have hlt : c < s.heap.objs.size := by
        simp only [List.mem_cons, List.not_mem_nil, or_false] at hcm
        rcases hcm with rfl | rfl | rfl | rfl | rfl
        · exact zl
        · exact Heap.lt_size hI
        · exact Heap.lt_size hO
        · obtain ⟨_, e1, _⟩ := q1.obj; exact Heap.lt_size e1
        · obtain ⟨_, e2, _⟩ := q2.obj; exact Heap.lt_size e2
      rw [upd_ne (Nat.ne_of_lt hlt)]
      exact (hf c hcm).1
  done := by
    intro X hP hw hK hc i pins s σ H E I hf st hg
    subst hP hw hK
    obtain ⟨hz, hI, ⟨x0, y0, hO⟩, q1, q2⟩ := st
    obtain ⟨xs, ys, sx, sy, lx, ly⟩ := hg
    obtain ⟨its1, r1, p1⟩ := sqB_of I sx
    obtain ⟨its2, r2, p2⟩ := sqB_of I sy
    have hh : X.A.in1.handled = none := I.ok.hd hc
    have ne : ∀ {t : Bool} {it a : Addr} {its : List Value}, ItB t s.heap it a i → IsB t s.heap a its.toArray → a ≠ it := fun {t it a its} q p e => by
      obtain ⟨o, ho, hcl, n, hd⟩ : ∃ o, s.heap.get? a = some o ∧ True ∧ ∃ n, o.data = .seq its.toArray n := by
        cases t
        · obtain ⟨o, e, _, n, d⟩ := (show s.heap.IsList a _ from p); exact ⟨o, e, trivial, n, d⟩
        · obtain ⟨o, e, _, n, d⟩ := (show s.heap.IsTuple a _ from p); exact ⟨o, e, trivial, n, d⟩
      obtain ⟨o', ho', hd'⟩ : ∃ o, s.heap.get? it = some o ∧ o.data = .fields #[.ref a, .int i 0] := by
        cases t
        · obtain ⟨o, e, _, d⟩ := (show s.heap.IsListIter it a i from q); exact ⟨o, e, d⟩
        · obtain ⟨o, e, _, d⟩ := (show s.heap.IsTupleIter it a i from q); exact ⟨o, e, d⟩
      rw [e, ho'] at ho
      cases ho
      rw [hd] at hd'
      cases hd'
    have n1 : its1.toArray.size = i := by rw [List.size_toArray, ← r1.length, lx]
    have n2 : its2.toArray.size = i := by rw [List.size_toArray, ← r2.length, ly]
    refine zs_stop (I.ok.hd hc) (drawsB hh t1 i1 a (ne q1 p1) its1.toArray) (drawsB hh t2 i2 b (ne q2 p2) its2.toArray) Z hz hI hO (by rw [n1]; exact ⟨q1, p1⟩) (by rw [n2]; exact ⟨q2, p2⟩) fun h' hk => ⟨rfl, I.turnedL (t' := s.toks) (ch := [z, TI, TO, i1, i2]) (fun c o hb q =>
      hk c o (fun q' => hb (by simp [q'])) (fun q' => hb (by simp [q'])) (fun q' => hb (by simp [q'])) q) hf⟩
  self := fun A i s Q E st h => zs_iter st.1 h
end G

/-! zip with strict, enumerate from a number on: made, walked. -/
namespace G
open PySem PySem.Spec PyProof.Rows L2
open AutoSeq1 (wpAny_loadPart')

abbrev zsH2 (h : Heap) (t1 t2 : Bool) (l1 l2 : Addr) : Heap := (h.push (itObj t1 l1)).push (itObj t2 l2)
abbrev zsH3 (h : Heap) (t1 t2 : Bool) (l1 l2 : Addr) : Heap := (zsH2 h t1 t2 l1 l2).push { cls := .type "tuple", data := .seq #[.ref h.objs.size, .ref (h.push (itObj t1 l1)).objs.size] }
abbrev zsH4 (h : Heap) (t1 t2 : Bool) (l1 l2 : Addr) : Heap := (zsH3 h t1 t2 l1 l2).push { cls := .type "tuple", data := .seq #[.none, .none] }
abbrev zsH5 (h : Heap) (t1 t2 : Bool) (l1 l2 : Addr) : Heap := (zsH4 h t1 t2 l1 l2).push { cls := .type "zip", data := .fields #[.none, .bool false, .bool true, .ref (zsH2 h t1 t2 l1 l2).objs.size, .ref (zsH3 h t1 t2 l1 l2).objs.size] }
theorem meets_zs (t1 t2 : Bool) (l1 l2 : Addr) (xs ys : Array Value) :
    Meets (Builtin.«zip.__new__» ⟨[.type "zip", .ref l1, .ref l2], [("strict", .bool true)]⟩) (fun _ R s => IsB t1 s.heap l1 xs ∧ IsB t2 s.heap l2 ys ∧ R (.ok (.ret (.ref (zsH4 s.heap t1 t2 l1 l2).objs.size))) { s with heap := zsH5 s.heap t1 t2 l1 l2 }) :=
  .of_wp fun prog w A R s h => by
    obtain ⟨hp, g, d, tk, os⟩ := s
    obtain ⟨b1, b2, h⟩ := h
    have hsub := sub_zip
    have c1 : IsB t1 (Shared.heap ⟨hp, g, d, tk, os⟩) l1 xs := b1
    have c2 : IsB t2 (Shared.heap ⟨hp.push (itObj t1 l1), g, d, tk, os⟩) l2 ys := b2.at fun o e => Heap.get?_push_of_some _ e
    wp_walk using iter_B c1, iter_B c2
    exact ⟨_, rfl, h⟩
theorem zs_c1 (a b : Value) : checkTypeCall "zip" ⟨[a, b], [("strict", .bool true)]⟩ = pure () := by kernel_rfl
theorem zs_c2 (a b : Value) : checkBuiltinCall "zip.__new__" ⟨[.type "zip", a, b], [("strict", .bool true)]⟩ = pure () := by kernel_rfl
theorem init_any (ob : Value) (ps : List Value) (kw : List (Str × Value)) : argsOk "object.__init__" ⟨ob :: ps, kw⟩ := by
  unfold argsOk
  rw [signature?_of (id := "object.__init__") (n := ['_', '_', 't', 'i', 'n', 'i', '_', '_']) (o := ['t', 'c', 'e', 'j', 'b', 'o']) (by kernel_rfl) F.owner_object]
  kernel_rfl
section
variable {prog : Program} {w : World} {A : Around} {E : Value → Shared → Prop} {s : Shared}
theorem call_zs {t1 t2 : Bool} {l1 l2 : Addr} {xs ys : Array Value} {Q : Value → Shared → Prop} (b1 : IsB t1 s.heap l1 xs) (b2 : IsB t2 s.heap l2 ys)
    (h : ∀ h', IsZS h' (s.heap.objs.size + 4) (s.heap.objs.size + 2) (s.heap.objs.size + 3) .none → IsPair h' (s.heap.objs.size + 2) (.ref s.heap.objs.size) (.ref (s.heap.objs.size + 1)) →
      IsPair h' (s.heap.objs.size + 3) .none .none → ItB t1 h' s.heap.objs.size l1 0 → ItB t2 h' (s.heap.objs.size + 1) l2 0 → (∀ c o, s.heap.get? c = some o → h'.get? c = some o) → Q (.ref (s.heap.objs.size + 4)) { s with heap := h' }) :
    wpAny (model prog w) A (call (.type "zip") [.ref l1, .ref l2] [("strict", .bool true)]) Q E s := by
  refine make_kw F.called_zip (by decide) (zs_c1 _ _) (zs_c2 _ _) (fun ob => init_any ob _ _) F.entry_zip_new (meets_zs t1 t2 l1 l2 xs ys) ⟨b1, b2, ?_⟩
  have z1 : (s.heap.push (itObj t1 l1)).objs.size = s.heap.objs.size + 1 := Heap.size_push ..
  have z2 : (zsH2 s.heap t1 t2 l1 l2).objs.size = s.heap.objs.size + 2 := by rw [Heap.size_push, z1]
  have z3 : (zsH3 s.heap t1 t2 l1 l2).objs.size = s.heap.objs.size + 3 := by rw [Heap.size_push, z2]
  have z4 : (zsH4 s.heap t1 t2 l1 l2).objs.size = s.heap.objs.size + 4 := by rw [Heap.size_push, z3]
  have g5 : (zsH5 s.heap t1 t2 l1 l2).get? (zsH4 s.heap t1 t2 l1 l2).objs.size = some _ := Heap.get?_push_size _ rfl
  have g4 : (zsH5 s.heap t1 t2 l1 l2).get? (zsH3 s.heap t1 t2 l1 l2).objs.size = some _ := Heap.get?_push_of_some _ (Heap.get?_push_size _ rfl)
  have up2 : ∀ c o, (zsH2 s.heap t1 t2 l1 l2).get? c = some o → (zsH5 s.heap t1 t2 l1 l2).get? c = some o := fun c o e => Heap.get?_push_of_some _ (Heap.get?_push_of_some _ (Heap.get?_push_of_some _ e))
  have g3 : (zsH5 s.heap t1 t2 l1 l2).get? (zsH2 s.heap t1 t2 l1 l2).objs.size = some _ := Heap.get?_push_of_some _ (Heap.get?_push_of_some _ (Heap.get?_push_size _ rfl))
  have g2 : (zsH5 s.heap t1 t2 l1 l2).get? (s.heap.push (itObj t1 l1)).objs.size = some _ := up2 _ _ (Heap.get?_push_size _ rfl)
  have g1 : (zsH5 s.heap t1 t2 l1 l2).get? s.heap.objs.size = some _ := up2 _ _ (Heap.get?_push_of_some _ (Heap.get?_push_size _ rfl))
  show _ ∧ _
  rw [z2, z3, z4] at g5
  rw [z1, z2] at g3
  rw [z3] at g4
  rw [z1] at g2
  rw [z4]
  refine ⟨⟨_, g5, rfl⟩, h _ g5 g3 g4 ?_ ?_ fun c o x => up2 _ _ (Heap.get?_push_of_some _ (Heap.get?_push_of_some _ x))⟩
  · cases t1
    · exact ⟨_, g1, rfl, rfl⟩
    · exact ⟨_, g1, rfl, rfl⟩
  · cases t2
    · exact ⟨_, g2, rfl, rfl⟩
    · exact ⟨_, g2, rfl, rfl⟩
end
/-! ### enumerate -/
theorem meets_en (t : Bool) (l : Addr) (items : Array Value) (kw : List (Str × Value)) (k : Nat) (hk : kw = [] ∧ k = 0 ∨ ∃ tk, kw = [((Str.ofString "start"), Value.int 1 tk)] ∧ k = 1) :
    Meets (Builtin.«enumerate.__new__» ⟨[.type "enumerate", .ref l], kw⟩) (fun _ R s => IsB t s.heap l items ∧
      R (.ok (.ret (.ref (s.heap.push (itObj t l)).objs.size))) { s with heap := (s.heap.push (itObj t l)).push { cls := .type "enumerate", data := .fields #[.none, .bool false, .ref s.heap.objs.size, rawInt (k : Nat), .none, .none] } }) :=
  .of_wp fun prog w A R s h => by
    obtain ⟨hp, g, d, tk, os⟩ := s
    obtain ⟨hT, h⟩ := h
    have hsub := sub_enumerate
    have c1 : IsB t (Shared.heap ⟨hp, g, d, tk, os⟩) l items := hT
    rcases hk with ⟨rfl, rfl⟩ | ⟨tk, rfl, rfl⟩
    · wp_walk using iter_B c1
      refine wpAny_stack_any fun st => wpAny_pure ?_
      split
      · rename_i c _ _ _ _ _
        cases (c == Value.type "enumerate")
        · wp_walk using iter_B c1
          exact ⟨_, rfl, h⟩
        · wp_walk using iter_B c1
          exact ⟨_, rfl, h⟩
      · wp_walk using iter_B c1
        exact ⟨_, rfl, h⟩
    · wp_walk using iter_B c1
      refine wpAny_stack_any fun st => wpAny_pure ?_
      split
      · rename_i c _ _ _ _ _
        cases (c == Value.type "enumerate")
        · wp_walk using iter_B c1
          exact ⟨_, rfl, h⟩
        · wp_walk using iter_B c1
          exact ⟨_, rfl, h⟩
      · wp_walk using iter_B c1
        exact ⟨_, rfl, h⟩
theorem en_c1 (a : Value) (tk : Nat) : checkTypeCall "enumerate" ⟨[a], [("start", .int 1 tk)]⟩ = pure () := by kernel_rfl
theorem en_c2 (a : Value) (tk : Nat) : checkBuiltinCall "enumerate.__new__" ⟨[.type "enumerate", a], [("start", .int 1 tk)]⟩ = pure () := by kernel_rfl
section
variable {prog : Program} {w : World} {A : Around} {E : Value → Shared → Prop} {s : Shared}
theorem call_en {t : Bool} {l : Addr} {xs : Array Value} {kw : List (Str × Value)} {k : Nat} {Q : Value → Shared → Prop} (hk : kw = [] ∧ k = 0 ∨ ∃ tk, kw = [((Str.ofString "start"), Value.int 1 tk)] ∧ k = 1) (b1 : IsB t s.heap l xs)
    (h : ∀ h', IsEnum h' (s.heap.objs.size + 1) s.heap.objs.size ((k : Nat) : Int) .none → ItB t h' s.heap.objs.size l 0 → (∀ c o, s.heap.get? c = some o → h'.get? c = some o) → Q (.ref (s.heap.objs.size + 1)) { s with heap := h' }) :
    wpAny (model prog w) A (call (.type "enumerate") [.ref l] kw) Q E s := by
  refine make_kw F.called_enumerate (by decide) (by rcases hk with ⟨rfl, _⟩ | ⟨tk, rfl, _⟩; exact F.typeCall_enumerate_1 _; exact en_c1 _ _) (by rcases hk with ⟨rfl, _⟩ | ⟨tk, rfl, _⟩; exact F.newCall_enumerate_1 _; exact en_c2 _ _) (fun ob => init_any ob _ _) F.entry_enumerate_new (meets_en t l xs kw k hk) ⟨b1, ?_⟩
  have z1 : (s.heap.push (itObj t l)).objs.size = s.heap.objs.size + 1 := Heap.size_push ..
  have g2 : ((s.heap.push (itObj t l)).push { cls := .type "enumerate", data := .fields #[.none, .bool false, .ref s.heap.objs.size, rawInt (k : Nat), .none, .none] }).get? (s.heap.push (itObj t l)).objs.size = some _ := Heap.get?_push_size _ rfl
  have g1 : ((s.heap.push (itObj t l)).push { cls := .type "enumerate", data := .fields #[.none, .bool false, .ref s.heap.objs.size, rawInt (k : Nat), .none, .none] }).get? s.heap.objs.size = some _ := Heap.get?_push_of_some _ (Heap.get?_push_size _ rfl)
  show _ ∧ _
  rw [z1] at g2 ⊢
  refine ⟨⟨_, g2, rfl⟩, h _ g2 ?_ fun c o x => Heap.get?_push_of_some _ (Heap.get?_push_of_some _ x)⟩
  cases t
  · exact ⟨_, g1, rfl, rfl⟩
  · exact ⟨_, g1, rfl, rfl⟩
end
theorem itB_ne {t : Bool} {h : Heap} {it a : Addr} {i : Nat} {its : Array Value} (q : ItB t h it a i) (p : IsB t h a its) : a ≠ it := fun e => by
  obtain ⟨o, ho, n, hd⟩ : ∃ o, h.get? a = some o ∧ ∃ n, o.data = .seq its n := by
    cases t
    · obtain ⟨o, e, _, n, d⟩ := (show h.IsList a _ from p); exact ⟨o, e, n, d⟩
    · obtain ⟨o, e, _, n, d⟩ := (show h.IsTuple a _ from p); exact ⟨o, e, n, d⟩
  obtain ⟨o', ho', hd'⟩ : ∃ o, h.get? it = some o ∧ o.data = .fields #[.ref a, .int i 0] := by
    cases t
    · obtain ⟨o, e, _, d⟩ := (show h.IsListIter it a i from q); exact ⟨o, e, d⟩
    · obtain ⟨o, e, _, d⟩ := (show h.IsTupleIter it a i from q); exact ⟨o, e, d⟩
  rw [e, ho'] at ho
  cases ho
  rw [hd] at hd'
  cases hd'
theorem enB_ne {t : Bool} {h : Heap} {e it a : Addr} {c : Int} {old : Value} {its : Array Value} (q : IsEnum h e it c old) (p : IsB t h a its) : e ≠ a := fun z => by
  obtain ⟨o, ho, n, hd⟩ : ∃ o, h.get? a = some o ∧ ∃ n, o.data = .seq its n := by
    cases t
    · obtain ⟨o, e, _, n, d⟩ := (show h.IsList a _ from p); exact ⟨o, e, n, d⟩
    · obtain ⟨o, e, _, n, d⟩ := (show h.IsTuple a _ from p); exact ⟨o, e, n, d⟩
  rw [← z, q] at ho
  cases ho
  cases hd
def ItEn (K : PySem.W.Frag) (t : Bool) (a : Addr) (k : Nat) : It where
  go := fun i H => ∃ xs x, SqB K t H a xs ∧ xs[i]? = some x
  yld := fun i H v H' => ∃ T x, v = .ref T ∧ H T = none ∧ H' = upd H T (.tup [.int ((i + k : Nat) : Int), x]) ∧ ∀ xs, SqB K t H a xs → xs[i]? = some x
  stop := fun i H => ∃ xs, SqB K t H a xs ∧ xs.length = i
theorem turn_en {P : Program} {w : World} {K : PySem.W.Frag} {elts : List Expr} {kk : Nat} {tpos : Pos} {t : Bool} {a e it : Addr} {k : Nat} :
    Turn P w K (.Tuple elts kk tpos) (ItEn K t a k) [e, it] e (fun i h => (∃ old, IsEnum h e it ((i + k : Nat) : Int) old) ∧ ItB t h it a i ∧ e ≠ it) where
  mem := by simp
  obj := fun i h st b hb => by
    obtain ⟨⟨old, he⟩, q, _⟩ := st
    simp only [List.mem_cons, List.not_mem_nil, or_false] at hb
    rcases hb with rfl | rfl
    · exact ⟨_, he, fun v q => nomatch q⟩
    · exact q.obj
  keep := fun i h h' st z => let ⟨⟨old, he⟩, q, ne⟩ := st; ⟨⟨old, z e (by simp) _ he⟩, q.at fun o y => z it (by simp) o y, ne⟩
  item := by
    intro X hP hw hK hc i pins s σ H E I hf st hg
    subst hP hw hK
    obtain ⟨⟨old, he⟩, q, ne⟩ := st
    obtain ⟨xs, x, sx, hx⟩ := hg
    obtain ⟨its, r, p⟩ := sqB_of I sx
    obtain ⟨u, hu, ru⟩ := r.get hx
    have hh : X.A.in1.handled = none := I.ok.hd hc
    have el : e < s.heap.objs.size := Heap.lt_size he
    have il : it < s.heap.objs.size := by obtain ⟨_, y, _⟩ := q.obj; exact Heap.lt_size y
    have lt : i < its.toArray.size := by rw [List.size_toArray]; exact (List.getElem?_eq_some_iff.mp hu).1
    refine wpAny_pyNext_enum_itemD (drawsLater (drawsB hh t it a (itB_ne q p) its.toArray) k) he ⟨i, rfl, q, p⟩ (by omega) ne (by simp [ne, enB_ne he p]) fun v h' tk hv ho hs' hT hsz hk => ?_
    obtain ⟨j, ej, hv⟩ := hv
    have : j = i := by omega
    subst this
    have ev : v = u := by simp only [List.getElem?_toArray] at hv; rw [hu] at hv; exact (Option.some.inj hv).symm
    subst ev
    obtain ⟨j2, ej2, hs2, _⟩ := hs'
    have : j2 = j + 1 := by omega
    subst this
    refine ⟨_, rfl, wpAny_letOwnedTupleGo_enum (s := { s with heap := h', toks := tk + 1 }) ho fun h'' he' sb => ?_⟩
    have hT2 : h''.get? s.heap.objs.size = some { cls := .type "tuple", data := .seq #[.int ((j + k : Nat) : Int) tk, v] } := (sb.2 _ (Nat.ne_of_gt el)).trans hT
    have new : ObjOk X.prog X.w (upd H s.heap.objs.size (.tup [.int ((j + k : Nat) : Int), x])) h'' s.heap.objs.size (.tup [.int ((j + k : Nat) : Int), x]) :=
      ⟨by show 2 ≤ sizeLine; decide, [.int ((j + k : Nat) : Int) tk, v], .cons ⟨_, rfl⟩ (.cons ru .nil), ⟨_, hT2, rfl, _, rfl⟩⟩
    have I1 : Inv X pins σ (upd H s.heap.objs.size (.tup [.int ((j + k : Nat) : Int), x])) { s with heap := h'', toks := tk + 1 } :=
      I.turnedNew (t' := tk + 1) (ch := [e, it]) (fun b ob hb y => (sb.2 b (fun z => hb (by simp [z]))).trans (hk b ob (fun z => hb (by simp [z])) (fun z => hb (by simp [z])) y)) hf (Nat.le_refl _) new
    refine ⟨.ref s.heap.objs.size, _, I1, rfl, ⟨_, x, rfl, I.hok.fresh (Nat.le_refl _), rfl, fun ys hy => by rw [sqB_inj I hy sx]; exact hx⟩, ⟨⟨v, ?_⟩, hs2.at fun o y => (sb.2 it (Ne.symm ne)).trans y, ne⟩, fun b hb => ?_⟩
    · have e1 : ((j + 1 + k : Nat) : Int) = ((j + k : Nat) : Int) + 1 := by omega
      rw [e1]; exact he'
    · have hb' : b < s.heap.objs.size := by
        have hb2 := hb
        simp only [List.mem_cons, List.not_mem_nil, or_false] at hb2
        rcases hb2 with rfl | rfl
        · exact el
        · exact il
      rw [upd_ne (Nat.ne_of_lt hb')]
      exact (hf b hb).1
  done := by
    intro X hP hw hK hc i pins s σ H E I hf st hg
    subst hP hw hK
    obtain ⟨⟨old, he⟩, q, ne⟩ := st
    obtain ⟨xs, sx, lx⟩ := hg
    obtain ⟨its, r, p⟩ := sqB_of I sx
    have hh : X.A.in1.handled = none := I.ok.hd hc
    obtain ⟨f0, f1, f2, f3, f4, f5⟩ := hf it (by simp)
    have n1 : its.toArray.size = i := by rw [List.size_toArray, ← r.length, lx]
    exact wpAny_pyNext_enum_endD (drawsLater (drawsB hh t it a (itB_ne q p) its.toArray) k) he ⟨i, by rw [n1], q, p⟩ fun h' eb => ⟨rfl, I.turned (t' := s.toks) (fun b o hb y => eb b o hb y) f0 f1 f3 f4 f5⟩
  self := fun A i s Q E st h => let ⟨⟨_, he⟩, _⟩ := st; wpAny_pyIter_enum he h
end G

/-! strict zip and enumerate as what is walked. -/
namespace G
open PySem PySem.Spec PyProof.Rows L2

theorem anyI_of {K : PySem.W.Frag} {w : Wd} {h : Hd} {d : D} {v : V} {t : Bool} {ds : List D} {st : Hd → Prop} (rel : RelW K w h) (r : RD K w d v) (e : anyI d h = some (t, ds, st)) :
    ds.length ≤ sizeLine ∧ st h ∧ ∃ a, v = .ref a ∧ ∀ w2 h2, Ext w w2 h h2 → RelW K w2 h2 → st h2 → ∃ xs, SqB K t w2.H a xs ∧ RDs K w2 ds xs := by
  unfold anyI at e
  split at e
  · cases e
    cases r with
    | tup s l rr => exact ⟨l, trivial, _, rfl, fun w2 h2 x _ _ => ⟨_, (s.mono x).sq, rr.mono x⟩⟩
  · split at e
    · rename_i e1
      cases e
      exact lstI_of rel r e1
    · cases e
theorem itok_zs {K : PySem.W.Frag} {w : Wd} {h : Hd} {t1 t2 : Bool} {a b : Addr} {ds es : List D} {s1 s2 : Hd → Prop} (l : ds.length ≤ sizeLine) (ll : ds.length = es.length) (at1 : ∀ w2 h2, Ext w w2 h h2 → RelW K w2 h2 → s1 h2 → ∃ xs, SqB K t1 w2.H a xs ∧ RDs K w2 ds xs)
    (at2 : ∀ w2 h2, Ext w w2 h h2 → RelW K w2 h2 → s2 h2 → ∃ xs, SqB K t2 w2.H b xs ∧ RDs K w2 es xs) : ItOk K w h (zipD ds es) (fun h => s1 h ∧ s2 h) (ItZS K t1 t2 a b) where
  len := by rw [zipD_len]; omega
  go := fun w2 h2 x rel st i d e => by
    obtain ⟨xs, q1, r1⟩ := at1 w2 h2 x rel st.1
    obtain ⟨ys, q2, r2⟩ := at2 w2 h2 x rel st.2
    obtain ⟨da, db, ea, eb, rfl⟩ := zipD_get e
    obtain ⟨va, va1, va2⟩ := r1.get ea
    obtain ⟨vb, vb1, vb2⟩ := r2.get eb
    refine ⟨⟨xs, ys, va, vb, q1, q2, va1, vb1⟩, fun v H' hv => ?_⟩
    obtain ⟨T, x', y', rfl, nT, rfl, f1, f2⟩ := hv
    cases (f1 xs q1).symm.trans va1
    cases (f2 ys q2).symm.trans vb1
    exact pair_turn rel nT va2 vb2
  stop := fun w2 h2 x rel st => by
    obtain ⟨xs, q1, r1⟩ := at1 w2 h2 x rel st.1
    obtain ⟨ys, q2, r2⟩ := at2 w2 h2 x rel st.2
    refine ⟨xs, ys, q1, q2, ?_, ?_⟩
    · rw [zipD_len, ← r1.length]; omega
    · rw [zipD_len, ← r2.length]; omega
theorem enumD_get {k : Nat} {ds : List D} {i : Nat} {d : D} (e : (enumD k ds)[i]? = some d) : ∃ a, ds[i]? = some a ∧ d = .tup [.int ((i + k : Nat) : Int), a] := by
  unfold enumD at e
  rw [List.getElem?_map, List.getElem?_zipIdx] at e
  cases e1 : ds[i]? with
  | none => rw [e1] at e; cases e
  | some a => rw [e1] at e; cases e; exact ⟨a, rfl, by rw [Nat.add_comm]⟩
theorem enumD_len (k : Nat) (ds : List D) : (enumD k ds).length = ds.length := by unfold enumD; rw [List.length_map, List.length_zipIdx]
theorem itok_en {K : PySem.W.Frag} {w : Wd} {h : Hd} {t : Bool} {a : Addr} {ds : List D} {st : Hd → Prop} {k : Nat} (l : ds.length ≤ sizeLine) (at1 : ∀ w2 h2, Ext w w2 h h2 → RelW K w2 h2 → st h2 → ∃ xs, SqB K t w2.H a xs ∧ RDs K w2 ds xs) : ItOk K w h (enumD k ds) st (ItEn K t a k) where
  len := by rw [enumD_len]; exact l
  go := fun w2 h2 x rel s i d e => by
    obtain ⟨xs, q1, r1⟩ := at1 w2 h2 x rel s
    obtain ⟨da, ea, rfl⟩ := enumD_get e
    obtain ⟨va, va1, va2⟩ := r1.get ea
    refine ⟨⟨xs, va, q1, va1⟩, fun v H' hv => ?_⟩
    obtain ⟨T, x', rfl, nT, rfl, f1⟩ := hv
    cases (f1 xs q1).symm.trans va1
    exact pair_turn rel nT (.int _) va2
  stop := fun w2 h2 x rel s => by
    obtain ⟨xs, q1, r1⟩ := at1 w2 h2 x rel s
    exact ⟨xs, q1, by rw [enumD_len, ← r1.length]⟩
theorem callWith_tyK {M : Model} {A : Around} {E : Value → Shared → Prop} {s : Shared} {pos : Pos} {T : String} {args : List (Bool × Sem Value)} {kws : List (Option Str × Sem Value)} {Q : Value → Shared → Prop} (pl : (args.any (·.1) || kws.any (·.1.isNone)) = false)
    (h : wpAny M A (evalArgs (.type T) true args kws) (fun a s₁ => wpAny M A (call (.type T) ([] ++ a.pos) a.kw) Q E s₁) E s) : wpAny M A (callWith pos (.type T) [] args kws) Q E s := by
  unfold callWith
  refine wpAny_bind (wpAny_holding (wpAny_mono h (fun a s₁ z => wpAny_bind (wpAny_standAt ?_)) fun _ _ x => x))
  simp only [pl]
  exact wpAny_bind (wpAny_pure (wpAny_bind (wpAny_mono z (fun r s₂ hr => wpAny_bind (wpAny_holding (wpAny_point (wpAny_pure hr)))) fun _ _ x => x)))
section
variable {X : Cx}
theorem zs_apart {n a b : Nat} (ha : a < n) (hb : b < n) : ZAp (n + 4) (n + 2) (n + 3) n (n + 1) [n, a] [n + 1, b] := by
  refine ⟨⟨?_, ?_, ?_, ?_⟩, ⟨?_, ?_, ?_⟩, ⟨?_, ?_, ?_⟩, ⟨?_, ?_, ?_, ?_⟩, ?_, ?_⟩
  all_goals first
    | (show ¬ ((_ : Nat) = _); omega)
    | (intro q
       rcases List.mem_cons.mp q with q | q
       · revert q; show ¬ ((_ : Nat) = _); omega
       · have q := List.mem_singleton.mp q
         revert q; show ¬ ((_ : Nat) = _); omega)
theorem li_zs {elts : List Expr} {kk a1 : Nat} {tpos p pos p1 p2 : Pos} {e e2 : Expr} {wa wb : WE} (hg : Gl X "zip") (hm : X.mg "zip" = none) (hp : pl e = true) (hp2 : pl e2 = true) (he : PE X e (liftE X.K wa)) (he2 : PE X e2 (liftE X.K wb)) :
    PI X (.Tuple elts kk tpos) (.Call (.Name "zip" p) [e, e2] [⟨some "strict", .Constant (.bool true) a1 p1, p2⟩] pos) (liftI X.K fun σ h R => wa σ h fun x h1 => wb σ h1 fun y h2 => zipSI x y h2 fun ds st => R ds st h2) := by
  refine ⟨fun pins s σ H R I ⟨w, σd, h, QD, eH, rel, rs, q, post⟩ => ?_⟩
  subst eH
  refine wpAny_Call_Name_kw (ld_blt I hg hm PyProof.Rows.boot_zip ?_)
  obtain ⟨n1, n2, n3⟩ := kw_names (pos := pos) (env := X.env) (kws := [⟨some "strict", .Constant (.bool true) a1 p1, p2⟩]) (ks := ["strict"]) rfl
  have hk : PK X [⟨some "strict", .Constant (.bool true) a1 p1, p2⟩] _ := pk_cons (pe_bl (b := true)) pk_nil
  have hA := (la_cons hp he (la_cons hp2 he2 la_nil)).run pos pins s σ w.H (fun vs H1 => ∃ w1 h1 ds, w1.H = H1 ∧ RelW X.K w1 h1 ∧ RDs X.K w1 ds vs ∧ (match ds with | [x, y] => (zipSI x y h1 fun ds st => QD ds st h1) | _ => False) ∧ Ext w w1 h h1) I
    ⟨w, σd, h, _, rfl, rel, rs, q, fun w1 h1 ds vs x1 rel1 r1 l1 q1 => ⟨w1, h1, ds, rfl, rel1, r1, q1, x1⟩⟩
  refine callWith_tyK (by rw [n3, star_all (by simp [hp, hp2])]; rfl) (PyProof.Rows.evalArgs_kw2 n1 (thn hA fun us s1 ⟨vs, H1, I1, r, q⟩ => ?_) (star_pl hp))
  obtain ⟨w1, h1, ds, rfl, rel1, r1, q1, x1⟩ := q
  have hK := hk.run pos pins s1 σ w1.H (fun zs H2 => zs = [.bl true] ∧ H2 = w1.H) I1 ⟨rfl, rfl⟩
  refine thn hK fun ws s2 ⟨zs, H2, I2, rz, ez, eH⟩ => ?_
  subst ez
  subst eH
  rw [n2]
  have ew : ws = [.bool true] := by
    cases rz with
    | cons rb rr =>
      cases rr
      cases (show _ = Value.bool true from rb)
      rfl
  subst ew
  match ds, r1, q1 with
  | [d, d2], r1, q1 =>
    obtain ⟨v, v2, rfl, ra, rb⟩ := rds2 r1
    replace q1 : zipSI d d2 h1 fun ds st => QD ds st h1 := q1
    unfold zipSI at q1
    split at q1
    · rename_i t1 ds s1' t2 es s2' e1 e2
      obtain ⟨ll, q1⟩ := q1
      obtain ⟨l1, g1, a, rfl, at1⟩ := anyI_of rel1 ra e1
      obtain ⟨l2, g2, b, rfl, at2⟩ := anyI_of rel1 rb e2
      obtain ⟨xs, sx, rx⟩ := at1 w1 h1 (Ext.refl _ _) rel1 g1
      obtain ⟨ys, sy, ry⟩ := at2 w1 h1 (Ext.refl _ _) rel1 g2
      obtain ⟨its1, rv1, b1⟩ := sqB_of I2 sx
      obtain ⟨its2, rv2, b2⟩ := sqB_of I2 sy
      cases r with
      | cons ru rr =>
        cases rr with
        | cons ru2 rr =>
          cases rr
          cases (show _ = Value.ref a from ru)
          cases (show _ = Value.ref b from ru2)
          refine call_zs b1 b2 fun h' hz hI hO i1 i2 hk => zs_iter hz ?_
          have I3 : Inv X pins σ w1.H { s2 with heap := h' } := I2.kept (t' := s2.toks) hk
          refine ⟨s2.heap.objs.size + 4, [s2.heap.objs.size + 4, s2.heap.objs.size + 2, s2.heap.objs.size + 3, s2.heap.objs.size, s2.heap.objs.size + 1], _, _, w1.H, rfl, I3, turn_zs (t1 := t1) (t2 := t2) (zs_apart b1.there b2.there), ⟨hz, hI, ⟨_, _, hO⟩, i1, i2⟩, fun c hc => ?_, post w1 h1 _ _ _ x1 rel1 (itok_zs l1 ll at1 at2) q1⟩
          have hle : s2.heap.objs.size ≤ c := by
            simp only [List.mem_cons, List.not_mem_nil, or_false] at hc
            show (_ : Nat) ≤ _
            rcases hc with rfl | rfl | rfl | rfl | rfl <;> first | exact Nat.le_refl _ | exact Nat.le_add_right _ _
          exact I2.fpOk hle (I2.hok.fresh hle)
    · exact q1.elim
/-- enumerate: keywords kw come to kws, the start k -/
theorem en_step {pins : List (Addr × Obj)} {s2 : Shared} {σ : L2.St} {w w1 : Wd} {h h1 : Hd} {QD : List D → (Hd → Prop) → Hd → Prop} {R : It → Hp → Prop} {elts : List Expr} {kk k : Nat} {tpos : Pos} {d : D} {v : V} {u : Value} {kw : List (Str × Value)}
    (hk : kw = [] ∧ k = 0 ∨ ∃ tk, kw = [((Str.ofString "start"), Value.int 1 tk)] ∧ k = 1) (I2 : Inv X pins σ w1.H s2) (rel1 : RelW X.K w1 h1) (ra : RD X.K w1 d v) (ru : RelV v u) (q1 : enumI k d h1 fun ds st => QD ds st h1)
    (post : ∀ w' h' ds stay J, Ext w w' h h' → RelW X.K w' h' → ItOk X.K w' h' ds stay J → QD ds stay h' → R J w'.H) (x1 : Ext w w1 h h1) :
    wpAny (model X.prog X.w) X.A (call (.type "enumerate") [u] kw) (fun v s1 => wpAny (model X.prog X.w) X.A (pyIter v) (PIE X pins σ (.Tuple elts kk tpos) R) X.xe s1) X.xe s2 := by
  unfold enumI at q1
  split at q1
  · rename_i t ds st e1
    obtain ⟨l1, g1, a, rfl, at1⟩ := anyI_of rel1 ra e1
    obtain ⟨xs, sx, rx⟩ := at1 w1 h1 (Ext.refl _ _) rel1 g1
    obtain ⟨its1, rv1, b1⟩ := sqB_of I2 sx
    cases (show u = Value.ref a from ru)
    refine call_en hk b1 fun h' he i1 hk' => wpAny_pyIter_enum he ?_
    have I3 : Inv X pins σ w1.H { s2 with heap := h' } := I2.kept (t' := s2.toks) hk'
    refine ⟨s2.heap.objs.size + 1, [s2.heap.objs.size + 1, s2.heap.objs.size], _, _, w1.H, rfl, I3, turn_en (t := t) (k := k), ⟨⟨.none, by rw [Nat.zero_add]; exact he⟩, i1, Nat.succ_ne_self _⟩, fun c hc => ?_, post w1 h1 _ _ _ x1 rel1 (itok_en l1 at1) q1⟩
    have hle : s2.heap.objs.size ≤ c := by
      simp only [List.mem_cons, List.not_mem_nil, or_false] at hc
      show (_ : Nat) ≤ _
      rcases hc with rfl | rfl <;> first | exact Nat.le_refl _ | exact Nat.le_add_right _ _
    exact I2.fpOk hle (I2.hok.fresh hle)
  · exact q1.elim
theorem li_en0 {elts : List Expr} {kk : Nat} {tpos p pos : Pos} {e : Expr} {wa : WE} (hg : Gl X "enumerate") (hm : X.mg "enumerate" = none) (hp : pl e = true) (he : PE X e (liftE X.K wa)) :
    PI X (.Tuple elts kk tpos) (.Call (.Name "enumerate" p) [e] [] pos) (liftI X.K fun σ h R => wa σ h fun x h1 => enumI (if false = true then 1 else 0) x h1 fun ds st => R ds st h1) := by
  refine ⟨fun pins s σ H R I ⟨w, σd, h, QD, eH, rel, rs, q, post⟩ => ?_⟩
  subst eH
  have hA := (la_cons hp he la_nil).run pos pins s σ w.H (fun vs H1 => ∃ w1 h1 ds, w1.H = H1 ∧ RelW X.K w1 h1 ∧ RDs X.K w1 ds vs ∧ (match ds with | [x] => (enumI 0 x h1 fun ds st => QD ds st h1) | _ => False) ∧ Ext w w1 h h1) I
    ⟨w, σd, h, _, rfl, rel, rs, q, fun w1 h1 ds vs x1 rel1 r1 l1 q1 => ⟨w1, h1, ds, rfl, rel1, r1, q1, x1⟩⟩
  refine Call_ (ld_blt I hg hm boot_enumerate (PyProof.Rows.callWith_type1 (thn hA fun us s1 ⟨vs, H1, I1, r, q⟩ => ?_) (star_pl hp) rfl))
  obtain ⟨w1, h1, ds, rfl, rel1, r1, q1, x1⟩ := q
  match ds, r1, q1 with
  | [d], r1, q1 =>
    obtain ⟨v, rfl, ra⟩ := rds1 r1
    cases r with
    | cons ru rr =>
      cases rr
      exact en_step (.inl ⟨rfl, rfl⟩) I1 rel1 ra ru q1 post x1
theorem li_en1 {elts : List Expr} {kk a1 : Nat} {tpos p pos p1 p2 : Pos} {e : Expr} {wa : WE} (hg : Gl X "enumerate") (hm : X.mg "enumerate" = none) (hp : pl e = true) (he : PE X e (liftE X.K wa)) :
    PI X (.Tuple elts kk tpos) (.Call (.Name "enumerate" p) [e] [⟨some "start", .Constant (.int 1) a1 p1, p2⟩] pos) (liftI X.K fun σ h R => wa σ h fun x h1 => enumI (if true = true then 1 else 0) x h1 fun ds st => R ds st h1) := by
  refine ⟨fun pins s σ H R I ⟨w, σd, h, QD, eH, rel, rs, q, post⟩ => ?_⟩
  subst eH
  refine wpAny_Call_Name_kw (ld_blt I hg hm boot_enumerate ?_)
  obtain ⟨n1, n2, n3⟩ := kw_names (pos := pos) (env := X.env) (kws := [⟨some "start", .Constant (.int 1) a1 p1, p2⟩]) (ks := ["start"]) rfl
  have hk : PK X [⟨some "start", .Constant (.int 1) a1 p1, p2⟩] _ := pk_cons (pe_int (i := 1)) pk_nil
  have hA := (la_cons hp he la_nil).run pos pins s σ w.H (fun vs H1 => ∃ w1 h1 ds, w1.H = H1 ∧ RelW X.K w1 h1 ∧ RDs X.K w1 ds vs ∧ (match ds with | [x] => (enumI 1 x h1 fun ds st => QD ds st h1) | _ => False) ∧ Ext w w1 h h1) I
    ⟨w, σd, h, _, rfl, rel, rs, q, fun w1 h1 ds vs x1 rel1 r1 l1 q1 => ⟨w1, h1, ds, rfl, rel1, r1, q1, x1⟩⟩
  refine callWith_tyK (by rw [n3, star_all (by simp [hp])]; rfl) (PyProof.Rows.evalArgs_kw2 n1 (thn hA fun us s1 ⟨vs, H1, I1, r, q⟩ => ?_) (star_pl hp))
  obtain ⟨w1, h1, ds, rfl, rel1, r1, q1, x1⟩ := q
  have hK := hk.run pos pins s1 σ w1.H (fun zs H2 => zs = [.int 1] ∧ H2 = w1.H) I1 ⟨rfl, rfl⟩
  refine thn hK fun ws s2 ⟨zs, H2, I2, rz, ez, eH⟩ => ?_
  subst ez
  subst eH
  rw [n2]
  obtain ⟨tk, ew⟩ : ∃ tk, ws = [.int 1 tk] := by
    cases rz with
    | cons rb rr =>
      cases rr
      obtain ⟨tk, rfl⟩ := (show ∃ tk, _ = Value.int 1 tk from rb)
      exact ⟨tk, rfl⟩
  subst ew
  match ds, r1, q1 with
  | [d], r1, q1 =>
    obtain ⟨v, rfl, ra⟩ := rds1 r1
    cases r with
    | cons ru rr =>
      cases rr
      exact en_step (.inr ⟨tk, rfl, rfl⟩) I2 rel1 ra ru q1 post x1
end
end G

/-! Chains of three comparisons, as tests. -/
namespace G
open PySem PySem.Spec PyProof.Rows L2
section
variable {X : Cx} {e1 e2 e3 e4 : Expr} {wa wb wc wd : WE} {pos : Pos}
theorem lt_ch3 {o p r : CmpOp} (hu : X.A.units + 65 < cLine) (hm : lastMarks [o, p, r] [e2, e3, e4] = false) (ha : PE X e1 (liftE X.K wa)) (hb : PE X e2 (liftE X.K wb)) (hc : PE X e3 (liftE X.K wc)) (hd' : PE X e4 (liftE X.K wd)) :
    PT X (.Compare e1 [o, p, r] [e2, e3, e4] pos) (liftT X.K fun σ h Q => wa σ h fun x h1 => wb σ h1 fun y h2 => cmpD o x y h2 fun z h3 => boolD z fun k => if k = true then wc σ h3 fun v h4 => cmpD p y v h4 fun z2 h5 => boolD z2 fun k2 => if k2 = true then wd σ h5 fun u h6 => cmpD r v u h6 fun z3 h7 => boolD z3 fun k3 => Q k3 h7 else Q false h5 else Q false h3) := by
  refine ⟨fun pins s σ H Q I ⟨w, σd, hd, QD, eH, rel, rs, q, post⟩ => ?_⟩
  subst eH
  have hA := ha.run pins s σ w.H (fun v H1 => ∃ w1 h1 d, w1.H = H1 ∧ RelW X.K w1 h1 ∧ RD X.K w1 d v ∧ Ext w w1 hd h1 ∧ (wb σd h1 fun y h2 => cmpD o d y h2 fun z h3 => boolD z fun k => if k = true then wc σd h3 fun v h4 => cmpD p y v h4 fun z2 h5 => boolD z2 fun k2 => if k2 = true then wd σd h5 fun u h6 => cmpD r v u h6 fun z3 h7 => boolD z3 fun k3 => QD k3 h7 else QD false h5 else QD false h3)) I
    ⟨w, σd, hd, _, rfl, rel, rs, q, fun w1 h1 d v x1 rel1 r1 q1 => ⟨w1, h1, d, rfl, rel1, r1, x1, q1⟩⟩
  refine isTrue_chain (thn hA fun v s1 ⟨x, H1, I1, r1, w1, h1, d1, e1', rel1, rd1, x1, q1⟩ => test_link ?_) hm
  subst e1'
  have hB := hb.run pins s1 σ w1.H (fun v H2 => ∃ w2 h2 d, w2.H = H2 ∧ RelW X.K w2 h2 ∧ RD X.K w2 d v ∧ Ext w1 w2 h1 h2 ∧ (cmpD o d1 d h2 fun z h3 => boolD z fun k => if k = true then wc σd h3 fun v h4 => cmpD p d v h4 fun z2 h5 => boolD z2 fun k2 => if k2 = true then wd σd h5 fun u h6 => cmpD r v u h6 fun z3 h7 => boolD z3 fun k3 => QD k3 h7 else QD false h5 else QD false h3)) I1
    ⟨w1, σd, h1, _, rfl, rel1, rs.mono x1, q1, fun w2 h2 d v x2 rel2 r2 q2 => ⟨w2, h2, d, rfl, rel2, r2, x2, q2⟩⟩
  refine thn hB fun u s2 ⟨y, H2, I2, r2, w2, h2, d2, e2', rel2, rd2, x2, q2⟩ => ?_
  subst e2'
  have hO := o_cmp hu o pins s2 σ w2.H x y v u (fun z H3 => ∃ w3 h3 d, w3.H = H3 ∧ RelW X.K w3 h3 ∧ RD X.K w3 d z ∧ Ext w2 w3 h2 h3 ∧ (boolD d fun k => if k = true then wc σd h3 fun v h4 => cmpD p d2 v h4 fun z2 h5 => boolD z2 fun k2 => if k2 = true then wd σd h5 fun u h6 => cmpD r v u h6 fun z3 h7 => boolD z3 fun k3 => QD k3 h7 else QD false h5 else QD false h3)) I2 r1 r2
    ⟨w2, h2, d1, d2, _, rfl, rel2, rd1.mono x2, rd2, q2, fun w3 h3 d v x3 rel3 r3 q3 => ⟨w3, h3, d, rfl, rel3, r3, x3, q3⟩⟩
  refine thn hO fun c s3 ⟨z, H3, I3, r3, w3, h3, d3, e3', rel3, rd3, x3, q3⟩ => ?_
  subst e3'
  obtain ⟨k, rfl, q3⟩ := boolD_of rd3 q3
  cases r3
  refine wpAny_truthy_bool ?_
  have x13 := (x1.trans x2).trans x3
  cases k with
  | false =>
    rw [if_neg Bool.false_ne_true] at q3
    exact ite_ff ⟨w3.H, I3, post w3 h3 false x13 rel3 q3⟩
  | true =>
    rw [if_pos rfl] at q3
    refine ite_tt (test_link ?_)
    have hC := hc.run pins s3 σ w3.H (fun v H4 => ∃ w4 h4 d, w4.H = H4 ∧ RelW X.K w4 h4 ∧ RD X.K w4 d v ∧ Ext w3 w4 h3 h4 ∧ (cmpD p d2 d h4 fun z2 h5 => boolD z2 fun k2 => if k2 = true then wd σd h5 fun u h6 => cmpD r d u h6 fun z3 h7 => boolD z3 fun k3 => QD k3 h7 else QD false h5)) I3
      ⟨w3, σd, h3, _, rfl, rel3, rs.mono x13, q3, fun w4 h4 d v x4 rel4 r4 q4 => ⟨w4, h4, d, rfl, rel4, r4, x4, q4⟩⟩
    refine thn hC fun v4 s4 ⟨y4, H4, I4, r4, w4, h4, d4, e4', rel4, rd4, x4, q4⟩ => ?_
    subst e4'
    have hO2 := o_cmp hu p pins s4 σ w4.H y y4 u v4 (fun z H5 => ∃ w5 h5 d, w5.H = H5 ∧ RelW X.K w5 h5 ∧ RD X.K w5 d z ∧ Ext w4 w5 h4 h5 ∧ (boolD d fun k2 => if k2 = true then wd σd h5 fun u h6 => cmpD r d4 u h6 fun z3 h7 => boolD z3 fun k3 => QD k3 h7 else QD false h5)) I4 r2 r4
      ⟨w4, h4, d2, d4, _, rfl, rel4, (rd2.mono x3).mono x4, rd4, q4, fun w5 h5 d v x5 rel5 r5 q5 => ⟨w5, h5, d, rfl, rel5, r5, x5, q5⟩⟩
    refine thn hO2 fun c5 s5 ⟨z5, H5, I5, r5, w5, h5, d5, e5', rel5, rd5, x5, q5⟩ => ?_
    subst e5'
    obtain ⟨k2, rfl, q5⟩ := boolD_of rd5 q5
    cases r5
    refine wpAny_truthy_bool ?_
    have x15 := (x13.trans x4).trans x5
    cases k2 with
    | false =>
      rw [if_neg Bool.false_ne_true] at q5
      exact ite_ff ⟨w5.H, I5, post w5 h5 false x15 rel5 q5⟩
    | true =>
      rw [if_pos rfl] at q5
      refine ite_tt (test_last ?_)
      have hD := hd'.run pins s5 σ w5.H (fun v H6 => ∃ w6 h6 d, w6.H = H6 ∧ RelW X.K w6 h6 ∧ RD X.K w6 d v ∧ Ext w5 w6 h5 h6 ∧ (cmpD r d4 d h6 fun z3 h7 => boolD z3 fun k3 => QD k3 h7)) I5
        ⟨w5, σd, h5, _, rfl, rel5, rs.mono x15, q5, fun w6 h6 d v x6 rel6 r6 q6 => ⟨w6, h6, d, rfl, rel6, r6, x6, q6⟩⟩
      refine thn hD fun v6 s6 ⟨y6, H6, I6, r6, w6, h6, d6, e6', rel6, rd6, x6, q6⟩ => ?_
      subst e6'
      have hO3 := o_cmp hu r pins s6 σ w6.H y4 y6 v4 v6 (fun z H7 => ∃ w7 h7 d, w7.H = H7 ∧ RelW X.K w7 h7 ∧ RD X.K w7 d z ∧ Ext w6 w7 h6 h7 ∧ (boolD d fun k3 => QD k3 h7)) I6 r4 r6
        ⟨w6, h6, d4, d6, _, rfl, rel6, (rd4.mono x5).mono x6, rd6, q6, fun w7 h7 d v x7 rel7 r7 q7 => ⟨w7, h7, d, rfl, rel7, r7, x7, q7⟩⟩
      refine thn hO3 fun c7 s7 ⟨z7, H7, I7, r7, w7, h7, d7, e7', rel7, rd7, x7, q7⟩ => ?_
      subst e7'
      obtain ⟨k3, rfl, q7⟩ := boolD_of rd7 q7
      cases r7
      exact wpAny_truthy_bool ⟨w7.H, I7, post w7 h7 k3 ((x15.trans x6).trans x7) rel7 q7⟩
end
end G

/-! A call of one of two defs out of a list display; xs[i::k] of a list. -/
namespace G
open PySem PySem.Spec PyProof.Rows
open L2 hiding wE wT
section
variable {X : Cx} {e e1 e2 : Expr} {es : List Expr} {pos : Pos} {wa wb wc : WE} {wl wl' : WA}
/-- a def's name -/
theorem pe_fn {x : Str} {p : Pos} {f : Addr} (gl : Gl X x) (hm : X.mg x = some (.ref f)) (hd : (x == ("__debug__" : Str)) = false) : PE X (.Name x p) (fun _ H Q => Q (.ref f) H) :=
  ⟨fun pins s σ H Q I q => ld_glob I gl hm ⟨.ref f, H, I, rfl, q⟩ hd⟩
theorem arm_callS (a b : Expr) (p : Pos) (args : List Expr) (keywords : List Keyword) (pos : Pos) (env : Env) : eval (.Call (.Subscript a b p) args keywords pos) env = (do
    callWith pos (← eval (.Subscript a b p) env) [] (backTo pos (starEach args env)) (backToKw pos (keywordEach keywords env))) := rfl
/-- the arguments and the call, the def in hand -/
theorem call_tail {k : Nat} {f : Addr} {fd : FuncData} {ps : List Str} {sp : Spd} {n : Nat} (hr : Room k X.A) (hg : X.A.guards = some []) (hk : PySem.W.keepIn X.K (.ref f) = true)
    (hp : fd.params.args.map (·.arg) = ps ∧ fd.params.posonlyargs = [] ∧ fd.params.vararg = none ∧ fd.params.kwonlyargs = [] ∧ fd.params.kwarg = none ∧ fd.defaults = .none ∧ ps.Nodup) (G : FnG X.prog X.w X.K X.mg X.base k f fd ps sp)
    (hq : pl e = true) (hps : es.all pl = true) (ha : PA X (e :: es) (liftA X.K n wl)) {pins : List (Addr × Obj)} {σ : L2.St} {s : Shared} {w : Wd} {σd : Sl} {h : Hd} {QD : Pq} {Q : VK} (I : Inv X pins σ w.H s) (rel : RelW X.K w h) (rs : RSl X.K w σd σ)
    (q : wl σd h fun ds h1 => sp ds h1 QD) (post : Post X.K w h QD Q) : wpAny (model X.prog X.w) X.A (callWith pos (.ref f) [] (backTo pos (starEach (e :: es) X.env)) (backToKw pos (keywordEach [] X.env))) (EP X pins σ Q) X.xe s := by
  have hA := ha.run pos pins s σ w.H (fun vs H1 => ∃ w1 h1 ds, w1.H = H1 ∧ RelW X.K w1 h1 ∧ RDs X.K w1 ds vs ∧ sp ds h1 QD ∧ Post X.K w1 h1 QD Q) I
    ⟨w, σd, h, _, rfl, rel, rs, q, fun w1 h1 ds vs x1 rel1 r1 _ q1 => ⟨w1, h1, ds, rfl, rel1, r1, q1, post.ext x1⟩⟩
  refine PySem.W.callWith_K (h₀ := X.base) I.ok.mod.kin hk (thn hA fun us s1 ⟨vs, H1, I1, r, q⟩ => ⟨I1.kIn, ?_⟩) (star_pl hq) (star_all hps)
  obtain ⟨w1, h1, ds, rfl, rel1, r1, q1, post1⟩ := q
  have hl : us.length = ps.length := by rw [← r.length, ← r1.length]; exact G.len _ _ _ q1
  exact fn_call G hr hg I1 (fn_binds hp hl) r rel1 r1 q1 post1
theorem l_callP {k : Nat} {x y : Str} {p1 p2 p3 p4 : Pos} {ps qs : List Str} {sp sq : Spd} (F1 : FnAt X.prog X.w X.K X.mg X.base k x ps sp) (F2 : FnAt X.prog X.w X.K X.mg X.base k y qs sq) (hr : Room k X.A) (hg : X.A.guards = some []) (gl1 : Gl X x) (hd1 : (x == ("__debug__" : Str)) = false) (gl2 : Gl X y) (hd2 : (y == ("__debug__" : Str)) = false)
    (hi : PE X e1 (liftE X.K wa)) (hpi : pl e1 = true) (hq : pl e = true) (hps : es.all pl = true) {n : Nat} (ha : PA X (e :: es) (liftA X.K n wl)) :
    PE X (.Call (.Subscript (.List [.Name x p1, .Name y p2] p3) e1 p4) (e :: es) [] pos) (liftE X.K fun σ h Q => wa σ h fun d h1 => intO d fun k => (k = 0 ∧ wl σ h1 fun ds h2 => sp ds h2 Q) ∨ (k = 1 ∧ wl σ h1 fun ds h2 => sq ds h2 Q)) := by
  obtain ⟨f, fd, hm, hk, hp, G⟩ := F1.ex
  obtain ⟨f', fd', hm', hk', hp', G'⟩ := F2.ex
  have hF : PE X (.Subscript (.List [.Name x p1, .Name y p2] p3) e1 p4) _ := pe_ix ix_list (pe_lst (pa_cons (pe_fn gl1 hm hd1) (pa_cons (pe_fn gl2 hm' hd2) pa_nil))) hi (ix_pl hpi)
  refine ⟨fun pins s σ H Q I hw => ?_⟩
  obtain ⟨w, σd, h, QD, eH, rel, rs, q, post⟩ := hw
  subst eH
  rw [arm_callS]
  refine wpAny_bind (thn (hF.run pins s σ w.H (fun z H1 => ∃ w1 h1, w1.H = H1 ∧ RelW X.K w1 h1 ∧ Ext w w1 h h1 ∧ ((z = .ref f ∧ wl σd h1 fun ds h2 => sp ds h2 QD) ∨ (z = .ref f' ∧ wl σd h1 fun ds h2 => sq ds h2 QD))) I ?_) ?_)
  · show _ ≤ sizeLine ∧ ∀ p, w.H p = none → _
    refine ⟨by have : sizeLine = 16777216 := sizeLine_eq; simp only [List.length_cons, List.length_nil]; omega, fun p hp0 => ?_⟩
    have x0 : Ext w (w.put p (.lst [.ref f, .ref f'])) h h := ext_put rel hp0
    refine ⟨w.put p (.lst [.ref f, .ref f']), σd, h, _, rfl, rel_put rel hp0, rs.mono x0, q, fun w1 h1 d v x1 rel1 r1 q1 => ?_⟩
    obtain ⟨i, rfl, q1⟩ := intO_of r1 q1
    have e0 : w1.H p = some (.lst [.ref f, .ref f']) := x1.keep p _ (rel.nmut hp0) upd_same
    rcases q1 with ⟨rfl, q1⟩ | ⟨rfl, q1⟩
    · exact ⟨p, _, 0, .ref f, rfl, rfl, .inl (.inl e0), rfl, w1, h1, rfl, rel1, x0.trans x1, .inl ⟨rfl, q1⟩⟩
    · exact ⟨p, _, 1, .ref f', rfl, rfl, .inl (.inl e0), rfl, w1, h1, rfl, rel1, x0.trans x1, .inr ⟨rfl, q1⟩⟩
  · rintro v s1 ⟨z, H1, I1, rz, w1, h1, rfl, rel1, x1, qq⟩
    rcases qq with ⟨rfl, qq⟩ | ⟨rfl, qq⟩
    · cases rz
      exact call_tail hr hg hk hp G hq hps ha I1 rel1 (rs.mono x1) qq (post.ext x1)
    · cases rz
      exact call_tail hr hg hk' hp' G' hq hps ha I1 rel1 (rs.mono x1) qq (post.ext x1)
/-! xs[i::k] -/
def pickL {α : Type} (L : List Nat) (xs : List α) : List α := L.filterMap (xs[·]?)
theorem pick_vals : ∀ {L : List Nat} {xs : List V} {us : List Value}, Vals xs us → Vals (pickL L xs) (pickL L us)
  | [], _, _, _ => .nil
  | i :: L, xs, us, r => by
    have ih := pick_vals (L := L) r
    unfold pickL at ih ⊢
    simp only [List.filterMap_cons]
    cases e : xs[i]? with
    | none =>
      have : us[i]? = none := by
        rw [List.getElem?_eq_none_iff] at e ⊢
        rw [← r.length]
        exact e
      rw [this]
      exact ih
    | some x =>
      obtain ⟨u, eu, ru⟩ := r.get e
      rw [eu]
      exact .cons ru ih
theorem pick_rds {K : PySem.W.Frag} {w : Wd} : ∀ {L : List Nat} {ds : List D} {xs : List V}, RDs K w ds xs → RDs K w (pickL L ds) (pickL L xs)
  | [], _, _, _ => .nil
  | i :: L, ds, xs, r => by
    have ih := pick_rds (L := L) r
    unfold pickL at ih ⊢
    simp only [List.filterMap_cons]
    cases e : ds[i]? with
    | none =>
      have : xs[i]? = none := by
        rw [List.getElem?_eq_none_iff] at e ⊢
        rw [← r.length]
        exact e
      rw [this]
      exact ih
    | some x =>
      obtain ⟨u, eu, ru⟩ := r.get e
      rw [eu]
      exact .cons ru ih
theorem pick_mem {α : Type} {L : List Nat} {xs : List α} {x : α} (h : x ∈ pickL L xs) : x ∈ xs := by
  unfold pickL at h
  obtain ⟨i, _, e⟩ := List.mem_filterMap.mp h
  exact List.mem_of_getElem? e
theorem pick_len {α β : Type} {xs : List α} {ys : List β} (e : xs.length = ys.length) : ∀ L : List Nat, (pickL L xs).length = (pickL L ys).length
  | [] => rfl
  | i :: L => by
    have ih := pick_len e L
    unfold pickL at ih ⊢
    simp only [List.filterMap_cons]
    by_cases h : i < xs.length
    · rw [List.getElem?_eq_getElem h, List.getElem?_eq_getElem (by omega : i < ys.length)]
      simp only [List.length_cons, ih]
    · rw [List.getElem?_eq_none (by omega), List.getElem?_eq_none (by omega)]
      exact ih
theorem l_slS {p2 : Pos} (ha : PE X e (liftE X.K wa)) (hl : PE X e1 (liftE X.K wb)) (hs : PE X e2 (liftE X.K wc)) :
    PE X (.Subscript e (.Slice (some e1) none (some e2) p2) pos) (liftE X.K fun σ h Q => wa σ h fun x h1 => wb σ h1 fun l h2 => intO l fun _ => wc σ h2 fun k h3 => intO k fun j => match view h3 x with
      | .lst ds => j ≠ 0 ∧ ∀ es : List D, (∀ e ∈ es, e ∈ ds) → es.length ≤ ds.length → Q (.lst es) h3
      | _ => False) := by
  refine ⟨fun pins s σ H Q I hw => ?_⟩
  obtain ⟨w, σd, h, QD, eH, rel, rs, q, post⟩ := hw
  subst eH
  refine Subscript_ (thn (ha.run pins s σ w.H (fun x H1 => ∃ w1 h1 d, w1.H = H1 ∧ RelW X.K w1 h1 ∧ Ext w w1 h h1 ∧ RD X.K w1 d x ∧ wb σd h1 fun l h2 => intO l fun _ => wc σd h2 fun k h3 => intO k fun j => match view h3 d with
      | .lst ds => j ≠ 0 ∧ ∀ es : List D, (∀ e ∈ es, e ∈ ds) → es.length ≤ ds.length → QD (.lst es) h3
      | _ => False) I ⟨w, σd, h, _, rfl, rel, rs, q, fun w1 h1 d v x1 rel1 r1 q1 => ⟨w1, h1, d, rfl, rel1, x1, r1, q1⟩⟩) ?_)
  rintro v s1 ⟨x, H1, I1, rx, w1, h1, d, rfl, rel1, x1, rd, q1⟩
  refine wpAny_Slice (thn ((lo_some hl).run pins s1 σ w1.H (fun l H2 => ∃ w2 h2, w2.H = H2 ∧ RelW X.K w2 h2 ∧ Ext w1 w2 h1 h2 ∧ (wc σd h2 fun k h3 => intO k fun j => match view h3 d with
      | .lst ds => j ≠ 0 ∧ ∀ es : List D, (∀ e ∈ es, e ∈ ds) → es.length ≤ ds.length → QD (.lst es) h3
      | _ => False)) I1 ⟨w1, σd, h1, _, rfl, rel1, rs.mono x1, ?_, fun w2 h2 o x2 rel2 q2 => ⟨w2, h2, rfl, rel2, x2, q2⟩⟩) ?_)
  · exact q1
  rintro vl s2 ⟨l, H2, I2, pl0, w2, h2, rfl, rel2, x2, q2⟩
  refine thn (po_none.run pins s2 σ w2.H (fun o H3 => o = none ∧ H3 = w2.H) I2 ⟨rfl, rfl⟩) ?_
  rintro vu s3 ⟨u, H3, I3, pu, rfl, rfl⟩
  refine thn ((lo_some hs).run pins s3 σ w2.H (fun k H4 => ∃ w3 h3, w3.H = H4 ∧ RelW X.K w3 h3 ∧ Ext w2 w3 h2 h3 ∧ ∃ j, k = some j ∧ (match view h3 d with
      | .lst ds => j ≠ 0 ∧ ∀ es : List D, (∀ e ∈ es, e ∈ ds) → es.length ≤ ds.length → QD (.lst es) h3
      | _ => False)) I3 ⟨w2, σd, h2, fun o h3 => match o with
      | some j => (match view h3 d with
      | .lst ds => j ≠ 0 ∧ ∀ es : List D, (∀ e ∈ es, e ∈ ds) → es.length ≤ ds.length → QD (.lst es) h3
      | _ => False)
      | none => False, rfl, rel2, (rs.mono x1).mono x2, q2, fun w3 h3 o x3 rel3 q3 => ?_⟩) ?_
  · cases o with
    | none => exact q3.elim
    | some j => exact ⟨w3, h3, rfl, rel3, x3, j, rfl, q3⟩
  rintro vs s4 ⟨k, H4, I4, ps, w3, h3, rfl, rel3, x3, j, rfl, q3⟩
  have I5 : Inv X pins σ w3.H { s4 with heap := s4.heap.push { cls := .type "slice", data := .fields #[vl, vu, vs] } } := I4.kept (t' := s4.toks) fun b ob q => Heap.get?_push_of_some _ q
  split at q3
  · rename_i ds ed
    obtain ⟨j0, q3⟩ := q3
    obtain ⟨a, xs, rfl, e2, rr, ll⟩ := view_lst rel3 ((rd.mono x2).mono x3) ed
    cases rx
    obtain ⟨its, r, ht, hz⟩ := I5.list (.inl (.inl e2))
    have hlen := r.length
    refine tail_any (ops := [.ref a, .ref s4.heap.objs.size]) ht.isList.typeIs (PySem.slot_list_getitem.lookup) ?_ (by with_unfolding_all rfl)
    refine wpAny_getItem_list_slice ht.isList (Heap.IsSliceOf.new _ vl vu vs) pl0 pu ps (fun z => j0 (Option.some.inj z)) ?_ (by rw [List.size_toArray]; omega)
    have ep : slicePick its.toArray l none (some j) = (pickL (sliceRange (sliceBounds l none (some j) its.toArray.size).1 (sliceBounds l none (some j) its.toArray.size).2.1 (sliceBounds l none (some j) its.toArray.size).2.2) its).toArray := by
      unfold slicePick pickL
      simp only [List.getElem?_toArray]
    have el := slicePick_size_le its.toArray l none (some j)
    rw [ep, List.size_toArray, List.size_toArray] at el
    rw [ep]
    generalize (sliceRange (sliceBounds l none (some j) its.toArray.size).1 (sliceBounds l none (some j) its.toArray.size).2.1 (sliceBounds l none (some j) its.toArray.size).2.2) = L at el
    have l1 : (pickL L ds).length ≤ ds.length := by
      have h1 := pick_len rr.length L
      have h2 := pick_len r.length L
      have h3 := rr.length
      omega
    have l2 : (pickL L xs).length = (pickL L ds).length := (pick_len rr.length L).symm
    refine ⟨.ref _, _, I5.laid (t' := s4.toks) (o := .lst (pickL L xs)) (fun b ob q => Heap.get?_push_of_some _ q) (Nat.le_refl _) ?_, rfl, ?_⟩
    · exact ⟨by omega, _, 0, pick_vals r, Heap.get?_push_size _ rfl⟩
    · exact post_lst rel3 (I5.hok.fresh (Nat.le_refl _)) (pick_rds rr) (by omega) (q3 _ (fun e he => pick_mem he) l1) (post.ext ((x1.trans x2).trans x3))
  · exact q3.elim
end
end G

/-! Tables that a module wrote: text keys. -/
namespace G
open PySem PySem.Spec PyProof.Rows
open L2 hiding wE wT

def TabAt (W : World) (K : PySem.W.Frag) (mg : Str → Option Value) (x : Str) (ks : List Str) (ds : List D) : Prop :=
  ∃ a es n, mg x = some (.ref a) ∧ KDict K W a es n ∧ ∀ z, match lookT ks ds z with
    | some d => ∃ u v, PySem.W.nsIn K a z = some (some u) ∧ RelV v u ∧ ∀ w, RD K w d v
    | none => PySem.W.nsIn K a z = some none
/-- the entries of a table of whole numbers -/
def EntI (P : Params) : List Str → List D → List DictEntry → Prop
  | [], [], [] => True
  | k :: ks, d :: ds, e :: es => (∃ t i u, e = ⟨PyData.keyHash P k, .str k t, .int i u⟩ ∧ d = .int i) ∧ EntI P ks ds es
  | _, _, _ => False
theorem ent_lit {P : Params} : ∀ {ks : List Str} {ds : List D} {es : List DictEntry}, EntI P ks ds es → PySem.W.KeysLit P es
  | [], [], [], _ => trivial
  | k :: ks, d :: ds, e :: es, h => by
    obtain ⟨⟨t, i, u, rfl, _⟩, h2⟩ := h
    exact ⟨⟨k, t, rfl, rfl⟩, ent_lit h2⟩
theorem ent_find {P : Params} (z : Str) : ∀ {ks : List Str} {ds : List D} {es : List DictEntry}, EntI P ks ds es → es.any (·.refKey) = false ∧ match lookT ks ds z with
    | some d => ∃ e i u, es.find? (fun e => e.key.isStr z) = some e ∧ e.val = .int i u ∧ d = .int i
    | none => es.find? (fun e => e.key.isStr z) = none
  | [], [], [], _ => ⟨rfl, rfl⟩
  | k :: ks, d :: ds, e :: es, h => by
    obtain ⟨⟨t, i, u, rfl, rfl⟩, h2⟩ := h
    obtain ⟨i1, i2⟩ := ent_find z h2
    refine ⟨by rw [List.any_cons, i1]; rfl, ?_⟩
    have e0 : ∀ x y : Value, (DictEntry.key ⟨PyData.keyHash P k, .str k t, .int i u⟩).isStr z = decide (k = z) := fun _ _ => by
      show (k == z) = decide (k = z)
      by_cases q : k = z
      · subst q; simp
      · rw [decide_eq_false q]
        exact beq_eq_false_iff_ne.mpr q
    unfold lookT
    by_cases q : k = z
    · rw [if_pos q]
      refine ⟨⟨PyData.keyHash P k, .str k t, .int i u⟩, i, u, ?_, rfl, rfl⟩
      rw [List.find?_cons_of_pos]
      rw [e0 .none .none]
      exact decide_eq_true q
    · rw [if_neg q]
      rw [List.find?_cons_of_neg (by rw [e0 .none .none, decide_eq_false q]; exact Bool.false_ne_true)]
      exact i2
theorem tab_of {W : World} {K : PySem.W.Frag} {mg : Str → Option Value} {x : Str} {ks : List Str} {ds : List D} {a : Addr} {es : Array DictEntry} {n : Nat} (hm : mg x = some (.ref a)) (hl : K.lookup a = some ⟨.type "dict", none, .dict es n, #[]⟩) (hs : (a == sysModules) = false) (he : EntI W.params ks ds es.toList) : TabAt W K mg x ks ds := by
  refine ⟨a, es, n, hm, ⟨hl, ent_lit he, hs⟩, fun z => ?_⟩
  obtain ⟨h1, h2⟩ := ent_find z he
  unfold PySem.W.nsIn
  rw [hl]
  cases e : lookT ks ds z with
  | none =>
    rw [e] at h2
    simp only at h2 ⊢
    rw [h2]
    simp only [h1, Bool.false_eq_true, if_false]
  | some d =>
    rw [e] at h2
    obtain ⟨e1, i, u, h3, h4, rfl⟩ := h2
    simp only at ⊢
    rw [h3]
    exact ⟨e1.val, .int i, rfl, ⟨u, h4⟩, fun w => .int i⟩
section
variable {X : Cx} {e e1 : Expr} {pos p1 : Pos} {wa : WE}
theorem l_tabAt {x : Str} {ks : List Str} {ds : List D} (hg : Gl X x) (hd : (x == ("__debug__" : Str)) = false) (T : TabAt X.w X.K X.mg x ks ds) (hp : pl e = true) (ha : PE X e (liftE X.K wa)) :
    PE X (.Subscript (.Name x p1) e pos) (liftE X.K fun σ h Q => wa σ h fun y h1 => match y with
      | .str z => (match lookT ks ds z with
        | some d => Q d h1
        | none => False)
      | _ => False) := by
  obtain ⟨a, es, n, hm, kd, hz⟩ := T
  refine pe_imp (pe_ix ix_kdict (pe_glob hg hm (v := .ref a) rfl hd) ha (ix_pl hp)) fun σ H Q ⟨w, σd, h, QD, eH, rel, rs, q, post⟩ => ?_
  refine ⟨w, σd, h, _, eH, rel, rs, q, fun w1 h1 d v x1 rel1 r1 q1 => ?_⟩
  split at q1
  · rename_i z
    have := hz z
    split at q1
    · rename_i d ed
      rw [ed] at this
      obtain ⟨u, v, e1, e2, e3⟩ := this
      cases r1
      exact ⟨a, z, v, rfl, rfl, ⟨es, n, u, kd.at_, kd.lit, e1, e2⟩, post w1 h1 d v x1 rel1 (e3 w1) q1⟩
    · exact q1.elim
  · exact q1.elim
theorem l_tabIn {x : Str} {ks : List Str} {ds : List D} (hg : Gl X x) (hd : (x == ("__debug__" : Str)) = false) (T : TabAt X.w X.K X.mg x ks ds) (ha : PE X e (liftE X.K wa)) :
    PE X (.Compare e [.In] [.Name x p1] pos) (liftE X.K fun σ h Q => wa σ h fun y h1 => match y with
      | .str z => Q (.bl (lookT ks ds z).isSome) h1
      | _ => False) := by
  obtain ⟨a, es, n, hm, kd, hz⟩ := T
  refine pe_imp (pe_cmpR (op_in_kd kd) ha (pe_glob hg hm (v := .ref a) rfl hd) rfl) fun σ H Q ⟨w, σd, h, QD, eH, rel, rs, q, post⟩ => ?_
  refine ⟨w, σd, h, _, eH, rel, rs, q, fun w1 h1 d v x1 rel1 r1 q1 => ?_⟩
  split at q1
  · rename_i z
    cases r1
    have := hz z
    cases ed : lookT ks ds z with
    | none =>
      rw [ed] at this q1
      exact ⟨z, none, rfl, rfl, this, post w1 h1 _ _ x1 rel1 (.bl false) q1⟩
    | some d =>
      rw [ed] at this q1
      obtain ⟨u, v, e1, e2, e3⟩ := this
      exact ⟨z, some u, rfl, rfl, e1, post w1 h1 _ _ x1 rel1 (.bl true) q1⟩
  · exact q1.elim
theorem lt_tabIn {x : Str} {ks : List Str} {ds : List D} (hg : Gl X x) (hd : (x == ("__debug__" : Str)) = false) (T : TabAt X.w X.K X.mg x ks ds) (ha : PE X e (liftE X.K wa)) :
    PT X (.Compare e [.In] [.Name x p1] pos) (liftT X.K fun σ h Q => wa σ h fun y h1 => match y with
      | .str z => Q (lookT ks ds z).isSome h1
      | _ => False) := by
  obtain ⟨a, es, n, hm, kd, hz⟩ := T
  refine pt_imp (pt_cmpR (op_in_kd kd) ha (pe_glob hg hm (v := .ref a) rfl hd) rfl) fun σ H Q ⟨w, σd, h, QD, eH, rel, rs, q, post⟩ => ?_
  refine ⟨w, σd, h, _, eH, rel, rs, q, fun w1 h1 d v x1 rel1 r1 q1 => ?_⟩
  split at q1
  · rename_i z
    cases r1
    have := hz z
    cases ed : lookT ks ds z with
    | none =>
      rw [ed] at this q1
      exact ⟨z, none, rfl, rfl, this, false, rfl, post w1 h1 _ x1 rel1 q1⟩
    | some d =>
      rw [ed] at this q1
      obtain ⟨u, v, e1, e2, e3⟩ := this
      exact ⟨z, some u, rfl, rfl, e1, true, rfl, post w1 h1 _ x1 rel1 q1⟩
  · exact q1.elim
end
end G

/-! // by any divisor; a range as a list or a tuple. -/
namespace G
open PySem PySem.Spec PyProof.Rows
open L2 hiding wE wT
section
variable {X : Cx} {e1 e2 : Expr} {pos : Pos} {wa wb : WE}
theorem op_fdivA : OpR X (binaryOp .FloorDiv) (rI (fun _ j => j ≠ 0 ∧ j.natAbs.log2 < 9000) fun i j => .int (i.fdiv j)) := opI fun _ _ _ _ _ _ _ hc q => floordiv_int hc.1 q (.inl (PyProof.noPylong_of_log2 hc.2))
theorem o_fdv : OpR X (binaryOp .FloorDiv) (R2of X.K fdvD) := by
  intro pins s σ H x y v u Q I rx ry hq
  obtain ⟨w, h, a, b, QD, rfl, rel, ra, rb, o, post⟩ := hq
  unfold fdvD at o
  obtain ⟨i, rfl, o⟩ := intO_of ra o
  obtain ⟨j, rfl, o⟩ := intO_of rb o
  exact op_fdivA pins s σ _ _ _ v u Q I rx ry ⟨i, j, rfl, rfl, o.1, post.now rel (.int _) o.2⟩
theorem l_fdv (ha : PE X e1 (liftE X.K wa)) (hb : PE X e2 (liftE X.K wb)) : PE X (.BinOp e1 .FloorDiv e2 pos) (liftE X.K fun σ h Q => wa σ h fun x h1 => wb σ h1 fun y h2 => fdvD x y h2 Q) :=
  pe_imp (pe_op o_fdv ha hb) lift2
theorem rgV_D {K : PySem.W.Frag} {w : Wd} (i j : Int) : RDs K w (rngD i (j - i).toNat) (rgV i j) := by
  unfold rngD rgV
  generalize List.range (j - i).toNat = l
  induction l with
  | nil => exact .nil
  | cons a l ih => exact .cons (.int _) ih
theorem l_rgs {l : Bool} {p p2 pos2 : Pos} {x : Str} (hx : x = if l = true then "list" else "tuple") (hc : X.calm = true) (hg : Gl X x) (hm : X.mg x = none) (hgr : Gl X "range") (hmr : X.mg "range" = none) (hp1 : pl e1 = true) (hp2 : pl e2 = true) (ha : PE X e1 (liftE X.K wa)) (hb : PE X e2 (liftE X.K wb)) :
    PE X (.Call (.Name x p) [.Call (.Name "range" p2) [e1, e2] [] pos2] [] pos) (liftE X.K fun σ h Q => wa σ h fun x h1 => wb σ h1 fun y h2 => rgsD l x y h2 Q) := by
  have rg := prg_2 (p := p2) (pos := pos2) hgr hmr ha hb (star_pl hp1) (star_pl hp2) (star_all (by simp [hp2]))
  have sz : sizeLine = 16777216 := sizeLine_eq
  cases l with
  | true =>
    subst hx
    refine pe_imp (pe_listRg hc hg hm rg) fun σ H Q ⟨w, σd, h, QD, eH, rel, rs, q, post⟩ => ?_
    refine ⟨w, σd, h, _, eH, rel, rs, q, fun w1 h1 d1 v1 x1 rel1 r1 q1 => ?_⟩
    refine ⟨w1, σd, h1, _, rfl, rel1, rs.mono x1, q1, fun w2 h2 d2 v2 x2 rel2 r2 q2 => ?_⟩
    unfold rgsD at q2
    obtain ⟨i, rfl, q2⟩ := intO_of (r1.mono x2) q2
    obtain ⟨j, rfl, q2⟩ := intO_of r2 q2
    obtain ⟨ok, q2⟩ := q2
    exact ⟨i, j, rfl, rfl, ⟨by omega, by omega, by omega, by omega, by omega⟩, fun p hp => post_lst rel2 hp (rgV_D i j) (by unfold rngD; rw [List.length_map, List.length_range]; omega) q2 (post.ext (x1.trans x2))⟩
  | false =>
    subst hx
    refine pe_imp (pe_tupRg hc hg hm rg) fun σ H Q ⟨w, σd, h, QD, eH, rel, rs, q, post⟩ => ?_
    refine ⟨w, σd, h, _, eH, rel, rs, q, fun w1 h1 d1 v1 x1 rel1 r1 q1 => ?_⟩
    refine ⟨w1, σd, h1, _, rfl, rel1, rs.mono x1, q1, fun w2 h2 d2 v2 x2 rel2 r2 q2 => ?_⟩
    unfold rgsD at q2
    obtain ⟨i, rfl, q2⟩ := intO_of (r1.mono x2) q2
    obtain ⟨j, rfl, q2⟩ := intO_of r2 q2
    obtain ⟨ok, q2⟩ := q2
    exact ⟨i, j, rfl, rfl, ⟨by omega, by omega, by omega, by omega, by omega⟩, fun p hp => post_tup rel2 hp (rgV_D i j) (by unfold rngD; rw [List.length_map, List.length_range]; omega) q2 (post.ext (x1.trans x2))⟩
end
end G

/-! sorted(set(t)), t a tuple of whole numbers. -/
namespace G
open PySem PySem.Spec PyProof.Rows
open L2 hiding wE wT
section
variable {X : Cx} {e1 : Expr} {pos : Pos} {wa : WE}
theorem srtS_any (hc : X.calm = true) : CallR X (.builtin "sorted") (fun xs H Q => ∃ (a : Addr) (S : Int → Bool) (n : Nat), xs = [V.ref a] ∧ H a = some (SetO X.w a S n) ∧
    ∀ (ns : List Int) (p : Addr), ns.Pairwise (· < ·) → (∀ k : Int, k ∈ ns ↔ S k = true) → H p = none → Q (.ref p) (upd H p (.lst (ns.map V.int)))) := by
  intro pins s σ H vs us Q I r h
  obtain ⟨a, S, n, rfl, ha, q⟩ := h
  have R := setO_get I ha
  rw [Vals.ref1 r]
  obtain ⟨o, es, ep, t, ho, hex, hd, g, nd, hm, hb, hf, hn, hr, hl⟩ := R
  refine Calls.call_function_entry kind_sorted plain_sorted entry_sorted (args_sorted1 _) ?_
  unfold Builtin.«sorted»
  refine wpAny_bind (m := checkCount "sorted" 1 1 _) (wpAny_pure ?_)
  refine wpAny_bind (collect_set (A := X.A.in1) (I.ok.hd hc) ⟨o, ho, hex.1, hd⟩ hf hb hr hl fun s1 acc k1 hz g1 o1 pm => ?_)
  have hvl : acc.length = es.size := by rw [pm.length_eq, List.length_map, Array.length_toList]
  have hI : IntsAre acc (acc.map Builtin.Re.reRawOf) := L2.ints_of acc fun v hv => by
    obtain ⟨e, he, q⟩ := List.mem_map.mp (pm.mem_iff.mp hv)
    obtain ⟨k, tk, h1, _⟩ := g e he
    exact ⟨k, tk, by rw [← q]; exact h1⟩
  have pk : (acc.map Builtin.Re.reRawOf).Perm (es.toList.map keyOf) := by
    have q := pm.map Builtin.Re.reRawOf
    rw [List.map_map] at q
    exact q
  have lz : acc.length ≤ sizeLine := by rw [hvl, sizeLine_eq]; unfold scanBound at hb; omega
  refine wpAny_bind (wpAny_newList ?_ lz)
  have ob : (s1.heap.push (seqObj "list" acc.toArray 0)).get? s1.heap.objs.size = some (seqObj "list" acc.toArray 0) := Heap.get?_push_size _ rfl
  have e1 : s1 = { s with heap := s1.heap, gens := s1.gens, drawn := s1.drawn, toks := s1.toks } := by
    cases s1
    cases s
    cases o1
    rfl
  have I2 : Inv X pins σ H s1 := by
    rw [e1]
    exact I.call (ch := []) (Un.kept k1) (I.hok.kept k1) (by rw [g1]; exact I.bare) (fun _ z => nomatch z)
  refine wpAny_bind (wpAny_holding (wpAny_call_entry slot_list_sort ⟨_, ob, rfl⟩ entry_list_sort
    (SrtO.list_sort_ord (s := { s1 with heap := s1.heap.push (seqObj "list" acc.toArray 0) }) SrtO.swo_int ob lz (fun two => SrtO.ints_sortable hI two) fun out g1 g2 => ⟨_, rfl, ?_⟩) (args_list_sort _)))
  obtain ⟨k1, k2, k3⟩ := SrtO.ints_out hI g1 g2
  obtain ⟨e2, he2⟩ := sortedHeap_at (vs := acc) (out := out.toArray) ob
  have pn : (out.map SrtO.iv).Perm (es.toList.map keyOf) := k2.trans pk
  have ll : ((out.map SrtO.iv).map V.int).length ≤ sizeLine := by rw [List.length_map, k2.length_eq, List.length_map]; exact lz
  refine wpAny_pure ⟨_, rfl, .ref s1.heap.objs.size, upd H s1.heap.objs.size (.lst ((out.map SrtO.iv).map V.int)), I2.laid (t' := s1.toks) (fun b o e => ?_) (Nat.le_refl _) ⟨ll, out, e2, vals_of_ints k1, he2⟩, rfl,
    q _ _ (lt_of_le_nodup _ k3 (pn.nodup_iff.mpr nd)) (fun k => by rw [pn.mem_iff, ← hm k]) (I2.hok.fresh (Nat.le_refl _))⟩
  have bl : b < s1.heap.objs.size := Heap.lt_size e
  rw [sortedHeap_old (Nat.ne_of_lt bl) (size_push' _ _ ▸ Nat.lt_succ_of_lt bl)]
  exact Heap.get?_push_of_some _ e
theorem setT_any (hc : X.calm = true) : CallR X (.type "set") (fun xs H Q => ∃ (a : Addr) (ns : List Int), xs = [V.ref a] ∧ SqT X.K H a (ns.map V.int) ∧ ns.length ≤ 1000 ∧
    ∀ (p : Addr) (n : Nat), H p = none → Q (.ref p) (upd H p (SetO X.w p (fun j => decide (j ∈ ns)) n))) := by
  intro pins s σ H vs us Q I r h
  obtain ⟨a, ns, rfl, hq, hl, q⟩ := h
  rw [Vals.ref1 r]
  obtain ⟨its, rv, pt, hz⟩ := I.tuple hq
  have hi : IntsAre its.toArray.toList ns := ints_of_vals rv
  refine call_set_tupI ns (I.ok.hd hc) (show s.heap.IsTuple a its.toArray from pt) hi (by unfold scanBound; omega) fun h' tk c R1 hcn k => ?_
  exact ⟨.ref _, upd H s.heap.objs.size (SetO X.w s.heap.objs.size (fun j => decide (j ∈ ns)) c), I.laid (t' := tk) k (Nat.le_refl _) (setO_new R1), rfl, q _ _ (I.hok.fresh (Nat.le_refl _))⟩
theorem pe_srs {te : TE} {p p2 q : Pos} (hc : X.calm = true) (hg : Gl X "sorted") (hm : X.mg "sorted" = none) (hg2 : Gl X "set") (hm2 : X.mg "set" = none) (ha : PE X e1 te) (na : starEach [e1] X.env = (false, eval e1 X.env) :: starEach [] X.env) :
    PE X (.Call (.Name "sorted" p) [.Call (.Name "set" p2) [e1] [] q] [] pos) (fun σ H Q => te σ H fun x H1 => ∃ (a : Addr) (ns : List Int), x = V.ref a ∧ SqT X.K H1 a (ns.map V.int) ∧ ns.length ≤ 1000 ∧
      ∀ (p0 : Addr) (n : Nat), H1 p0 = none → ∀ (ys : List Int) (p1 : Addr), ys.Pairwise (· < ·) → (∀ k : Int, k ∈ ys ↔ k ∈ ns) → upd H1 p0 (SetO X.w p0 (fun j => decide (j ∈ ns)) n) p1 = none →
        Q (.ref p1) (upd (upd H1 p0 (SetO X.w p0 (fun j => decide (j ∈ ns)) n)) p1 (.lst (ys.map V.int)))) := by
  refine ⟨fun pins s σ H Q I h => ?_⟩
  refine Call_ (ld_blt I hg hm PyProof.Rows.boot_sorted ?_)
  refine PyProof.Rows.callWith_builtin1 (PyProof.Rows.args_cons ?_ rfl) rfl rfl
  refine Call_ (ld_blt I hg2 hm2 PyProof.Rows.boot_set ?_)
  refine PyProof.Rows.callWith_type1 (PyProof.Rows.args_cons (thn (ha.run pins s σ H _ I h) fun v s1 ⟨x, H1, I1, r1, q1⟩ => PyProof.Rows.args_nil ?_) na) na rfl
  obtain ⟨a, ns, rfl, hq, hl, q⟩ := q1
  refine thn (setT_any hc pins s1 σ H1 [.ref a] [v] (fun x H2 => ∃ p0 n, x = V.ref p0 ∧ H2 = upd H1 p0 (SetO X.w p0 (fun j => decide (j ∈ ns)) n) ∧ H1 p0 = none) I1 (.cons r1 .nil) ⟨a, ns, rfl, hq, hl, fun p n hp => ⟨p, n, rfl, rfl, hp⟩⟩) fun v2 s2 ⟨x2, H2, I2, r2, p0, n, e2, e3, hp0⟩ => PyProof.Rows.args_nil ?_
  subst e2 e3
  exact srtS_any hc pins s2 σ _ [.ref p0] [v2] Q I2 (.cons r2 .nil) ⟨p0, _, n, rfl, upd_same, fun ys p1 h1 h2 h3 => q p0 n hp0 ys p1 h1 (fun k => by rw [h2 k, decide_eq_true_eq]) h3⟩
theorem ints_D {K : PySem.W.Frag} {w : Wd} : ∀ ys : List Int, RDs K w (ys.map D.int) (ys.map V.int)
  | [] => .nil
  | _ :: ys => .cons (.int _) (ints_D ys)
theorem nodup_len : ∀ (l m : List Int), l.Nodup → (∀ x ∈ l, x ∈ m) → l.length ≤ m.length
  | [], _, _, _ => Nat.zero_le _
  | x :: l, m, d, h => by
    obtain ⟨d1, d2⟩ := List.nodup_cons.mp d
    have e := nodup_len l (m.erase x) d2 fun y hy => (List.mem_erase_of_ne (show y ≠ x from fun z => d1 (z ▸ hy))).mpr (h y (List.mem_cons_of_mem _ hy))
    have hx := h x List.mem_cons_self
    rw [List.length_erase_of_mem hx] at e
    have : 0 < m.length := List.length_pos_of_mem hx
    simp only [List.length_cons]
    omega
theorem l_srs {p p2 q : Pos} (hc : X.calm = true) (hg : Gl X "sorted") (hm : X.mg "sorted" = none) (hg2 : Gl X "set") (hm2 : X.mg "set" = none) (hp1 : pl e1 = true) (ha : PE X e1 (liftE X.K wa)) :
    PE X (.Call (.Name "sorted" p) [.Call (.Name "set" p2) [e1] [] q] [] pos) (liftE X.K fun σ h Q => wa σ h fun x h1 => srsD x h1 Q) := by
  refine pe_imp (pe_srs hc hg hm hg2 hm2 ha (star_pl hp1)) fun σ H Q ⟨w, σd, h, QD, eH, rel, rs, q, post⟩ => ?_
  refine ⟨w, σd, h, _, eH, rel, rs, q, fun w1 h1 d1 v1 x1 rel1 r1 q1 => ?_⟩
  unfold srsD at q1
  split at q1
  · rename_i ds
    split at q1
    · rename_i ns en
      cases r1 with
      | tup st l rd =>
        have e := intsOf_rel rd en
        subst e
        refine ⟨_, ns, rfl, st.sq, q1.1, fun p0 n h0 ys pp k1 k2 k3 => ?_⟩
        have ln := nodup_len ys ns (k1.imp fun h => Int.ne_of_lt h) fun k hk => (k2 k).mp hk
        have sz : sizeLine = 16777216 := sizeLine_eq
        exact post_lst (w := w1.put p0 (SetO X.w p0 (fun j => decide (j ∈ ns)) n)) (rel_put rel1 h0) k3 (ints_D ys) (by rw [List.length_map]; omega) (q1.2 ys k1 k2) (post.ext (x1.trans (ext_put rel1 h0)))
    · cases q1
  · cases q1
end
end G

/-! d.update({x: True for x in range(a, b, c)}). -/
namespace G
open PySem PySem.Spec PyProof.Rows
open L2 hiding wE wT
def mergeK (kvs more : List (Key × V)) : List (Key × V) := more.foldl (fun acc p => putK acc p.1 p.2) kvs
theorem mergeK_rel : ∀ {more : List (Key × V)} {ms : List (Key × Value)}, KV more ms → ∀ {kvs : List (Key × V)} {vs : List (Key × Value)}, KV kvs vs → KV (mergeK kvs more) (merged vs ms)
  | _, _, .nil, _, _, r => r
  | _, _, .cons (a := p) (b := q) h hs, kvs, vs, r => by
    have e : p.1 = q.1 := h.1
    have z := r.put p.1 h.2
    rw [e] at z
    show KV (mergeK (putK kvs p.1 p.2) _) (merged (stored vs q.1 q.2) _)
    rw [e]
    exact mergeK_rel hs z
theorem putK_keys (kvs : List (Key × V)) (k : Key) (v : V) (j : Key) : j ∈ (putK kvs k v).map (·.1) ↔ j ∈ kvs.map (·.1) ∨ j = k := by
  unfold putK
  split
  · rename_i h
    have e : (kvs.map fun kv => if kv.1 = k then (kv.1, v) else kv).map (·.1) = kvs.map (·.1) := by
      rw [List.map_map]
      refine List.map_congr_left fun p _ => ?_
      show (if p.1 = k then (p.1, v) else p).1 = p.1
      split <;> rfl
    rw [e]
    refine ⟨.inl, fun z => z.elim id fun z => ?_⟩
    obtain ⟨p, hp, e⟩ := List.any_eq_true.mp h
    have e : p.1 = k := of_decide_eq_true e
    subst z
    exact List.mem_map.mpr ⟨p, hp, e⟩
  · rw [List.map_append, List.mem_append]
    simp
theorem putK_vals {u : V} (kvs : List (Key × V)) (k : Key) (h : ∀ p ∈ kvs, p.2 = u) : ∀ p ∈ putK kvs k u, p.2 = u := by
  unfold putK
  split
  · intro p hp
    obtain ⟨q, hq, rfl⟩ := List.mem_map.mp hp
    show (if q.1 = k then (q.1, u) else q).2 = u
    split
    · rfl
    · exact h q hq
  · intro p hp
    rcases List.mem_append.mp hp with z | z
    · exact h p z
    · rw [List.mem_singleton.mp z]
theorem putK_len (kvs : List (Key × V)) (k : Key) (v : V) : (putK kvs k v).length ≤ kvs.length + 1 := by
  unfold putK
  split <;> simp
theorem mergeK_keys (j : Key) : ∀ (more kvs : List (Key × V)), j ∈ (mergeK kvs more).map (·.1) ↔ j ∈ kvs.map (·.1) ∨ j ∈ more.map (·.1)
  | [], kvs => by simp [mergeK]
  | p :: more, kvs => by
    show j ∈ (mergeK (putK kvs p.1 p.2) more).map (·.1) ↔ _
    rw [mergeK_keys j more, putK_keys, List.map_cons, List.mem_cons, or_assoc]
theorem mergeK_vals {u : V} : ∀ (more kvs : List (Key × V)), (∀ p ∈ kvs, p.2 = u) → (∀ p ∈ more, p.2 = u) → ∀ p ∈ mergeK kvs more, p.2 = u
  | [], kvs, h, _ => h
  | p :: more, kvs, h, h2 => by
    show ∀ q ∈ mergeK (putK kvs p.1 p.2) more, q.2 = u
    rw [h2 p List.mem_cons_self]
    exact mergeK_vals more _ (putK_vals kvs p.1 h) fun q hq => h2 q (List.mem_cons_of_mem _ hq)
theorem mergeK_len : ∀ (more kvs : List (Key × V)), (mergeK kvs more).length ≤ kvs.length + more.length
  | [], kvs => by simp [mergeK]
  | p :: more, kvs => by
    have a := mergeK_len more (putK kvs p.1 p.2)
    have b := putK_len kvs p.1 p.2
    show (mergeK (putK kvs p.1 p.2) more).length ≤ _
    rw [List.length_cons]
    omega
/-- what the comprehension has laid -/
def dcK (lo c : Int) : Nat → List (Key × V)
  | 0 => []
  | i + 1 => putK (dcK lo c i) (.inl (lo + (i : Nat) * c)) (.bl true)
theorem dcK_len (lo c : Int) : ∀ i, (dcK lo c i).length ≤ i
  | 0 => Nat.le_refl _
  | i + 1 => by
    have a := dcK_len lo c i
    have b := putK_len (dcK lo c i) (.inl (lo + (i : Nat) * c)) (.bl true)
    show (putK (dcK lo c i) _ _).length ≤ _
    omega
theorem dcK_vals (lo c : Int) : ∀ i, ∀ p ∈ dcK lo c i, p.2 = V.bl true
  | 0 => fun _ h => nomatch h
  | i + 1 => putK_vals _ _ (dcK_vals lo c i)
theorem dcK_keys (lo c : Int) (k : Key) : ∀ i, k ∈ (dcK lo c i).map (·.1) ↔ ∃ t : Nat, t < i ∧ k = .inl (lo + t * c)
  | 0 => by simp [dcK]
  | i + 1 => by
    show k ∈ (putK (dcK lo c i) _ _).map (·.1) ↔ _
    rw [putK_keys, dcK_keys lo c k i]
    constructor
    · rintro (⟨t, h, e⟩ | e)
      · exact ⟨t, by omega, e⟩
      · exact ⟨i, by omega, e⟩
    · rintro ⟨t, h, e⟩
      by_cases z : t = i
      · subst z; exact .inr e
      · exact .inl ⟨t, by omega, e⟩
theorem look_keys {α : Type} (k : Key) : ∀ kvs : List (Key × α), (lookK kvs k).isSome = true ↔ k ∈ kvs.map (·.1)
  | [] => by simp [lookK]
  | p :: kvs => by
    have ih := look_keys k kvs
    unfold lookK at ih ⊢
    rw [List.find?_cons, List.map_cons, List.mem_cons]
    by_cases e : p.1 = k
    · simp [e]
    · simp only [e, decide_false, ih]
      exact ⟨.inr, fun z => z.elim (fun z => absurd z.symm e) id⟩
section
variable {X : Cx}
def rUpd : V → List V → Hp → VK → Prop := fun x xs H Q => ∃ (a b : Addr) (kvs more : List (Key × V)), x = .ref a ∧ xs = [.ref b] ∧ a ≠ b ∧ H a = some (.dK kvs) ∧ H b = some (.dK more) ∧ kvs.length + more.length ≤ sizeLine ∧ Q .non (upd H a (.dK (mergeK kvs more)))
theorem mt_update : MtR X "dict.update" rUpd := by
  intro pins s σ H x xs v us Q I rx rxs h
  obtain ⟨a, b, kvs, more, rfl, rfl, ne, ea, eb, hz, q⟩ := h
  obtain rfl : v = Value.ref a := rx
  obtain ⟨u, rfl, ru⟩ := rxs.one
  obtain rfl : u = Value.ref b := ru
  obtain ⟨z, hd, vs, rel, dd⟩ := dk_of I.hok ea
  obtain ⟨z2, hd2, ms, rel2, dd2⟩ := dk_of I.hok eb
  refine call_meetsIn PySem.F.slot_dict_update dd.typeIs PySem.F.entry_dict_update (PySem.F.args_dict_update_2 _ _) (meets_dict_update (mixKind X.prog X.w) a b ne hd2) ⟨vs, ms, dd, dd2, by rw [← rel.length, ← rel2.length]; exact hz, fun h' dd' _ hs => ?_⟩
  have he : ∃ q, h'.get? a = some q := let ⟨q, _, _, hq, _⟩ := dd'; ⟨q, hq⟩
  have hl : (mergeK kvs more).length ≤ sizeLine := Nat.le_trans (mergeK_len more kvs) hz
  exact ⟨.non, _, d_write (t' := s.toks) I (by rw [ea]; exact True.intro) hs he (dk_new hl hd (mergeK_rel rel2 rel) dd'), rfl, q⟩
theorem wipe_set {σ : L2.St} {vs : List Nat} {i : Nat} {v : V} (h : i ∈ vs) : wipe ((wipe σ vs).set i (some v)) vs = wipe σ vs := by
  refine List.ext_getElem? fun j => ?_
  rw [wipe_at, wipe_at]
  by_cases hj : j ∈ vs
  · simp [hj, wipe_length]
  · have : i ≠ j := fun e => hj (e ▸ h)
    rw [if_neg hj, if_neg hj, List.getElem?_set_ne this, wipe_at, if_neg hj]
theorem rds_true {K : PySem.W.Frag} {w : Wd} : ∀ {kvs : List (Key × D)} {xs : List (Key × V)}, (∀ p ∈ kvs, p.2 = D.bl true) → RDs K w (kvs.map (·.2)) (xs.map (·.2)) → ∀ p ∈ xs, p.2 = V.bl true
  | [], [], _, _ => fun _ h => nomatch h
  | p :: kvs, q :: xs, h, r => by
    rw [List.map_cons, List.map_cons] at r
    cases r with
    | cons r rs =>
      rw [h p List.mem_cons_self] at r
      intro z hz
      rcases List.mem_cons.mp hz with e | e
      · rw [e]
        generalize q.2 = qv at r
        cases r
        rfl
      · exact rds_true (fun p hp => h p (List.mem_cons_of_mem _ hp)) rs z e
  | [], _ :: _, _, r => by cases r
  | _ :: _, [], _, r => by cases r
theorem true_rds {K : PySem.W.Frag} {w : Wd} : ∀ {xs : List (Key × V)}, (∀ p ∈ xs, p.2 = V.bl true) → RDs K w ((xs.map fun p => (p.1, D.bl true)).map (·.2)) (xs.map (·.2))
  | [], _ => .nil
  | p :: xs, h => by
    show RDs K w (D.bl true :: _) (p.2 :: _)
    rw [h p List.mem_cons_self]
    exact .cons (.bl true) (true_rds fun q hq => h q (List.mem_cons_of_mem _ hq))
variable {o e1 e2 e3 kx vx tg : Expr} {wo wa wb wc : WE} {apos cpos rpos p dpos : Pos} {scope : Scope} {own : List (Str × Nat)} {i : Nat}
theorem l_upd (hc : X.calm = true) (hN : X.N.Nodup) (hb : nsup o = true) (hl : (apos.endLine == cpos.line) = true) (hg : Gl X "range") (hm : X.mg "range" = none) (hp : pl e1 = true) (hp2 : pl e2 = true) (hp3 : pl e3 = true) (hv : i ∈ own.map (·.2)) (ok : BlkOk X.N X.env.scope scope own)
    (ho : PE X o (liftE X.K wo)) (he : PE X e1 (liftE X.K wa)) (he2 : PE X e2 (liftE X.K wb)) (he3 : PE X e3 (liftE X.K wc))
    (ht : ∀ (s : Shared) (H : Hp) (C : Addr) (cl : List (Str × Addr)) (fp : List Addr), PG (X.blk s H scope (compEnvC scope cl C X.env) fp) tg (gName i))
    (hk : ∀ (s : Shared) (H : Hp) (C : Addr) (cl : List (Str × Addr)) (fp : List Addr), PE (X.blk s H scope (compEnvC scope cl C X.env) fp) kx (tVar i))
    (hx : ∀ (s : Shared) (H : Hp) (C : Addr) (cl : List (Str × Addr)) (fp : List Addr), PE (X.blk s H scope (compEnvC scope cl C X.env) fp) vx (L2.tC (.bl true))) :
    PE X (.Call (.Attribute o "update" apos) [.DictComp kx vx [⟨tg, .Call (.Name "range" p) [e1, e2, e3] [] rpos, [], 0⟩] scope dpos] [] cpos)
      (liftE X.K fun σ h Q => wo σ h fun d h1 => (isDK d h1 ∧ i < σ.length) ∧ wa σ h1 fun x h2 => wb σ h2 fun y h3 => wc σ h3 fun z h4 => updD d x y z h4 Q) := by
  have dc := pe_dc (pos := dpos) hc hN (pi_range3 (tg := tg) (p := p) (pos := rpos) hg hm (la_cons hp he (la_cons hp2 he2 (la_cons hp3 he3 la_nil))) (star_pl hp) (star_all (by simp [hp2, hp3]))) ok ht (fun s H C cl fp => pts_nil) hk hx (fun x => rfl)
  refine pe_imp (pe_bm PySem.F.plainAttrs_dict PySem.F.slot_dict_update PySem.F.type_dict_update mt_update ho (pa_cons dc pa_nil rfl) (base_nsup hb) rfl hl rfl rfl) fun σ H Q ⟨w, σd, h, QD, eH, rel, rs, q, post⟩ => ?_
  refine ⟨w, σd, h, _, eH, rel, rs, q, fun w1 h1 d1 v1 x1 rel1 r1 q1 => ?_⟩
  obtain ⟨⟨qd, qi⟩, q1⟩ := q1
  cases d1 with
  | ref n =>
    cases r1 with
    | ref em =>
    rename_i a
    refine ⟨?_, ?_⟩
    · unfold isDK at qd
      dsimp only at qd
      split at qd
      · rename_i kvs hk1
        obtain ⟨a', e', xs, hx1, _⟩ := rel1.has n _ hk1
        rw [em] at e'
        cases e'
        exact .inr (.inr (.inl ⟨rfl, .inl ⟨xs, hx1⟩⟩))
      · exact qd.elim
    · show tDc _ _ _ _ _ _ σ w1.H _
      refine ⟨w1, σd, h1, fun ds h4 => match ds with | [x, y, z] => updD (.ref n) x y z h4 QD | _ => False, rfl, rel1, rs.mono x1, q1, fun w4 h4 ds vs x4 rel4 r4 l4 q4 => ?_⟩
      match ds, r4, q4 with
      | [x, y, z], r4, q4 =>
        replace q4 : updD (.ref n) x y z h4 QD := q4
        unfold updD at q4
        dsimp only at q4
        split at q4
        · rename_i kvs hk4
          obtain ⟨kt, i0, j0, c0, m, rfl, rfl, rfl, rg, hz, q4⟩ := q4
          obtain ⟨u1, u2, u3, rfl, ra, rb, rc⟩ := rds3 r4
          cases ra
          cases rb
          cases rc
          have em4 : w4.m n = some a := x4.m n a em
          obtain ⟨a', e', xs, hx4, hkeys, hvals⟩ := rel4.has n _ hk4
          rw [em4] at e'
          cases e'
          have sz : sizeLine = 16777216 := sizeLine_eq
          refine ⟨i0, j0, c0, m, rfl, rg, fun Dd hD => ⟨fun t k H => k = m - t ∧ t ≤ m ∧ H = upd w4.H Dd (.dK (dcK i0 c0 t)), ⟨m, by simp, Nat.zero_le _, rfl⟩, ?_⟩⟩
          rintro t k H5 ⟨rfl, ht5, rfl⟩
          by_cases hlt : t < m
          · refine .inr ⟨hlt, fun H' => H' = upd w4.H Dd (.dK (dcK i0 c0 (t + 1))), fun H' e => ⟨m - (t + 1), by omega, rfl, by omega, e⟩, ?_⟩
            rintro x' H' ⟨rfl, rfl⟩
            refine ⟨wipe_set hv, ?_⟩
            refine ⟨_, by rw [List.getElem?_set_self (by rw [wipe_length, ← rs.1]; exact qi)], ?_⟩
            refine ⟨dcK i0 c0 t, .inl (i0 + (t : Nat) * c0), rfl, upd_same, ?_, ?_⟩
            · have := dcK_len i0 c0 t
              omega
            · show upd (upd w4.H Dd _) Dd _ = _
              rw [upd_upd]
              rfl
          · have e : t = m := by omega
            subst e
            refine .inl ⟨Nat.le_refl _, ?_⟩
            have nad : a ≠ Dd := fun z => by rw [z, hD] at hx4; cases hx4
            have hl1 : xs.length = kvs.length := by simpa using congrArg List.length hkeys
            have hl2 := dcK_len i0 c0 t
            refine ⟨a, Dd, xs, dcK i0 c0 t, rfl, rfl, nad, (upd_ne nad).trans hx4, upd_same, by omega, ?_⟩
            have vt := mergeK_vals (u := V.bl true) (dcK i0 c0 t) xs (rds_true kt hvals) (dcK_vals i0 c0 t)
            refine post_chgK (w := w4.put Dd (.dK (dcK i0 c0 t))) (n := n) (ds' := (mergeK xs (dcK i0 c0 t)).map fun p => (p.1, D.bl true)) (d := .non) (rel_put rel4 hD) em4 hk4 (by rw [List.map_map]; rfl) (true_rds vt) .non ?_ (post.ext (x1.trans (x4.trans (ext_put rel4 hD))))
            refine q4 _ (fun p hp => ?_) (by rw [List.length_map]; have := mergeK_len (dcK i0 c0 t) xs; omega) fun k => ?_
            · obtain ⟨q, _, rfl⟩ := List.mem_map.mp hp
              rfl
            · have ek : ((mergeK xs (dcK i0 c0 t)).map fun p => (p.1, D.bl true)).map (·.1) = (mergeK xs (dcK i0 c0 t)).map (·.1) := by rw [List.map_map]; rfl
              rw [look_keys, ek, mergeK_keys, dcK_keys, look_keys, hkeys]
        · exact q4.elim
  | _ => exact qd.elim
end
end G

/-! A comprehension of two clauses, the second over a tuple. -/
namespace G
open PySem PySem.Spec PyProof.Rows L2

theorem ext_put_live {K : PySem.W.Frag} {w w' : Wd} {h h' : Hd} {n : Nat} {p : Addr} {o : HO} (x : Ext w w' h h') (rel : RelW K w' h') (h0 : h n ≠ none) (hm : w'.m n = some p) (hn : h' n = none) (hf : ¬ w'.fz n) : Ext w (w'.put p o) h h' := by
  obtain ⟨kp, _⟩ := put_dead (o := o) rel hm hn hf
  refine ⟨x.m, x.dk, fun a u q e => kp a u (x.nmut q e) (x.keep a u q e), x.new, fun k a e q f => ?_⟩
  obtain ⟨p1, p2, p3⟩ := x.dead k a e q f
  refine ⟨p1, ?_, p3⟩
  have ne : a ≠ p := fun z => by
    have := rel.inj k n p (z ▸ x.m k a e) hm p3 hf
    exact h0 (by rw [← this]; exact q)
  exact (upd_ne ne).trans p2
structure C2 (K : PySem.W.Frag) (w : Wd) (h : Hd) (n : Nat) (p : Addr) (ds : List D) (go : List D → List D → Hd → Prop) (i : Nat) (H : Hp) : Prop where
  ex : ∃ w2 h2 acc xs, w2.H = H ∧ Ext w w2 h h2 ∧ RelW K w2 h2 ∧ w2.m n = some p ∧ h2 n = none ∧ ¬ w2.fz n ∧ w2.H p = some (.lst xs) ∧ RDs K w2 acc xs ∧ acc.length ≤ sizeLine ∧ go (ds.drop i) acc h2
structure C3 (K : PySem.W.Frag) (w v : Wd) (h g : Hd) (n : Nat) (p : Addr) (B : Nat) (ds : List D) (go : List D → List D → Hd → Prop) (i : Nat) (H : Hp) : Prop where
  ex : ∃ w2 h2 acc xs, w2.H = H ∧ Ext w w2 h h2 ∧ Ext v w2 g h2 ∧ RelW K w2 h2 ∧ w2.m n = some p ∧ h2 n = none ∧ ¬ w2.fz n ∧ w2.H p = some (.lst xs) ∧ RDs K w2 acc xs ∧ acc.length ≤ B + i ∧ go (ds.drop i) acc h2
theorem lc2_read {K : PySem.W.Frag} {wi : WI} {gd gd1 : D → Sl → (Sl → Prop) → Prop} {td td1 : WT} {ea ed : WE} {vs us us1 vs1 : List Nat} (hv : ∀ i ∈ us, i ∈ vs) (hv1 : ∀ i ∈ us1, i ∈ vs1) (σ : L2.St) (H : Hp) (Q : VK)
    (hq : liftE K (fun σ h Q => wi σ h fun ds stay h1 => comp2L (fun d K => gd d (wipeD σ vs) K) td ea gd1 td1 ed vs1 stay ds [] h1 fun acc h2 => Q (.lst acc) h2) σ H Q) :
    tLc2 (liftI K wi) (liftG K us gd) (liftT K td) (iSeq K (liftE K ea)) (liftG K us1 gd1) (liftT K td1) (liftE K ed) vs vs1 σ H Q := by
  obtain ⟨w, σd, h, QD, eH, rel, rs, q, post⟩ := hq
  refine ⟨w, σd, h, _, eH, rel, rs, q, fun w1 h1 ds stay J x1 rel1 it q1 p hp => ?_⟩
  obtain ⟨n, n1, n2⟩ := rel1.fresh
  obtain ⟨x2, rel2⟩ := own_dead (o := .lst []) rel1 n1 n2 hp
  let go := fun (ds acc : List D) (h2 : Hd) => comp2L (fun d K => gd d (wipeD σd vs) K) td ea gd1 td1 ed vs1 stay ds acc h2 fun acc h2 => QD (.lst acc) h2
  refine ⟨fun i m H => m = ds.length - i ∧ i ≤ ds.length ∧ C2 K w1 h1 n p ds go i H, ⟨_, rfl, Nat.zero_le _, ⟨_, h1, [], [], rfl, x2, rel2, if_pos rfl, n2, fun z => z.1 rfl, upd_same, .nil, Nat.zero_le _, q1⟩⟩, ?_⟩
  rintro i m H2 ⟨rfl, hi, ⟨w2, h2, acc, xs, rfl, x, rel, hm, hn, hf, hp2, r, la, q2⟩⟩
  by_cases hlt : i < ds.length
  · right
    have hd : ds[i]? = some ds[i] := List.getElem?_eq_getElem hlt
    have q2 : stay h2 ∧ gd ds[i] (wipeD σd vs) fun σ => td σ h2 fun b h1 => if b = true then ea σ h1 fun x h2 => (match x with
      | .tup ds1 => acc.length + ds1.length ≤ sizeLine ∧ compL (fun d K => gd1 d (wipeD σ vs1) K) td1 ed (fun _ => True) ds1 acc h2 fun acc' h3 => go (ds.drop (i + 1)) acc' h3
      | _ => False) else go (ds.drop (i + 1)) acc h1 := by
      have e := List.drop_eq_getElem_cons hlt
      have q2' : go (ds[i] :: ds.drop (i + 1)) acc h2 := by rw [← e]; exact q2
      exact q2'
    obtain ⟨g1, g2⟩ := it.go w2 h2 x rel q2.1 i _ hd
    refine ⟨g1, C2 K w1 h1 n p ds go (i + 1), fun H' hw => ⟨_, by omega, rfl, hlt, hw⟩, fun y H' hy => ?_⟩
    obtain ⟨w3, rfl, x3, rel3, ry⟩ := g2 y H' hy
    have rs3 : RSl K w3 σd σ := ((rs.mono x1).mono x).mono x3
    refine ⟨w3, wipeD σd vs, h2, ds[i], _, rfl, rel3, rs3.wipe vs, ry, q2.2, fun σd' σ' rs' b' q3 => ⟨(b'.mono hv).wipe, ?_⟩⟩
    refine ⟨w3, σd', h2, _, rfl, rel3, rs', q3, fun w4 h4 b x4 rel4 q4 => ?_⟩
    have n3 : w3.m n = some p := x3.m n p hm
    have d3 := x3.dead n p hm hn hf
    have d4 := x4.dead n p n3 d3.1 d3.2.2
    have n4 := x4.m n p n3
    cases b with
    | false =>
      replace q4 : go (ds.drop (i + 1)) acc h4 := q4
      show C2 K w1 h1 n p ds go (i + 1) w4.H
      exact ⟨w4, h4, acc, xs, rfl, (x.trans x3).trans x4, rel4, n4, d4.1, d4.2.2, by rw [d4.2.1, d3.2.1]; exact hp2, (r.mono x3).mono x4, la, q4⟩
    | true =>
      simp only [if_true] at q4 ⊢
      refine ⟨w4, σd', h4, _, rfl, rel4, rs'.mono x4, q4, fun w5 h5 d v x5 rel5 r5 q5 => ?_⟩
      split at q5
      · rename_i ds1
        obtain ⟨lb, q5⟩ := q5
        cases r5 with
        | @tup a _ xs1 st ll rr =>
          refine ⟨a, rfl, .inr ⟨⟨_, st.sq⟩, ?_⟩⟩
          have d5 := x5.dead n p n4 d4.1 d4.2.2
          have n5 := x5.m n p n4
          have f5 : ¬ w5.fz n := d5.2.2
          have h5p : w5.H p = some (.lst xs) := by rw [d5.2.1, d4.2.1, d3.2.1]; exact hp2
          have xx : Ext w1 w5 h1 h5 := ((x.trans x3).trans x4).trans x5
          have rs5 : RSl K w5 σd' σ' := (rs'.mono x4).mono x5
          have r5 : RDs K w5 acc xs := ((r.mono x3).mono x4).mono x5
          let gL : Hd := fun k => if k = n then some (.lst []) else h5 k
          have gn : gL n ≠ none := by show (if n = n then _ else _) ≠ none; rw [if_pos rfl]; exact Option.some_ne_none _
          have xg : Ext w5 w5 gL h5 := ⟨fun _ _ e => e, fun _ e => e, fun _ _ _ e => e, fun _ e => .inl e, fun k a e q f => by
            have hk : k ≠ n := fun z => gn (z ▸ q)
            have q : (if k = n then some (.lst []) else h5 k) = none := q
            rw [if_neg hk] at q
            exact ⟨q, rfl, f⟩⟩
          let go1 := fun (es acc : List D) (h2 : Hd) => compL (fun d K => gd1 d (wipeD σd' vs1) K) td1 ed (fun _ => True) es acc h2 fun acc' h3 => go (ds.drop (i + 1)) acc' h3
          refine ⟨fun j k H => k = ds1.length - j ∧ j ≤ ds1.length ∧ C3 K w1 w5 h1 gL n p acc.length ds1 go1 j H, ⟨_, rfl, Nat.zero_le _, ⟨w5, h5, acc, xs, rfl, xx, xg, rel5, n5, d5.1, f5, h5p, r5, Nat.le_refl _, q5⟩⟩, ?_⟩
          rintro j k H3 ⟨rfl, hj, ⟨w6, h6, acc6, xs6, rfl, y6, z6, rel6, m6, e6, f6, p6, r6, l6, q6⟩⟩
          have st6 := st.mono z6
          have rr6 := rr.mono z6
          by_cases hl1 : j < ds1.length
          · right
            have hd1 : ds1[j]? = some ds1[j] := List.getElem?_eq_getElem hl1
            have q6 : True ∧ gd1 ds1[j] (wipeD σd' vs1) fun σ' => td1 σ' h6 fun b h3 => if b = true then ed σ' h3 fun v h4 => go1 (ds1.drop (j + 1)) (acc6 ++ [v]) h4 else go1 (ds1.drop (j + 1)) acc6 h3 := by
              have e := List.drop_eq_getElem_cons hl1
              have q2' : go1 (ds1[j] :: ds1.drop (j + 1)) acc6 h6 := by rw [← e]; exact q6
              exact q2'
            obtain ⟨v1, ev1, rv1⟩ := rr6.get hd1
            refine ⟨⟨xs1, v1, st6.sq, ev1⟩, C3 K w1 w5 h1 gL n p acc.length ds1 go1 (j + 1), fun H' hw => ⟨_, by omega, rfl, hl1, hw⟩, fun y H' hy => ?_⟩
            obtain ⟨rfl, hy⟩ := hy
            have := hy xs1 st6.sq
            rw [ev1] at this
            cases this
            refine ⟨w6, wipeD σd' vs1, h6, ds1[j], _, rfl, rel6, (rs5.mono z6).wipe vs1, rv1, q6.2, fun σe τ rs7 b7 q7 => ⟨(b7.mono hv1).wipe, ?_⟩⟩
            refine ⟨w6, σe, h6, _, rfl, rel6, rs7, q7, fun w7 h7 b x7 rel7 q8 => ?_⟩
            have d7 := x7.dead n p m6 e6 f6
            have n7 := x7.m n p m6
            cases b with
            | false =>
              replace q8 : go1 (ds1.drop (j + 1)) acc6 h7 := q8
              show C3 K w1 w5 h1 gL n p acc.length ds1 go1 (j + 1) w7.H
              exact ⟨w7, h7, acc6, xs6, rfl, y6.trans x7, z6.trans x7, rel7, n7, d7.1, d7.2.2, by rw [d7.2.1]; exact p6, r6.mono x7, by omega, q8⟩
            | true =>
              replace q8 : ed σe h7 fun v h4 => go1 (ds1.drop (j + 1)) (acc6 ++ [v]) h4 := q8
              show liftE K ed τ w7.H fun y H4 => ∃ acc', H4 p = some (.lst acc') ∧ acc'.length < sizeLine ∧ C3 K w1 w5 h1 gL n p acc.length ds1 go1 (j + 1) (upd H4 p (.lst (acc' ++ [y])))
              refine ⟨w7, σe, h7, _, rfl, rel7, rs7.mono x7, q8, fun w8 h8 d v x8 rel8 r8 q9 => ?_⟩
              have d8 := x8.dead n p n7 d7.1 d7.2.2
              have n8 := x8.m n p n7
              have f8 : ¬ w8.fz n := d8.2.2
              have h8p : w8.H p = some (.lst xs6) := by rw [d8.2.1, d7.2.1]; exact p6
              obtain ⟨_, rel9, _, rds9⟩ := put_dead (o := .lst (xs6 ++ [v])) rel8 n8 d8.1 f8
              have r9 : RDs K w8 (acc6 ++ [d]) (xs6 ++ [v]) := ((r6.mono x7).mono x8).append (.cons r8 .nil)
              have hl : xs6.length < sizeLine := by
                have := r6.length
                omega
              refine ⟨xs6, h8p, hl, ⟨w8.put p (.lst (xs6 ++ [v])), h8, acc6 ++ [d], xs6 ++ [v], rfl, ext_put_dead ((y6.trans x7).trans x8) rel8 n1 n8 d8.1 f8, ext_put_live ((z6.trans x7).trans x8) rel8 gn n8 d8.1 f8, rel9, n8, d8.1, f8, upd_same, rds9 _ _ r9, ?_, q9⟩⟩
              rw [List.length_append]
              simp only [List.length_cons, List.length_nil]
              omega
          · left
            have ej : j = ds1.length := by omega
            subst ej
            have q6 : True ∧ go (ds.drop (i + 1)) acc6 h6 := by
              have e : ds1.drop ds1.length = [] := List.drop_length
              have q2' : go1 [] acc6 h6 := by rw [← e]; exact q6
              exact q2'
            exact ⟨⟨xs1, st6.sq, by rw [rr.length]; exact Nat.le_refl _⟩, ⟨w6, h6, acc6, xs6, rfl, y6, rel6, m6, e6, f6, p6, r6, by omega, q6.2⟩⟩
      · exact q5.elim
  · left
    have ei : i = ds.length := by omega
    subst ei
    have q2 : stay h2 ∧ listed false acc h2 QD := by
      have e : ds.drop ds.length = [] := List.drop_length
      have q2' : go [] acc h2 := by rw [← e]; exact q2
      exact q2'
    exact ⟨it.stop w2 h2 x rel q2.1, listed_end x rel n1 hm hn hf hp2 r la q2.2 (post.ext x1)⟩
section
variable {X : Cx} {pos : Pos}
theorem l_lc2 {elt tg iter tg1 iter1 : Expr} {ifs ifs1 : List Expr} {scope : Scope} {own : List (Str × Nat)} {wi : WI} {us us1 : List Nat} {gd gd1 : D → Sl → (Sl → Prop) → Prop} {td td1 : WT} {ea ed : WE} (hc : X.calm = true) (hN : X.N.Nodup) (hv : ∀ i ∈ us, i ∈ own.map (·.2)) (hv1 : ∀ i ∈ us1, i ∈ own.map (·.2)) (hpl : pl iter = true) (hpl1 : pl iter1 = true)
    (hi : PI X tg iter (liftI X.K wi)) (ok : BlkOk X.N X.env.scope scope own)
    (hg : ∀ (s : Shared) (H : Hp) (C : Addr) (cl : List (Str × Addr)) (fp : List Addr), PG (X.blk s H scope (compEnvC scope cl C X.env) fp) tg (liftG X.K us gd))
    (ht : ∀ (s : Shared) (H : Hp) (C : Addr) (cl : List (Str × Addr)) (fp : List Addr), PTs (X.blk s H scope (compEnvC scope cl C X.env) fp) ifs (liftT X.K td))
    (ha : ∀ (s : Shared) (H : Hp) (C : Addr) (cl : List (Str × Addr)) (fp : List Addr), PE (X.blk s H scope (compEnvC scope cl C X.env) fp) iter1 (liftE X.K ea))
    (hg1 : ∀ (s : Shared) (H : Hp) (C : Addr) (cl : List (Str × Addr)) (fp : List Addr), PG (X.blk s H scope (compEnvC scope cl C X.env) fp) tg1 (liftG X.K us1 gd1))
    (ht1 : ∀ (s : Shared) (H : Hp) (C : Addr) (cl : List (Str × Addr)) (fp : List Addr), PTs (X.blk s H scope (compEnvC scope cl C X.env) fp) ifs1 (liftT X.K td1))
    (he : ∀ (s : Shared) (H : Hp) (C : Addr) (cl : List (Str × Addr)) (fp : List Addr), PE (X.blk s H scope (compEnvC scope cl C X.env) fp) elt (liftE X.K ed)) :
    PE X (.ListComp elt [⟨tg, iter, ifs, 0⟩, ⟨tg1, iter1, ifs1, 0⟩] scope pos) (liftE X.K fun σ h Q => wi σ h fun ds stay h1 => comp2L (fun d K => gd d (wipeD σ (own.map (·.2))) K) td ea gd1 td1 ed us1 stay ds [] h1 fun acc h2 => Q (.lst acc) h2) :=
  pe_imp (pe_lc2 hc hN hi ok hv1 hg ht (fun s H C cl fp => pi_seq (ha s H C cl fp)) hg1 ht1 he (fold_pl hpl) (fun env x => fold_pl hpl1 x)) (lc2_read hv (fun i h => h))
end
end G

/-! xs[i] += e, whole numbers. -/
namespace G
open PySem PySem.Spec PyProof.Rows L2
section
variable {X : Cx} {e e1 e2 : Expr} {pos : Pos} {wa wb wc : WE}
theorem get_L : PGet X (fun o i H Q => ∃ p xs k z, o = .ref p ∧ i = .int k ∧ SqL X.K H p xs ∧ 0 ≤ k ∧ xs[k.toNat]? = some z ∧ Q z H) := by
  intro pins s σ H o i ov iv Q I ro ri h
  obtain ⟨p, xs, k, z, rfl, rfl, hq, h0, hz, q⟩ := h
  cases ro
  obtain ⟨t, rfl⟩ := ri
  obtain ⟨its, r, pl, hl⟩ := I.list hq
  obtain ⟨w, ew, rw'⟩ := r.get hz
  have hj : k.toNat < its.length := (List.getElem?_eq_some_iff.mp ew).1
  have hn := line63
  have hll := r.length
  exact wpAny_getItem_list pl.isList h0 (by omega) (by simpa using ew) ⟨z, H, I, rw', q⟩
theorem s_augI (hu : X.A.units + 1 < cLine) (hp : pl e2 = true) {tpos : Pos} (ho : PE X e1 (liftE X.K wb)) (hi : PE X e2 (liftE X.K wc)) (he : PE X e (liftE X.K wa)) :
    PS X (.AugAssign (.Subscript e1 e2 tpos) .Add e pos) (liftS X.K fun E σ h => wb σ h fun x h1 => wc σ h1 fun y h2 => augG x y h2 fun a => wa σ h2 fun v h3 => intO v fun b => setD x y (.int (a + b)) h3 fun h4 => E.nx σ h4) := by
  refine ps_imp (ps_augS ho hi get_L he ip_add (o_set hu) (by intro ov iv new; cases e2 <;> first | (cases hp; done) | rfl)) fun D σ H ⟨w, σd, h, E, eH, rel, rs, q, post⟩ => ?_
  refine ⟨w, σd, h, _, eH, rel, rs, q, fun w1 h1 d1 v1 x1 rel1 r1 q1 => ?_⟩
  refine ⟨w1, σd, h1, _, rfl, rel1, rs.mono x1, q1, fun w2 h2 d2 v2 x2 rel2 r2 q2 => ?_⟩
  have r1' := r1.mono x2
  unfold augG at q2
  split at q2
  · rename_i n
    split at q2
    · rename_i ds en
      split at q2
      · rename_i k
        obtain ⟨k0, a, ha, q2⟩ := q2
        cases r2
        obtain ⟨b, e1, xs, e2, rr, ll⟩ := rel2.has n _ en
        cases r1' with
        | ref em =>
          rw [em] at e1
          cases e1
          obtain ⟨z, ez, rz⟩ := rr.get ha
          cases rz
          refine ⟨_, xs, k, _, rfl, rfl, .inl (.inl e2), k0, ez, ?_⟩
          refine ⟨w2, σd, h2, _, rfl, rel2, (rs.mono x1).mono x2, q2, fun w3 h3 d3 v3 x3 rel3 r3 q3 => ?_⟩
          obtain ⟨b2, rfl, q3⟩ := intO_of r3 q3
          exact ⟨a, b2, rfl, rfl, w3, h3, .ref n, .int k, .int (a + b2), _, rfl, rel3, r1.mono (x2.trans x3), .int k, .int _, q3, fun w4 h4 x4 rel4 q4 => post.1 w4 h4 σd σ (((x1.trans x2).trans x3).trans x4) rel4 ((((rs.mono x1).mono x2).mono x3).mono x4) q4⟩
      · exact q2.elim
    · exact q2.elim
  · exact q2.elim
end
end G

/-! The text and the small syntax side by side; the rule for all of it. -/
namespace G
open PySem PySem.Spec PyProof.Rows L2

def Ty.nm : Ty → Str
  | .int => "int"
  | .bool => "bool"
  | .str => "str"
  | .tuple => "tuple"
  | .list => "list"
  | .dict => "dict"
theorem Ty.boot (t : Ty) : bootBuiltins t.nm = some (.type t.name) := by cases t <;> decide +kernel
theorem Ty.nn (t : Ty) : t.nm ≠ "__name__" := by cases t <;> decide
theorem Ty.nd (t : Ty) : (t.nm == ("__debug__" : Str)) = false := by cases t <;> decide

def cstC : D → Const → Bool
  | .non, .none => true
  | .bl b, .bool c => b == c
  | .int i, .int j => i == j
  | .str x, .str y => decide (x = y)
  | _, _ => false
def visC (sc : Scope) (x : Str) : Bool := match sc.names.lookup x with
  | some .local => true
  | some .cell => true
  | some .free => true
  | _ => false
def nodbg (x : Str) : Bool := !(x == ("__debug__" : Str)) && !(x == ("__classdict__" : Str))
def varC (N : List Str) (sc : Scope) (i : Nat) (x : Str) : Bool := decide (N[i]? = some x) && visC sc x && nodbg x
def isDicD : D → Bool
  | .dic _ _ => true
  | _ => false
def glbC (sc : Scope) (x : Str) : Bool := decide (sc.names.lookup x = some .globalImplicit) && nodbg x
def stoC (N : List Str) (sc : Scope) (fn : Str → Bool) (i : Nat) (x : Str) : Bool := decide (N[i]? = some x) && match sc.names.lookup x with
  | some .local => true
  | some .cell => fn x
  | _ => false
def keyC : Key → Option Expr → Bool
  | .inl i, some (.Constant (.int j) _ _) => i == j
  | .inr x, some (.Constant (.str y) _ _) => decide (x = y)
  | _, _ => false
def keysC : List Key → List (Option Expr) → Bool
  | [], [] => true
  | k :: ks, e :: es => keyC k e && keysC ks es
  | _, _ => false
def lenX : Exs → Nat
  | .nil => 0
  | .cons _ es => lenX es + 1
mutual
def tT (N : List Str) (sc : Scope) (fn : Str → Bool) : Tg → Expr → Bool
  | .nm i, e => match e with
    | .Name x _ => stoC N sc fn i x
    | _ => false
  | .tp ts, e => match e with
    | .Tuple es _ _ => tTs N sc fn ts es
    | _ => false
def tTs (N : List Str) (sc : Scope) (fn : Str → Bool) : Tgs → List Expr → Bool
  | .nil, es => match es with
    | [] => true
    | _ :: _ => false
  | .cons t ts, es => match es with
    | [] => false
    | e :: es => pl e && tT N sc fn t e && tTs N sc fn ts es
end
def itT : Ite → Expr → Bool
  | .zip _ _, e => isTupE e
  | .zips _ _, e => isTupE e
  | .enum _ _, e => isTupE e
  | _, _ => true
def strictC : List Keyword → Bool
  | [⟨some y, .Constant (.bool b) _ _, _⟩] => decide (y = "strict") && b
  | _ => false
def startC : Bool → List Keyword → Bool
  | false, [] => true
  | true, [⟨some y, .Constant (.int i) _ _, _⟩] => decide (y = "start") && decide (i = 1)
  | _, _ => false
/-- the star off -/
def unS : Expr → Expr
  | .Starred e _ => e
  | e => e
def isS : Expr → Bool
  | .Starred _ _ => true
  | _ => false
mutual
def tE (N : List Str) : Scope → (Str → Bool) → Ex → Expr → Bool
  | _, _, .cst d, e => match e with
    | .Constant c _ _ => cstC d c
    | _ => false
  | sc, _, .var i, e => match e with
    | .Name x _ => varC N sc i x
    | _ => false
  | sc, _, .glb y d, e => match e with
    | .Name x _ => decide (x = y) && glbC sc x && !isDicD d
    | _ => false
  | sc, _, .typ t, e => match e with
    | .Name x _ => decide (x = t.nm) && glbC sc x
    | _ => false
  | sc, fn, .bin o a b, e => match e with
    | .BinOp l op r _ => decide (op = o) && tE N sc fn a l && tE N sc fn b r
    | _ => false
  | sc, fn, .neg a, e => match e with
    | .UnaryOp op l _ => decide (op = .USub) && tE N sc fn a l
    | _ => false
  | sc, fn, .cmp o a b, e => match e with
    | .Compare l [op] [r] _ => decide (op = o) && !behindInMarks op r && tE N sc fn a l && tE N sc fn b r
    | _ => false
  | sc, fn, .chn o p a b c, e => match e with
    | .Compare l [op, op'] [m, r] _ => decide (op = o) && decide (op' = p) && !lastMarks [op, op'] [m, r] && tE N sc fn a l && tE N sc fn b m && tE N sc fn c r
    | _ => false
  | sc, fn, .not a, e => match e with
    | .UnaryOp op l _ => decide (op = .Not) && tE N sc fn a l
    | _ => false
  | sc, fn, .and a b, e => match e with
    | .BoolOp .And (l :: r :: rest) pos => tE N sc fn a l && (match rest with
      | [] => tE N sc fn b r
      | s :: rest => tE N sc fn b (.BoolOp .And (r :: s :: rest) pos))
    | _ => false
  | sc, fn, .or a b, e => match e with
    | .BoolOp .Or (l :: r :: rest) pos => tE N sc fn a l && (match rest with
      | [] => tE N sc fn b r
      | s :: rest => tE N sc fn b (.BoolOp .Or (r :: s :: rest) pos))
    | _ => false
  | sc, fn, .orV a b, e => match e with
    | .BoolOp .Or (l :: r :: rest) pos => tE N sc fn a l && (match rest with
      | [] => tE N sc fn b r
      | s :: rest => tE N sc fn b (.BoolOp .Or (r :: s :: rest) pos))
    | _ => false
  | sc, fn, .ife c a b, e => match e with
    | .IfExp t l r _ => tX N sc fn c t && tE N sc fn a l && tE N sc fn b r
    | _ => false
  | sc, fn, .tup es, e => match e with
    | .Tuple xs _ _ => decide (lenX es ≤ 1000) && tA N sc fn es xs
    | _ => false
  | sc, fn, .lst es, e => match e with
    | .List xs _ => decide (lenX es ≤ 1000) && tA N sc fn es xs
    | _ => false
  | sc, fn, .new es, e => match e with
    | .List xs _ => decide (lenX es ≤ 1000) && tA N sc fn es xs
    | _ => false
  | sc, fn, .sub a i, e => match e with
    | .Subscript l r _ => pl r && tE N sc fn a l && tE N sc fn i r
    | _ => false
  | sc, fn, .sl a lo hi, e => match e with
    | .Subscript l (.Slice u v none _) _ => tE N sc fn a l && tO N sc fn lo u && tO N sc fn hi v
    | _ => false
  | sc, fn, .slN a lo hi, e => match e with
    | .Subscript l (.Slice u v none _) _ => tE N sc fn a l && tO N sc fn lo u && tO N sc fn hi v
    | _ => false
  | sc, fn, .addN a b, e => match e with
    | .BinOp l op r _ => decide (op = .Add) && tE N sc fn a l && tE N sc fn b r
    | _ => false
  | sc, fn, .rev _ a, e => match e with
    | .Subscript l (.Slice none none (some (.UnaryOp op (.Constant (.int i) _ _) _)) _) _ => decide (op = .USub) && decide (i = 1) && tE N sc fn a l
    | _ => false
  | sc, fn, .call x _ _ es, e => match e with
    | .Call (.Name y _) xs [] _ => decide (y = x) && glbC sc y && tA N sc fn es xs
    | _ => false
  | sc, fn, .callK x ps _ es ks kes pm, e => match e with
    | .Call (.Name y _) xs kws _ => decide (y = x) && glbC sc y && tA N sc fn es xs && tK N sc fn kes kws && decide (kws.map (·.arg) = ks.map some) && kwC ps (lenX es) ks pm
    | _ => false
  | sc, fn, .callP x y _ _ _ _ i es, e => match e with
    | .Call (.Subscript (.List [.Name x' _, .Name y' _] _) j _) (z :: zs) [] _ => decide (x' = x) && decide (y' = y) && glbC sc x' && glbC sc y' && pl j && tE N sc fn i j && tA N sc fn es (z :: zs)
    | _ => false
  | sc, fn, .slS a l k, e => match e with
    | .Subscript b (.Slice (some b1) none (some b2) _) _ => tE N sc fn a b && tE N sc fn l b1 && tE N sc fn k b2
    | _ => false
  | sc, fn, .fdv a b, e => match e with
    | .BinOp l op r _ => decide (op = .FloorDiv) && tE N sc fn a l && tE N sc fn b r
    | _ => false
  | sc, fn, .rgs l a b, e => match e with
    | .Call (.Name y _) [.Call (.Name z _) [u, v] [] _] [] _ => decide (y = if l = true then "list" else "tuple") && glbC sc y && decide (z = "range") && glbC sc z && pl u && pl v && tE N sc fn a u && tE N sc fn b v
    | _ => false
  | sc, fn, .srs a, e => match e with
    | .Call (.Name y _) [.Call (.Name z _) [u] [] _] [] _ => decide (y = "sorted") && glbC sc y && decide (z = "set") && glbC sc z && pl u && tE N sc fn a u
    | _ => false
  | sc, fn, .upd a own i l u s, e => match e with
    | .Call (.Attribute o m ap) [.DictComp (.Name x _) (.Constant (.bool true) _ _) [⟨.Name x1 _, .Call (.Name y _) [e1, e2, e3] [] _, [], n⟩] scope _] [] cp =>
        decide (m = "update") && nsup o && (ap.endLine == cp.line) && decide (y = "range") && glbC sc y && pl e1 && pl e2 && pl e3 && decide (n = 0) && blkC N sc scope own && decide (i ∈ own.map (·.2)) &&
        stoC N (relS scope sc) (fun x => scope.names.lookup x == some .cell) i x1 && varC N (relS scope sc) i x && tE N sc fn a o && tE N sc fn l e1 && tE N sc fn u e2 && tE N sc fn s e3
    | _ => false
  | sc, fn, .tabAt x _ _ a, e => match e with
    | .Subscript (.Name y _) j _ => decide (y = x) && glbC sc y && pl j && tE N sc fn a j
    | _ => false
  | sc, fn, .tabIn x _ _ a, e => match e with
    | .Compare l [.In] [.Name y _] _ => decide (y = x) && glbC sc y && tE N sc fn a l
    | _ => false
  | sc, fn, .lc2 own tg it c tg1 a1 c1 e, x => match x with
    | .ListComp elt [⟨t, iter, ifs, a⟩, ⟨t1, iter1, ifs1, b⟩] scope _ => decide (a = 0) && decide (b = 0) && itT it t && pl iter && pl iter1 && blkC N sc scope own && (slotsT tg).all (fun i => decide (i ∈ own.map (·.2))) && (slotsT tg1).all (fun i => decide (i ∈ own.map (·.2))) && tI N sc fn it iter &&
        tT N (relS scope sc) (fun x => scope.names.lookup x == some .cell) tg t && tC N (relS scope sc) (fun x => scope.names.lookup x == some .cell) c ifs && tE N (relS scope sc) (fun x => scope.names.lookup x == some .cell) a1 iter1 &&
        tT N (relS scope sc) (fun x => scope.names.lookup x == some .cell) tg1 t1 && tC N (relS scope sc) (fun x => scope.names.lookup x == some .cell) c1 ifs1 && tE N (relS scope sc) (fun x => scope.names.lookup x == some .cell) e elt
    | _ => false
  | sc, fn, .blt b es, e => match e with
    | .Call (.Name y _) (x :: xs) [] _ => decide (y = b.name) && glbC sc y && tA N sc fn es (x :: xs)
    | _ => false
  | sc, fn, .mth m a es, e => match e with
    | .Call (.Attribute o name apos) xs [] cpos => decide (name = m.name) && nsup o && (apos.endLine == cpos.line) && decide (xs.length < 20) && tE N sc fn a o && tA N sc fn es xs
    | _ => false
  | sc, fn, .dct _ ks es, e => match e with
    | .Dict keys values _ => decide ks.Nodup && decide (ks.length ≤ 15) && decide (lenX es = ks.length) && decide (keys.length = values.length) && keysC ks keys && tA N sc fn es values
    | _ => false
  | sc, fn, .lc _ own tg it c e, x => match x with
    | .ListComp elt [⟨t, iter, ifs, a⟩] scope _ => decide (a = 0) && itT it t && pl iter && blkC N sc scope own && (slotsT tg).all (fun i => decide (i ∈ own.map (·.2))) && tI N sc fn it iter &&
        tT N (relS scope sc) (fun x => scope.names.lookup x == some .cell) tg t && tC N (relS scope sc) (fun x => scope.names.lookup x == some .cell) c ifs && tE N (relS scope sc) (fun x => scope.names.lookup x == some .cell) e elt
    | _ => false
def tA (N : List Str) : Scope → (Str → Bool) → Exs → List Expr → Bool
  | _, _, .nil, xs => match xs with
    | [] => true
    | _ :: _ => false
  | sc, fn, .cons e es, xs => match xs with
    | [] => false
    | x :: xs => pl x && tE N sc fn e x && tA N sc fn es xs
def tK (N : List Str) : Scope → (Str → Bool) → Exs → List Keyword → Bool
  | _, _, .nil, xs => match xs with
    | [] => true
    | _ :: _ => false
  | sc, fn, .cons e es, xs => match xs with
    | [] => false
    | x :: xs => tE N sc fn e x.value && tK N sc fn es xs
def tO (N : List Str) : Scope → (Str → Bool) → Exo → Option Expr → Bool
  | _, _, .none, x => x.isNone
  | sc, fn, .some e, x => match x with
    | some y => tE N sc fn e y
    | none => false
def tX (N : List Str) : Scope → (Str → Bool) → Tx → Expr → Bool
  | sc, fn, .val e, x => (ptv x || (match e, x with
      | .cmp _ _ _, .Compare _ _ _ _ => true
      | .chn _ _ _ _ _, .Compare _ _ _ _ => true
      | .tabIn _ _ _ _, .Compare _ _ _ _ => true
      | _, _ => false)) && tE N sc fn e x
  | sc, fn, .not t, x => match x with
    | .UnaryOp op l _ => decide (op = .Not) && tX N sc fn t l
    | _ => false
  | sc, fn, .and t u, x => match x with
    | .BoolOp .And (l :: r :: rest) pos => tX N sc fn t l && (match rest with
      | [] => tX N sc fn u r
      | s :: rest => tX N sc fn u (.BoolOp .And (r :: s :: rest) pos))
    | _ => false
  | sc, fn, .or t u, x => match x with
    | .BoolOp .Or (l :: r :: rest) pos => tX N sc fn t l && (match rest with
      | [] => tX N sc fn u r
      | s :: rest => tX N sc fn u (.BoolOp .Or (r :: s :: rest) pos))
    | _ => false
  | sc, fn, .ch3 o p q a b c d, x => match x with
    | .Compare l [o', p', q'] [m, n, r] _ => decide (o' = o) && decide (p' = p) && decide (q' = q) && !lastMarks [o', p', q'] [m, n, r] && tE N sc fn a l && tE N sc fn b m && tE N sc fn c n && tE N sc fn d r
    | _ => false
def tC (N : List Str) : Scope → (Str → Bool) → Txo → List Expr → Bool
  | _, _, .none, xs => match xs with
    | [] => true
    | _ :: _ => false
  | sc, fn, .some t, xs => match xs with
    | [x] => tX N sc fn t x
    | _ => false
def tI (N : List Str) : Scope → (Str → Bool) → Ite → Expr → Bool
  | sc, fn, .seq e, x => tE N sc fn e x
  | sc, fn, .rng1 e, x => match x with
    | .Call (.Name y _) [z] [] _ => decide (y = "range") && glbC sc y && pl z && tE N sc fn e z
    | _ => false
  | sc, fn, .rng2 a b, x => match x with
    | .Call (.Name y _) [u, v] [] _ => decide (y = "range") && glbC sc y && pl u && pl v && tE N sc fn a u && tE N sc fn b v
    | _ => false
  | sc, fn, .rng3 a b c, x => match x with
    | .Call (.Name y _) [u, v, z] [] _ => decide (y = "range") && glbC sc y && pl u && pl v && pl z && tE N sc fn a u && tE N sc fn b v && tE N sc fn c z
    | _ => false
  | sc, fn, .zip a b, x => match x with
    | .Call (.Name y _) [u, v] [] _ => decide (y = "zip") && glbC sc y && pl u && pl v && tE N sc fn a u && tE N sc fn b v
    | _ => false
  | sc, fn, .revd a, x => match x with
    | .Call (.Name y _) [u] [] _ => decide (y = "reversed") && glbC sc y && pl u && tE N sc fn a u
    | _ => false
  | sc, fn, .zips a b, x => match x with
    | .Call (.Name y _) [u, v] kws _ => decide (y = "zip") && glbC sc y && pl u && pl v && tE N sc fn a u && tE N sc fn b v && strictC kws
    | _ => false
  | sc, fn, .enum k a, x => match x with
    | .Call (.Name y _) [u] kws _ => decide (y = "enumerate") && glbC sc y && pl u && tE N sc fn a u && startC k kws
    | _ => false
end

def parC (N : List Str) (sc : Scope) (is : List Nat) (ts vs : List Expr) : Bool :=
  decide is.Nodup && vs.all pl && !vs.all (foldedForSure 8) && !vs.all (constantsAlone 8) && match is, ts, vs with
    | [i, j], [.Name x px, .Name y py], [_, _] => decide (N[i]? = some x) && decide (N[j]? = some y) && decide (sc.names.lookup x = some .local) && decide (sc.names.lookup y = some .local) && (py.line == px.line) && decide (x ≠ y)
    | [i, j, l], [.Name x px, .Name y py, .Name z pz], [_, _, _] => decide (N[i]? = some x) && decide (N[j]? = some y) && decide (N[l]? = some z) && decide (sc.names.lookup x = some .local) && decide (sc.names.lookup y = some .local) && decide (sc.names.lookup z = some .local) && (py.line == px.line) && (pz.line == px.line) && decide (x ≠ y) && decide (x ≠ z) && decide (y ≠ z)
    | _, _, _ => false
def lcT : Tg → Ex → Bool
  | .nm _, .lc _ _ _ _ _ _ => true
  | _, _ => false
def isLc : Expr → Bool
  | .ListComp _ _ _ _ => true
  | _ => false
def swV (sc : Scope) (ts : List Expr) : Expr → Bool
  | .Tuple vs _ _ => swNo sc ts vs
  | _ => true
def asgC (sc : Scope) (t : Tg) (e : Ex) (tg v : Expr) : Bool := match tg with
  | .Name _ _ => nlc v || (isLc v && lcT t e)
  | .Tuple ts _ _ => nlc v && swV sc ts v
  | _ => false
mutual
def tS (N : List Str) (sc : Scope) (fn : Str → Bool) : St → Stmt → Bool
  | .asg t e, s => match s with
    | .Assign [tg] v _ => tT N sc fn t tg && tE N sc fn e v && asgC sc t e tg v
    | _ => false
  | .par is es, s => match s with
    | .Assign [.Tuple ts _ _] (.Tuple vs _ _) _ => parC N sc is ts vs && decide (is.length = lenX es) && tA N sc fn es vs
    | _ => false
  | .put o i e, s => match s with
    | .Assign [.Subscript x y _] v _ => pl y && nlc v && tE N sc fn o x && tE N sc fn i y && tE N sc fn e v
    | _ => false
  | .aug i o e, s => match s with
    | .AugAssign (.Name x _) op v _ => decide (op = o) && stoC N sc fn i x && tE N sc fn e v
    | _ => false
  | .augI o i e, s => match s with
    | .AugAssign (.Subscript x y _) op v _ => decide (op = .Add) && pl y && tE N sc fn o x && tE N sc fn i y && tE N sc fn e v
    | _ => false
  | .star i _ ts e, s => match s with
    | .Assign [.Tuple es _ _] v _ => decide (i < es.length) && ((es.zipIdx).all fun p => isS p.1 == (p.2 == i)) && tTs N sc fn ts (es.map unS) && nlc v && swV sc es v && tE N sc fn e v
    | _ => false
  | .exp e, s => match s with
    | .Expr v _ => nlc v && tE N sc fn e v
    | _ => false
  | .ret e, s => match s with
    | .Return (some v) _ => tE N sc fn e v
    | _ => false
  | .retN, s => match s with
    | .Return none _ => true
    | _ => false
  | .ite c a b, s => match s with
    | .If t x y _ => tX N sc fn c t && tSs N sc fn a x && tSs N sc fn b y
    | _ => false
  | .whl c b, s => match s with
    | .While t x [] _ => tX N sc fn c t && tSs N sc fn b x
    | _ => false
  | .for t it b, s => match s with
    | .For tg iter x [] _ => itT it tg && pl iter && tT N sc fn t tg && tI N sc fn it iter && tSs N sc fn b x
    | _ => false
  | .pass, s => match s with
    | .Pass _ => true
    | _ => false
  | .brk, s => match s with
    | .Break _ => true
    | _ => false
  | .cont, s => match s with
    | .Continue _ => true
    | _ => false
def tSs (N : List Str) (sc : Scope) (fn : Str → Bool) : Sts → List Stmt → Bool
  | .nil, xs => match xs with
    | [] => true
    | _ :: _ => false
  | .cons s ss, xs => match xs with
    | [] => false
    | x :: xs => tS N sc fn s x && tSs N sc fn ss xs
end
/-! what the code leans on -/
mutual
def hE (A : Str → List Str → Spd → Prop) (B : Str → D → Prop) : Ex → Prop
  | .cst _ => True
  | .var _ => True
  | .glb x d => B x d
  | .typ _ => True
  | .bin _ a b => hE A B a ∧ hE A B b
  | .neg a => hE A B a
  | .cmp _ a b => hE A B a ∧ hE A B b
  | .chn _ _ a b c => hE A B a ∧ hE A B b ∧ hE A B c
  | .not a => hE A B a
  | .and a b => hE A B a ∧ hE A B b
  | .or a b => hE A B a ∧ hE A B b
  | .ife c a b => hX A B c ∧ hE A B a ∧ hE A B b
  | .tup es => hA A B es
  | .lst es => hA A B es
  | .new es => hA A B es
  | .sub a i => hE A B a ∧ hE A B i
  | .sl a lo hi => hE A B a ∧ hO A B lo ∧ hO A B hi
  | .slN a lo hi => hE A B a ∧ hO A B lo ∧ hO A B hi
  | .addN a b => hE A B a ∧ hE A B b
  | .orV a b => hE A B a ∧ hE A B b
  | .rev _ a => hE A B a
  | .call x ps sp es => A x ps sp ∧ hA A B es
  | .callK x ps sp es _ kes _ => A x ps sp ∧ hA A B es ∧ hA A B kes
  | .callP x y ps qs sp sq i es => (A x ps sp ∧ A y qs sq) ∧ hE A B i ∧ hA A B es
  | .slS a l k => hE A B a ∧ hE A B l ∧ hE A B k
  | .fdv a b => hE A B a ∧ hE A B b
  | .rgs _ a b => hE A B a ∧ hE A B b
  | .srs a => hE A B a
  | .upd a _ _ l u s => hE A B a ∧ hE A B l ∧ hE A B u ∧ hE A B s
  | .tabAt x ks ds a => B x (.dic (ks.map .inr) ds) ∧ hE A B a
  | .tabIn x ks ds a => B x (.dic (ks.map .inr) ds) ∧ hE A B a
  | .lc2 _ _ it c _ a1 c1 e => hI A B it ∧ hC A B c ∧ hE A B a1 ∧ hC A B c1 ∧ hE A B e
  | .blt _ es => hA A B es
  | .mth _ a es => hE A B a ∧ hA A B es
  | .dct _ _ es => hA A B es
  | .lc _ _ _ it c e => hI A B it ∧ hC A B c ∧ hE A B e
def hA (A : Str → List Str → Spd → Prop) (B : Str → D → Prop) : Exs → Prop
  | .nil => True
  | .cons e es => hE A B e ∧ hA A B es
def hO (A : Str → List Str → Spd → Prop) (B : Str → D → Prop) : Exo → Prop
  | .none => True
  | .some e => hE A B e
def hX (A : Str → List Str → Spd → Prop) (B : Str → D → Prop) : Tx → Prop
  | .val e => hE A B e
  | .not t => hX A B t
  | .and t u => hX A B t ∧ hX A B u
  | .or t u => hX A B t ∧ hX A B u
  | .ch3 _ _ _ a b c d => hE A B a ∧ hE A B b ∧ hE A B c ∧ hE A B d
def hC (A : Str → List Str → Spd → Prop) (B : Str → D → Prop) : Txo → Prop
  | .none => True
  | .some t => hX A B t
def hI (A : Str → List Str → Spd → Prop) (B : Str → D → Prop) : Ite → Prop
  | .seq e => hE A B e
  | .rng1 e => hE A B e
  | .rng2 a b => hE A B a ∧ hE A B b
  | .rng3 a b c => hE A B a ∧ hE A B b ∧ hE A B c
  | .zip a b => hE A B a ∧ hE A B b
  | .revd a => hE A B a
  | .zips a b => hE A B a ∧ hE A B b
  | .enum _ a => hE A B a
end
mutual
def hS (A : Str → List Str → Spd → Prop) (B : Str → D → Prop) : St → Prop
  | .asg _ e => hE A B e
  | .par _ es => hA A B es
  | .put o i e => hE A B o ∧ hE A B i ∧ hE A B e
  | .augI o i e => hE A B o ∧ hE A B i ∧ hE A B e
  | .aug _ _ e => hE A B e
  | .star _ _ _ e => hE A B e
  | .exp e => hE A B e
  | .ret e => hE A B e
  | .retN => True
  | .ite c a b => hX A B c ∧ hSs A B a ∧ hSs A B b
  | .whl c b => hX A B c ∧ hSs A B b
  | .for _ it b => hI A B it ∧ hSs A B b
  | .pass => True
  | .brk => True
  | .cont => True
def hSs (A : Str → List Str → Spd → Prop) (B : Str → D → Prop) : Sts → Prop
  | .nil => True
  | .cons s ss => hS A B s ∧ hSs A B ss
end
end G

/-! Whatever is written so does so. -/
namespace G
open PySem PySem.Spec PyProof.Rows L2

/-- built-in names beside the others -/
def moreN : List Str := ["zip", "reversed", "enumerate", "sorted", "divmod", "set"]
structure Cxt (X : Cx) (N : List Str) (sc : Scope) (fn : Str → Bool) (k : Nat) : Prop where
  n : X.N = N
  nd : N.Nodup
  sc : X.env.scope = sc
  fn : X.fn = fn
  calm : X.calm = true
  xe : X.xe = fun _ _ => False
  room : Room k X.A
  gd : X.A.guards = some []
  bl : ∀ b : Bl, X.mg b.name = none
  ty : ∀ t : Ty, X.mg t.nm = none
  rng : X.mg "range" = none
  more : ∀ x ∈ moreN, X.mg x = none
  sys : ∃ o, X.base.get? sysModules = some o
def GlAt (W : World) (K : PySem.W.Frag) (mg : Str → Option Value) (x : Str) (d : D) : Prop := match d with
  | .dic ks ds => ∃ ss : List Str, ks = ss.map Sum.inr ∧ TabAt W K mg x ss ds
  | d => ∃ v u, mg x = some u ∧ RelV v u ∧ ∀ w, RD K w d v
theorem GlAt.one {W : World} {K : PySem.W.Frag} {mg : Str → Option Value} {x : Str} {d : D} (h : GlAt W K mg x d) (n : isDicD d = false) : ∃ v u, mg x = some u ∧ RelV v u ∧ ∀ w, RD K w d v := by
  cases d <;> first | exact h | cases n
theorem inr_inj : ∀ {a b : List Str}, a.map (Sum.inr : Str → Key) = b.map Sum.inr → a = b
  | [], [], _ => rfl
  | _ :: _, [], h => by cases h
  | [], _ :: _, h => by cases h
  | x :: a, y :: b, h => by
    rw [List.map_cons, List.map_cons] at h
    injection h with h1 h2
    rw [Sum.inr.inj h1, inr_inj h2]
theorem GlAt.tab {W : World} {K : PySem.W.Frag} {mg : Str → Option Value} {x : Str} {ks : List Str} {ds : List D} (h : GlAt W K mg x (.dic (ks.map .inr) ds)) : TabAt W K mg x ks ds := by
  obtain ⟨ss, e, t⟩ := h
  rw [inr_inj e]
  exact t
abbrev FA (X : Cx) (k : Nat) : Str → List Str → Spd → Prop := FnAt X.prog X.w X.K X.mg X.base k
abbrev GA (X : Cx) : Str → D → Prop := GlAt X.w X.K X.mg
theorem Cxt.blk {X : Cx} {N : List Str} {sc : Scope} {fn : Str → Bool} {k : Nat} (c : Cxt X N sc fn k) (s : Shared) (H : Hp) (scope : Scope) (C : Addr) (cl : List (Str × Addr)) (fp : List Addr) :
    Cxt (X.blk s H scope (compEnvC scope cl C X.env) fp) N (relS scope sc) (fun x => scope.names.lookup x == some .cell) k :=
  ⟨c.n, c.nd, by rw [← c.sc]; rfl, rfl, c.calm, rfl, c.room, c.gd, c.bl, c.ty, c.rng, c.more, c.sys⟩
section
variable {X : Cx} {N : List Str} {sc : Scope} {fn : Str → Bool} {k : Nat}
theorem Cxt.u70 (c : Cxt X N sc fn k) : X.A.units + 70 < cLine := by have := c.room.un; omega
theorem Cxt.u65 (c : Cxt X N sc fn k) : X.A.units + 65 < cLine := by have := c.room.un; omega
theorem Cxt.u1 (c : Cxt X N sc fn k) : X.A.units + 1 < cLine := by have := c.room.un; omega
theorem Cxt.gl (c : Cxt X N sc fn k) {x : Str} (h : glbC sc x = true) : Gl X x ∧ (x == ("__debug__" : Str)) = false := by
  simp only [glbC, nodbg, Bool.and_eq_true, decide_eq_true_eq, Bool.not_eq_true'] at h
  refine ⟨?_, h.2.1⟩
  show X.env.scope.names.lookup x = _
  rw [c.sc]
  exact h.1
theorem Cxt.var (c : Cxt X N sc fn k) {i : Nat} {x : Str} {pos : Pos} (h : varC N sc i x = true) : PE X (.Name x pos) (tVar i) := by
  simp only [varC, nodbg, Bool.and_eq_true, decide_eq_true_eq, Bool.not_eq_true'] at h
  refine pe_var (by rw [c.n]; exact h.1.1) ?_ h.2.1 h.2.2
  have hv := h.1.2
  unfold Vis
  rw [c.sc]
  unfold visC at hv
  split at hv
  · rename_i e; exact .inl e
  · rename_i e; exact .inr (.inl e)
  · rename_i e; exact .inr (.inr e)
  · cases hv
theorem Cxt.sto (c : Cxt X N sc fn k) {i : Nat} {x : Str} (h : stoC N sc fn i x = true) : X.N[i]? = some x ∧ L2.Loc X.env.scope x ∧ (X.fn x = true ∨ X.env.scope.names.lookup x = some .local) := by
  simp only [stoC, Bool.and_eq_true, decide_eq_true_eq] at h
  refine ⟨by rw [c.n]; exact h.1, ?_⟩
  have hv := h.2
  unfold L2.Loc
  rw [c.sc, c.fn]
  split at hv
  · rename_i e; exact ⟨.inl e, .inr e⟩
  · rename_i e; exact ⟨.inr e, .inl hv⟩
  · cases hv
theorem tA_pl : ∀ {es : Exs} {xs : List Expr}, tA N sc fn es xs = true → xs.all pl = true ∧ xs.length = lenX es
  | .nil, [], _ => ⟨rfl, rfl⟩
  | .nil, _ :: _, h => by simp [tA] at h
  | .cons _ _, [], h => by simp [tA] at h
  | .cons e es, x :: xs, h => by
    simp only [tA, Bool.and_eq_true] at h
    obtain ⟨h1, h2⟩ := tA_pl h.2
    exact ⟨by rw [List.all_cons, h.1.1, h1]; rfl, by rw [List.length_cons, h2]; rfl⟩
end
mutual
theorem gT_ex : ∀ (t : Tg) (d : D) (σ : Sl) (Q : Sl → Prop), gT t d σ Q → ∃ σ', Q σ'
  | .nm i, d, σ, Q, q => ⟨_, q⟩
  | .tp ts, d, σ, Q, q => by
    unfold gT at q
    split at q
    · exact (gTs_ex ts _ σ Q q).1
    · exact q.elim
theorem gTs_ex : ∀ (ts : Tgs) (ds : List D) (σ : Sl) (Q : Sl → Prop), gTs ts ds σ Q → (∃ σ', Q σ') ∧ ds.length = lenT ts
  | .nil, ds, σ, Q, q => by
    unfold gTs at q
    split at q
    · exact ⟨⟨_, q⟩, rfl⟩
    · exact q.elim
  | .cons t ts, ds, σ, Q, q => by
    unfold gTs at q
    split at q
    · exact q.elim
    · obtain ⟨σ', q'⟩ := gT_ex t _ σ _ q
      obtain ⟨h1, h2⟩ := gTs_ex ts _ σ' Q q'
      exact ⟨h1, by rw [List.length_cons, h2]; rfl⟩
end
mutual
theorem okT {X : Cx} {N : List Str} {sc : Scope} {fn : Str → Bool} {k : Nat} (c : Cxt X N sc fn k) : ∀ (t : Tg) (e : Expr), tT N sc fn t e = true → PG X e (liftG X.K (slotsT t) (gT t))
  | .nm i, e, h => by
    unfold tT at h
    split at h
    · obtain ⟨h1, h2, h3⟩ := c.sto h
      exact lg_nm (by rw [c.n]; exact c.nd) h1 h2 h3
    · cases h
  | .tp ts, e, h => by
    unfold tT at h
    split at h
    · obtain ⟨h1, h2, h3, h4⟩ := okTs c ts _ h
      exact lg_tp c.calm h2 h3 h4 h1
    · cases h
theorem okTs {X : Cx} {N : List Str} {sc : Scope} {fn : Str → Bool} {k : Nat} (c : Cxt X N sc fn k) : ∀ (ts : Tgs) (es : List Expr), tTs N sc fn ts es = true →
    PGs X es (liftGs X.K (slotsTs ts) (gTs ts)) ∧ (assignEach es X.env).length = lenT ts ∧ (assignEach es X.env).findIdx? (·.1) = none ∧ ∀ ds σ Q, gTs ts ds σ Q → ds.length = lenT ts
  | .nil, es, h => by
    unfold tTs at h
    split at h
    · exact ⟨lgs_nil, rfl, rfl, fun ds σ Q q => (gTs_ex .nil ds σ Q q).2⟩
    · cases h
  | .cons t ts, es, h => by
    unfold tTs at h
    split at h
    · cases h
    · simp only [Bool.and_eq_true] at h
      obtain ⟨h1, h2, h3, h4⟩ := okTs c ts _ h.2
      obtain ⟨q1, q2, q3⟩ := asg_cons (env := X.env) (es := _) h.1.1
      exact ⟨lgs_cons h.1.1 (okT c t _ h.1.2) h1, by rw [q2, h2]; rfl, q3 h3, fun ds σ Q q => (gTs_ex (.cons t ts) ds σ Q q).2⟩
end

theorem cst_ok {X : Cx} {N : List Str} {d : D} {cc : Const} {j : Nat} {pos : Pos} (h : cstC d cc = true) : PE X (.Constant cc j pos) (liftE X.K fun _ h Q => Q d h) := by
  unfold cstC at h
  split at h
  · exact l_cst pe_non fun _ => .non
  · cases eq_of_beq h; exact l_cst pe_bl fun _ => .bl _
  · cases eq_of_beq h; exact l_cst pe_int fun _ => .int _
  · cases of_decide_eq_true h; exact l_cst pe_str fun _ => .str _
  · cases h
theorem strict_of {kws : List Keyword} (h : strictC kws = true) : ∃ (y : Str) (a : Nat) (p q : Pos), kws = [⟨some y, .Constant (.bool true) a p, q⟩] ∧ y = "strict" := by
  unfold strictC at h
  split at h
  · simp only [Bool.and_eq_true, decide_eq_true_eq] at h
    obtain ⟨rfl, rfl⟩ := h
    exact ⟨_, _, _, _, rfl, rfl⟩
  · cases h
theorem start0_of {kws : List Keyword} (h : startC false kws = true) : kws = [] := by
  cases kws with
  | nil => rfl
  | cons _ _ => unfold startC at h; cases h
theorem start1_of {kws : List Keyword} (h : startC true kws = true) : ∃ (y : Str) (a : Nat) (p q : Pos), kws = [⟨some y, .Constant (.int 1) a p, q⟩] ∧ y = "start" := by
  unfold startC at h
  split at h
  · simp at *
  · simp only [Bool.and_eq_true, decide_eq_true_eq] at h
    obtain ⟨rfl, rfl⟩ := h
    exact ⟨_, _, _, _, rfl, rfl⟩
  · cases h
theorem wT_cmp (o : CmpOp) (a b : Ex) : wT (.val (.cmp o a b)) = fun σ h Q => wE a σ h fun x h1 => wE b σ h1 fun y h2 => cmpD o x y h2 fun d h3 => truthD d h3 fun k => Q k h3 := by
  funext σ h Q
  simp only [wT, wE]
theorem wT_tabIn (y : Str) (ks : List Str) (ds : List D) (a : Ex) : wT (.val (.tabIn y ks ds a)) = fun σ h Q => wE a σ h fun x h1 => (match x with
    | .str z => Q (lookT ks ds z).isSome h1
    | _ => False) := by
  funext σ h Q
  first
    | (simp only [wT, wE]; done)
    | (simp only [wT, wE]; rfl)
    | (simp only [wT, wE]
       congr 1
       funext x h1
       cases x <;> rfl)
theorem wT_chn (o p : CmpOp) (a b c : Ex) : wT (.val (.chn o p a b c)) = fun σ h Q => wE a σ h fun x h1 => wE b σ h1 fun y h2 => cmpD o x y h2 fun z h3 => boolD z fun k => if k = true then wE c σ h3 fun v h4 => cmpD p y v h4 fun d h5 => truthD d h5 fun k => Q k h5 else truthD (.bl false) h3 fun k => Q k h3 := by
  funext σ h Q
  simp only [wT, wE]
theorem wT_ch3 (o p r : CmpOp) (a b c d : Ex) : wT (.ch3 o p r a b c d) = fun σ h Q => wE a σ h fun x h1 => wE b σ h1 fun y h2 => cmpD o x y h2 fun z h3 => boolD z fun k => if k = true then wE c σ h3 fun v h4 => cmpD p y v h4 fun z2 h5 => boolD z2 fun k2 => if k2 = true then wE d σ h5 fun u h6 => cmpD r v u h6 fun z3 h7 => boolD z3 fun k3 => Q k3 h7 else Q false h5 else Q false h3 := by
  funext σ h Q
  simp only [wT]
theorem wE_tabAt (y : Str) (ks : List Str) (ds : List D) (a : Ex) : wE (.tabAt y ks ds a) = fun σ h Q => wE a σ h fun x h1 => (match x with
    | .str z => (match lookT ks ds z with
      | some d => Q d h1
      | none => False)
    | _ => False) := by
  funext σ h Q
  first
    | (simp only [wE]; done)
    | (simp only [wE]; rfl)
theorem wE_tabIn (y : Str) (ks : List Str) (ds : List D) (a : Ex) : wE (.tabIn y ks ds a) = fun σ h Q => wE a σ h fun x h1 => (match x with
    | .str z => Q (.bl (lookT ks ds z).isSome) h1
    | _ => False) := by
  funext σ h Q
  first
    | (simp only [wE]; done)
    | (simp only [wE]; rfl)
theorem wE_lc2 (own : List (Str × Nat)) (tg : Tg) (it : Ite) (co : Txo) (tg1 : Tg) (a1 : Ex) (co1 : Txo) (x : Ex) : wE (.lc2 own tg it co tg1 a1 co1 x) = fun σ h Q => wI it σ h fun ds stay h1 => comp2L (fun d K => gT tg d (wipeD σ (own.map (·.2))) K) (wTo co) (wE a1) (gT tg1) (wTo co1) (wE x) (slotsT tg1) stay ds [] h1 fun acc h2 => Q (.lst acc) h2 := by
  funext σ h Q
  simp only [wE]
theorem wE_lc (nw : Bool) (own : List (Str × Nat)) (tg : Tg) (it : Ite) (co : Txo) (x : Ex) : wE (.lc nw own tg it co x) = fun σ h Q => wI it σ h fun ds stay h1 => compL (fun d K => gT tg d (wipeD σ (own.map (·.2))) K) (wTo co) (wE x) stay ds [] h1 fun acc h2 => listed nw acc h2 Q := by
  funext σ h Q
  simp only [wE]
theorem key_of {X : Cx} {k : Key} {o : Option Expr} (h : keyC k o = true) : ∃ e, o = some e ∧ PE X e (L2.tC (kV k)) := by
  unfold keyC at h
  split at h
  · rename_i i j _ _
    have : i = j := by simpa using h
    subst this
    exact ⟨_, rfl, pe_int⟩
  · have := of_decide_eq_true h
    subst this
    exact ⟨_, rfl, pe_str⟩
  · cases h
theorem keysC_len : ∀ {ks : List Key} {keys : List (Option Expr)}, keysC ks keys = true → ks.length = keys.length ∧ keys.all (·.isSome) = true
  | [], [], _ => ⟨rfl, rfl⟩
  | [], _ :: _, h => by simp [keysC] at h
  | _ :: _, [], h => by simp [keysC] at h
  | k :: ks, e :: es, h => by
    simp only [keysC, Bool.and_eq_true] at h
    obtain ⟨a, b⟩ := keysC_len h.2
    refine ⟨by rw [List.length_cons, List.length_cons, a], ?_⟩
    rw [List.all_cons, b, Bool.and_true]
    cases e with
    | none => cases k <;> simp [keyC] at h
    | some _ => rfl
mutual
theorem okE {N : List Str} {k : Nat} : ∀ (x : Ex) {X : Cx} {sc : Scope} {fn : Str → Bool} (c : Cxt X N sc fn k) (e : Expr), tE N sc fn x e = true → hE (FA X k) (GA X) x → PE X e (liftE X.K (wE x))
  | .cst d, X, sc, fn, c, e, h, hs => by
    unfold tE at h
    split at h
    · exact cst_ok (N := N) h
    · cases h
  | .var i, X, sc, fn, c, e, h, hs => by
    unfold tE at h
    split at h
    · exact l_var (c.var h)
    · cases h
  | .glb y d, X, sc, fn, c, e, h, hs => by
    unfold tE at h
    split at h
    · rw [Bool.and_eq_true, Bool.and_eq_true, decide_eq_true_eq, Bool.not_eq_true'] at h
      obtain ⟨⟨rfl, h⟩, hd⟩ := h
      obtain ⟨v, u, e1, e2, e3⟩ := GlAt.one hs hd
      obtain ⟨g1, g2⟩ := c.gl h
      exact l_cst (pe_glob g1 e1 e2 g2) e3
    · cases h
  | .typ t, X, sc, fn, c, e, h, hs => by
    unfold tE at h
    split at h
    · rw [Bool.and_eq_true, decide_eq_true_eq] at h
      obtain ⟨rfl, h⟩ := h
      obtain ⟨g1, g2⟩ := c.gl h
      exact l_cst (pe_bltn (v := .ty t.name) g1 (c.ty t) t.boot rfl t.nn g2) fun _ => .ty t
    · cases h
  | .bin o a b, X, sc, fn, c, e, h, hs => by
    unfold tE at h
    split at h
    · simp only [Bool.and_eq_true, decide_eq_true_eq] at h
      obtain ⟨⟨rfl, h1⟩, h2⟩ := h
      exact l_bin (okE a c _ h1 hs.1) (okE b c _ h2 hs.2)
    · cases h
  | .neg a, X, sc, fn, c, e, h, hs => by
    unfold tE at h
    split at h
    · simp only [Bool.and_eq_true, decide_eq_true_eq] at h
      obtain ⟨rfl, h1⟩ := h
      exact l_neg (okE a c _ h1 hs)
    · cases h
  | .cmp o a b, X, sc, fn, c, e, h, hs => by
    unfold tE at h
    split at h
    · simp only [Bool.and_eq_true, decide_eq_true_eq, Bool.not_eq_true'] at h
      obtain ⟨⟨⟨rfl, h0⟩, h1⟩, h2⟩ := h
      exact l_cmp c.u65 h0 (okE a c _ h1 hs.1) (okE b c _ h2 hs.2)
    · cases h
  | .chn o p a b d, X, sc, fn, c, e, h, hs => by
    unfold tE at h
    split at h
    · simp only [Bool.and_eq_true, decide_eq_true_eq, Bool.not_eq_true'] at h
      obtain ⟨⟨⟨⟨⟨rfl, rfl⟩, h0⟩, h1⟩, h2⟩, h3⟩ := h
      exact l_chn c.u65 h0 (okE a c _ h1 hs.1) (okE b c _ h2 hs.2.1) (okE d c _ h3 hs.2.2)
    · cases h
  | .not a, X, sc, fn, c, e, h, hs => by
    unfold tE at h
    split at h
    · simp only [Bool.and_eq_true, decide_eq_true_eq] at h
      obtain ⟨rfl, h1⟩ := h
      exact l_not (okE a c _ h1 hs)
    · cases h
  | .and a b, X, sc, fn, c, e, h, hs => by
    unfold tE at h
    split at h
    · rw [Bool.and_eq_true] at h
      obtain ⟨h1, h2⟩ := h
      split at h2
      · exact l_and (okE a c _ h1 hs.1) (pe_one (okE b c _ h2 hs.2))
      · exact l_and (okE a c _ h1 hs.1) (okE b c _ h2 hs.2)
    · cases h
  | .or a b, X, sc, fn, c, e, h, hs => by
    unfold tE at h
    split at h
    · rw [Bool.and_eq_true] at h
      obtain ⟨h1, h2⟩ := h
      split at h2
      · exact l_or (okE a c _ h1 hs.1) (pe_one (okE b c _ h2 hs.2))
      · exact l_or (okE a c _ h1 hs.1) (okE b c _ h2 hs.2)
    · cases h
  | .orV a b, X, sc, fn, c, e, h, hs => by
    unfold tE at h
    split at h
    · rw [Bool.and_eq_true] at h
      obtain ⟨h1, h2⟩ := h
      split at h2
      · exact l_orV (okE a c _ h1 hs.1) (pe_one (okE b c _ h2 hs.2))
      · exact l_orV (okE a c _ h1 hs.1) (okE b c _ h2 hs.2)
    · cases h
  | .ife t a b, X, sc, fn, c, e, h, hs => by
    unfold tE at h
    split at h
    · simp only [Bool.and_eq_true] at h
      exact l_ife (okX t c _ h.1.1 hs.1).1 (okE a c _ h.1.2 hs.2.1) (okE b c _ h.2 hs.2.2)
    · cases h
  | .tup es, X, sc, fn, c, e, h, hs => by
    unfold tE at h
    split at h
    · rw [Bool.and_eq_true, decide_eq_true_eq] at h
      exact l_tup h.1 (okA es c _ h.2 hs)
    · cases h
  | .lst es, X, sc, fn, c, e, h, hs => by
    unfold tE at h
    split at h
    · rw [Bool.and_eq_true, decide_eq_true_eq] at h
      exact l_lst h.1 (okA es c _ h.2 hs)
    · cases h
  | .new es, X, sc, fn, c, e, h, hs => by
    unfold tE at h
    split at h
    · rw [Bool.and_eq_true, decide_eq_true_eq] at h
      exact l_new h.1 (okA es c _ h.2 hs)
    · cases h
  | .sub a i, X, sc, fn, c, e, h, hs => by
    unfold tE at h
    split at h
    · simp only [Bool.and_eq_true] at h
      exact l_sub c.u1 h.1.1 (okE a c _ h.1.2 hs.1) (okE i c _ h.2 hs.2)
    · cases h
  | .sl a lo hi, X, sc, fn, c, e, h, hs => by
    unfold tE at h
    split at h
    · simp only [Bool.and_eq_true] at h
      exact l_sl (okE a c _ h.1.1 hs.1) (okO lo c _ h.1.2 hs.2.1) (okO hi c _ h.2 hs.2.2)
    · cases h
  | .slN a lo hi, X, sc, fn, c, e, h, hs => by
    unfold tE at h
    split at h
    · simp only [Bool.and_eq_true] at h
      exact l_slN (okE a c _ h.1.1 hs.1) (okO lo c _ h.1.2 hs.2.1) (okO hi c _ h.2 hs.2.2)
    · cases h
  | .addN a b, X, sc, fn, c, e, h, hs => by
    unfold tE at h
    split at h
    · simp only [Bool.and_eq_true, decide_eq_true_eq] at h
      obtain ⟨⟨rfl, h1⟩, h2⟩ := h
      exact l_addN (okE a c _ h1 hs.1) (okE b c _ h2 hs.2)
    · cases h
  | .rev n a, X, sc, fn, c, e, h, hs => by
    unfold tE at h
    split at h
    · simp only [Bool.and_eq_true, decide_eq_true_eq] at h
      obtain ⟨⟨rfl, rfl⟩, h1⟩ := h
      exact l_rev (okE a c _ h1 hs)
    · cases h
  | .call x ps sp es, X, sc, fn, c, e, h, hs => by
    unfold tE at h
    split at h
    · rename_i y _ xs _
      simp only [Bool.and_eq_true, decide_eq_true_eq] at h
      obtain ⟨⟨rfl, h1⟩, h2⟩ := h
      obtain ⟨g1, g2⟩ := c.gl h1
      have hA := okA es c _ h2 hs.2
      obtain ⟨p1, p2⟩ := tA_pl h2
      cases xs with
      | nil =>
        cases es with
        | nil => exact l_call0 hs.1 c.room c.gd g1 g2
        | cons _ _ => simp [tA] at h2
      | cons z zs =>
        rw [List.all_cons, Bool.and_eq_true] at p1
        exact l_call hs.1 c.room c.gd g1 g2 p1.1 p1.2 hA
    · cases h
  | .callK x ps sp es ks kes pm, X, sc, fn, c, e, h, hs => by
    unfold tE at h
    split at h
    · rename_i y _ xs kws _
      simp only [Bool.and_eq_true, decide_eq_true_eq] at h
      obtain ⟨⟨⟨⟨⟨rfl, h1⟩, h2⟩, h3⟩, h4⟩, h5⟩ := h
      obtain ⟨g1, g2⟩ := c.gl h1
      have hA := okA es c _ h2 hs.2.1
      obtain ⟨hK, lk⟩ := okK kes c _ h3 hs.2.2
      have lks : lenX kes = ks.length := by
        have := congrArg List.length h4
        simp only [List.length_map] at this
        rw [← lk, this]
      rw [lks] at hK
      obtain ⟨p1, p2⟩ := tA_pl h2
      cases xs with
      | nil =>
        cases es with
        | nil => exact l_callK0 hs.1 c.room c.gd g1 g2 h4 h5 hK
        | cons _ _ => simp [tA] at h2
      | cons z zs =>
        rw [List.all_cons, Bool.and_eq_true] at p1
        rw [← p2] at h5 hA
        exact l_callK hs.1 c.room c.gd g1 g2 p1.1 p1.2 h4 h5 hA hK
    · cases h
  | .callP x y ps qs sp sq i es, X, sc, fn, c, e, h, hs => by
    unfold tE at h
    split at h
    · simp only [Bool.and_eq_true, decide_eq_true_eq] at h
      obtain ⟨⟨⟨⟨⟨⟨rfl, rfl⟩, h1⟩, h2⟩, h3⟩, h4⟩, h5⟩ := h
      obtain ⟨g1, g2⟩ := c.gl h1
      obtain ⟨g3, g4⟩ := c.gl h2
      have hA := okA es c _ h5 hs.2.2
      obtain ⟨p1, p2⟩ := tA_pl h5
      rw [List.all_cons, Bool.and_eq_true] at p1
      exact l_callP hs.1.1 hs.1.2 c.room c.gd g1 g2 g3 g4 (okE i c _ h4 hs.2.1) h3 p1.1 p1.2 hA
    · cases h
  | .fdv a b, X, sc, fn, c, e, h, hs => by
    unfold tE at h
    split at h
    · simp only [Bool.and_eq_true, decide_eq_true_eq] at h
      obtain ⟨⟨rfl, h1⟩, h2⟩ := h
      exact l_fdv (okE a c _ h1 hs.1) (okE b c _ h2 hs.2)
    · cases h
  | .rgs l a b, X, sc, fn, c, e, h, hs => by
    unfold tE at h
    split at h
    · simp only [Bool.and_eq_true, decide_eq_true_eq] at h
      obtain ⟨⟨⟨⟨⟨⟨⟨hy, h1⟩, rfl⟩, h2⟩, h3⟩, h4⟩, h5⟩, h6⟩ := h
      obtain ⟨g1, _⟩ := c.gl h1
      obtain ⟨g2, _⟩ := c.gl h2
      refine l_rgs hy c.calm g1 ?_ g2 c.rng h3 h4 (okE a c _ h5 hs.1) (okE b c _ h6 hs.2)
      subst hy
      cases l with
      | true => exact c.bl .list
      | false => exact c.bl .tuple
    · cases h
  | .srs a, X, sc, fn, c, e, h, hs => by
    unfold tE at h
    split at h
    · simp only [Bool.and_eq_true, decide_eq_true_eq] at h
      obtain ⟨⟨⟨⟨⟨rfl, h1⟩, rfl⟩, h2⟩, h3⟩, h4⟩ := h
      exact l_srs c.calm (c.gl h1).1 (c.more _ (by decide)) (c.gl h2).1 (c.more _ (by decide)) h3 (okE a c _ h4 hs)
    · cases h
  | .upd a own i l u s, X, sc, fn, c, e, h, hs => by
    unfold tE at h
    split at h
    · simp only [Bool.and_eq_true, decide_eq_true_eq] at h
      obtain ⟨⟨⟨⟨⟨⟨⟨⟨⟨⟨⟨⟨⟨⟨⟨⟨rfl, h1⟩, h2⟩, rfl⟩, h3⟩, p1⟩, p2⟩, p3⟩, rfl⟩, hb⟩, hi⟩, hx1⟩, hx⟩, h4⟩, h5⟩, h6⟩, h7⟩ := h
      refine l_upd c.calm (by rw [c.n]; exact c.nd) h1 h2 (c.gl h3).1 c.rng p1 p2 p3 hi ?_ (okE a c _ h4 hs.1) (okE l c _ h5 hs.2.1) (okE u c _ h6 hs.2.2.1) (okE s c _ h7 hs.2.2.2) (fun s H C cl fp => ?_) (fun s H C cl fp => (c.blk s H _ C cl fp).var hx) (fun s H C cl fp => ?_)
      · have hb := blkOk_by hb
        rw [← c.n, ← c.sc] at hb
        exact hb
      · obtain ⟨k1, k2, k3⟩ := (c.blk s H _ C cl fp).sto hx1
        exact pg_name (by rw [(c.blk s H _ C cl fp).n]; exact c.nd) k1 k2 k3
      · exact pe_bl
    · cases h
  | .tabAt x ks ds a, X, sc, fn, c, e, h, hs => by
    unfold tE at h
    split at h
    · simp only [Bool.and_eq_true, decide_eq_true_eq] at h
      obtain ⟨⟨⟨rfl, h1⟩, h2⟩, h3⟩ := h
      obtain ⟨g1, g2⟩ := c.gl h1
      rw [wE_tabAt]
      exact l_tabAt g1 g2 (GlAt.tab hs.1) h2 (okE a c _ h3 hs.2)
    · cases h
  | .tabIn x ks ds a, X, sc, fn, c, e, h, hs => by
    unfold tE at h
    split at h
    · simp only [Bool.and_eq_true, decide_eq_true_eq] at h
      obtain ⟨⟨rfl, h1⟩, h3⟩ := h
      obtain ⟨g1, g2⟩ := c.gl h1
      rw [wE_tabIn]
      exact l_tabIn g1 g2 (GlAt.tab hs.1) (okE a c _ h3 hs.2)
    · cases h
  | .lc2 own tg it co tg1 a1 co1 x, X, sc, fn, c, e, h, hs => by
    unfold tE at h
    split at h
    · simp only [Bool.and_eq_true, decide_eq_true_eq, List.all_eq_true] at h
      obtain ⟨⟨⟨⟨⟨⟨⟨⟨⟨⟨⟨⟨⟨⟨rfl, rfl⟩, h8⟩, h1⟩, h1'⟩, h2⟩, h3⟩, h3'⟩, h4⟩, h5⟩, h6⟩, h9⟩, h5'⟩, h6'⟩, h7⟩ := h
      have hb := blkOk_by h2
      rw [← c.n, ← c.sc] at hb
      have gi := okI it c _ _ h8 h4 hs.1
      have gt := fun s H C cl fp => okT (c.blk s H _ C cl fp) tg _ h5
      have gc := fun s H C cl fp => okC co (c.blk s H _ C cl fp) _ h6 hs.2.1
      have ga := fun s H C cl fp => okE a1 (c.blk s H _ C cl fp) _ h9 hs.2.2.1
      have gt' := fun s H C cl fp => okT (c.blk s H _ C cl fp) tg1 _ h5'
      have gc' := fun s H C cl fp => okC co1 (c.blk s H _ C cl fp) _ h6' hs.2.2.2.1
      have ge := fun s H C cl fp => okE x (c.blk s H _ C cl fp) _ h7 hs.2.2.2.2
      have hN : X.N.Nodup := by rw [c.n]; exact c.nd
      rw [wE_lc2]
      exact l_lc2 c.calm hN h3 h3' h1 h1' gi hb gt gc ga gt' gc' ge
    · cases h
  | .slS a l k, X, sc, fn, c, e, h, hs => by
    unfold tE at h
    split at h
    · simp only [Bool.and_eq_true] at h
      exact l_slS (okE a c _ h.1.1 hs.1) (okE l c _ h.1.2 hs.2.1) (okE k c _ h.2 hs.2.2)
    · cases h
  | .blt b es, X, sc, fn, c, e, h, hs => by
    unfold tE at h
    split at h
    · simp only [Bool.and_eq_true, decide_eq_true_eq] at h
      obtain ⟨⟨rfl, h1⟩, h2⟩ := h
      obtain ⟨g1, g2⟩ := c.gl h1
      obtain ⟨p1, p2⟩ := tA_pl h2
      rw [List.all_cons, Bool.and_eq_true] at p1
      exact l_blt c.sys c.calm c.gd c.u70 g1 (c.bl b) p1.1 p1.2 (okA es c _ h2 hs)
    · cases h
  | .mth m a es, X, sc, fn, c, e, h, hs => by
    unfold tE at h
    split at h
    · rename_i o name apos xs cpos
      simp only [Bool.and_eq_true, decide_eq_true_eq] at h
      obtain ⟨⟨⟨⟨⟨rfl, h1⟩, h2⟩, h3⟩, h4⟩, h5⟩ := h
      have hA := okA es c _ h5 hs.2
      obtain ⟨p1, p2⟩ := tA_pl h5
      cases xs with
      | nil =>
        cases es with
        | nil => exact l_mth0 h1 h2 (okE a c _ h4 hs.1)
        | cons _ _ => simp [tA] at h5
      | cons z zs =>
        rw [List.all_cons, Bool.and_eq_true] at p1
        rw [List.length_cons] at h3
        exact l_mth h1 h2 p1.1 p1.2 (by omega) (okE a c _ h4 hs.1) hA
    · cases h
  | .dct nn ks es, X, sc, fn, c, e, h, hs => by
    unfold tE at h
    split at h
    · simp only [Bool.and_eq_true, decide_eq_true_eq] at h
      obtain ⟨⟨⟨⟨⟨h1, h2⟩, h3⟩, h4⟩, h5⟩, h6⟩ := h
      rename_i keys values pos
      obtain ⟨trs, hp, ok⟩ := okP es c ks keys values pos h4 h5 h6 hs
      obtain ⟨a1, a2⟩ := keysC_len h5
      have e : wE (.dct nn ks es) = fun σ h Q => wA es σ h fun ds h1 => dicted nn ks ds h1 Q := by funext σ h Q; simp only [wE]
      rw [e]
      cases keys with
      | nil =>
        have : ks = [] := List.length_eq_zero_iff.mp a1
        subst this
        have : values = [] := List.length_eq_zero_iff.mp h4.symm
        subst this
        have : wA es = fun _ h Q => Q [] h := by
          cases es with
          | nil => funext σ h Q; simp only [wA]
          | cons _ _ => simp [lenX] at h3
        rw [this]
        cases nn with
        | true => exact l_dct0
        | false => exact l_dcF0
      | cons k0 keys => cases nn with
        | false => exact l_dcF hp (by rw [← h3]; exact ok) a2 h4 (by simp) (by omega) h2 h1
        | true => exact l_dct hp (by rw [← h3]; exact ok) a2 h4 (by simp) (by omega) h2 h1
    · cases h
  | .lc nw own tg it co x, X, sc, fn, c, e, h, hs => by
    unfold tE at h
    split at h
    · simp only [Bool.and_eq_true, decide_eq_true_eq, List.all_eq_true] at h
      obtain ⟨⟨⟨⟨⟨⟨⟨⟨rfl, h8⟩, h1⟩, h2⟩, h3⟩, h4⟩, h5⟩, h6⟩, h7⟩ := h
      have hb := blkOk_by h2
      rw [← c.n, ← c.sc] at hb
      have gi := okI it c _ _ h8 h4 hs.1
      have gt := fun s H C cl fp => okT (c.blk s H _ C cl fp) tg _ h5
      have gc := fun s H C cl fp => okC co (c.blk s H _ C cl fp) _ h6 hs.2.1
      have ge := fun s H C cl fp => okE x (c.blk s H _ C cl fp) _ h7 hs.2.2
      have hN : X.N.Nodup := by rw [c.n]; exact c.nd
      rw [wE_lc]
      exact l_lc c.calm hN h3 h1 gi hb gt gc ge
    · cases h
theorem okA {N : List Str} {k : Nat} : ∀ (es : Exs) {X : Cx} {sc : Scope} {fn : Str → Bool} (c : Cxt X N sc fn k) (xs : List Expr), tA N sc fn es xs = true → hA (FA X k) (GA X) es → PA X xs (liftA X.K (lenX es) (wA es))
  | .nil, X, sc, fn, c, xs, h, hs => by
    unfold tA at h
    split at h
    · exact la_nil
    · cases h
  | .cons e es, X, sc, fn, c, xs, h, hs => by
    unfold tA at h
    split at h
    · cases h
    · simp only [Bool.and_eq_true] at h
      exact la_cons h.1.1 (okE e c _ h.1.2 hs.1) (okA es c _ h.2 hs.2)
theorem okP {N : List Str} {k : Nat} : ∀ (es : Exs) {X : Cx} {sc : Scope} {fn : Str → Bool} (c : Cxt X N sc fn k) (ks : List Key) (keys : List (Option Expr)) (xs : List Expr) (pos : Pos), keys.length = xs.length → keysC ks keys = true → tA N sc fn es xs = true → hA (FA X k) (GA X) es → ∃ trs, PPs X pos keys xs trs ∧ PairsOk X.K ks (lenX es) (wA es) trs
  | .nil, X, sc, fn, c, ks, keys, xs, pos, hl, hk, h, hs => by
    unfold tA at h
    split at h
    · have : keys = [] := List.length_eq_zero_iff.mp hl
      subst this
      have : ks = [] := by
        cases ks with
        | nil => rfl
        | cons _ _ => simp [keysC] at hk
      subst this
      have e : wA .nil = fun _ h Q => Q [] h := by funext σ h Q; simp only [wA]
      rw [e]
      exact ⟨[], pps_nil, pairs_nil⟩
    · cases h
  | .cons e es, X, sc, fn, c, ks, keys, xs, pos, hl, hk, h, hs => by
    unfold tA at h
    split at h
    · cases h
    · simp only [Bool.and_eq_true] at h
      cases keys with
      | nil => simp at hl
      | cons k0 keys =>
        cases ks with
        | nil => simp [keysC] at hk
        | cons q ks =>
          simp only [keysC, Bool.and_eq_true] at hk
          obtain ⟨trs, hp, ok⟩ := okP es c ks keys _ pos (by simpa using hl) hk.2 h.2 hs.2
          obtain ⟨k1, rfl, pk⟩ := key_of (X := X) hk.1
          have e2 : wA (.cons e es) = fun σ h Q => wE e σ h fun d h1 => wA es σ h1 fun ds h2 => Q (d :: ds) h2 := by funext σ h Q; simp only [wA]
          rw [e2]
          exact ⟨_, pps_cons pk (okE e c _ h.1.2 hs.1) hp, pairs_cons ok⟩
theorem okK {N : List Str} {k : Nat} : ∀ (es : Exs) {X : Cx} {sc : Scope} {fn : Str → Bool} (c : Cxt X N sc fn k) (xs : List Keyword), tK N sc fn es xs = true → hA (FA X k) (GA X) es → PK X xs (liftA X.K (lenX es) (wA es)) ∧ xs.length = lenX es
  | .nil, X, sc, fn, c, xs, h, hs => by
    unfold tK at h
    split at h
    · exact ⟨lk_nil, rfl⟩
    · cases h
  | .cons e es, X, sc, fn, c, xs, h, hs => by
    unfold tK at h
    split at h
    · cases h
    · rename_i kw kws
      obtain ⟨nm, v, p⟩ := kw
      simp only [Bool.and_eq_true] at h
      obtain ⟨h1, h2⟩ := okK es c _ h.2 hs.2
      exact ⟨lk_cons (okE e c _ h.1 hs.1) h1, by rw [List.length_cons, h2]; rfl⟩
theorem okO {N : List Str} {k : Nat} : ∀ (o : Exo) {X : Cx} {sc : Scope} {fn : Str → Bool} (c : Cxt X N sc fn k) (x : Option Expr), tO N sc fn o x = true → hO (FA X k) (GA X) o → PO X x (liftO X.K (wO o))
  | .none, X, sc, fn, c, x, h, hs => by
    unfold tO at h
    cases x with
    | none => exact lo_none
    | some _ => cases h
  | .some e, X, sc, fn, c, x, h, hs => by
    unfold tO at h
    split at h
    · exact lo_some (okE e c _ h hs)
    · cases h
theorem okX {N : List Str} {k : Nat} : ∀ (t : Tx) {X : Cx} {sc : Scope} {fn : Str → Bool} (c : Cxt X N sc fn k) (x : Expr), tX N sc fn t x = true → hX (FA X k) (GA X) t → PT X x (liftT X.K (wT t)) ∧ ∀ op vs pos, x = .BoolOp op vs pos → PW X x (liftT X.K (wT t))
  | .val e, X, sc, fn, c, x, h, hs => by
    unfold tX at h
    rw [Bool.and_eq_true, Bool.or_eq_true] at h
    obtain ⟨h1, h2⟩ := h
    rcases h1 with h1 | h1
    · refine ⟨lt_val h1 (okE e c _ h2 hs), fun op vs pos z => ?_⟩
      subst z
      cases h1
    · split at h1
      · rename_i o a b l ops rs pos
        refine ⟨?_, fun op vs pos z => by cases z⟩
        unfold tE at h2
        split at h2
        · rename_i heq
          cases heq
          simp only [Bool.and_eq_true, decide_eq_true_eq, Bool.not_eq_true'] at h2
          obtain ⟨⟨⟨rfl, q0⟩, q1⟩, q2⟩ := h2
          rw [wT_cmp]
          exact lt_cmp c.u65 q0 (okE a c _ q1 hs.1) (okE b c _ q2 hs.2)
        · cases h2
      · rename_i o p a b d l ops rs pos
        refine ⟨?_, fun op vs pos z => by cases z⟩
        unfold tE at h2
        split at h2
        · rename_i heq
          cases heq
          simp only [Bool.and_eq_true, decide_eq_true_eq, Bool.not_eq_true'] at h2
          obtain ⟨⟨⟨⟨⟨rfl, rfl⟩, q0⟩, q1⟩, q2⟩, q3⟩ := h2
          rw [wT_chn]
          exact lt_chn c.u65 q0 (okE a c _ q1 hs.1) (okE b c _ q2 hs.2.1) (okE d c _ q3 hs.2.2)
        · cases h2
      · refine ⟨?_, fun op vs pos z => by cases z⟩
        unfold tE at h2
        split at h2
        · rename_i heq
          cases heq
          simp only [Bool.and_eq_true, decide_eq_true_eq] at h2
          obtain ⟨⟨rfl, q1⟩, q3⟩ := h2
          obtain ⟨g1, g2⟩ := c.gl q1
          rw [wT_tabIn]
          exact lt_tabIn g1 g2 (GlAt.tab hs.1) (okE _ c _ q3 hs.2)
        · cases h2
      · cases h1
  | .not t, X, sc, fn, c, x, h, hs => by
    unfold tX at h
    split at h
    · simp only [Bool.and_eq_true, decide_eq_true_eq] at h
      obtain ⟨rfl, h1⟩ := h
      exact ⟨lt_not (okX t c _ h1 hs).1, fun op vs pos z => by cases z⟩
    · cases h
  | .and t u, X, sc, fn, c, x, h, hs => by
    unfold tX at h
    split at h
    · rw [Bool.and_eq_true] at h
      obtain ⟨h1, h2⟩ := h
      split at h2
      · exact ⟨(lt_and (okX t c _ h1 hs.1).1 (pw_and1 (okX u c _ h2 hs.2).1)).pt, fun _ _ _ _ => lt_and (okX t c _ h1 hs.1).1 (pw_and1 (okX u c _ h2 hs.2).1)⟩
      · exact ⟨(lt_and (okX t c _ h1 hs.1).1 ((okX u c _ h2 hs.2).2 _ _ _ rfl)).pt, fun _ _ _ _ => lt_and (okX t c _ h1 hs.1).1 ((okX u c _ h2 hs.2).2 _ _ _ rfl)⟩
    · cases h
  | .or t u, X, sc, fn, c, x, h, hs => by
    unfold tX at h
    split at h
    · rw [Bool.and_eq_true] at h
      obtain ⟨h1, h2⟩ := h
      split at h2
      · exact ⟨(lt_or (okX t c _ h1 hs.1).1 (pw_or1 (okX u c _ h2 hs.2).1)).pt, fun _ _ _ _ => lt_or (okX t c _ h1 hs.1).1 (pw_or1 (okX u c _ h2 hs.2).1)⟩
      · exact ⟨(lt_or (okX t c _ h1 hs.1).1 ((okX u c _ h2 hs.2).2 _ _ _ rfl)).pt, fun _ _ _ _ => lt_or (okX t c _ h1 hs.1).1 ((okX u c _ h2 hs.2).2 _ _ _ rfl)⟩
    · cases h
  | .ch3 o p q a b d f, X, sc, fn, c, x, h, hs => by
    unfold tX at h
    split at h
    · simp only [Bool.and_eq_true, decide_eq_true_eq, Bool.not_eq_true'] at h
      obtain ⟨⟨⟨⟨⟨⟨⟨rfl, rfl⟩, rfl⟩, h0⟩, h1⟩, h2⟩, h3⟩, h4⟩ := h
      rw [wT_ch3]
      exact ⟨lt_ch3 c.u65 h0 (okE a c _ h1 hs.1) (okE b c _ h2 hs.2.1) (okE d c _ h3 hs.2.2.1) (okE f c _ h4 hs.2.2.2), fun _ _ _ z => by cases z⟩
    · cases h
theorem okC {N : List Str} {k : Nat} : ∀ (t : Txo) {X : Cx} {sc : Scope} {fn : Str → Bool} (c : Cxt X N sc fn k) (xs : List Expr), tC N sc fn t xs = true → hC (FA X k) (GA X) t → PTs X xs (liftT X.K (wTo t))
  | .none, X, sc, fn, c, xs, h, hs => by
    unfold tC at h
    split at h
    · exact ⟨fun pins s σ H Q I ⟨w, σd, hd, QD, eH, rel, rs, q, post⟩ => pts_nil.run pins s σ H Q I (by subst eH; exact post w hd true (Ext.refl _ _) rel q)⟩
    · cases h
  | .some t, X, sc, fn, c, xs, h, hs => by
    unfold tC at h
    split at h
    · exact pts_one (okX t c _ h hs).1
    · cases h
theorem okI {N : List Str} {k : Nat} : ∀ (it : Ite) {X : Cx} {sc : Scope} {fn : Str → Bool} (c : Cxt X N sc fn k) (tg x : Expr), itT it tg = true → tI N sc fn it x = true → hI (FA X k) (GA X) it → PI X tg x (liftI X.K (wI it))
  | .seq e, X, sc, fn, c, tg, x, ht, h, hs => by
    unfold tI at h
    exact li_seq (okE e c _ h hs)
  | .rng1 e, X, sc, fn, c, tg, x, ht, h, hs => by
    unfold tI at h
    split at h
    · simp only [Bool.and_eq_true, decide_eq_true_eq] at h
      obtain ⟨⟨⟨rfl, h1⟩, h2⟩, h3⟩ := h
      exact li_rng1 (c.gl h1).1 c.rng h2 (okE e c _ h3 hs)
    · cases h
  | .rng2 a b, X, sc, fn, c, tg, x, ht, h, hs => by
    unfold tI at h
    split at h
    · simp only [Bool.and_eq_true, decide_eq_true_eq] at h
      obtain ⟨⟨⟨⟨⟨rfl, h1⟩, h2⟩, h3⟩, h4⟩, h5⟩ := h
      exact li_rng2 (c.gl h1).1 c.rng h2 h3 (okE a c _ h4 hs.1) (okE b c _ h5 hs.2)
    · cases h
  | .rng3 a b z, X, sc, fn, c, tg, x, ht, h, hs => by
    unfold tI at h
    split at h
    · simp only [Bool.and_eq_true, decide_eq_true_eq] at h
      obtain ⟨⟨⟨⟨⟨⟨⟨rfl, h1⟩, h2⟩, h3⟩, h6⟩, h4⟩, h5⟩, h7⟩ := h
      exact li_rng3 (c.gl h1).1 c.rng h2 h3 h6 (okE a c _ h4 hs.1) (okE b c _ h5 hs.2.1) (okE z c _ h7 hs.2.2)
    · cases h
  | .zip a b, X, sc, fn, c, tg, x, ht, h, hs => by
    unfold tI at h
    split at h
    · simp only [Bool.and_eq_true, decide_eq_true_eq] at h
      obtain ⟨⟨⟨⟨⟨rfl, h1⟩, h2⟩, h3⟩, h4⟩, h5⟩ := h
      cases tg <;> first | (cases ht; done) | skip
      exact li_zip (c.gl h1).1 (c.more _ (by decide)) h2 h3 (okE a c _ h4 hs.1) (okE b c _ h5 hs.2)
    · cases h
  | .revd a, X, sc, fn, c, tg, x, ht, h, hs => by
    unfold tI at h
    split at h
    · simp only [Bool.and_eq_true, decide_eq_true_eq] at h
      obtain ⟨⟨⟨rfl, h1⟩, h2⟩, h3⟩ := h
      exact li_rev (c.gl h1).1 (c.more _ (by decide)) h2 (okE a c _ h3 hs)
    · cases h
  | .zips a b, X, sc, fn, c, tg, x, ht, h, hs => by
    unfold tI at h
    split at h
    · simp only [Bool.and_eq_true, decide_eq_true_eq] at h
      obtain ⟨⟨⟨⟨⟨⟨rfl, h1⟩, h2⟩, h3⟩, h4⟩, h5⟩, h6⟩ := h
      cases tg <;> first | (cases ht; done) | skip
      obtain ⟨y, z1, z2, z3, rfl, rfl⟩ := strict_of h6
      exact li_zs (c.gl h1).1 (c.more _ (by decide)) h2 h3 (okE a c _ h4 hs.1) (okE b c _ h5 hs.2)
    · cases h
  | .enum b a, X, sc, fn, c, tg, x, ht, h, hs => by
    unfold tI at h
    split at h
    · simp only [Bool.and_eq_true, decide_eq_true_eq] at h
      obtain ⟨⟨⟨⟨rfl, h1⟩, h2⟩, h4⟩, h6⟩ := h
      cases tg <;> first | (cases ht; done) | skip
      cases b with
      | false =>
        cases start0_of h6
        exact li_en0 (c.gl h1).1 (c.more _ (by decide)) h2 (okE a c _ h4 hs)
      | true =>
        obtain ⟨y, z1, z2, z3, rfl, rfl⟩ := start1_of h6
        exact li_en1 (c.gl h1).1 (c.more _ (by decide)) h2 (okE a c _ h4 hs)
    · cases h
end
end G

/-! Statements, defs, the law's end. -/
namespace G
open PySem PySem.Spec PyProof.Rows L2

theorem block_fn {env : Env} (h : env.scope.kind = .function) : env.blockKind = .function := by unfold Env.blockKind; rw [h]; rfl
theorem ok_asg {X : Cx} {N : List Str} {sc : Scope} {fn : Str → Bool} {k : Nat} (c : Cxt X N sc fn k) (hsc : sc.kind = .function) {t : Tg} {e : Ex} {tg v : Expr} {pos : Pos} (h1 : tT N sc fn t tg = true) (h2 : tE N sc fn e v = true)
    (h3 : asgC sc t e tg v = true) (hs : hE (FA X k) (GA X) e) : PS X (.Assign [tg] v pos) (liftS X.K fun E σ h => wE e σ h fun d h1 => gT t d σ fun σ' => E.nx σ' h1) := by
  have hg := okT c t tg h1
  cases tg with
  | Name y py =>
    replace h3 : (nlc v || (isLc v && lcT t e)) = true := h3
    rw [Bool.or_eq_true, Bool.and_eq_true] at h3
    rcases h3 with h3 | ⟨h4, h5⟩
    · exact s_asg (okE e c v h2 hs) hg (show swapsWith v (some (.Name y py)) pos.line X.env = pure false from sw_nlc h3) rfl rfl
    · cases v <;> first | (cases h4; done) | skip
      rename_i elt gens scope lpos
      cases b : swLc sc y py scope lpos with
      | false => exact s_asg (okE e c _ h2 hs) hg (show swapsWith _ (some (.Name y py)) pos.line X.env = pure false from sw_lcF (by rw [c.sc]; exact b)) rfl rfl
      | true =>
        cases t with
        | tp _ => cases h5
        | nm i =>
          cases e <;> first | (cases h5; done) | skip
          rename_i nw own tg' it co x
          unfold tE at h2
          split at h2
          · rename_i heq
            cases heq
            simp only [Bool.and_eq_true, decide_eq_true_eq, List.all_eq_true] at h2
            obtain ⟨⟨⟨⟨⟨⟨⟨⟨rfl, q8⟩, q1⟩, q2⟩, q3⟩, q4⟩, q5⟩, q6⟩, q7⟩ := h2
            have hb := blkOk_by q2
            rw [← c.n, ← c.sc] at hb
            have gi := okI it c _ _ q8 q4 hs.1
            have gt := fun s H C cl fp => okT (c.blk s H _ C cl fp) tg' _ q5
            have gc := fun s H C cl fp => okC co (c.blk s H _ C cl fp) _ q6 hs.2.1
            have ge := fun s H C cl fp => okE x (c.blk s H _ C cl fp) _ q7 hs.2.2
            have hN : X.N.Nodup := by rw [c.n]; exact c.nd
            unfold tT at h1
            obtain ⟨n1, _, _⟩ := c.sto h1
            unfold swLc at b
            simp only [Bool.and_eq_true, decide_eq_true_eq, Bool.not_eq_true'] at b
            have hl : X.env.scope.names.lookup y = some .local := by rw [c.sc]; exact b.1.1
            rw [wE_lc]
            exact s_setLc c.calm hN q3 q1 n1 hl (sw_true (by rw [c.sc]; exact hsc) hl b.1.2 b.2) gi hb gt gc ge
          · cases h2
  | Tuple ts kk tp =>
    replace h3 : (nlc v && swV sc ts v) = true := h3
    rw [Bool.and_eq_true] at h3
    refine s_asg (okE e c v h2 hs) hg (show swapsWith v (some (.Tuple ts kk tp)) pos.line X.env = pure false from sw_nlc h3.1) ?_ rfl
    cases hv : isTupE v with
    | false => exact sw_tup hv
    | true =>
      cases v <;> first | (cases hv; done) | skip
      exact sw_no (by rw [c.sc]; exact h3.2)
  | _ => cases h3
theorem ok_par {X : Cx} {N : List Str} {sc : Scope} {fn : Str → Bool} {k : Nat} (c : Cxt X N sc fn k) (hsc : sc.kind = .function) {is : List Nat} {es : Exs} {ts vs : List Expr} {k1 k2 : Nat} {p1 p2 pos : Pos} (h1 : parC N sc is ts vs = true) (h2 : is.length = lenX es) (h3 : tA N sc fn es vs = true) (hs : hA (FA X k) (GA X) es) :
    PS X (.Assign [.Tuple ts k1 p1] (.Tuple vs k2 p2) pos) (liftS X.K fun E σ h => wA es σ h fun ds h1 => E.nx (setAll σ is ds) h1) := by
  have hA := okA es c vs h3 hs
  have bk : X.env.blockKind = .function := block_fn (by rw [c.sc]; exact hsc)
  unfold parC at h1
  simp only [Bool.and_eq_true, decide_eq_true_eq, Bool.not_eq_true'] at h1
  obtain ⟨⟨⟨⟨nd, hp⟩, hf⟩, hc⟩, h1⟩ := h1
  split at h1
  · rename_i i j x px y py a b
    simp only [Bool.and_eq_true, decide_eq_true_eq] at h1
    obtain ⟨⟨⟨⟨⟨n1, n2⟩, l1⟩, l2⟩, ll⟩, ne⟩ := h1
    simp only [List.all_cons, List.all_nil, Bool.and_true, Bool.and_eq_true] at hp
    rw [← h2] at hA
    rw [← c.sc] at l1 l2
    rw [← c.n] at n1 n2
    have hij : i ≠ j := fun z => by subst z; simp at nd
    exact s_par2 c.calm (by rw [c.n]; exact c.nd) n1 n2 hij l1 l2 hA (sw_2 bk hp.1 hp.2 l1 l2 ll ne hf hc)
  · rename_i i j l x px y py z pz a b d
    simp only [Bool.and_eq_true, decide_eq_true_eq] at h1
    obtain ⟨⟨⟨⟨⟨⟨⟨⟨⟨⟨n1, n2⟩, n3⟩, l1⟩, l2⟩, l3⟩, ll⟩, ll2⟩, ne⟩, ne2⟩, ne3⟩ := h1
    simp only [List.all_cons, List.all_nil, Bool.and_true, Bool.and_eq_true] at hp
    rw [← h2] at hA
    rw [← c.sc] at l1 l2 l3
    rw [← c.n] at n1 n2 n3
    have hij : i ≠ j := fun z => by subst z; simp at nd
    have hil : i ≠ l := fun z => by subst z; simp at nd
    have hjl : j ≠ l := fun z => by subst z; simp at nd
    exact s_par3 c.calm (by rw [c.n]; exact c.nd) n1 n2 n3 hij hil hjl l1 l2 l3 hA (sw_3 bk hp.1 hp.2.1 hp.2.2 l1 l2 l3 ll ll2 ne ne2 ne3 hf hc)
  · cases h1
theorem each_one (e : Expr) (es : List Expr) (env : Env) : assignEach (e :: es) env = (isS e, assign (unS e) env) :: assignEach es env := by cases e <;> rfl
theorem un_map (env : Env) : ∀ es : List Expr, (assignEach es env).map (·.2) = (es.map unS).map fun e => assign e env
  | [] => rfl
  | e :: es => by rw [each_one, List.map_cons, List.map_cons, List.map_cons, un_map env es]
theorem un_len (env : Env) : ∀ es : List Expr, (assignEach es env).length = es.length
  | [] => rfl
  | e :: es => by rw [each_one, List.length_cons, List.length_cons, un_len env es]
theorem un_get (env : Env) : ∀ (es : List Expr) (j : Nat), ((assignEach es env)[j]?).map (·.1) = (es[j]?).map isS
  | [], _ => rfl
  | e :: es, 0 => by rw [each_one]; rfl
  | e :: es, j + 1 => by rw [each_one, List.getElem?_cons_succ, List.getElem?_cons_succ]; exact un_get env es j
theorem pl_un {e : Expr} (h : pl e = true) : unS e = e := by cases e <;> first | rfl | cases h
theorem tTs_pl {N : List Str} {sc : Scope} {fn : Str → Bool} : ∀ {ts : Tgs} {es : List Expr}, tTs N sc fn ts es = true → (∀ e ∈ es, pl e = true) ∧ lenTs ts = es.length
  | .nil, es, h => by
    unfold tTs at h
    split at h
    · exact ⟨fun e he => (by cases he), rfl⟩
    · cases h
  | .cons t ts, es, h => by
    unfold tTs at h
    split at h
    · cases h
    · simp only [Bool.and_eq_true] at h
      obtain ⟨a, b⟩ := tTs_pl h.2
      refine ⟨fun e he => ?_, by rw [lenTs, b, List.length_cons]⟩
      rcases List.mem_cons.mp he with rfl | he
      · exact h.1.1
      · exact a e he
theorem un_find {env : Env} {es : List Expr} {i : Nat} (h1 : i < es.length) (h2 : (es.zipIdx.all fun p => isS p.1 == (p.2 == i)) = true) : (assignEach es env).findIdx? (·.1) = some i := by
  have at_ : ∀ (j : Nat) (hj : j < (assignEach es env).length), (assignEach es env)[j].1 = (j == i) := fun j hj => by
    have hj' : j < es.length := by rw [un_len] at hj; exact hj
    have g := un_get env es j
    rw [List.getElem?_eq_getElem hj, List.getElem?_eq_getElem hj'] at g
    have g : (assignEach es env)[j].1 = isS es[j] := by simpa using g
    rw [g]
    rw [List.all_eq_true] at h2
    have := h2 (es[j], j) (by rw [List.mem_zipIdx_iff_getElem?]; exact List.getElem?_eq_getElem hj')
    simpa using this
  rw [List.findIdx?_eq_some_iff_getElem]
  refine ⟨by rw [un_len]; exact h1, by rw [at_]; simp, fun j hj => ?_⟩
  rw [at_ j (by rw [un_len]; omega)]
  simp; omega
mutual
theorem okS {X : Cx} {N : List Str} {sc : Scope} {fn : Str → Bool} {k : Nat} (c : Cxt X N sc fn k) (hsc : sc.kind = .function) : ∀ (s : St) (st : Stmt), tS N sc fn s st = true → hS (FA X k) (GA X) s → PS X st (liftS X.K (wS s))
  | .asg t e, st, h, hs => by
    unfold tS at h
    split at h
    · simp only [Bool.and_eq_true] at h
      exact ok_asg c hsc h.1.1 h.1.2 h.2 hs
    · cases h
  | .par is es, st, h, hs => by
    unfold tS at h
    split at h
    · simp only [Bool.and_eq_true, decide_eq_true_eq] at h
      exact ok_par c hsc h.1.1 h.1.2 h.2 hs
    · cases h
  | .put o i e, st, h, hs => by
    unfold tS at h
    split at h
    · simp only [Bool.and_eq_true] at h
      exact s_put c.u1 h.1.1.1.1 h.1.1.1.2 (okE e c _ h.2 hs.2.2) (okE o c _ h.1.1.2 hs.1) (okE i c _ h.1.2 hs.2.1)
    · cases h
  | .aug i o e, st, h, hs => by
    unfold tS at h
    split at h
    · simp only [Bool.and_eq_true, decide_eq_true_eq] at h
      obtain ⟨⟨rfl, h1⟩, h2⟩ := h
      obtain ⟨n1, n2, n3⟩ := c.sto h1
      exact s_aug (by rw [c.n]; exact c.nd) n1 n2 n3 (okE e c _ h2 hs)
    · cases h
  | .augI o i e, st, h, hs => by
    unfold tS at h
    split at h
    · simp only [Bool.and_eq_true, decide_eq_true_eq] at h
      obtain ⟨⟨⟨⟨rfl, h1⟩, h2⟩, h3⟩, h4⟩ := h
      exact s_augI c.u1 h1 (okE o c _ h2 hs.1) (okE i c _ h3 hs.2.1) (okE e c _ h4 hs.2.2)
    · cases h
  | .star i nw ts e, st, h, hs => by
    unfold tS at h
    split at h
    · rename_i es kk tp v pos
      simp only [Bool.and_eq_true, decide_eq_true_eq] at h
      obtain ⟨⟨⟨⟨⟨h1, h2⟩, h3⟩, h4⟩, h5⟩, h6⟩ := h
      obtain ⟨hp, hl⟩ := tTs_pl h3
      rw [List.length_map] at hl
      have hg := (okTs c ts (es.map unS) h3).1
      have a1 : (assignEach es X.env).map (·.2) = (assignEach (es.map unS) X.env).map (·.2) := by
        rw [un_map, un_map]
        congr 1
        rw [List.map_map]
        refine (List.map_congr_left fun e he => ?_).symm
        exact pl_un (hp (unS e) (List.mem_map_of_mem he))
      have hg' : PGs X es (liftGs X.K (slotsTs ts) (gTs ts)) := ⟨fun pins s σ H vs us Q I r q => by rw [a1]; exact hg.run pins s σ H vs us Q I r q⟩
      have := s_star (nw := nw) (kk := kk) (tp := tp) (pos := pos) c.calm (okE e c v h6 hs) hg' (n := lenTs ts) (i := i) (by rw [un_len, hl]) (un_find h1 h2) (by rw [hl]; exact h1) (show swapsWith v (some (.Tuple es kk tp)) pos.line X.env = pure false from sw_nlc h4) (by
        cases hv : isTupE v with
        | false => exact sw_tup hv
        | true =>
          cases v <;> first | (cases hv; done) | skip
          exact sw_no (by rw [c.sc]; exact h5))
      exact this
    · cases h
  | .exp e, st, h, hs => by
    unfold tS at h
    split at h
    · rw [Bool.and_eq_true] at h
      exact s_exp h.1 (okE e c _ h.2 hs)
    · cases h
  | .ret e, st, h, hs => by
    unfold tS at h
    split at h
    · exact s_ret (okE e c _ h hs)
    · cases h
  | .retN, st, h, hs => by
    unfold tS at h
    split at h
    · exact s_retN
    · cases h
  | .ite t a b, st, h, hs => by
    unfold tS at h
    split at h
    · simp only [Bool.and_eq_true] at h
      exact s_ite (okX t c _ h.1.1 hs.1).1 (okSs c hsc a _ h.1.2 hs.2.1) (okSs c hsc b _ h.2 hs.2.2)
    · cases h
  | .whl t b, st, h, hs => by
    unfold tS at h
    split at h
    · simp only [Bool.and_eq_true] at h
      exact s_whl c.xe (okX t c _ h.1 hs.1).1 (okSs c hsc b _ h.2 hs.2)
    · cases h
  | .for t it b, st, h, hs => by
    unfold tS at h
    split at h
    · simp only [Bool.and_eq_true] at h
      exact s_for c.xe c.calm h.1.1.1.2 (okI it c _ _ h.1.1.1.1 h.1.2 hs.1) (okT c t _ h.1.1.2) (okSs c hsc b _ h.2 hs.2)
    · cases h
  | .pass, st, h, hs => by
    unfold tS at h
    split at h
    · exact s_pass
    · cases h
  | .brk, st, h, hs => by
    unfold tS at h
    split at h
    · exact s_brk
    · cases h
  | .cont, st, h, hs => by
    unfold tS at h
    split at h
    · exact s_cont
    · cases h
theorem okSs {X : Cx} {N : List Str} {sc : Scope} {fn : Str → Bool} {k : Nat} (c : Cxt X N sc fn k) (hsc : sc.kind = .function) : ∀ (ss : Sts) (sts : List Stmt), tSs N sc fn ss sts = true → hSs (FA X k) (GA X) ss → PSs X sts (liftS X.K (wSs ss))
  | .nil, sts, h, hs => by
    unfold tSs at h
    split at h
    · exact s_nil
    · cases h
  | .cons s ss, sts, h, hs => by
    unfold tSs at h
    split at h
    · cases h
    · rw [Bool.and_eq_true] at h
      have e : wSs (.cons s ss) = fun E σ h => wS s {nx := wSs ss E, rt := E.rt, bk := E.bk, ct := E.ct} σ h := by funext E σ h; simp only [wSs]
      rw [e]
      exact s_cons (okS c hsc s _ h.1 hs.1) (okSs c hsc ss _ h.2 hs.2)
end
end G

/-! Defs by their bodies; what a def may forget; the deck; the law's end. -/
namespace G
open PySem PySem.Spec PyProof.Rows L2

/-- h knows no more than h' -/
def Hd.le (h h' : Hd) : Prop := ∀ n, h n = h' n ∨ h n = none
theorem Hd.le.refl (h : Hd) : h.le h := fun _ => .inl rfl
theorem Hd.le.trans {a b c : Hd} (x : a.le b) (y : b.le c) : a.le c := fun n => by
  rcases x n with e | e
  · rcases y n with f | f
    · exact .inl (e.trans f)
    · exact .inr (e.trans f)
  · exact .inr e
theorem Hd.le.set {h g : Hd} {n : Nat} {c : Cell} (x : h.le g) (e : h n = none) : h.le (g.set n c) := fun k => by
  by_cases hk : k = n
  · rw [hk]; exact .inr e
  · rw [Hd.set_ne hk]; exact x k
theorem Hd.le.some {h g : Hd} {n : Nat} {c : Cell} (x : h.le g) (e : h n = some c) : g n = some c := by
  rcases x n with z | z
  · rw [← z]; exact e
  · rw [z] at e; cases e
theorem Hd.le.none {h g : Hd} {n : Nat} (x : h.le g) (e : g n = none) : h n = none := by
  rcases x n with z | z
  · rw [z]; exact e
  · exact z
theorem rel_le {K : PySem.W.Frag} {w : Wd} {h g : Hd} (x : h.le g) (rel : RelW K w g) : RelW K w h ∧ Ext w w g h :=
  ⟨⟨rel.inj, fun n c e => rel.has n c (x.some e), fun n c e => rel.live n c (x.some e), rel.there, rel.fin, rel.deck, rel.dks⟩,
    ⟨fun _ _ e => e, fun _ e => e, fun _ _ _ e => e, fun _ q => .inl q, fun n a e q f => ⟨x.none q, rfl, f⟩⟩⟩

/-- cells that nobody may change any more -/
def Wd.ice (w : Wd) (p : Nat → Prop) : Wd := { w with fz := fun k => p k ∨ w.fz k }
theorem ice_mut {w : Wd} {p : Nat → Prop} {a : Addr} (q : (w.ice p).mut a) : w.mut a := by
  rcases q with ⟨n, e, f⟩ | q
  · exact .inl ⟨n, e, fun z => f (.inr z)⟩
  · exact .inr q
theorem rel_ice {K : PySem.W.Frag} {w : Wd} {h g : Hd} {p : Nat → Prop} (x : h.le g) (hp : ∀ n, p n → h n = none ∧ ∃ c, g n = some c) (rel : RelW K w g) : RelW K (w.ice p) h ∧ Ext w (w.ice p) g h := by
  have y : Ext w (w.ice p) g h := ⟨fun _ _ e => e, fun _ e => e, fun _ _ _ e => e, fun a q => .inl (ice_mut q), fun n a e q f => ⟨x.none q, rfl, fun z => z.elim (fun z => by
    obtain ⟨_, c, e⟩ := hp n z
    rw [q] at e; cases e) f⟩⟩
  refine ⟨⟨fun n k a e1 e2 f1 f2 => rel.inj n k a e1 e2 (fun z => f1 (.inr z)) fun z => f2 (.inr z), fun n c e => ?_, fun n c e z => z.elim (fun z => ?_) (rel.live n c (x.some e)), rel.there, rel.fin,
    fun q e => ⟨(rel.deck q e).1, fun n f => (rel.deck q e).2 n fun z => f (.inr z)⟩, rel.dks⟩, y⟩
  · obtain ⟨a, e1, rc⟩ := rel.has n c (x.some e)
    refine ⟨a, e1, ?_⟩
    cases c with
    | lst ds =>
      obtain ⟨xs, e2, r, l⟩ := rc
      exact ⟨xs, e2, r.mono y, l⟩
    | dK kvs =>
      obtain ⟨xs, e2, e3, r⟩ := rc
      exact ⟨xs, e2, e3, r.mono y⟩
  · rw [(hp n z).1] at e; cases e
theorem ice_nmut {K : PySem.W.Frag} {w : Wd} {g : Hd} {p : Nat → Prop} {n : Nat} {c : Cell} {a : Addr} (rel : RelW K w g) (e : g n = some c) (ea : w.m n = some a) (hp : p n) : ¬ (w.ice p).mut a := fun q => by
  have f := rel.live n c e
  rcases q with ⟨k, ek, fk⟩ | ⟨q, eq, z⟩
  · have := rel.inj k n a ek ea (fun z => fk (.inr z)) f
    exact fk (.inl (this ▸ hp))
  · have d := (rel.deck q eq).2 n f
    rcases z with z | z
    · exact d.1 (z ▸ ea)
    · exact d.2 (z ▸ ea)
/-- the deck's two cells -/
def DeckC (h : Hd) (n k : Nat) : Prop := ∃ (ns : List Int) (s t : Int), h n = some (.lst [.ref k, .int s, .int t]) ∧ h k = some (.lst (ns.map D.int)) ∧ ns.length ≤ 63
theorem rds_ints {K : PySem.W.Frag} {w : Wd} : ∀ {ns : List Int} {xs : List V}, RDs K w (ns.map D.int) xs → xs = ns.map V.int
  | [], _, .nil => rfl
  | n :: ns, _, .cons (.int _) t => by rw [rds_ints t]; rfl
theorem ints_rds {K : PySem.W.Frag} {w : Wd} : ∀ (ns : List Int), RDs K w (ns.map D.int) (ns.map V.int)
  | [] => .nil
  | n :: ns => .cons (.int n) (ints_rds ns)

/-- an answer, where cells may be forgotten, a list be finished, a deck be made -/
inductive Out (Q : Pq) : D → Hd → Prop
  | is {d : D} {h' h : Hd} (s : h.le h') (q : Q d h) : Out Q d h'
  | fin {n : Nat} {ds : List D} {h' h : Hd} (e : h' n = some (.lst ds)) (s : h.le h') (z : h n = none) (q : Q (.lst ds) h) : Out Q (.ref n) h'
  | deck {n k : Nat} {h' h : Hd} (e : DeckC h' n k) (s : h.le h') (z : h n = none) (zk : h k = none) (q : Q .deck h) : Out Q (.ref n) h'

/-- two cells become a deck -/
def Wd.decked (w : Wd) (n k : Nat) (a b : Addr) : Wd := { w.ice (fun i => i = n ∨ i = k) with dk := fun p => p = (a, b) ∨ w.dk p }
theorem rel_deck {K : PySem.W.Frag} {w : Wd} {h g : Hd} {n k : Nat} {a b : Addr} (rel : RelW K w g) (dc : DeckC g n k) (ea : w.m n = some a) (eb : w.m k = some b) (x : h.le g) (z : h n = none) (zk : h k = none) :
    RelW K (w.decked n k a b) h ∧ Ext w (w.decked n k a b) g h := by
  obtain ⟨ns, s, t, e1, e2, l⟩ := dc
  obtain ⟨a', ea', xs, ha, ra, _⟩ := rel.has n _ e1
  obtain ⟨b', eb', ys, hb, rb, _⟩ := rel.has k _ e2
  cases ea.symm.trans ea'
  cases eb.symm.trans eb'
  have fn := rel.live n _ e1
  have fk := rel.live k _ e2
  have hy := rds_ints rb
  subst hy
  have hx : xs = [.ref b, .int s, .int t] := by
    cases ra with
    | cons r1 ra => cases ra with
      | cons r2 ra => cases ra with
        | cons r3 ra =>
          cases ra
          cases r2; cases r3
          cases r1 with
          | ref e =>
            cases e.symm.trans eb
            rfl
  subst hx
  have nk : n ≠ k := fun z => by
    subst z
    rw [e1] at e2
    cases ns with
    | nil => cases e2
    | cons _ _ => simp at e2
  have nab : a ≠ b := fun z => nk (rel.inj n k a ea (z ▸ eb) fn fk)
  have dk0 : ∀ p, w.dk p → p.1 ≠ a ∧ p.2 ≠ a ∧ p.1 ≠ b ∧ p.2 ≠ b := fun p hp => by
    have d1 := (rel.deck p hp).2 n fn
    have d2 := (rel.deck p hp).2 k fk
    exact ⟨fun z => d1.1 (z ▸ ea), fun z => d1.2 (z ▸ ea), fun z => d2.1 (z ▸ eb), fun z => d2.2 (z ▸ eb)⟩
  let w' := w.decked n k a b
  have mu : ∀ c, w'.mut c → w.mut c := fun c q => by
    rcases q with ⟨i, e, f⟩ | ⟨p, e, q⟩
    · exact .inl ⟨i, e, fun z => f (.inr z)⟩
    · rcases e with rfl | e
      · rcases q with rfl | rfl
        · exact .inl ⟨n, ea, fn⟩
        · exact .inl ⟨k, eb, fk⟩
      · exact .inr ⟨p, e, q⟩
  have y : Ext w w' g h := ⟨fun _ _ e => e, fun _ e => .inr e, fun _ _ _ e => e, fun c q => .inl (mu c q), fun i c e q f => ⟨x.none q, rfl, fun z => z.elim (fun z => z.elim (fun z => by
    rw [z, e1] at q; cases q) fun z => by rw [z, e2] at q; cases q) f⟩⟩
  refine ⟨⟨fun i j c i1 i2 f1 f2 => rel.inj i j c i1 i2 (fun z => f1 (.inr z)) fun z => f2 (.inr z), fun i c e => ?_, fun i c e q => ?_, rel.there, rel.fin, fun p e => ?_, fun p q hp hq i => ?_⟩, y⟩
  · obtain ⟨a, i1, rc⟩ := rel.has i c (x.some e)
    refine ⟨a, i1, ?_⟩
    cases c with
    | lst ds =>
      obtain ⟨xs, i2, r, l⟩ := rc
      exact ⟨xs, i2, r.mono y, l⟩
    | dK kvs =>
      obtain ⟨xs, i2, i3, r⟩ := rc
      exact ⟨xs, i2, i3, r.mono y⟩
  · rcases q with (q | q) | q
    · rw [q, z] at e; cases e
    · rw [q, zk] at e; cases e
    · exact rel.live i c (x.some e) q
  · rcases e with rfl | e
    · refine ⟨⟨nab, ns, s, t, ha, hb, l⟩, fun i f => ⟨fun j => ?_, fun j => ?_⟩⟩
      · exact f (.inl (.inl (rel.inj i n a j ea (fun z => f (.inr z)) fn)))
      · exact f (.inl (.inr (rel.inj i k b j eb (fun z => f (.inr z)) fk)))
    · exact ⟨(rel.deck p e).1, fun i f => (rel.deck p e).2 i fun z => f (.inr z)⟩
  · rcases hp with rfl | hp
    · rcases hq with rfl | hq
      · rfl
      · obtain ⟨d1, d2, d3, d4⟩ := dk0 q hq
        rcases i with i | i | i
        · exact absurd i.symm d1
        · exact absurd i.symm d2
        · exact absurd i.symm d4
    · rcases hq with rfl | hq
      · obtain ⟨d1, d2, d3, d4⟩ := dk0 p hp
        rcases i with i | i | i
        · exact absurd i d1
        · exact absurd i d3
        · exact absurd i d4
      · exact rel.dks p q hp hq i
theorem Out.post {K : PySem.W.Frag} {w : Wd} {h : Hd} {QD : Pq} {Q : VK} (post : Post K w h QD Q) : Post K w h (Out QD) Q := by
  intro w' h' d v x rel r q
  cases q with
  | is s q =>
    obtain ⟨rel2, x2⟩ := rel_le s rel
    exact post w' _ d v (x.trans x2) rel2 r q
  | @fin n ds _ g e s z q =>
    cases r with
    | @ref _ a ea =>
      obtain ⟨rel2, x2⟩ := rel_ice (p := fun i => i = n) s (fun i hi => by rw [hi]; exact ⟨z, _, e⟩) rel
      obtain ⟨a', ea', xs, hx, rx, lx⟩ := rel.has n _ e
      cases ea.symm.trans ea'
      exact post (w'.ice fun i => i = n) g (.lst ds) (.ref a) (x.trans x2) rel2 (.lst ⟨ice_nmut rel e ea rfl, hx⟩ lx (rx.mono x2)) q
  | @deck n k _ g e s z zk q =>
    cases r with
    | @ref _ a ea =>
      obtain ⟨ns, i, j, e1, e2, l⟩ := e
      obtain ⟨b, eb, _⟩ := rel.has k _ e2
      obtain ⟨rel2, x2⟩ := rel_deck rel ⟨ns, i, j, e1, e2, l⟩ ea eb s z zk
      exact post (w'.decked n k a b) g .deck (.ref a) (x.trans x2) rel2 (.deck (p := (a, b)) (.inl rfl)) q

/-! ### a def by its body -/
def startD (N : List Str) (ds : List D) : Sl := ds.map some ++ List.replicate (N.length - ds.length) none
theorem start_rel {K : PySem.W.Frag} {wd : Wd} {N : List Str} {ds : List D} {vs : List V} (r : RDs K wd ds vs) : RSl K wd (startD N ds) (L2.start N vs) := by
  have hl := r.length
  refine ⟨?_, fun i d e => ?_⟩
  · unfold startD L2.start
    simp [hl]
  · unfold startD at e
    by_cases hi : i < ds.length
    · rw [List.getElem?_append_left (by simpa using hi), List.getElem?_map] at e
      cases q : ds[i]? with
      | none => rw [q] at e; cases e
      | some d' =>
        rw [q] at e; cases e
        obtain ⟨v, e1, e2⟩ := r.get q
        refine ⟨v, ?_, e2⟩
        unfold L2.start
        rw [List.getElem?_append_left (by rw [List.length_map, ← hl]; exact hi), List.getElem?_map, e1]
        rfl
    · rw [List.getElem?_append_right (by simpa using hi), List.getElem?_replicate] at e
      split at e <;> cases e
/-- the module has no names of its own where the text means the built-in ones -/
structure NoOwn (mg : Str → Option Value) (base : Heap) : Prop where
  bl : ∀ b : Bl, mg b.name = none
  ty : ∀ t : Ty, mg t.nm = none
  rng : mg "range" = none
  more : ∀ x ∈ moreN, mg x = none
  sys : ∃ o, base.get? sysModules = some o
section
variable {P : Program} {w : World} {K : PySem.W.Frag} {mg : Str → Option Value} {base : Heap}
theorem fn_body {x qual : Str} {st : Stmt} {f : Addr} {fd : FuncData} {N ps : List Str} {k : Nat} {sp : Spd} {code : Sts} (F : Fun K x qual st f fd) (S : FnScope N ps (defScope st)) (hn : NoOwn mg base)
    (ht : tSs N (defScope st) (fun _ => true) code (defBody st) = true) (hh : hSs (FnAt P w K mg base k) (GlAt w K mg) code) (len : ∀ ds h Q, sp ds h Q → ds.length = ps.length)
    (body : ∀ ds h Q, sp ds h Q → wSs code { nx := fun _ h' => Out Q .non h', rt := Out Q } (startD N ds) h) : FnG P w K mg base (k + 1) f fd ps sp := by
  obtain ⟨oc, od, kV, doc, pm, an, cdv, ct, osl, rfl, lk, hcd⟩ := F.ex
  refine ⟨len, fun A outer s wd h ds args us vs QD Q hr hg e0 hb rv rel rd q post => ?_⟩
  have old : ∀ b o, base.get? b = some o → s.heap.get? b = some o := fun b o e => (e0.bs b o e).1
  have inS : K.In s.heap := e0.mod.kin.keeps old
  refine codeAny_call_function hr.depth (inS _ _ lk) rfl S.co S.gen rfl (PySem.W.codeRec_of inS hcd) (hb _ _ _ _ ?_)
  refine wpAny_newFunctionEnv_cells S.kind (fun y hy => ?_) fun env he s1 xc => ?_
  · obtain ⟨n, v⟩ := y
    rcases S.par n (List.of_mem_zip hy).1 with z | z
    · exact .inl z
    · exact .inr ⟨z, PySem.W.cellsFrom_some _ _ _ (.inl z)⟩
  · subst he
    refine ⟨(e0.mod.nolimit.keeps old).keeps xc.toInCall.keep, codeAny_func ?_⟩
    have I := inv_start (CX := CX0) (qual := qual) (f := f) (cd := cdv) (E := E0) S hr.hd e0 (by rw [← rd.length]; exact len _ _ _ q) rv xc
    have c : Cxt (cxOf CX0 P w K mg base N qual (defScope st) f cdv A outer s wd.H E0).nox N (defScope st) (fun _ => true) k := ⟨rfl, S.nd, rfl, rfl, rfl, rfl, hr.deeper _, hg, hn.bl, hn.ty, hn.rng, hn.more, hn.sys⟩
    have go := (okSs c S.kind code _ ht hh).nox
    refine wpAny_mono (go.run [] s1 (L2.start N vs) wd.H { nx := fun _ H' => Q .non H', rt := Q } I ⟨wd, startD N ds, h, _, rfl, rel, start_rel rd, body ds h QD q, ?_, Out.post post, fun _ _ _ _ _ _ _ z => z, fun _ _ _ _ _ _ _ z => z⟩) (fun fl s' hs => ?_) fun e s' hs => hs
    · exact fun w' h' σd σ x' rel' _ q' => Out.post post w' h' .non .non x' rel' .non q'
    · cases fl with
      | ret u =>
        obtain ⟨v, _, H', J, r', q'⟩ := hs
        exact ⟨v, H', J.os, J.bare, J.base, J.hok, r', q'⟩
      | next =>
        obtain ⟨_, H', J, q'⟩ := hs
        exact ⟨.non, H', J.os, J.bare, J.base, J.hok, rfl, q'⟩
      | brk => obtain ⟨_, _, _, z⟩ := hs; exact False.elim z
      | cont => obtain ⟨_, _, _, z⟩ := hs; exact False.elim z
/-- what of a def's parameters is fixed by its text -/
def plainArgs (st : Stmt) (ps : List Str) : Bool := decide ((defArgs st).args.map (·.arg) = ps) && (defArgs st).posonlyargs.isEmpty && (defArgs st).vararg.isNone && (defArgs st).kwonlyargs.isEmpty && (defArgs st).kwarg.isNone && decide ps.Nodup
theorem fn_at {x qual : Str} {st : Stmt} {f : Addr} {fd : FuncData} {N ps : List Str} {k : Nat} {sp : Spd} {code : Sts} (F : Fun K x qual st f fd) (hf : mg x = some (.ref f)) (hp : plainArgs st ps = true) (S : FnScope N ps (defScope st)) (hn : NoOwn mg base)
    (ht : tSs N (defScope st) (fun _ => true) code (defBody st) = true) (hh : hSs (FnAt P w K mg base k) (GlAt w K mg) code) (len : ∀ ds h Q, sp ds h Q → ds.length = ps.length)
    (body : ∀ ds h Q, sp ds h Q → wSs code { nx := fun _ h' => Out Q .non h', rt := Out Q } (startD N ds) h) : FnAt P w K mg base (k + 1) x ps sp := by
  refine ⟨f, fd, hf, F.kp, ?_, fn_body F S hn ht hh len body⟩
  obtain ⟨oc, od, kV, doc, pm, an, cdv, ct, osl, rfl, lk, hcd⟩ := F.ex
  unfold plainArgs at hp
  simp only [Bool.and_eq_true, decide_eq_true_eq, List.isEmpty_iff, Option.isNone_iff_eq_none] at hp
  exact ⟨hp.1.1.1.1.1, hp.1.1.1.1.2, hp.1.1.1.2, hp.1.1.2, hp.1.2, rfl, hp.2⟩
end

/-! ### drawing: a def that turns a deck's cells, called with the deck -/
/-- of the deck's cells alone -/
def spCell : Spd := fun ds h Q => ∃ (n k : Nat) (m : Int), ds = [.ref n, .int m] ∧ (1 ≤ m ∧ m.natAbs.log2 < 9000) ∧ n ≠ k ∧ DeckC h n k ∧ ∀ r h', 0 ≤ r → r < m → DeckC h' n k → Q (.int r) h'
/-- of the deck -/
def spDraw : Spd := fun ds h Q => ∃ m : Int, ds = [.deck, .int m] ∧ (1 ≤ m ∧ m.natAbs.log2 < 9000) ∧ ∀ r, 0 ≤ r → r < m → Q (.int r) h
section
variable {P : Program} {w : World} {K : PySem.W.Frag} {mg : Str → Option Value} {base : Heap}
theorem draw_deck {k : Nat} {x : Str} {ps : List Str} (F : FnAt P w K mg base k x ps spCell) : FnAt P w K mg base k x ps spDraw := by
  obtain ⟨f, fd, a1, a2, a3, F⟩ := F.ex
  refine ⟨f, fd, a1, a2, a3, ?_, ?_⟩
  · rintro ds h Q ⟨m, rfl, hm, q⟩
    exact F.len [.ref 0, .int m] (fun i => if i = 0 then some (.lst [.ref 1, .int 0, .int 0]) else some (.lst [])) (fun _ _ => True) ⟨0, 1, m, rfl, hm, by omega, ⟨[], 0, 0, rfl, rfl, by decide⟩, fun _ _ _ _ _ => trivial⟩
  · rintro A outer s wd h ds args us vs QD Q hr hg e0 hb rv rel rd ⟨m, rfl, hm, q⟩ post
    cases rd with
    | cons r1 rd => cases rd with
      | cons r2 rd =>
        cases rd
        cases r2
        cases r1 with
        | @deck p ep =>
          obtain ⟨⟨np, ns, i, j, e1, e2, l⟩, dn⟩ := rel.deck p ep
          let w1 : Wd := { m := fun i => if i = 0 then some p.1 else if i = 1 then some p.2 else none, fz := fun _ => False, H := wd.H, dk := fun _ => False }
          let h1 : Hd := fun z => if z = 0 then some (.lst [.ref 1, .int i, .int j]) else if z = 1 then some (.lst (ns.map D.int)) else none
          have m0 : w1.m 0 = some p.1 := rfl
          have m1 : w1.m 1 = some p.2 := rfl
          have m2 : ∀ n a, w1.m n = some a → (n = 0 ∧ a = p.1) ∨ (n = 1 ∧ a = p.2) := fun n a e => by
            by_cases h0 : n = 0
            · subst h0
              cases m0.symm.trans e
              exact .inl ⟨rfl, rfl⟩
            · by_cases h1 : n = 1
              · subst h1
                cases m1.symm.trans e
                exact .inr ⟨rfl, rfl⟩
              · have : w1.m n = none := by show (if n = 0 then _ else if n = 1 then _ else _) = _; rw [if_neg h0, if_neg h1]
                rw [this] at e; cases e
          have mu : ∀ a, w1.mut a → a = p.1 ∨ a = p.2 := fun a z => by
            rcases z with ⟨n, e, _⟩ | ⟨_, z, _⟩
            · rcases m2 n a e with z | z
              · exact .inl z.2
              · exact .inr z.2
            · exact z.elim
          have rel1 : RelW K w1 h1 := by
            refine ⟨fun n k a z1 z2 _ _ => ?_, fun n c e => ?_, fun _ _ _ z => z, fun n a e => ?_, ⟨2, fun n hn => ?_⟩, fun _ z => z.elim, fun _ _ z => z.elim⟩
            · rcases m2 n a z1 with ⟨rfl, rfl⟩ | ⟨rfl, rfl⟩
              · rcases m2 k _ z2 with ⟨rfl, _⟩ | ⟨_, z⟩
                · rfl
                · exact absurd z np
              · rcases m2 k _ z2 with ⟨_, z⟩ | ⟨rfl, _⟩
                · exact absurd z.symm np
                · rfl
            · by_cases h0 : n = 0
              · subst h0
                cases (show h1 0 = some (.lst [.ref 1, .int i, .int j]) from rfl).symm.trans e
                exact ⟨p.1, m0, _, e1, .cons (.ref m1) (.cons (.int _) (.cons (.int _) .nil)), by show 3 ≤ _; decide⟩
              · by_cases h1' : n = 1
                · subst h1'
                  cases (show h1 1 = some (.lst (ns.map D.int)) from rfl).symm.trans e
                  exact ⟨p.2, m1, _, e2, ints_rds ns, by rw [List.length_map]; exact Nat.le_trans l (by decide)⟩
                · have : h1 n = none := by show (if n = 0 then _ else if n = 1 then _ else _) = _; rw [if_neg h0, if_neg h1']
                  rw [this] at e; cases e
            · rcases m2 n a e with ⟨_, rfl⟩ | ⟨_, rfl⟩
              · rw [e1]; simp
              · rw [e2]; simp
            · show (if n = 0 then _ else if n = 1 then _ else _) = _
              rw [if_neg (by omega), if_neg (by omega)]
          refine F.run A outer s w1 h1 [.ref 0, .int m] args us _ (fun d h' => ∃ r, d = .int r ∧ 0 ≤ r ∧ r < m ∧ DeckC h' 0 1) Q hr hg e0 hb rv rel1 (.cons (.ref m0) (.cons (.int _) .nil)) ⟨0, 1, m, rfl, hm, by omega, ⟨ns, i, j, rfl, rfl, l⟩, fun r h' z1 z2 z3 => ⟨r, rfl, z1, z2, z3⟩⟩ fun w2 h2 d v x2 rel2 r2 => ?_
          rintro ⟨r, rfl, r0, r3, ns', i', j', g1, g2, l'⟩
          cases r2
          have kp : ∀ a o, a ≠ p.1 → a ≠ p.2 → wd.H a = some o → w2.H a = some o := fun a o z1 z2 e => x2.keep a o (fun z => (mu a z).elim z1 z2) e
          let w3 : Wd := { m := wd.m, fz := wd.fz, H := w2.H, dk := wd.dk }
          have off : ∀ n a, wd.m n = some a → ¬ wd.fz n → a ≠ p.1 ∧ a ≠ p.2 := fun n a e f => ⟨fun z => (dn n f).1 (z ▸ e), fun z => (dn n f).2 (z ▸ e)⟩
          have some_ : ∀ a, wd.H a ≠ none → ∃ o, wd.H a = some o := fun a z => by
            cases e : wd.H a with
            | none => exact absurd e z
            | some o => exact ⟨o, rfl⟩
          have x3 : Ext wd w3 h h := by
            refine ⟨fun _ _ e => e, fun _ e => e, fun a o z e => kp a o (fun y => z (.inr ⟨p, ep, .inl y⟩)) (fun y => z (.inr ⟨p, ep, .inr y⟩)) e, fun _ z => .inl z, fun n a e z f => ⟨z, ?_, f⟩⟩
            obtain ⟨o, eo⟩ := some_ a (rel.there n a e)
            obtain ⟨z1, z2⟩ := off n a e f
            exact (kp a o z1 z2 eo).trans eo.symm
          -- the deck's cells as they are now
          obtain ⟨b1, eb1, xs, hx, rx, _⟩ := rel2.has 0 _ g1
          obtain ⟨b2, eb2, ys, hy, ry, _⟩ := rel2.has 1 _ g2
          cases (x2.m 0 _ m0).symm.trans eb1
          cases (x2.m 1 _ m1).symm.trans eb2
          have hy' := rds_ints ry
          subst hy'
          have hx' : xs = [.ref p.2, .int i', .int j'] := by
            cases rx with
            | cons r1 ra => cases ra with
              | cons r2 ra => cases ra with
                | cons r3 ra =>
                  cases ra
                  cases r2; cases r3
                  cases r1 with
                  | ref e =>
                    cases e.symm.trans (x2.m 1 _ m1)
                    rfl
          subst hx'
          have there : ∀ a, wd.H a ≠ none → w2.H a ≠ none := fun a z => by
            obtain ⟨o, eo⟩ := some_ a z
            by_cases z1 : a = p.1
            · rw [z1, hx]; simp
            · by_cases z2 : a = p.2
              · rw [z2, hy]; simp
              · rw [kp a o z1 z2 eo]; simp
          have rel3 : RelW K w3 h := by
            refine ⟨rel.inj, fun n c e => ?_, rel.live, fun n a e => there a (rel.there n a e), rel.fin, fun q eq => ?_, rel.dks⟩
            · obtain ⟨a, ea, rc⟩ := rel.has n c e
              obtain ⟨z1, z2⟩ := off n a ea (rel.live n c e)
              refine ⟨a, ea, ?_⟩
              cases c with
              | lst ds =>
                obtain ⟨xs, i2, r, l⟩ := rc
                exact ⟨xs, kp a _ z1 z2 i2, r.mono x3, l⟩
              | dK kvs =>
                obtain ⟨xs, i2, i3, r⟩ := rc
                exact ⟨xs, kp a _ z1 z2 i2, i3, r.mono x3⟩
            · obtain ⟨⟨nq, ms, s1, s2, f1, f2, fl⟩, dn'⟩ := rel.deck q eq
              refine ⟨?_, dn'⟩
              by_cases hq : q = p
              · subst hq
                exact ⟨nq, ns', i', j', hx, hy, l'⟩
              · have z1 : q.1 ≠ p.1 := fun z => hq (rel.dks q p eq ep (.inl z))
                have z2 : q.1 ≠ p.2 := fun z => hq (rel.dks q p eq ep (.inr (.inl z)))
                have z3 : q.2 ≠ p.1 := fun z => hq (rel.dks p q ep eq (.inr (.inl z.symm))).symm
                have z4 : q.2 ≠ p.2 := fun z => hq (rel.dks q p eq ep (.inr (.inr z)))
                exact ⟨nq, ms, s1, s2, kp _ _ z1 z2 f1, kp _ _ z3 z4 f2, fl⟩
          exact post w3 h (.int r) (.int r) x3 rel3 (.int r) (q r r0 r3)
end
end G

/-! The law's end. -/
namespace G
open PySem PySem.Spec PyProof.Rows L2

/-- the law's own promise -/
def spLaw : Spd := fun ds _ Q => ds = [.scr] ∧ ∀ h', Q (.bl true) h'
/-- nothing is known but the script -/
def wd0 (H : Hp) : Wd := { m := fun _ => none, fz := fun _ => False, H := H, dk := fun _ => False }
theorem rel0 {K : PySem.W.Frag} {H : Hp} : RelW K (wd0 H) fun _ => none :=
  ⟨fun _ _ _ e => (by cases e), fun _ _ e => (by cases e), fun _ _ e => (by cases e), fun _ _ e => (by cases e), ⟨0, fun _ _ => rfl⟩, fun _ e => e.elim, fun _ _ e => e.elim⟩
theorem mut0 {H : Hp} {a : Addr} : ¬ (wd0 H).mut a := fun q => by
  rcases q with ⟨_, e, _⟩ | ⟨_, e, _⟩
  · cases e
  · exact e
/-- the script's track: none where the module owns it -/
def trackOf (a : Addr) (o : HO) (own : Bool) : Hp := fun b => if own = true then none else if b = a then some o else none
section
variable {P : Program} {w : World} {K : PySem.W.Frag} {mg mb : Str → Option Value} {k : Nat} {fa a : Addr} {x y : Str} {s₁ : Shared} {vs : List Value} {ns : List Int}
theorem end_call (KX : K.In s₁.heap) (hns : s₁.heap.Ns mainGlobals mg) (hb : s₁.heap.Ns builtinsNs mb) (hbb : ∀ x : Str, x ≠ "__name__" → mb x = bootBuiltins x) (hlim : s₁.heap.NoLimit) (hg : s₁.gens = #[])
    (ha : s₁.heap.get? a = some { cls := .type "list", data := .seq vs.toArray }) (hi : IntsAre vs ns) (hl : ns.length ≤ 63) (hr : Room k callerA) (hmg : mg y = some (.ref fa))
    (hsy : ∃ ms, s₁.heap.Ns sysModules ms)
    (F : ∀ base : Heap, K.In base → base.Ns mainGlobals mg → (∃ o, base.get? sysModules = some o) → FnAt P w K mg base k y [x] spLaw) :
    codeAny (model P w) callerA (.call (.ref fa) ⟨[.ref a], []⟩) (fun r s' => r = .ok (.ret (.bool true)) ∧ OldK s₁.heap s'.heap ∧ s'.os = s₁.os ∧ AllBare s'.gens) s₁ := by
  let ob : Obj := { cls := .type "list", data := .seq vs.toArray }
  have line : ns.length ≤ sizeLine := Nat.le_trans hl (by decide)
  let own := (K.lookup a).isSome
  let H : Hp := trackOf a (.frz ob (.lst (ns.map V.int))) own
  have off : ∀ b, b ≠ a → H b = none := fun b n => by
    show (if own = true then _ else if b = a then _ else _) = _
    rw [if_neg n]
    split <;> rfl
  have onOwn : own = true → ∀ b, H b = none := fun e b => if_pos e
  have onA : own = false → H a = some (.frz ob (.lst (ns.map V.int))) := fun e => by
    show (if own = true then _ else if a = a then _ else _) = _
    rw [if_neg (by rw [e]; decide), if_pos rfl]
  have kind : ∀ {b : Addr} {o : Obj} {es : Array DictEntry} {ep : Nat}, s₁.heap.get? b = some o → o.data = .dict es ep → H b = none := fun {b o es ep} e d => by
    by_cases hb : b = a
    · subst hb
      cases ha.symm.trans e
      cases d
    · exact off b hb
  have keepNs : ∀ {b : Addr} {m : Str → Option Value}, s₁.heap.Ns b m → (hidT s₁.heap H).Ns b m := fun ⟨o, es, ep, e, d, r⟩ => ⟨o, es, ep, hidT_get e (kind e d), d, r⟩
  have kin : K.In (hidT s₁.heap H) := fun b o e => hidT_get (KX b o e) (by
    by_cases hb : b = a
    · subst hb
      exact onOwn (by show (K.lookup b).isSome = true; rw [e]; rfl) b
    · exact off b hb)
  have hM : Mod K mg (hidT s₁.heap H) := by
    obtain ⟨mc, l1, l2⟩ := hlim
    exact ⟨kin, keepNs hns, ⟨mb, keepNs hb, hbb⟩, mc, keepNs l1, l2⟩
  have hok : HOk P w H s₁.heap := fun b o e => by
    cases eo : own with
    | true => rw [onOwn eo b] at e; cases e
    | false =>
      by_cases hb : b = a
      · subst hb
        cases (onA eo).symm.trans e
        exact ⟨ha, by rw [List.length_map]; exact line, vs, _, vals_ints hi, ha⟩
      · rw [off b hb] at e; cases e
  have sq : SqL K H a (ns.map V.int) := by
    cases eo : K.lookup a with
    | none => exact .inl (.inr ⟨ob, onA (by show (K.lookup a).isSome = false; rw [eo]; rfl)⟩)
    | some o =>
      cases ha.symm.trans (KX a o eo)
      exact .inr ⟨_, vs.toArray, _, eo, rfl, rfl, rfl, by rw [List.size_toArray, hi.length]; exact line, by simpa using vals_ints hi⟩
  have e0 : Env0 P w K mg (hidT s₁.heap H) callerA [] s₁ H := ⟨rfl, hM, fun _ _ e => of_hidT e, Nat.le_of_eq (hidT_size _ _), trivial, fun _ z => absurd z List.not_mem_nil, hok, .of_eq hg⟩
  have sysin : ∃ o, (hidT s₁.heap H).get? sysModules = some o := by
    obtain ⟨_, o, es, ep, e, d, _⟩ := hsy
    exact ⟨o, hidT_get e (kind e d)⟩
  obtain ⟨f, fd, e1, e2, e3, G⟩ := (F _ kin (keepNs hns) sysin).ex
  cases hmg.symm.trans e1
  refine codeAny_mono (G.run callerA [] s₁ (wd0 H) (fun _ => none) [.scr] ⟨[.ref a], []⟩ [.ref a] [.ref a] (fun d _ => d = .bl true) (fun v _ => v = .bl true) hr rfl e0 (fn_binds e3 rfl) (.cons rfl .nil) rel0 (.cons (.scr sq hl (.inl mut0)) .nil) ⟨rfl, fun _ => rfl⟩ fun w' h' d v _ _ r q => ?_) fun r s' z => ?_
  · subst q
    cases r
    rfl
  · match r, z with
    | .ok (.ret u), z =>
      obtain ⟨v, H', os, bare, un, hok', r', q⟩ := z
      cases (show v = .bl true from q)
      cases (show u = Value.bool true from r')
      refine ⟨rfl, OldK.of_keep fun b o e => ?_, os, bare⟩
      by_cases hb : H b = none
      · exact un.keep b o e hb List.not_mem_nil List.not_mem_nil
      · have hba : b = a := Decidable.byContradiction fun n => hb (off b n)
        subst hba
        have eo : own = false := by
          cases z : own with
          | false => rfl
          | true => exact absurd (onOwn z b) hb
        cases ha.symm.trans e
        exact (hok' b _ (un.frzs b ob _ (onA eo))).1
    | .ok .next, z => exact z.elim
    | .ok .brk, z => exact z.elim
    | .ok .cont, z => exact z.elim
    | .error e, z => exact z.elim
end
theorem walk_end {l : PySem.W.OpenLaw} {n k : Nat} {q : Program} {loose : List Str} {XP : (Str → Option Value) → Heap → Prop} {YP : World → Heap → Prop} {d : DefRec} {K : Params → PySem.W.Frag} {x : Str}
    (hn : l.most = some n) (hn2 : n ≤ 63) (hq : importsNone q = true) (hdf : d.params.defaults = []) (hr : Room k callerA) (hY : ∀ (w : World) (h : Heap), YP w h → (K w.params).In h)
    (F : ∀ (w : World) (mg : Str → Option Value) (h : Heap), (K w.params).In h → h.Ns mainGlobals mg → ∀ base : Heap, (K w.params).In base → base.Ns mainGlobals mg → (∃ o, base.get? sysModules = some o) → FnAt l.prog w (K w.params) mg base k d.name [x] spLaw) :
    PySem.W.WalkO q loose XP YP l.row.toRowW d [] (fun f vs => PySem.call f vs) :=
  Att.attach_call hn hdf fun w s₀ s₁ mg mb fa o pm cd doc a vs ns G Y ho hd hcd hmg hobj hints hlen hg =>
    end_call (hY w _ Y) G.T.g G.T.b G.T.builtins G.T.nolimit hg hobj hints (Nat.le_trans hlen hn2) hr hmg (let ⟨mm, h, _⟩ := (G.T.seer hq).mods; ⟨mm, h⟩) (F w mg _ (hY w _ Y) G.T.g)
end G

/-! Plain helps for readings; the defs that every law has: deck, draw, pick. -/
namespace G
open PySem PySem.Spec PyProof.Rows L2

theorem cut_ints (ns : List Int) (lo hi : Option Int) : ∃ ms : List Int, cutD (ns.map D.int) lo hi = ms.map D.int ∧ ms.length ≤ ns.length := by
  unfold cutD
  rw [← List.map_drop, ← List.map_take]
  refine ⟨_, rfl, ?_⟩
  rw [List.length_take, List.length_drop]
  omega
/-- a comprehension that leaves the heap as it is -/
theorem compL_fm {g : D → (Sl → Prop) → Prop} {t : WT} {e : WE} {stay : Hd → Prop} {h : Hd} {Q : List D → Hd → Prop} (p : D → Bool) (f : D → D) (P : D → Prop) (hs : stay h)
    (step : ∀ d, P d → ∀ (Y : D → Hd → Prop) (Z : Hd → Prop), (p d = true → Y (f d) h) → (p d = false → Z h) → g d fun σ => t σ h fun b h1 => if b = true then e σ h1 Y else Z h1) :
    ∀ (ds acc : List D), (∀ d ∈ ds, P d) → Q (acc ++ (ds.filter p).map f) h → compL g t e stay ds acc h Q
  | [], acc, _, q => ⟨hs, by simpa using q⟩
  | d :: ds, acc, hp, q => by
    refine ⟨hs, step d (hp d (by simp)) _ _ (fun y => ?_) fun z => ?_⟩
    · exact compL_fm p f P hs step ds _ (fun d m => hp d (by simp [m])) (by simpa [y] using q)
    · exact compL_fm p f P hs step ds _ (fun d m => hp d (by simp [m])) (by simpa [z] using q)
/-- the same, each turn's value one of some -/
theorem compL_any {g : D → (Sl → Prop) → Prop} {t : WT} {e : WE} {stay : Hd → Prop} {h : Hd} {Q : List D → Hd → Prop} (R : D → D → Prop) (hs : stay h)
    (step : ∀ d (Y : D → Hd → Prop) (Z : Hd → Prop), (∀ v, R d v → Y v h) → g d fun σ => t σ h fun b h1 => if b = true then e σ h1 Y else Z h1) :
    ∀ (ds acc : List D), (∀ vs : List D, vs.length = ds.length → (∀ (i : Nat) (d v : D), ds[i]? = some d → vs[i]? = some v → R d v) → Q (acc ++ vs) h) → compL g t e stay ds acc h Q
  | [], acc, q => ⟨hs, by simpa using q [] rfl (fun i d v e => by simp at e)⟩
  | d :: ds, acc, q => by
    refine ⟨hs, step d _ _ fun v rv => ?_⟩
    refine compL_any R hs step ds _ fun vs hl hv => ?_
    have := q (v :: vs) (by simp [hl]) (fun i d' v' e1 e2 => by
      cases i with
      | zero => simp at e1 e2; subst e1; subst e2; exact rv
      | succ i => exact hv i d' v' (by simpa using e1) (by simpa using e2))
    simpa using this
/-- a for by what stands ahead of each turn -/
theorem forL_ind {g : D → Sl → (Sl → Prop) → Prop} {b : Ed → Sl → Hd → Prop} {stay : Hd → Prop} {E : Ed} (I : List D → Sl → Hd → Prop) (h0 : ∀ σ h, I [] σ h → stay h ∧ E.nx σ h)
    (h1 : ∀ d ds σ h (C : Sl → Hd → Prop), I (d :: ds) σ h → (∀ σ' h', I ds σ' h' → C σ' h') → stay h ∧ g d σ fun σ' => b { nx := C, ct := C, bk := E.nx, rt := E.rt } σ' h) :
    ∀ ds σ h, I ds σ h → forL g b stay E ds σ h
  | [], σ, h, i => h0 σ h i
  | d :: ds, σ, h, i => h1 d ds σ h _ i fun σ' h' i' => forL_ind I h0 h1 ds σ' h' i'
/-- flat lists of whole numbers -/
theorem areD_ints : ∀ ns : List Int, D.areD (ns.map D.int) = true
  | [] => by simp only [List.map_nil, D.areD]
  | n :: ns => by simp only [List.map_cons, D.areD, D.isD, areD_ints ns, Bool.and_self]
theorem pys_ints : ∀ ns : List Int, D.pys (ns.map D.int) = ns.map PyData.int
  | [] => by simp only [List.map_nil, D.pys]
  | n :: ns => by simp only [List.map_cons, D.pys, D.py, pys_ints ns]
theorem lay_ints : ∀ ns : List Int, PyData.canLayAll0 (ns.map PyData.int) = true
  | [] => by simp only [List.map_nil, PyData.canLayAll0]
  | n :: ns => by simp only [List.map_cons, PyData.canLayAll0, PyData.canLay0, lay_ints ns, Bool.and_self]
theorem dep_ints : ∀ ns : List Int, PyData.depthAll (ns.map PyData.int) = 0
  | [] => by simp only [List.map_nil, PyData.depthAll]
  | n :: ns => by simp only [List.map_cons, PyData.depthAll, PyData.depth, dep_ints ns, Nat.max_self]
theorem shaped_ints (ns : List Int) : SeqAt.shaped (D.lst (ns.map D.int)).py = true := by
  simp only [D.py, SeqAt.shaped, PyData.canLay0, PyData.depth, pys_ints, lay_ints, dep_ints]
  rfl
theorem isD_ints (ns : List Int) : (D.lst (ns.map D.int)).isD = true := by simp only [D.isD, areD_ints]
theorem eqvAll_nil (xs : List PyData) : PyData.eqvAll xs [] = xs.isEmpty := by cases xs <;> simp only [PyData.eqvAll, List.isEmpty]
/-- a list of whole numbers beside the empty list -/
theorem ne_nil_ints {ns : List Int} {h : Hd} {Q : Pq} (q : Q (.bl (!ns.isEmpty)) h) : eqD true (.lst (ns.map D.int)) (.lst []) h Q := by
  unfold eqD
  simp only [view]
  refine ⟨.of ⟨isD_ints ns, by simp only [D.isD, D.areD], shaped_ints ns, by decide⟩, ?_⟩
  have e : PyData.eqv (D.lst (ns.map D.int)).py (D.lst []).py = ns.isEmpty := by
    simp only [D.py, D.pys, PyData.eqv, eqvAll_nil, pys_ints]
    cases ns <;> rfl
  rw [e]
  exact q

/-! ### _law_deck -/
abbrev N__law_deck : List Str := ["_law_script", "_law_cells", "_law_cell"]
def c__law_deck : Sts := (.cons (.asg (.nm 1) (.blt .list (.cons (.sl (.var 0) .none (.some (.cst (.int 63)))) .nil)))
  (.cons (.ret (.new (.cons (.rev true (.var 1)) (.cons (.bin .Add (.blt .sum (.cons (.lc false [("_law_cell", 2)] (.nm 2) (.seq (.var 1)) .none (.bin .Mod (.var 2) (.cst (.int 1000003)))) .nil)) (.bin .Mult (.cst (.int 7919)) (.blt .len (.cons (.var 1) .nil)))) (.cons (.cst (.int 0)) .nil)))))
  .nil))
def sp__law_deck : Spd := fun ds h Q => ds = [.scr] ∧ Q .deck h
theorem b__law_deck (ds : List D) (h : Hd) (Q : Pq) (q : sp__law_deck ds h Q) : wSs c__law_deck { nx := fun _ h' => Out Q .non h', rt := Out Q } (startD N__law_deck ds) h := by
  obtain ⟨rfl, q⟩ := q
  show wSs c__law_deck _ [some .scr, none, none] h
  simp only [c__law_deck, wSs, wS, wT, wTo, wE, wA, wO, wI, getS, gT, gTs, setAll, List.getElem?_cons_zero, List.getElem?_cons_succ, List.set_cons_zero, List.set_cons_succ, binD, augD, iaddD, imulD, addD, subD, mulD, fdivD, modD, powD, negD, cmpD, eqD, ordD, truthD, boolD, intO, view, subsD, sliceD, listed, dicted, bltD, seqD, seqI, zipI, zipSI, anyI, lstI, enumI, revI, starI, lenTs, mthD, lstOf, mAppend, mPop, mExtend, mUpper, mJoin, strsOf, tyD, Mt.T, setD, wipeD, List.map_cons, List.map_nil, Bool.false_eq_true, if_true, if_false, ↓reduceIte]
  intro ns hns k hk
  obtain ⟨ms, e, l⟩ := cut_ints ns none (some 63)
  rw [e]
  refine compL_fm (fun _ => true) (fun d => match d with | .int i => .int (i % 1000003) | d => d) (fun d => ∃ i, d = .int i) trivial ?_ _ _ ?_ ?_
  · rintro d ⟨i, rfl⟩ Y Z y z
    simp only [wSs, wS, wT, wTo, wE, wA, wO, wI, getS, gT, gTs, setAll, List.getElem?_cons_zero, List.getElem?_cons_succ, List.set_cons_zero, List.set_cons_succ, binD, augD, iaddD, imulD, addD, subD, mulD, fdivD, modD, powD, negD, cmpD, eqD, ordD, truthD, boolD, intO, view, subsD, sliceD, listed, dicted, bltD, seqD, seqI, zipI, zipSI, anyI, lstI, enumI, revI, starI, lenTs, mthD, lstOf, mAppend, mPop, mExtend, mUpper, mJoin, strsOf, tyD, Mt.T, setD, wipeD, List.map_cons, List.map_nil, Bool.false_eq_true, if_true, if_false, ↓reduceIte]
    exact ⟨by decide, y rfl⟩
  · intro d hd
    obtain ⟨i, _, rfl⟩ := List.mem_map.mp hd
    exact ⟨i, rfl⟩
  · have e2 : [] ++ List.map (fun d => match d with | .int i => .int (i % 1000003) | d => d) (List.filter (fun _ => true) (ms.map D.int)) = (ms.map (· % 1000003)).map D.int := by
      rw [List.nil_append, List.filter_eq_self.mpr (fun _ _ => rfl), List.map_map, List.map_map]
      rfl
    rw [e2]
    simp only [intsOf_map, wSs, wS, wT, wTo, wE, wA, wO, wI, getS, gT, gTs, setAll, List.getElem?_cons_zero, List.getElem?_cons_succ, List.set_cons_zero, List.set_cons_succ, binD, augD, iaddD, imulD, addD, subD, mulD, fdivD, modD, powD, negD, cmpD, eqD, ordD, truthD, boolD, intO, view, subsD, sliceD, listed, dicted, bltD, seqD, seqI, zipI, zipSI, anyI, lstI, enumI, revI, starI, lenTs, mthD, lstOf, mAppend, mPop, mExtend, mUpper, mJoin, strsOf, tyD, Mt.T, setD, wipeD, List.map_cons, List.map_nil, Bool.false_eq_true, if_true, if_false, ↓reduceIte]
    refine ⟨.inl (by decide), fun n hn => ?_⟩
    have nk : k ≠ n := fun z => by rw [z, Hd.set_same] at hn; cases hn
    have hn' : h n = none := by rw [Hd.set_ne (fun z => nk z.symm)] at hn; exact hn
    refine Out.deck (k := k) (h := h) ⟨ms.reverse, _, _, Hd.set_same, ?_, by rw [List.length_reverse]; omega⟩ ((Hd.le.set (Hd.le.refl h) hk).set hn') hn' hk q
    rw [Hd.set_ne nk, Hd.set_same, List.map_reverse]

/-! ### _law_draw -/
abbrev N__law_draw : List Str := ["_law_deck_here", "_law_many", "_law_cell", "_law_mixed"]
def c_mix : Sts := (.cons (.asg (.nm 3) (.bin .Mod (.bin .Mult (.bin .Add (.bin .Add (.bin .Mod (.var 2) (.cst (.int 2147483629))) (.bin .Mult (.cst (.int 65537)) (.sub (.var 0) (.cst (.int 2))))) (.cst (.int 19))) (.cst (.int 48271))) (.cst (.int 2147483647))))
  (.cons (.asg (.nm 3) (.bin .Mod (.bin .Add (.bin .Add (.bin .Mult (.var 3) (.var 3)) (.bin .Mult (.cst (.int 69621)) (.sub (.var 0) (.cst (.int 2))))) (.cst (.int 23))) (.cst (.int 2147483587))))
  (.cons (.ret (.bin .Mod (.bin .FloorDiv (.bin .Mod (.bin .Add (.bin .Mult (.var 3) (.var 3)) (.bin .Mult (.cst (.int 39373)) (.var 3))) (.cst (.int 2147483563))) (.cst (.int 64))) (.var 1)))
  .nil)))
def c__law_draw : Sts := (.cons (.put (.var 0) (.cst (.int 2)) (.bin .Add (.sub (.var 0) (.cst (.int 2))) (.cst (.int 1))))
  (.cons (.asg (.nm 2) (.sub (.var 0) (.cst (.int 1))))
  (.cons (.ite (.val (.cmp .NotEq (.sub (.var 0) (.cst (.int 0))) (.lst .nil)))
  (.cons (.asg (.nm 2) (.mth .pop (.sub (.var 0) (.cst (.int 0))) .nil))
    (.cons (.ite (.val (.cmp .GtE (.var 2) (.bin .Pow (.cst (.int 10)) (.cst (.int 18)))))
    (.cons (.exp (.mth .append (.sub (.var 0) (.cst (.int 0))) (.cons (.bin .FloorDiv (.var 2) (.var 1)) .nil)))
      (.cons (.ret (.bin .Mod (.var 2) (.var 1)))
      .nil))
    .nil)
    .nil))
  .nil)
  c_mix)))
theorem nil_or_last {α : Type} (ns : List α) : ns = [] ∨ ∃ ms x, ns = ms ++ [x] := by
  rcases List.eq_nil_or_concat ns with h | ⟨ms, x, h⟩
  · exact .inl h
  · exact .inr ⟨ms, x, by rw [h, List.concat_eq_append]⟩
theorem at30 {α : Type} (a b c : α) : atI [a, b, c] 0 = some a := rfl
theorem at31 {α : Type} (a b c : α) : atI [a, b, c] 1 = some b := rfl
theorem at32 {α : Type} (a b c : α) : atI [a, b, c] 2 = some c := rfl
theorem ix32 {α : Type} (a b c : α) : ixN [a, b, c].length 2 = some 2 := rfl
theorem set32 {α : Type} (a b c d : α) : [a, b, c].set 2 d = [a, b, d] := rfl
/-- the mixing behind a draw -/
theorem b_mix {h : Hd} {n k : Nat} {s t c m : Int} {Q : Pq} (hn : h n = some (.lst [.ref k, .int s, .int t])) (hm : 1 ≤ m ∧ m.natAbs.log2 < 9000) {x3 : Option D} (q : ∀ r, 0 ≤ r → r < m → Out Q (.int r) h) :
    wSs c_mix { nx := fun _ h' => Out Q .non h', rt := Out Q } [some (.ref n), some (.int m), some (.int c), x3] h := by
  unfold c_mix
  simp only [hn, at32, wSs, wS, wT, wTo, wE, wA, wO, wI, getS, gT, gTs, setAll, List.getElem?_cons_zero, List.getElem?_cons_succ, List.set_cons_zero, List.set_cons_succ, binD, augD, iaddD, imulD, addD, subD, mulD, fdivD, modD, powD, negD, cmpD, eqD, ordD, truthD, boolD, intO, view, subsD, sliceD, listed, dicted, bltD, seqD, seqI, zipI, zipSI, anyI, lstI, enumI, revI, starI, lenTs, mthD, lstOf, mAppend, mPop, mExtend, mUpper, mJoin, strsOf, tyD, Mt.T, setD, wipeD, List.map_cons, List.map_nil, Bool.false_eq_true, if_true, if_false, ↓reduceIte]
  refine ⟨by decide, .inl (by decide), .inr (.inl (by decide)), by decide, ?_⟩
  generalize hy : ((c % 2147483629 + 65537 * t + 19) * 48271) % 2147483647 = y
  have y1 : 0 ≤ y ∧ y < 2147483647 := by omega
  refine ⟨.inl (by omega), .inl (by decide), by decide, ?_⟩
  generalize hz : ((y * y + 69621 * t + 23) : Int) % 2147483587 = z
  have z1 : 0 ≤ z ∧ z < 2147483587 := by
    generalize y * y + 69621 * t + 23 = u at hz
    omega
  refine ⟨.inl (by omega), .inl (by decide), by decide, ⟨by decide, .inl (by decide)⟩, by omega, ?_⟩
  exact q _ (Int.emod_nonneg _ (by omega)) (Int.emod_lt_of_pos _ (by omega))
theorem b__law_draw (ds : List D) (h : Hd) (Q : Pq) (q : spCell ds h Q) : wSs c__law_draw { nx := fun _ h' => Out Q .non h', rt := Out Q } (startD N__law_draw ds) h := by
  obtain ⟨n, k, m, rfl, hm, nk, ⟨ns, s, t, hn, hk, l⟩, q⟩ := q
  show wSs c__law_draw _ [some (.ref n), some (.int m), none, none] h
  unfold c__law_draw
  simp only [wSs, wS, wT, wE, getS, List.getElem?_cons_zero, List.getElem?_cons_succ, subsD, hn, at32, binD, addD, view, setD, ix32, set32, Hd.set_same, at31, at30, gT, List.set_cons_zero, List.set_cons_succ, cmpD, wA]
  have hk1 : h.set n (.lst [.ref k, .int s, .int (t + 1)]) k = some (.lst (ns.map D.int)) := by rw [Hd.set_ne (fun z => nk z.symm)]; exact hk
  generalize hh : h.set n (.lst [.ref k, .int s, .int (t + 1)]) = h1
  have hn1 : h1 n = some (.lst [.ref k, .int s, .int (t + 1)]) := by rw [← hh]; exact Hd.set_same
  rw [hh] at hk1
  have e1 : ∀ Q', eqD true (.ref k) (.lst []) h1 Q' = eqD true (.lst (ns.map D.int)) (.lst []) h1 Q' := fun Q' => by unfold eqD; simp only [view, hk1]
  rw [e1]
  apply ne_nil_ints
  simp only [truthD, view]
  rcases nil_or_last ns with rfl | ⟨ms, x, rfl⟩
  · simp only [List.isEmpty_nil, Bool.not_true, Bool.false_eq_true, if_false]
    exact b_mix hn1 hm fun r r0 r1 => .is (Hd.le.refl _) (q r h1 r0 r1 ⟨[], s, t + 1, hn1, hk1, by decide⟩)
  · have ne : (ms ++ [x]).isEmpty = false := by cases ms <;> rfl
    have el : (List.map D.int (ms ++ [x]))[(List.map D.int (ms ++ [x])).length - 1]? = some (.int x) := by simp
    have dl : (List.map D.int (ms ++ [x])).dropLast = ms.map D.int := by simp
    simp only [ne, Bool.not_false, if_true, ↓reduceIte, wSs, wS, wE, wA, wT, hn1, at30, mthD, lstOf, hk1, mPop, el, dl, subsD, getS, List.getElem?_cons_zero, List.getElem?_cons_succ, gT, List.set_cons_zero, List.set_cons_succ]
    have l2 : ms.length + 1 ≤ 63 := by simpa using l
    generalize hh2 : h1.set k (.lst (ms.map D.int)) = h2
    have hn2 : h2 n = some (.lst [.ref k, .int s, .int (t + 1)]) := by rw [← hh2, Hd.set_ne nk]; exact hn1
    have hk2 : h2 k = some (.lst (ms.map D.int)) := by rw [← hh2]; exact Hd.set_same
    refine ⟨by simp only [tyD, Mt.T, hk1], ?_⟩
    simp only [wSs, wS, wT, wTo, wE, wA, wO, wI, getS, gT, gTs, setAll, List.getElem?_cons_zero, List.getElem?_cons_succ, List.set_cons_zero, List.set_cons_succ, binD, augD, iaddD, imulD, addD, subD, mulD, fdivD, modD, powD, negD, cmpD, eqD, ordD, truthD, boolD, intO, view, subsD, sliceD, listed, dicted, bltD, seqD, seqI, zipI, zipSI, anyI, lstI, enumI, revI, starI, lenTs, mthD, lstOf, mAppend, mPop, mExtend, mUpper, mJoin, strsOf, tyD, Mt.T, setD, wipeD, List.map_cons, List.map_nil, Bool.false_eq_true, if_true, if_false, ↓reduceIte, hn2, at30, hk2, Mt.T]
    refine ⟨by decide, ?_⟩
    split
    · refine ⟨trivial, ⟨by omega, .inr hm.2⟩, by rw [List.length_map]; exact Nat.lt_of_lt_of_le (by omega : _ < 64) (by decide), by omega, ?_⟩
      refine .is (Hd.le.refl _) (q _ _ (Int.emod_nonneg _ (by omega)) (Int.emod_lt_of_pos _ (by omega)) ⟨ms ++ [x / m], s, t + 1, ?_, ?_, by simpa using l⟩)
      · rw [Hd.set_ne nk]; exact hn2
      · rw [Hd.set_same, List.map_append]; rfl
    · exact b_mix hn2 hm fun r r0 r1 => .is (Hd.le.refl _) (q r h2 r0 r1 ⟨ms, s, t + 1, hn2, hk2, by omega⟩)

/-! ### _law_pick -/
def sp__law_draw : Spd := spDraw
abbrev N__law_pick : List Str := ["_law_deck_here", "_law_some"]
def c__law_pick : Sts := (.cons (.ret (.sub (.var 1) (.call "_law_draw" ["_law_deck_here", "_law_many"] sp__law_draw (.cons (.var 0) (.cons (.blt .len (.cons (.var 1) .nil)) .nil)))))
  .nil)
/-- one of a list or tuple -/
def sp__law_pick : Spd := fun ds h Q => ∃ (x : D) (xs : List D), ds = [.deck, x] ∧ (x = .lst xs ∨ x = .tup xs) ∧ (0 < xs.length ∧ xs.length ≤ 1000000) ∧ ∀ d ∈ xs, Q d h
theorem atI_of {xs : List D} {r : Int} (h0 : 0 ≤ r) (h1 : r < xs.length) : ∃ d ∈ xs, atI xs r = some d := by
  obtain ⟨j, rfl⟩ := Int.eq_ofNat_of_zero_le h0
  have hj : j < xs.length := by omega
  exact ⟨xs[j], List.getElem_mem hj, atI_nat (List.getElem?_eq_getElem hj)⟩
theorem b__law_pick (ds : List D) (h : Hd) (Q : Pq) (q : sp__law_pick ds h Q) : wSs c__law_pick { nx := fun _ h' => Out Q .non h', rt := Out Q } (startD N__law_pick ds) h := by
  obtain ⟨x, xs, rfl, hx, hl, q⟩ := q
  show wSs c__law_pick _ [some .deck, some x] h
  rcases hx with rfl | rfl
  all_goals
    simp only [c__law_pick, wSs, wS, wT, wTo, wE, wA, wO, wI, getS, gT, gTs, setAll, List.getElem?_cons_zero, List.getElem?_cons_succ, List.set_cons_zero, List.set_cons_succ, binD, augD, iaddD, imulD, addD, subD, mulD, fdivD, modD, powD, negD, cmpD, eqD, ordD, truthD, boolD, intO, view, subsD, sliceD, listed, dicted, bltD, seqD, seqI, zipI, zipSI, anyI, lstI, enumI, revI, starI, lenTs, mthD, lstOf, mAppend, mPop, mExtend, mUpper, mJoin, strsOf, tyD, Mt.T, setD, wipeD, List.map_cons, List.map_nil, Bool.false_eq_true, if_true, if_false, ↓reduceIte]
    refine ⟨_, rfl, ⟨by omega, Nat.lt_trans (log2_small (by omega)) (by decide)⟩, fun r r0 r1 => ?_⟩
    obtain ⟨d, hd, e⟩ := atI_of r0 r1
    simp only [e]
    exact .is (Hd.le.refl _) (q d hd)
end G

/-! What repr can show; whole numbers, primes by trial. -/
namespace G
open PySem PySem.Spec PyProof.Rows L2

/-- data that repr can show: at most dp deep, of weight at most wt, whole numbers of at most B signs -/
structure Fit (B dp wt : Nat) (d : D) : Prop where
  isD : d.isD = true
  sh : d.py.showable = true
  ly : d.py.canLay0 = true
  is : d.py.intsShort B = true
  dep : d.py.depth ≤ dp
  wgt : d.py.weight ≤ wt
theorem Fit.up {B dp wt dp' wt' : Nat} {d : D} (f : Fit B dp wt d) (h1 : dp ≤ dp') (h2 : wt ≤ wt') : Fit B dp' wt' d := ⟨f.isD, f.sh, f.ly, f.is, Nat.le_trans f.dep h1, Nat.le_trans f.wgt h2⟩
theorem Fit.int {i : Int} (h : i.natAbs < 10 ^ 12) : Fit 13 0 40 (.int i) := by
  have hl : i.natAbs ≠ 0 → i.natAbs.log2 < 40 := fun n => (Nat.log2_lt n).mpr (Nat.lt_of_lt_of_le h (by decide))
  have h0 : i.natAbs.log2 < 1920 := by
    by_cases n : i.natAbs = 0
    · rw [n]; decide
    · exact Nat.lt_trans (hl n) (by decide)
  refine ⟨by simp only [D.isD], by simp only [D.py, PyData.showable, h0, decide_true], by simp only [D.py, PyData.canLay0], ?_, by simp only [D.py, PyData.depth]; exact Nat.le_refl _, ?_⟩
  · simp only [D.py, PyData.intsShort, decide_eq_true_eq]
    exact PyData.shown_int_le h
  · simp only [D.py, PyData.weight]
    split
    · omega
    · rename_i z
      have : i.natAbs ≠ 0 := fun y => z (by rw [Int.natAbs_eq_zero.mp y]; rfl)
      exact hl this
theorem Fit.bl {b : Bool} {B : Nat} : Fit B 0 0 (.bl b) := ⟨by simp only [D.isD], by simp only [D.py, PyData.showable], by simp only [D.py, PyData.canLay0], by simp only [D.py, PyData.intsShort], by simp only [D.py, PyData.depth]; exact Nat.le_refl _, by simp only [D.py, PyData.weight]; exact Nat.le_refl _⟩
theorem Fit.non {B : Nat} : Fit B 0 0 .non := ⟨by simp only [D.isD], by simp only [D.py, PyData.showable], by simp only [D.py, PyData.canLay0], by simp only [D.py, PyData.intsShort], by simp only [D.py, PyData.depth]; exact Nat.le_refl _, by simp only [D.py, PyData.weight]; exact Nat.le_refl _⟩
theorem Fit.str {x : Str} {B n : Nat} (h : PyData.canLay0 (.str x) = true) (hn : x.cps.size ≤ n) : Fit B 0 n (.str x) := ⟨by simp only [D.isD], by simp only [D.py, PyData.showable], by simp only [D.py]; exact h, by simp only [D.py, PyData.intsShort], by simp only [D.py, PyData.depth]; exact Nat.le_refl _, by simp only [D.py, PyData.weight]; exact hn⟩
structure Fits (B dp wt : Nat) (ds : List D) : Prop where
  isD : D.areD ds = true
  sh : PyData.showableAll (D.pys ds) = true
  ly : PyData.canLayAll0 (D.pys ds) = true
  is : PyData.intsShortAll B (D.pys ds) = true
  dep : PyData.depthAll (D.pys ds) ≤ dp
  wgt : PyData.weightAll (D.pys ds) ≤ ds.length * (wt + 1)
theorem fits {B dp wt : Nat} : ∀ {ds : List D}, (∀ d ∈ ds, Fit B dp wt d) → Fits B dp wt ds
  | [], _ => ⟨by simp only [D.areD], by simp only [D.pys, PyData.showableAll], by simp only [D.pys, PyData.canLayAll0], by simp only [D.pys, PyData.intsShortAll], by simp only [D.pys, PyData.depthAll]; exact Nat.zero_le _, by simp only [D.pys, PyData.weightAll]; exact Nat.zero_le _⟩
  | d :: ds, h => by
    have f := h d (by simp)
    have g := fits (ds := ds) fun e he => h e (by simp [he])
    refine ⟨by simp only [D.areD, f.isD, g.isD, Bool.and_self], by simp only [D.pys, PyData.showableAll, f.sh, g.sh, Bool.and_self], by simp only [D.pys, PyData.canLayAll0, f.ly, g.ly, Bool.and_self], by simp only [D.pys, PyData.intsShortAll, f.is, g.is, Bool.and_self], ?_, ?_⟩
    · simp only [D.pys, PyData.depthAll]
      exact Nat.max_le.mpr ⟨f.dep, g.dep⟩
    · simp only [D.pys, PyData.weightAll, List.length_cons]
      have := f.wgt
      have := g.wgt
      rw [Nat.add_mul]
      omega
theorem Fit.tup {B dp wt : Nat} {ds : List D} (h : ∀ d ∈ ds, Fit B dp wt d) : Fit B (dp + 1) (ds.length * (wt + 1)) (.tup ds) := by
  have g := fits h
  exact ⟨by simp only [D.isD, g.isD], by simp only [D.py, PyData.showable, g.sh], by simp only [D.py, PyData.canLay0, g.ly], by simp only [D.py, PyData.intsShort, g.is], by simp only [D.py, PyData.depth]; exact Nat.succ_le_succ g.dep, by simp only [D.py, PyData.weight]; exact g.wgt⟩
theorem Fit.lst {B dp wt : Nat} {ds : List D} (h : ∀ d ∈ ds, Fit B dp wt d) : Fit B (dp + 1) (ds.length * (wt + 1)) (.lst ds) := by
  have g := fits h
  exact ⟨by simp only [D.isD, g.isD], by simp only [D.py, PyData.showable, g.sh], by simp only [D.py, PyData.canLay0, g.ly], by simp only [D.py, PyData.intsShort, g.is], by simp only [D.py, PyData.depth]; exact Nat.succ_le_succ g.dep, by simp only [D.py, PyData.weight]; exact g.wgt⟩
theorem Fit.shows {B dp wt : Nat} {d : D} (f : Fit B dp wt d) (hB : 8 ≤ B) (hd : dp ≤ 64) (hw : (B + 2) * wt + B ≤ 16777216) : Shows d := by
  refine ⟨isF_of d f.isD, f.sh, Nat.le_trans f.dep hd, ?_⟩
  have h1 := PyData.shown_le B hB d.py (PyData.leavesShort_of_canLay0 B d.py f.ly f.is)
  have h2 : (B + 2) * d.py.weight ≤ (B + 2) * wt := Nat.mul_le_mul_left _ f.wgt
  show _ ≤ 2 ^ 24
  omega

/-! ### _law_is_whole, _law_is_prime -/
abbrev N__law_is_whole : List Str := ["_law_it"]
def c__law_is_whole : Sts := (.cons (.ret (.and (.blt .isinst (.cons (.var 0) (.cons (.typ .int) .nil))) (.not (.blt .isinst (.cons (.var 0) (.cons (.typ .bool) .nil))))))
  .nil)
/-- the class of plain data -/
def isT (d : D) (t : Ty) : Bool := match d with
  | .bl _ => t == .bool || t == .int
  | .int _ => t == .int
  | .str _ => t == .str
  | .tup _ => t == .tuple
  | .lst _ => t == .list
  | .dic _ _ => t == .dict
  | _ => false
theorem isTy_F {h : Hd} {d : D} (hd : d.isF = true) (t : Ty) : isTy h d t = some (isT d t) := by
  cases d <;> first | rfl | (simp only [D.isF] at hd; cases hd)
theorem isTy_D {h : Hd} {d : D} (hd : d.isD = true) (t : Ty) : isTy h d t = some (isT d t) := by
  cases d <;> first | rfl | (simp only [D.isD] at hd; cases hd)
theorem isT_tup {d : D} (h : isT d .tuple = true) : ∃ ds, d = .tup ds := by
  cases d <;> first | exact ⟨_, rfl⟩ | cases h
theorem isT_lst {d : D} (h : isT d .list = true) : ∃ ds, d = .lst ds := by
  cases d <;> first | exact ⟨_, rfl⟩ | cases h
theorem isT_str {d : D} (h : isT d .str = true) : ∃ x, d = .str x := by
  cases d <;> first | exact ⟨_, rfl⟩ | cases h
def isWholeD : D → Bool
  | .int _ => true
  | _ => false
theorem isWholeD_eq (d : D) : isWholeD d = (isT d .int && !isT d .bool) := by cases d <;> rfl
theorem isWhole_int {d : D} (h : isWholeD d = true) : ∃ i, d = .int i := by
  cases d <;> first | exact ⟨_, rfl⟩ | cases h
def sp__law_is_whole : Spd := fun ds h Q => match ds with
  | [d] => d.isF = true ∧ Q (.bl (isWholeD d)) h
  | _ => False
theorem b__law_is_whole (ds : List D) (h : Hd) (Q : Pq) (q : sp__law_is_whole ds h Q) : wSs c__law_is_whole { nx := fun _ h' => Out Q .non h', rt := Out Q } (startD N__law_is_whole ds) h := by
  unfold sp__law_is_whole at q
  split at q
  · obtain ⟨hd, q⟩ := q
    rename_i d
    rw [isWholeD_eq] at q
    show wSs c__law_is_whole _ [some d] h
    simp only [c__law_is_whole, wSs, wS, wT, wTo, wE, wA, wO, wI, getS, gT, gTs, setAll, List.getElem?_cons_zero, List.getElem?_cons_succ, List.set_cons_zero, List.set_cons_succ, binD, augD, iaddD, imulD, addD, subD, mulD, fdivD, modD, powD, negD, cmpD, eqD, ordD, truthD, boolD, intO, view, subsD, sliceD, listed, dicted, bltD, seqD, seqI, zipI, zipSI, anyI, lstI, enumI, revI, starI, lenTs, mthD, lstOf, mAppend, mPop, mExtend, mUpper, mJoin, strsOf, tyD, Mt.T, setD, wipeD, List.map_cons, List.map_nil, Bool.false_eq_true, if_true, if_false, ↓reduceIte, isTy_F hd]
    cases e : isT d .int
    · rw [e] at q
      simp only [wSs, wS, wT, wTo, wE, wA, wO, wI, getS, gT, gTs, setAll, List.getElem?_cons_zero, List.getElem?_cons_succ, List.set_cons_zero, List.set_cons_succ, binD, augD, iaddD, imulD, addD, subD, mulD, fdivD, modD, powD, negD, cmpD, eqD, ordD, truthD, boolD, intO, view, subsD, sliceD, listed, dicted, bltD, seqD, seqI, zipI, zipSI, anyI, lstI, enumI, revI, starI, lenTs, mthD, lstOf, mAppend, mPop, mExtend, mUpper, mJoin, strsOf, tyD, Mt.T, setD, wipeD, List.map_cons, List.map_nil, Bool.false_eq_true, if_true, if_false, ↓reduceIte]
      exact .is (Hd.le.refl _) q
    · rw [e] at q
      simp only [wSs, wS, wT, wTo, wE, wA, wO, wI, getS, gT, gTs, setAll, List.getElem?_cons_zero, List.getElem?_cons_succ, List.set_cons_zero, List.set_cons_succ, binD, augD, iaddD, imulD, addD, subD, mulD, fdivD, modD, powD, negD, cmpD, eqD, ordD, truthD, boolD, intO, view, subsD, sliceD, listed, dicted, bltD, seqD, seqI, zipI, zipSI, anyI, lstI, enumI, revI, starI, lenTs, mthD, lstOf, mAppend, mPop, mExtend, mUpper, mJoin, strsOf, tyD, Mt.T, setD, wipeD, List.map_cons, List.map_nil, Bool.false_eq_true, if_true, if_false, ↓reduceIte]
      exact .is (Hd.le.refl _) q
  · exact q.elim
abbrev N__law_is_prime : List Str := ["_law_n", "_law_d"]
def c__law_is_prime_r1 : Sts := (.cons (.ret (.cst (.bl true)))
  .nil)
def c__law_is_prime_r2 : Sts := (.cons (.asg (.nm 1) (.bin .Add (.var 1) (.cst (.int 1))))
    .nil)
def c__law_is_prime_b3 : Sts := (.cons (.ite (.val (.cmp .Eq (.bin .Mod (.var 0) (.var 1)) (.cst (.int 0))))
    (.cons (.ret (.cst (.bl false)))
      .nil)
    .nil)
    c__law_is_prime_r2)
def c__law_is_prime_r4 : Sts := (.cons (.asg (.nm 1) (.cst (.int 2)))
  (.cons (.whl (.val (.cmp .LtE (.bin .Mult (.var 1) (.var 1)) (.var 0)))
  c__law_is_prime_b3)
  c__law_is_prime_r1))
def c__law_is_prime : Sts := (.cons (.ite (.val (.cmp .Lt (.var 0) (.cst (.int 2))))
  (.cons (.ret (.cst (.bl false)))
    .nil)
  .nil)
  c__law_is_prime_r4)
/-- no divisor by trial -/
def Trial (q : Int) : Prop := 2 ≤ q ∧ ∀ d : Int, 2 ≤ d → d * d ≤ q → q % d ≠ 0
/-- prime, by trial -/
noncomputable def trialB (q : Int) : Bool := @decide (Trial q) (Classical.propDecidable _)
theorem trialB_true {q : Int} (h : Trial q) : trialB q = true := @decide_eq_true _ (Classical.propDecidable _) h
theorem trialB_false {q : Int} (h : ¬ Trial q) : trialB q = false := @decide_eq_false _ (Classical.propDecidable _) h
def sp__law_is_prime : Spd := fun ds h Q => match ds with
  | [.int q] => q < 1000000000000000000 ∧ Q (.bl (trialB q)) h
  | _ => False
theorem b__law_is_prime (ds : List D) (h : Hd) (Q : Pq) (q : sp__law_is_prime ds h Q) : wSs c__law_is_prime { nx := fun _ h' => Out Q .non h', rt := Out Q } (startD N__law_is_prime ds) h := by
  unfold sp__law_is_prime at q
  split at q
  · rename_i n
    obtain ⟨hn, q⟩ := q
    show wSs c__law_is_prime _ [some (.int n), none] h
    simp only [c__law_is_prime, wSs, wS, wT, wTo, wE, wA, wO, wI, getS, gT, gTs, setAll, List.getElem?_cons_zero, List.getElem?_cons_succ, List.set_cons_zero, List.set_cons_succ, binD, augD, iaddD, imulD, addD, subD, mulD, fdivD, modD, powD, negD, cmpD, eqD, ordD, truthD, boolD, intO, view, subsD, sliceD, listed, dicted, bltD, seqD, seqI, zipI, zipSI, anyI, lstI, enumI, revI, starI, lenTs, mthD, lstOf, mAppend, mPop, mExtend, mUpper, mJoin, strsOf, tyD, Mt.T, setD, wipeD, List.map_cons, List.map_nil, Bool.false_eq_true, if_true, if_false, ↓reduceIte, decide_eq_true_eq]
    by_cases h2 : n < 2
    · rw [if_pos h2]
      rw [trialB_false fun t => by have := t.1; omega] at q
      exact .is (Hd.le.refl _) q
    · rw [if_neg h2]
      simp only [c__law_is_prime_r4, wSs, wS, wT, wTo, wE, wA, wO, wI, getS, gT, gTs, setAll, List.getElem?_cons_zero, List.getElem?_cons_succ, List.set_cons_zero, List.set_cons_succ, binD, augD, iaddD, imulD, addD, subD, mulD, fdivD, modD, powD, negD, cmpD, eqD, ordD, truthD, boolD, intO, view, subsD, sliceD, listed, dicted, bltD, seqD, seqI, zipI, zipSI, anyI, lstI, enumI, revI, starI, lenTs, mthD, lstOf, mAppend, mPop, mExtend, mUpper, mJoin, strsOf, tyD, Mt.T, setD, wipeD, List.map_cons, List.map_nil, Bool.false_eq_true, if_true, if_false, ↓reduceIte]
      refine ⟨fun m σ g => ∃ d : Int, σ = [some (.int n), some (.int d)] ∧ h = g ∧ 2 ≤ d ∧ d ≤ n + 1 ∧ (∀ e : Int, 2 ≤ e → e < d → n % e ≠ 0) ∧ (m : Int) = n + 1 - d, ⟨(n - 1).toNat, 2, rfl, rfl, by omega, by omega, fun e e1 e2 => by omega, by omega⟩, ?_⟩
      rintro m σ g ⟨d, rfl, rfl, d2, dn, hd, hm⟩
      simp only [wSs, wS, wT, wTo, wE, wA, wO, wI, getS, gT, gTs, setAll, List.getElem?_cons_zero, List.getElem?_cons_succ, List.set_cons_zero, List.set_cons_succ, binD, augD, iaddD, imulD, addD, subD, mulD, fdivD, modD, powD, negD, cmpD, eqD, ordD, truthD, boolD, intO, view, subsD, sliceD, listed, dicted, bltD, seqD, seqI, zipI, zipSI, anyI, lstI, enumI, revI, starI, lenTs, mthD, lstOf, mAppend, mPop, mExtend, mUpper, mJoin, strsOf, tyD, Mt.T, setD, wipeD, List.map_cons, List.map_nil, Bool.false_eq_true, if_true, if_false, ↓reduceIte, decide_eq_true_eq]
      refine ⟨.inl (by omega), ?_⟩
      split
      · rename_i dd
        have hdn : d ≤ n := by
          have : d * 1 ≤ d * d := Int.mul_le_mul_of_nonneg_left (by omega) (by omega)
          omega
        simp only [c__law_is_prime_b3, wSs, wS, wT, wTo, wE, wA, wO, wI, getS, gT, gTs, setAll, List.getElem?_cons_zero, List.getElem?_cons_succ, List.set_cons_zero, List.set_cons_succ, binD, augD, iaddD, imulD, addD, subD, mulD, fdivD, modD, powD, negD, cmpD, eqD, ordD, truthD, boolD, intO, view, subsD, sliceD, listed, dicted, bltD, seqD, seqI, zipI, zipSI, anyI, lstI, enumI, revI, starI, lenTs, mthD, lstOf, mAppend, mPop, mExtend, mUpper, mJoin, strsOf, tyD, Mt.T, setD, wipeD, List.map_cons, List.map_nil, Bool.false_eq_true, if_true, if_false, ↓reduceIte, decide_eq_true_eq]
        refine ⟨by omega, ?_⟩
        by_cases hz : n % d = 0
        · rw [if_pos hz]
          rw [trialB_false fun t => t.2 d d2 dd hz] at q
          exact .is (Hd.le.refl _) q
        · rw [if_neg hz]
          simp only [c__law_is_prime_r2, wSs, wS, wT, wTo, wE, wA, wO, wI, getS, gT, gTs, setAll, List.getElem?_cons_zero, List.getElem?_cons_succ, List.set_cons_zero, List.set_cons_succ, binD, augD, iaddD, imulD, addD, subD, mulD, fdivD, modD, powD, negD, cmpD, eqD, ordD, truthD, boolD, intO, view, subsD, sliceD, listed, dicted, bltD, seqD, seqI, zipI, zipSI, anyI, lstI, enumI, revI, starI, lenTs, mthD, lstOf, mAppend, mPop, mExtend, mUpper, mJoin, strsOf, tyD, Mt.T, setD, wipeD, List.map_cons, List.map_nil, Bool.false_eq_true, if_true, if_false, ↓reduceIte]
          refine ⟨m - 1, by omega, d + 1, by trivial, by trivial, by omega, by omega, fun e e1 e2 => ?_, by omega⟩
          by_cases ed : e = d
          · rw [ed]; exact hz
          · exact hd e e1 (by omega)
      · rename_i dd
        simp only [c__law_is_prime_r1, wSs, wS, wT, wTo, wE, wA, wO, wI, getS, gT, gTs, setAll, List.getElem?_cons_zero, List.getElem?_cons_succ, List.set_cons_zero, List.set_cons_succ, binD, augD, iaddD, imulD, addD, subD, mulD, fdivD, modD, powD, negD, cmpD, eqD, ordD, truthD, boolD, intO, view, subsD, sliceD, listed, dicted, bltD, seqD, seqI, zipI, zipSI, anyI, lstI, enumI, revI, starI, lenTs, mthD, lstOf, mAppend, mPop, mExtend, mUpper, mJoin, strsOf, tyD, Mt.T, setD, wipeD, List.map_cons, List.map_nil, Bool.false_eq_true, if_true, if_false, ↓reduceIte]
        have t : Trial n := ⟨by omega, fun e e1 e2 => hd e e1 (by
          rcases Int.lt_or_le e d with z | z
          · exact z
          · exact absurd (Int.le_trans (Int.mul_le_mul z z (by omega) (by omega)) e2) dd)⟩
        rw [trialB_true t] at q
        exact .is (Hd.le.refl _) q
  · exact q.elim
end G

/-! More helps for readings. -/
namespace G
open PySem PySem.Spec PyProof.Rows L2

theorem pickD {x : D} {xs : List D} {h : Hd} {Q : Pq} (hx : x = .lst xs ∨ x = .tup xs) (hl : 0 < xs.length ∧ xs.length ≤ 1000000) (q : ∀ d ∈ xs, Q d h) : sp__law_pick [.deck, x] h Q := ⟨x, xs, rfl, hx, hl, q⟩
theorem drawD {m : Int} {h : Hd} {Q : Pq} (hm : 1 ≤ m ∧ m < 4611686018427387904) (q : ∀ r, 0 ≤ r → r < m → Q (.int r) h) : sp__law_draw [.deck, .int m] h Q := ⟨m, rfl, ⟨hm.1, Nat.lt_trans (log2_small (by omega)) (by decide)⟩, q⟩
theorem drawG {m : Int} {h : Hd} {Q : Pq} (m0 : 1 ≤ m) (m1 : m.natAbs < 2 ^ 200) (q : ∀ r, 0 ≤ r → r < m → Q (.int r) h) : sp__law_draw [.deck, .int m] h Q := ⟨m, rfl, ⟨m0, by
  have : m.natAbs ≠ 0 := by omega
  exact Nat.lt_trans ((Nat.log2_lt this).mpr m1) (by decide)⟩, q⟩
/-- a for, turn by turn -/
theorem forL_ix {g : D → Sl → (Sl → Prop) → Prop} {b : Ed → Sl → Hd → Prop} {stay : Hd → Prop} {E : Ed} (ds : List D) (I : Nat → Sl → Hd → Prop) (h0 : ∀ σ h, I ds.length σ h → stay h ∧ E.nx σ h)
    (h1 : ∀ i d σ h (C : Sl → Hd → Prop), ds[i]? = some d → i < ds.length → I i σ h → (∀ σ' h', I (i + 1) σ' h' → C σ' h') → stay h ∧ g d σ fun σ' => b { nx := C, ct := C, bk := E.nx, rt := E.rt } σ' h) {σ : Sl} {h : Hd} (i0 : I 0 σ h) : forL g b stay E ds σ h := by
  refine forL_ind (fun es σ h => ∃ i, i + es.length = ds.length ∧ es = ds.drop i ∧ I i σ h) ?_ ?_ ds σ h ⟨0, by simp, by simp, i0⟩
  · rintro σ h ⟨i, l, e, q⟩
    have : i = ds.length := by simpa using l
    subst this
    exact h0 σ h q
  · rintro d es σ h C ⟨i, l, e, q⟩ hC
    have hi : i < ds.length := by simp at l; omega
    have hd : ds[i]? = some d := by
      have : (ds.drop i)[0]? = some d := by rw [← e]; rfl
      simpa using this
    have he : es = ds.drop (i + 1) := by
      have : (ds.drop i).drop 1 = es := by rw [← e]; rfl
      rw [← this, List.drop_drop]
    exact h1 i d σ h C hd hi q fun σ' h' q' => hC σ' h' ⟨i + 1, by simp at l; omega, he, q'⟩
theorem rngD_get {lo : Int} {n i : Nat} {d : D} (e : (rngD lo n)[i]? = some d) : d = .int (lo + (i : Nat)) ∧ i < n := by
  unfold rngD at e
  rw [List.getElem?_map] at e
  obtain ⟨j, ej, rfl⟩ := Option.map_eq_some_iff.mp e
  have hi : i < n := by
    have := (List.getElem?_eq_some_iff.mp ej).1
    simpa using this
  rw [List.getElem?_range hi] at ej
  cases ej
  exact ⟨rfl, hi⟩
theorem rngD_len (lo : Int) (n : Nat) : (rngD lo n).length = n := by unfold rngD; rw [List.length_map, List.length_range]
theorem rngD_mem {lo : Int} {n : Nat} {d : D} (h : d ∈ rngD lo n) : ∃ i : Nat, i < n ∧ d = .int (lo + (i : Nat)) := by
  unfold rngD at h
  obtain ⟨i, hi, rfl⟩ := List.mem_map.mp h
  exact ⟨i, List.mem_range.mp hi, rfl⟩
theorem forL_rng {g : D → Sl → (Sl → Prop) → Prop} {b : Ed → Sl → Hd → Prop} {stay : Hd → Prop} {E : Ed} {lo : Int} {n : Nat} (I : Nat → Sl → Hd → Prop) (h0 : ∀ σ h, I n σ h → stay h ∧ E.nx σ h)
    (h1 : ∀ i σ h (C : Sl → Hd → Prop), i < n → I i σ h → (∀ σ' h', I (i + 1) σ' h' → C σ' h') → stay h ∧ g (.int (lo + (i : Nat))) σ fun σ' => b { nx := C, ct := C, bk := E.nx, rt := E.rt } σ' h) {σ : Sl} {h : Hd} (i0 : I 0 σ h) : forL g b stay E (rngD lo n) σ h :=
  forL_ix (rngD lo n) I (by rw [rngD_len]; exact h0) (fun i d σ h C e hi q hC => by obtain ⟨rfl, hi⟩ := rngD_get e; exact h1 i σ h C hi q hC) i0
/-- each of some by a function -/
theorem compL_map {g : D → (Sl → Prop) → Prop} {t : WT} {e : WE} {stay : Hd → Prop} {h : Hd} {Q : List D → Hd → Prop} (f : D → D) (hs : stay h) : ∀ (ds acc : List D),
    (∀ d ∈ ds, ∀ (Y : D → Hd → Prop) (Z : Hd → Prop), Y (f d) h → g d fun σ => t σ h fun b h1 => if b = true then e σ h1 Y else Z h1) → Q (acc ++ ds.map f) h → compL g t e stay ds acc h Q
  | [], acc, _, q => ⟨hs, by simpa using q⟩
  | d :: ds, acc, step, q => ⟨hs, step d (by simp) _ _ (compL_map f hs ds _ (fun d m => step d (by simp [m])) (by simpa using q))⟩
theorem compL_flt {g : D → (Sl → Prop) → Prop} {t : WT} {e : WE} {stay : Hd → Prop} {h : Hd} {Q : List D → Hd → Prop} (p : D → Bool) (f : D → D) (hs : stay h) : ∀ (ds acc : List D),
    (∀ d ∈ ds, ∀ (Y : D → Hd → Prop) (Z : Hd → Prop), (p d = true → Y (f d) h) → (p d = false → Z h) → g d fun σ => t σ h fun b h1 => if b = true then e σ h1 Y else Z h1) → Q (acc ++ (ds.filter p).map f) h → compL g t e stay ds acc h Q
  | [], acc, _, q => ⟨hs, by simpa using q⟩
  | d :: ds, acc, step, q => ⟨hs, step d (by simp) _ _ (fun y => compL_flt p f hs ds _ (fun d m => step d (by simp [m])) (by simpa [y] using q)) fun z => compL_flt p f hs ds _ (fun d m => step d (by simp [m])) (by simpa [z] using q)⟩
theorem rg_up {i j c : Int} (c0 : 0 < c) (c1 : c < 1073741824) (i0 : -1000000000000000 ≤ i) (ij : i < j) (j0 : j < 1000000000000000) : RgC i j c ((j - i - 1) / c + 1).toNat := by
  have h0 : 0 ≤ (j - i - 1) / c := Int.ediv_nonneg (by omega) (by omega)
  have h1 : (j - i - 1) / c ≤ j - i - 1 := Int.ediv_le_self _ (by omega)
  have hr : Builtin.Range.rangeSize i j c = (j - i - 1) / c + 1 := by unfold Builtin.Range.rangeSize; rw [if_pos c0, if_pos ij]
  refine ⟨by omega, by omega, ?_, ?_⟩
  · unfold Builtin.Range.small
    rw [hr]
    have cp : c > 0 := c0
    simp only [Builtin.Range.rangeFitsLong, Bool.and_eq_true, Bool.or_eq_true, decide_eq_true_eq, beq_iff_eq, cp, if_true]
    generalize (j - i - 1) / c = q at *
    omega
  · rw [hr]; omega
theorem rg_none {i j c : Int} (c0 : 0 < c) (c1 : c < 1073741824) (i0 : -1000000000000000 ≤ i) (i1 : i < 1000000000000000) (ij : j ≤ i) (j0 : -1000000000000000 ≤ j) : RgC i j c 0 := by
  have hr : Builtin.Range.rangeSize i j c = 0 := by unfold Builtin.Range.rangeSize; rw [if_pos c0, if_neg (by omega)]
  refine ⟨by omega, by omega, ?_, ?_⟩
  · unfold Builtin.Range.small
    rw [hr]
    have cp : c > 0 := c0
    simp only [Builtin.Range.rangeFitsLong, Bool.and_eq_true, Bool.or_eq_true, decide_eq_true_eq, beq_iff_eq, cp, if_true]
    omega
  · rw [hr]; rfl
/-- whole numbers of k figures -/
theorem Fit.intK {i : Int} {k : Nat} (k0 : 0 < k) (k1 : k ≤ 570) (h : i.natAbs < 10 ^ k) : Fit (k + 1) 0 (4 * k) (.int i) := by
  have h16 : i.natAbs < 2 ^ (4 * k) := Nat.lt_of_lt_of_le h (by rw [Nat.pow_mul]; exact Nat.pow_le_pow_left (by decide) k)
  have p570 : 10 ^ k < 2 ^ 1920 := Nat.lt_of_le_of_lt (Nat.pow_le_pow_right (by decide) k1) (by decide +kernel)
  have h0 : i.natAbs.log2 < 1920 := by
    by_cases n : i.natAbs = 0
    · rw [n]; decide
    · exact (Nat.log2_lt n).mpr (Nat.lt_trans h p570)
  refine ⟨by simp only [D.isD], by simp only [D.py, PyData.showable, h0, decide_true], by simp only [D.py, PyData.canLay0], ?_, by simp only [D.py, PyData.depth]; exact Nat.le_refl _, ?_⟩
  · simp only [D.py, PyData.intsShort, decide_eq_true_eq]
    have e := int_text_length_le10 (k := k) k0 h
    show (Str.ofString (toString i)).length ≤ k + 1
    rw [PySem.ofString_length]; exact e
  · simp only [D.py, PyData.weight]
    split
    · omega
    · rename_i z
      have n0 : i.natAbs ≠ 0 := fun y => z (by rw [Int.natAbs_eq_zero.mp y]; rfl)
      exact (Nat.log2_lt n0).mpr h16
/-- a list of the same thing -/
theorem shows_same {B dp wt n : Nat} {d : D} {ds : List D} (f : Fit B dp wt d) (hB : 8 ≤ B) (hd : dp ≤ 63) (hs : ∀ e ∈ ds, e = d) (hn : ds.length ≤ n) (hw : (B + 2) * (n * (wt + 1)) + B ≤ 16777216) : Shows (.lst ds) :=
  ((Fit.lst (ds := ds) fun e he => by rw [hs e he]; exact f).up (Nat.le_refl _) (Nat.mul_le_mul_right _ hn)).shows hB (by omega) hw
theorem enum_mem {k : Nat} {ds : List D} {d : D} (h : d ∈ enumD k ds) : ∃ (i : Nat) (x : D), x ∈ ds ∧ d = .tup [.int (i : Nat), x] ∧ k ≤ i ∧ i < k + ds.length := by
  obtain ⟨j, hj⟩ := List.mem_iff_getElem?.mp h
  obtain ⟨a, ea, rfl⟩ := enumD_get hj
  have := (List.getElem?_eq_some_iff.mp ea).1
  exact ⟨j + k, a, List.mem_of_getElem? ea, rfl, by omega, by omega⟩
theorem mem_ints {ns : List Int} {d : D} (h : d ∈ ns.map D.int) : ∃ n ∈ ns, d = .int n := by
  obtain ⟨n, a, rfl⟩ := List.mem_map.mp h
  exact ⟨n, a, rfl⟩
theorem ints_get {ns : List Int} {i : Nat} {d : D} (e : (ns.map D.int)[i]? = some d) : ∃ n, ns[i]? = some n ∧ d = .int n := by
  rw [List.getElem?_map] at e
  obtain ⟨n, a, rfl⟩ := Option.map_eq_some_iff.mp e
  exact ⟨n, a, rfl⟩
theorem take_succ_get {α : Type} {xs : List α} {i : Nat} {x : α} (e : xs[i]? = some x) : xs.take (i + 1) = xs.take i ++ [x] := by
  rw [List.take_add_one, e]; rfl
theorem zip_mem {ds es : List D} {d : D} (h : d ∈ zipD ds es) : ∃ a b, a ∈ ds ∧ b ∈ es ∧ d = .tup [a, b] := by
  obtain ⟨i, e⟩ := List.mem_iff_getElem?.mp h
  obtain ⟨a, b, ea, eb, rfl⟩ := zipD_get e
  exact ⟨a, b, List.mem_of_getElem? ea, List.mem_of_getElem? eb, rfl⟩
/-- whole numbers from nought -/
def intsN (ns : List Nat) : List D := ns.map fun n => D.int ((n : Nat) : Int)
theorem intsN_len (ns : List Nat) : (intsN ns).length = ns.length := List.length_map _
theorem intsN_get {ns : List Nat} {i : Nat} {d : D} (e : (intsN ns)[i]? = some d) : ∃ n, ns[i]? = some n ∧ d = .int ((n : Nat) : Int) := by
  unfold intsN at e
  rw [List.getElem?_map] at e
  obtain ⟨n, a, rfl⟩ := Option.map_eq_some_iff.mp e
  exact ⟨n, a, rfl⟩
theorem intsN_mem {ns : List Nat} {d : D} (h : d ∈ intsN ns) : ∃ n ∈ ns, d = .int ((n : Nat) : Int) := by
  obtain ⟨n, a, rfl⟩ := List.mem_map.mp h
  exact ⟨n, a, rfl⟩
theorem intsN_ints (ns : List Nat) : intsN ns = (ns.map fun n : Nat => (n : Int)).map D.int := by
  unfold intsN
  rw [List.map_map]
  rfl
theorem eqv_nil (ds : List D) : PyData.eqv (D.lst ds).py (D.lst []).py = ds.isEmpty := by
  simp only [D.py, D.pys, PyData.eqv, eqvAll_nil]
  cases ds <;> simp only [D.pys, List.isEmpty_nil, List.isEmpty_cons]
theorem nilD : (D.lst []).isD = true := by simp only [D.isD, D.areD]
/-- a list of whole numbers beside the empty list: what is asked ahead -/
theorem cmp_nil (ns : List Int) : EqOk (D.lst (ns.map D.int)) (D.lst []) := .of ⟨isD_ints ns, nilD, shaped_ints ns, by decide⟩
theorem cmp_nilN (ns : List Nat) : EqOk (D.lst (intsN ns)) (D.lst []) := by
  rw [intsN_ints]
  exact cmp_nil _
theorem intsN_nil (ns : List Nat) : (intsN ns).isEmpty = ns.isEmpty := List.isEmpty_map
end G

/-! What operations come to, as sentences of their own (a proof that needs no unfolding). -/
namespace G
open PySem PySem.Spec PyProof.Rows L2
section
variable {h : Hd}
theorem vw_non : view h .non = .non := rfl
theorem vw_bl {b : Bool} : view h (.bl b) = .bl b := rfl
theorem vw_int {i : Int} : view h (.int i) = .int i := rfl
theorem vw_str {x : Str} : view h (.str x) = .str x := rfl
theorem vw_tup {ds : List D} : view h (.tup ds) = .tup ds := rfl
theorem vw_lst {ds : List D} : view h (.lst ds) = .lst ds := rfl
theorem vw_dic {ks : List Key} {ds : List D} : view h (.dic ks ds) = .dic ks ds := rfl
theorem vw_ref {n : Nat} : view h (.ref n) = match h n with | some (.lst ds) => .lst ds | _ => .ref n := rfl
theorem vw_F {d : D} (hd : d.isF = true) : view h d = d := by
  cases d <;> first | rfl | (simp [D.isF] at hd)
end
section
variable {i j : Int} {x y : Str} {xs ys : List D} {h : Hd} {Q : Pq} {b : Bool}
theorem w_add : binD .Add (.int i) (.int j) h Q ↔ Q (.int (i + j)) h := Iff.rfl
theorem w_sub : binD .Sub (.int i) (.int j) h Q ↔ Q (.int (i - j)) h := Iff.rfl
theorem w_mul : binD .Mult (.int i) (.int j) h Q ↔ MulOk i j ∧ Q (.int (i * j)) h := Iff.rfl
theorem w_div : binD .FloorDiv (.int i) (.int j) h Q ↔ DivOk j ∧ Q (.int (i / j)) h := Iff.rfl
theorem w_mod : binD .Mod (.int i) (.int j) h Q ↔ 0 < j ∧ Q (.int (i % j)) h := Iff.rfl
theorem w_addT : binD .Add (.tup xs) (.tup ys) h Q ↔ xs.length + ys.length ≤ sizeLine ∧ Q (.tup (xs ++ ys)) h := Iff.rfl
theorem w_addL : binD .Add (.lst xs) (.lst ys) h Q ↔ xs.length + ys.length ≤ sizeLine ∧ Q (.lst (xs ++ ys)) h := Iff.rfl
theorem w_neg : negD (.int i) h Q ↔ Q (.int (-i)) h := Iff.rfl
theorem w_eq : cmpD .Eq (.int i) (.int j) h Q ↔ Q (.bl (decide (i = j))) h := Iff.rfl
theorem w_ne : cmpD .NotEq (.int i) (.int j) h Q ↔ Q (.bl (!decide (i = j))) h := Iff.rfl
theorem w_eqS : cmpD .Eq (.str x) (.str y) h Q ↔ Q (.bl (decide (x = y))) h := Iff.rfl
theorem w_neS : cmpD .NotEq (.str x) (.str y) h Q ↔ Q (.bl (!decide (x = y))) h := Iff.rfl
theorem w_lt : cmpD .Lt (.int i) (.int j) h Q ↔ Q (.bl (decide (i < j))) h := Iff.rfl
theorem w_le : cmpD .LtE (.int i) (.int j) h Q ↔ Q (.bl (decide (i ≤ j))) h := Iff.rfl
theorem w_gt : cmpD .Gt (.int i) (.int j) h Q ↔ Q (.bl (decide (j < i))) h := Iff.rfl
theorem w_ge : cmpD .GtE (.int i) (.int j) h Q ↔ Q (.bl (decide (j ≤ i))) h := Iff.rfl
theorem w_isN {d : D} : cmpD .Is d .non h Q ↔ Q (.bl (isNon d)) h := Iff.rfl
theorem w_isNt {d : D} : cmpD .IsNot d .non h Q ↔ Q (.bl (!isNon d)) h := Iff.rfl
theorem w_subT {d : D} (e : atI xs i = some d) : subsD (.tup xs) (.int i) h Q ↔ Q d h := by simp only [subsD, view, e]
theorem w_subL {d : D} (e : atI xs i = some d) : subsD (.lst xs) (.int i) h Q ↔ Q d h := by simp only [subsD, view, e]
theorem w_lenT : bltD .len [.tup xs] h Q ↔ Q (.int (xs.length : Nat)) h := Iff.rfl
theorem w_lenL : bltD .len [.lst xs] h Q ↔ Q (.int (xs.length : Nat)) h := Iff.rfl
theorem w_tupL : bltD .tuple [.lst xs] h Q ↔ Q (.tup xs) h := Iff.rfl
theorem w_boolD {P : Bool → Prop} : boolD (.bl b) P ↔ P b := Iff.rfl
theorem w_truth {P : Bool → Prop} : truthD (.bl b) h P ↔ P b := Iff.rfl
theorem w_intO {P : Int → Prop} : intO (.int i) P ↔ P i := Iff.rfl
theorem w_gt0 {k : Nat} {d : D} {σ : Sl} {P : D → Prop} (e : σ[k]? = some (some d)) : getS σ k P ↔ P d := by unfold getS; rw [e]
theorem w_seqT {R : List D → (Hd → Prop) → Prop} : seqI (.tup xs) h R ↔ R xs fun _ => True := Iff.rfl
theorem w_seqL {R : List D → (Hd → Prop) → Prop} : seqI (.lst xs) h R ↔ R xs fun _ => True := Iff.rfl
theorem w_g0 {d : D} {σ : Sl} {P : D → Prop} : getS (some d :: σ) 0 P ↔ P d := Iff.rfl
theorem w_g1 {o : Option D} {k : Nat} {σ : Sl} {P : D → Prop} : getS (o :: σ) (k + 1) P ↔ getS σ k P := by unfold getS; rw [List.getElem?_cons_succ]
theorem w_tp {ts : Tgs} {σ : Sl} {P : Sl → Prop} : gT (.tp ts) (.tup xs) σ P ↔ gTs ts xs σ P := by simp only [gT]
theorem w_tn {σ : Sl} {P : Sl → Prop} : gTs .nil [] σ P ↔ P σ := by simp only [gTs]
theorem w_tc {t : Tg} {ts : Tgs} {d : D} {σ : Sl} {P : Sl → Prop} : gTs (.cons t ts) (d :: xs) σ P ↔ gT t d σ fun σ' => gTs ts xs σ' P := by simp only [gTs]
theorem w_nm {k : Nat} {d : D} {σ : Sl} {P : Sl → Prop} : gT (.nm k) d σ P ↔ P (σ.set k (some d)) := by simp only [gT]
end
end G

/-! Defs that are never called; defs that call themselves. -/
namespace G
open PySem PySem.Spec PyProof.Rows L2
/-- no call is right -/
def never : Spd := fun _ _ _ => False
section
variable {P : Program} {w : World} {K : PySem.W.Frag} {mg : Str → Option Value} {base : Heap}
theorem fn_never {x qual : Str} {st : Stmt} {f : Addr} {fd : FuncData} {ps : List Str} {k : Nat} (F : Fun K x qual st f fd) (hf : mg x = some (.ref f)) (hp : plainArgs st ps = true) : FnAt P w K mg base k x ps never := by
  refine ⟨f, fd, hf, F.kp, ?_, fun _ _ _ q => q.elim, fun _ _ _ _ _ _ _ _ _ _ _ _ _ _ _ _ _ _ q => q.elim⟩
  obtain ⟨oc, od, kV, doc, pm, an, cdv, ct, osl, rfl, lk, hcd⟩ := F.ex
  unfold plainArgs at hp
  simp only [Bool.and_eq_true, decide_eq_true_eq, List.isEmpty_iff, Option.isNone_iff_eq_none] at hp
  exact ⟨hp.1.1.1.1.1, hp.1.1.1.1.2, hp.1.1.1.2, hp.1.1.2, hp.1.2, rfl, hp.2⟩
/-- a def that calls itself: sp n is what it keeps of things of a depth below n -/
theorem fn_rec {x qual : Str} {st : Stmt} {f : Addr} {fd : FuncData} {N ps : List Str} {k : Nat} {sp : Nat → Spd} {code : Spd → Sts} (F : Fun K x qual st f fd) (hf : mg x = some (.ref f)) (hp : plainArgs st ps = true) (S : FnScope N ps (defScope st)) (hn : NoOwn mg base)
    (h0 : ∀ ds h Q, ¬ sp 0 ds h Q) (ht : ∀ s, tSs N (defScope st) (fun _ => true) (code s) (defBody st) = true) (hh : ∀ n, FnAt P w K mg base (k + n) x ps (sp n) → hSs (FnAt P w K mg base (k + n)) (GlAt w K mg) (code (sp n)))
    (len : ∀ n ds h Q, sp n ds h Q → ds.length = ps.length) (body : ∀ n ds h Q, sp (n + 1) ds h Q → wSs (code (sp n)) { nx := fun _ h' => Out Q .non h', rt := Out Q } (startD N ds) h) : ∀ n, FnAt P w K mg base (k + n) x ps (sp n)
  | 0 => (fn_never F hf hp).weak fun ds h Q q => h0 ds h Q q
  | n + 1 => fn_at F hf hp S hn (ht _) (hh n (fn_rec F hf hp S hn h0 ht hh len body n)) (len _) (body n)
end
end G

/-! Plain data by their size: what repr can show of them. -/
namespace G
open PySem PySem.Spec PyProof.Rows L2

mutual
/-- how many parts -/
def D.cnt : D → Nat
  | .tup ds => D.cnts ds + 1
  | .lst ds => D.cnts ds + 1
  | .dic ks ds => D.cnts ds + ks.length + 1
  | _ => 1
def D.cnts : List D → Nat
  | [] => 0
  | d :: ds => D.cnt d + D.cnts ds
end
mutual
/-- how deep -/
def D.dep : D → Nat
  | .tup ds => D.deps ds + 1
  | .lst ds => D.deps ds + 1
  | .dic _ ds => D.deps ds + 1
  | _ => 0
def D.deps : List D → Nat
  | [] => 0
  | d :: ds => max (D.dep d) (D.deps ds)
end
def strSmall (B : Nat) (x : Str) : Bool := PyData.canLay0 (.str x) && decide (x.cps.size ≤ 4 * B)
def keySmall (B : Nat) : Key → Bool
  | .inl i => decide (i.natAbs < 10 ^ B)
  | .inr x => strSmall B x
mutual
/-- whole numbers of at most B figures, texts of at most B signs -/
def D.small (B : Nat) : D → Bool
  | .non => true
  | .bl _ => true
  | .int i => decide (i.natAbs < 10 ^ B)
  | .str x => strSmall B x
  | .tup ds => D.smalls B ds
  | .lst ds => D.smalls B ds
  | .dic ks ds => ks.all (keySmall B) && D.smalls B ds
  | _ => false
def D.smalls (B : Nat) : List D → Bool
  | [] => true
  | d :: ds => D.small B d && D.smalls B ds
end
theorem D.cnt_pos (d : D) : 1 ≤ d.cnt := by cases d <;> simp only [D.cnt] <;> omega
structure FF (B : Nat) (d : D) : Prop where
  isF : d.isF = true
  sh : d.py.showable = true
  ls : d.py.leavesShort (B + 1) = true
  dep : d.py.depth ≤ d.dep
  wgt : d.py.weight + 1 ≤ d.cnt * (4 * B + 1)
structure FFs (B : Nat) (ds : List D) : Prop where
  isF : D.areF ds = true
  sh : PyData.showableAll (D.pys ds) = true
  ls : PyData.leavesShortAll (B + 1) (D.pys ds) = true
  dep : PyData.depthAll (D.pys ds) ≤ D.deps ds
  wgt : PyData.weightAll (D.pys ds) ≤ D.cnts ds * (4 * B + 1)
theorem strLs {B : Nat} {x : Str} (h : PyData.canLay0 (.str x) = true) : PyData.leavesShort (B + 1) (.str x) = true :=
  PyData.leavesShort_of_canLay0 (B + 1) (.str x) h (by simp only [PyData.intsShort])
theorem key_ff {B : Nat} (b0 : 0 < B) (b1 : B ≤ 570) (k : Key) (h : keySmall B k = true) : (keyP k).showable = true ∧ (keyP k).leavesShort (B + 1) = true ∧ (keyP k).depth = 0 ∧ (keyP k).weight ≤ 4 * B := by
  cases k with
  | inl i =>
    simp only [keySmall, decide_eq_true_eq] at h
    have f := Fit.intK b0 b1 h
    exact ⟨by simpa only [D.py, keyP] using f.sh, PyData.leavesShort_of_canLay0 _ _ (by simp only [keyP, PyData.canLay0]) (by simpa only [D.py, keyP] using f.is), by simp only [keyP, PyData.depth], by simpa only [D.py, keyP] using f.wgt⟩
  | inr x =>
    simp only [keySmall, strSmall, Bool.and_eq_true, decide_eq_true_eq] at h
    exact ⟨by simp only [keyP, PyData.showable], strLs h.1, by simp only [keyP, PyData.depth], by simp only [keyP, PyData.weight]; exact h.2⟩
theorem kv_ff {B : Nat} (b0 : 0 < B) (b1 : B ≤ 570) : ∀ (ks : List Key) (ps : List PyData), ks.all (keySmall B) = true → PyData.showableAll ps = true → PyData.leavesShortAll (B + 1) ps = true →
    PyData.showableKv ((ks.map keyP).zip ps) = true ∧ PyData.leavesShortKv (B + 1) ((ks.map keyP).zip ps) = true ∧ PyData.depthKv ((ks.map keyP).zip ps) ≤ PyData.depthAll ps ∧ PyData.weightKv ((ks.map keyP).zip ps) ≤ ks.length * (4 * B + 1) + PyData.weightAll ps
  | [], ps, _, _, _ => by simp [PyData.showableKv, PyData.leavesShortKv, PyData.depthKv, PyData.weightKv]
  | _ :: _, [], _, _, _ => by simp [PyData.showableKv, PyData.leavesShortKv, PyData.depthKv, PyData.weightKv]
  | k :: ks, p :: ps, hk, h1, h2 => by
    simp only [List.all_cons, Bool.and_eq_true] at hk
    simp only [PyData.showableAll, PyData.leavesShortAll, Bool.and_eq_true] at h1 h2
    obtain ⟨a1, a2, a3, a4⟩ := kv_ff b0 b1 ks ps hk.2 h1.2 h2.2
    obtain ⟨c1, c2, c3, c4⟩ := key_ff b0 b1 k hk.1
    simp only [List.map_cons, List.zip_cons_cons, PyData.showableKv, PyData.leavesShortKv, PyData.depthKv, PyData.weightKv, PyData.depthAll, PyData.weightAll, a1, a2, c1, c2, h1.1, h2.1, Bool.and_self, List.length_cons]
    refine ⟨trivial, trivial, by omega, ?_⟩
    rw [Nat.add_mul]
    omega
mutual
theorem ff_of {B : Nat} (b0 : 0 < B) (b1 : B ≤ 570) : ∀ d : D, d.small B = true → FF B d
  | .non, _ => ⟨by simp only [D.isF], by simp only [D.py, PyData.showable], by simp only [D.py, PyData.leavesShort], by simp only [D.py, PyData.depth]; exact Nat.zero_le _, by simp only [D.py, PyData.weight, D.cnt]; omega⟩
  | .bl _, _ => ⟨by simp only [D.isF], by simp only [D.py, PyData.showable], by simp only [D.py, PyData.leavesShort], by simp only [D.py, PyData.depth]; exact Nat.zero_le _, by simp only [D.py, PyData.weight, D.cnt]; omega⟩
  | .int i, h => by
    simp only [D.small, decide_eq_true_eq] at h
    have f := Fit.intK b0 b1 h
    exact ⟨by simp only [D.isF], f.sh, PyData.leavesShort_of_canLay0 _ _ f.ly f.is, by simp only [D.py, PyData.depth]; exact Nat.zero_le _, by
      have := f.wgt
      simp only [D.cnt]
      omega⟩
  | .str x, h => by
    simp only [D.small, strSmall, Bool.and_eq_true, decide_eq_true_eq] at h
    exact ⟨by simp only [D.isF], by simp only [D.py, PyData.showable], strLs h.1, by simp only [D.py, PyData.depth]; exact Nat.zero_le _, by simp only [D.py, PyData.weight, D.cnt]; omega⟩
  | .tup ds, h => by
    have f := ffs_of b0 b1 ds (by simpa only [D.small] using h)
    exact ⟨by simp only [D.isF, f.isF], by simp only [D.py, PyData.showable, f.sh], by simp only [D.py, PyData.leavesShort, f.ls], by simp only [D.py, PyData.depth, D.dep]; exact Nat.succ_le_succ f.dep, by
      simp only [D.py, PyData.weight, D.cnt]
      have := f.wgt
      rw [Nat.add_mul]
      omega⟩
  | .lst ds, h => by
    have f := ffs_of b0 b1 ds (by simpa only [D.small] using h)
    exact ⟨by simp only [D.isF, f.isF], by simp only [D.py, PyData.showable, f.sh], by simp only [D.py, PyData.leavesShort, f.ls], by simp only [D.py, PyData.depth, D.dep]; exact Nat.succ_le_succ f.dep, by
      simp only [D.py, PyData.weight, D.cnt]
      have := f.wgt
      rw [Nat.add_mul]
      omega⟩
  | .dic ks ds, h => by
    simp only [D.small, Bool.and_eq_true] at h
    have f := ffs_of b0 b1 ds h.2
    obtain ⟨a1, a2, a3, a4⟩ := kv_ff b0 b1 ks (D.pys ds) h.1 f.sh f.ls
    exact ⟨by simp only [D.isF, f.isF], by simp only [D.py, PyData.showable, a1], by simp only [D.py, PyData.leavesShort, a2], by simp only [D.py, PyData.depth, D.dep]; exact Nat.succ_le_succ (Nat.le_trans a3 f.dep), by
      simp only [D.py, PyData.weight, D.cnt]
      have := f.wgt
      rw [Nat.add_mul, Nat.add_mul]
      omega⟩
  | .ref _, h => by simp [D.small] at h
  | .deck, h => by simp [D.small] at h
  | .scr, h => by simp [D.small] at h
  | .ty _, h => by simp [D.small] at h
theorem ffs_of {B : Nat} (b0 : 0 < B) (b1 : B ≤ 570) : ∀ ds : List D, D.smalls B ds = true → FFs B ds
  | [], _ => ⟨by simp only [D.areF], by simp only [D.pys, PyData.showableAll], by simp only [D.pys, PyData.leavesShortAll], by simp only [D.pys, PyData.depthAll]; exact Nat.zero_le _, by simp only [D.pys, PyData.weightAll]; exact Nat.zero_le _⟩
  | d :: ds, h => by
    simp only [D.smalls, Bool.and_eq_true] at h
    have f := ff_of b0 b1 d h.1
    have g := ffs_of b0 b1 ds h.2
    refine ⟨by simp only [D.areF, f.isF, g.isF, Bool.and_self], by simp only [D.pys, PyData.showableAll, f.sh, g.sh, Bool.and_self], by simp only [D.pys, PyData.leavesShortAll, f.ls, g.ls, Bool.and_self], ?_, ?_⟩
    · simp only [D.pys, PyData.depthAll, D.deps]
      have := f.dep
      have := g.dep
      omega
    · simp only [D.pys, PyData.weightAll, D.cnts]
      have h1 := f.wgt
      have h2 := g.wgt
      rw [Nat.add_mul]
      omega
end
mutual
theorem ly_of {B : Nat} : ∀ d : D, d.small B = true → d.isD = true → d.py.canLay0 = true
  | .non, _, _ => by simp only [D.py, PyData.canLay0]
  | .bl _, _, _ => by simp only [D.py, PyData.canLay0]
  | .int i, _, _ => by simp only [D.py, PyData.canLay0]
  | .str x, h, _ => by
    simp only [D.small, strSmall, Bool.and_eq_true] at h
    simpa only [D.py] using h.1
  | .tup ds, h, i => by
    simp only [D.py, PyData.canLay0]
    exact lys_of ds (by simpa only [D.small] using h) (by simpa only [D.isD] using i)
  | .lst ds, h, i => by
    simp only [D.py, PyData.canLay0]
    exact lys_of ds (by simpa only [D.small] using h) (by simpa only [D.isD] using i)
  | .dic _ _, _, i => by simp [D.isD] at i
  | .ref _, h, _ => by simp [D.small] at h
  | .deck, h, _ => by simp [D.small] at h
  | .scr, h, _ => by simp [D.small] at h
  | .ty _, h, _ => by simp [D.small] at h
theorem lys_of {B : Nat} : ∀ ds : List D, D.smalls B ds = true → D.areD ds = true → PyData.canLayAll0 (D.pys ds) = true
  | [], _, _ => by simp only [D.pys, PyData.canLayAll0]
  | d :: ds, h, i => by
    simp only [D.smalls, D.areD, Bool.and_eq_true] at h i
    simp only [D.pys, PyData.canLayAll0, ly_of d h.1 i.1, lys_of ds h.2 i.2, Bool.and_self]
end
theorem isF_small {B : Nat} (b0 : 0 < B) (b1 : B ≤ 570) {d : D} (h : d.small B = true) : d.isF = true := (ff_of b0 b1 d h).isF
theorem shaped_small {B : Nat} (b0 : 0 < B) (b1 : B ≤ 570) {d : D} (h : d.small B = true) (i : d.isD = true) (hd : d.dep ≤ 64) : SeqAt.shaped d.py = true := by
  have f := ff_of b0 b1 d h
  unfold SeqAt.shaped
  rw [ly_of d h i, Bool.true_and, decide_eq_true_eq]
  exact Nat.le_trans f.dep hd
/-- repr shows data of at most n parts -/
theorem shows_small {B n : Nat} (b0 : 7 ≤ B) (b1 : B ≤ 570) {d : D} (h : d.small B = true) (hd : d.dep ≤ 64) (hc : d.cnt ≤ n) (hn : (B + 3) * (n * (4 * B + 1)) + (B + 1) ≤ 16777216) : Shows d := by
  have f := ff_of (by omega) b1 d h
  have m1 : d.cnt * (4 * B + 1) ≤ n * (4 * B + 1) := Nat.mul_le_mul_right _ hc
  refine ⟨f.isF, f.sh, Nat.le_trans f.dep hd, ?_⟩
  have h1 := PyData.shown_le (B + 1) (by omega) d.py f.ls
  have h2 : (B + 1 + 2) * d.py.weight ≤ (B + 3) * (n * (4 * B + 1)) := Nat.mul_le_mul_left _ (by have := f.wgt; omega)
  show _ ≤ 2 ^ 24
  omega
theorem smalls_mem {B : Nat} : ∀ {ds : List D}, D.smalls B ds = true ↔ ∀ d ∈ ds, d.small B = true
  | [] => by simp [D.smalls]
  | d :: ds => by simp only [D.smalls, Bool.and_eq_true, List.mem_cons, forall_eq_or_imp, smalls_mem]
theorem cnts_append : ∀ (a b : List D), D.cnts (a ++ b) = D.cnts a + D.cnts b
  | [], b => by simp [D.cnts]
  | d :: a, b => by simp only [List.cons_append, D.cnts, cnts_append]; omega
theorem deps_append : ∀ (a b : List D), D.deps (a ++ b) = max (D.deps a) (D.deps b)
  | [], b => by simp [D.deps]
  | d :: a, b => by simp only [List.cons_append, D.deps, deps_append]; omega
theorem smalls_append {B : Nat} (a b : List D) : D.smalls B (a ++ b) = (D.smalls B a && D.smalls B b) := by
  induction a with
  | nil => simp [D.smalls]
  | cons d a ih => simp only [List.cons_append, D.smalls, ih, Bool.and_assoc]
mutual
theorem small_up {B C : Nat} (h : B ≤ C) : ∀ d : D, d.small B = true → d.small C = true
  | .non, _ => by simp only [D.small]
  | .bl _, _ => by simp only [D.small]
  | .int i, s => by
    simp only [D.small, decide_eq_true_eq] at s ⊢
    exact Nat.lt_of_lt_of_le s (Nat.pow_le_pow_right (by decide) h)
  | .str x, s => by
    simp only [D.small, strSmall, Bool.and_eq_true, decide_eq_true_eq] at s ⊢
    exact ⟨s.1, by omega⟩
  | .tup ds, s => by simp only [D.small] at s ⊢; exact smalls_up h ds s
  | .lst ds, s => by simp only [D.small] at s ⊢; exact smalls_up h ds s
  | .dic ks ds, s => by
    simp only [D.small, Bool.and_eq_true] at s ⊢
    refine ⟨?_, smalls_up h ds s.2⟩
    rw [List.all_eq_true] at s ⊢
    intro k hk
    have := s.1 k hk
    cases k with
    | inl i =>
      simp only [keySmall, decide_eq_true_eq] at this ⊢
      exact Nat.lt_of_lt_of_le this (Nat.pow_le_pow_right (by decide) h)
    | inr x =>
      simp only [keySmall, strSmall, Bool.and_eq_true, decide_eq_true_eq] at this ⊢
      exact ⟨this.1, by omega⟩
  | .ref _, s => by simp [D.small] at s
  | .deck, s => by simp [D.small] at s
  | .scr, s => by simp [D.small] at s
  | .ty _, s => by simp [D.small] at s
theorem smalls_up {B C : Nat} (h : B ≤ C) : ∀ ds : List D, D.smalls B ds = true → D.smalls C ds = true
  | [], _ => by simp only [D.smalls]
  | d :: ds, s => by
    simp only [D.smalls, Bool.and_eq_true] at s ⊢
    exact ⟨small_up h d s.1, smalls_up h ds s.2⟩
end
end G

/-! What str shows is a text that repr can show. -/
namespace G
open PySem PySem.Spec PyProof.Rows L2

def txtOk (x : Str) : Prop := ∀ c ∈ x.cps.toList, c < 0x110000
theorem txtOk_iff {x : Str} : PyData.canLay0 (.str x) = true ↔ txtOk x := by
  simp only [PyData.canLay0, PyData.strOk, txtOk]
  rw [← Array.all_toList, List.all_eq_true]
  simp only [decide_eq_true_eq]
theorem char_lt (c : Char) : c.toNat < 0x110000 := by
  have := c.valid
  rcases this with h | h
  · exact Nat.lt_trans h (by decide)
  · exact h.2
theorem txtOk_ofString (s : String) : txtOk (Str.ofString s) := by
  intro c hc
  rw [Str.ofString_eq_toList] at hc
  simp only [List.mem_map] at hc
  obtain ⟨k, _, rfl⟩ := hc
  exact char_lt k
theorem txtOk_append {x y : Str} (hx : txtOk x) (hy : txtOk y) : txtOk (x ++ y) := by
  intro c hc
  have : (x ++ y).cps.toList = x.cps.toList ++ y.cps.toList := by
    show (x.cps ++ y.cps).toList = _
    simp
  rw [this, List.mem_append] at hc
  rcases hc with h | h
  · exact hx c h
  · exact hy c h
theorem txtOk_char {q c : Nat} (hq : q < 0x110000) (hc : c < 0x110000) : ∀ k ∈ Builtin.Str.reprChar q c, k < 0x110000 := by
  have hex : ∀ w : Nat, ∀ k ∈ List.replicate (w - ((Nat.toDigits 16 c).map Char.toNat).length) 48 ++ (Nat.toDigits 16 c).map Char.toNat, k < 0x110000 := by
    intro w k hk
    rw [List.mem_append] at hk
    rcases hk with hk | hk
    · rw [(List.mem_replicate.mp hk).2]; decide
    · obtain ⟨z, _, rfl⟩ := List.mem_map.mp hk
      exact char_lt z
  have hex2 : ∀ (a b w : Nat), a < 0x110000 → b < 0x110000 → ∀ k ∈ [a, b] ++ (List.replicate (w - ((Nat.toDigits 16 c).map Char.toNat).length) 48 ++ (Nat.toDigits 16 c).map Char.toNat), k < 0x110000 := by
    intro a b w ha hb k hk
    rw [List.mem_append] at hk
    rcases hk with hk | hk
    · rcases List.mem_cons.mp hk with rfl | hk
      · exact ha
      · rw [List.mem_singleton.mp hk]; exact hb
    · exact hex w k hk
  have two : ∀ (a b : Nat), a < 0x110000 → b < 0x110000 → ∀ k ∈ [a, b], k < 0x110000 := by
    intro a b ha hb k hk
    rcases List.mem_cons.mp hk with rfl | hk
    · exact ha
    · rw [List.mem_singleton.mp hk]; exact hb
  unfold Builtin.Str.reprChar
  dsimp only
  repeat' split
  · exact two _ _ (by decide) hc
  · exact two _ _ (by decide) (by decide)
  · exact two _ _ (by decide) (by decide)
  · exact two _ _ (by decide) (by decide)
  · intro k hk
    rw [List.mem_singleton.mp hk]
    exact hc
  · exact hex2 _ _ _ (by decide) (by decide)
  · exact hex2 _ _ _ (by decide) (by decide)
  · exact hex2 _ _ _ (by decide) (by decide)
theorem txtOk_fold {q : Nat} (hq : q < 0x110000) : ∀ (l : List Nat) (acc : Array Nat), (∀ c ∈ l, c < 0x110000) → (∀ c ∈ acc.toList, c < 0x110000) → ∀ c ∈ (l.foldl (fun out c => out ++ (Builtin.Str.reprChar q c).toArray) acc).toList, c < 0x110000
  | [], acc, _, ha => ha
  | c :: l, acc, hl, ha => by
    rw [List.foldl_cons]
    refine txtOk_fold hq l _ (fun k hk => hl k (List.mem_cons_of_mem _ hk)) fun k hk => ?_
    simp only [Array.toList_append, List.mem_append] at hk
    rcases hk with hk | hk
    · exact ha k hk
    · exact txtOk_char hq (hl c (List.mem_cons_self ..)) k hk
theorem quote_lt (x : Str) : reprQuote x < 0x110000 := by
  unfold reprQuote
  split <;> decide
theorem txtOk_repr {x : Str} (hx : txtOk x) : txtOk (reprText x) := by
  intro c hc
  unfold reprText at hc
  simp only [Array.toList_push, List.mem_append, List.mem_singleton] at hc
  rcases hc with hc | rfl
  · rw [← Array.foldl_toList] at hc
    refine txtOk_fold (quote_lt x) x.cps.toList _ hx (fun k hk => ?_) c hc
    simp only [List.mem_singleton] at hk
    rw [hk]
    exact quote_lt x
  · exact quote_lt x
theorem txtOk_join (sep : Str) (hs : txtOk sep) : ∀ ts : List Str, (∀ t ∈ ts, txtOk t) → txtOk (Str.join sep ts)
  | [], _ => by intro c hc; exact absurd hc (by simp [Str.join, Str.empty])
  | [x], h => h x (List.mem_cons_self ..)
  | x :: y :: r, h => by
    show txtOk (x ++ sep ++ Str.join sep (y :: r))
    exact txtOk_append (txtOk_append (h x (List.mem_cons_self ..)) hs) (txtOk_join sep hs (y :: r) fun t ht => h t (List.mem_cons_of_mem _ ht))
theorem txtOk_textFrom : ∀ (ts : List Str) (k : Nat) (acc : Str), txtOk acc → (∀ t ∈ ts, txtOk t) → txtOk (textFrom k acc ts)
  | [], _, _, ha, _ => ha
  | t :: ts, k, acc, ha, h => by
    show txtOk (textFrom (k + 1) (acc ++ (if k > 0 then ", " else "" : String) ++ t) ts)
    refine txtOk_textFrom ts _ _ (txtOk_append (txtOk_append ha ?_) (h t (List.mem_cons_self ..))) fun u hu => h u (List.mem_cons_of_mem _ hu)
    exact txtOk_ofString _
mutual
theorem txtOk_shown : ∀ d : PyData, d.canLay0 = true → txtOk d.shown
  | .none, _ => txtOk_ofString "None"
  | .bool b, _ => by
    simp only [PyData.shown]
    split <;> exact txtOk_ofString _
  | .int i, _ => txtOk_ofString _
  | .str x, h => txtOk_repr (txtOk_iff.mp h)
  | .list xs, h => by
    simp only [PyData.shown, listText]
    exact txtOk_append (txtOk_textFrom _ _ _ (txtOk_ofString "[") (txtOk_showns xs (by simpa only [PyData.canLay0] using h))) (txtOk_ofString "]")
  | .tuple xs, h => by
    simp only [PyData.shown, tupleText]
    exact txtOk_append (txtOk_append (txtOk_ofString "(") (txtOk_join _ (txtOk_ofString ", ") _ (txtOk_showns xs (by simpa only [PyData.canLay0] using h)))) (txtOk_ofString _)
  | .dict _, h => by simp [PyData.canLay0] at h
theorem txtOk_showns : ∀ xs : List PyData, PyData.canLayAll0 xs = true → ∀ t ∈ PyData.shownAll xs, txtOk t
  | [], _ => by intro t ht; simp [PyData.shownAll] at ht
  | x :: xs, h => by
    simp only [PyData.canLayAll0, Bool.and_eq_true] at h
    intro t ht
    simp only [PyData.shownAll, List.mem_cons] at ht
    rcases ht with rfl | ht
    · exact txtOk_shown x h.1
    · exact txtOk_showns xs h.2 t ht
end
end G

/-! A word's repr is no other thing's. -/
namespace G
open PySem PySem.Spec PyProof.Rows L2

theorem str_ext {x y : Str} (h : x.cps.toList = y.cps.toList) : x = y := by
  obtain ⟨⟨x⟩⟩ := x
  obtain ⟨⟨y⟩⟩ := y
  simp at h
  rw [h]
theorem cps_append (x y : Str) : (x ++ y).cps.toList = x.cps.toList ++ y.cps.toList := by
  show (x.cps ++ y.cps).toList = _
  simp
theorem foldl_app (f : Nat → List Nat) : ∀ (l : List Nat) (acc : Array Nat), (l.foldl (fun out c => out ++ (f c).toArray) acc).toList = acc.toList ++ l.flatMap f
  | [], acc => by simp
  | c :: l, acc => by rw [List.foldl_cons, foldl_app f l]; simp
theorem reprText_list (x : Str) : (reprText x).cps.toList = reprQuote x :: (x.cps.toList.flatMap (Builtin.Str.reprChar (reprQuote x)) ++ [reprQuote x]) := by
  unfold reprText
  simp only [Array.toList_push]
  rw [← Array.foldl_toList, foldl_app]
  simp
def letter (c : Nat) : Bool := decide (97 ≤ c) && decide (c ≤ 122) || decide (65 ≤ c) && decide (c ≤ 90)
def wordy (y : Str) : Bool := y.cps.toList.all letter
theorem letter_repr {c : Nat} (h : letter c = true) : Builtin.Str.reprChar 39 c = [c] ∧ c ≠ 39 ∧ c ≠ 92 := by
  have all : ((List.range 123).all fun c => !letter c || (decide (Builtin.Str.reprChar 39 c = [c]) && decide (c ≠ 39) && decide (c ≠ 92))) = true := by decide +kernel
  have hc : c < 123 := by
    unfold letter at h
    simp only [Bool.or_eq_true, Bool.and_eq_true, decide_eq_true_eq] at h
    omega
  have := List.all_eq_true.mp all c (List.mem_range.mpr hc)
  rw [h] at this
  simpa [and_assoc] using this
theorem wordy_quote {y : Str} (h : wordy y = true) : reprQuote y = 39 := by
  unfold reprQuote
  have : y.cps.contains 39 = false := by
    rw [Bool.eq_false_iff]
    intro z
    have m : 39 ∈ y.cps.toList := by simpa using z
    exact (letter_repr (List.all_eq_true.mp h _ m)).2.1 rfl
  rw [this]
  rfl
theorem flat_word : ∀ (l : List Nat), l.all letter = true → l.flatMap (Builtin.Str.reprChar 39) = l
  | [], _ => rfl
  | c :: l, h => by
    rw [List.all_cons, Bool.and_eq_true] at h
    rw [List.flatMap_cons, (letter_repr h.1).1, flat_word l h.2]
    rfl
theorem char_head (c : Nat) : (Builtin.Str.reprChar 39 c = [c]) ∨ ∃ t, Builtin.Str.reprChar 39 c = 92 :: t := by
  unfold Builtin.Str.reprChar
  dsimp only
  repeat' split
  · exact .inr ⟨_, rfl⟩
  · exact .inr ⟨_, rfl⟩
  · exact .inr ⟨_, rfl⟩
  · exact .inr ⟨_, rfl⟩
  · exact .inl rfl
  · exact .inr ⟨_, rfl⟩
  · exact .inr ⟨_, rfl⟩
  · exact .inr ⟨_, rfl⟩
theorem flat_inj : ∀ (l y : List Nat), y.all letter = true → l.flatMap (Builtin.Str.reprChar 39) ++ [39] = y ++ [39] → l = y
  | [], [], _, _ => rfl
  | [], c :: y, h, e => by
    rw [List.all_cons, Bool.and_eq_true] at h
    have h1 := letter_repr h.1
    simp only [List.flatMap_nil, List.nil_append, List.cons_append, List.cons.injEq] at e
    exact absurd e.1.symm h1.2.1
  | c :: l, [], _, e => by
    rw [List.flatMap_cons] at e
    rcases char_head c with z | ⟨t, z⟩
    · rw [z] at e
      have := congrArg List.length e
      simp at this
    · rw [z] at e
      simp at e
  | c :: l, d :: y, h, e => by
    rw [List.all_cons, Bool.and_eq_true] at h
    rw [List.flatMap_cons] at e
    rcases char_head c with z | ⟨t, z⟩
    · rw [z] at e
      simp only [List.singleton_append, List.cons_append, List.cons.injEq, List.nil_append] at e
      rw [flat_inj l y h.2 e.2, e.1]
    · rw [z] at e
      simp only [List.cons_append, List.cons.injEq] at e
      exact absurd e.1.symm (letter_repr h.1).2.2
theorem digit_char (n : Nat) (h : n < 10) : (Nat.digitChar n).toNat ≠ 39 := by
  have : ((List.range 10).all fun n => decide ((Nat.digitChar n).toNat ≠ 39)) = true := by decide +kernel
  simpa using List.all_eq_true.mp this n (List.mem_range.mpr h)
theorem digits_core : ∀ (fuel n : Nat) (ds : List Char), (∀ c ∈ ds, c.toNat ≠ 39) → ∀ c ∈ Nat.toDigitsCore 10 fuel n ds, c.toNat ≠ 39
  | 0, n, ds, h => by simpa [Nat.toDigitsCore] using h
  | fuel + 1, n, ds, h => by
    have h2 : ∀ c ∈ Nat.digitChar (n % 10) :: ds, c.toNat ≠ 39 := by
      intro c hc
      rcases List.mem_cons.mp hc with rfl | hc
      · exact digit_char _ (Nat.mod_lt _ (by decide))
      · exact h c hc
    unfold Nat.toDigitsCore
    dsimp only
    split
    · exact h2
    · exact digits_core fuel _ _ h2
theorem int_no_quote (i : Int) : ∀ c ∈ (PyData.shown (.int i)).cps.toList, c ≠ 39 := by
  intro c hc
  simp only [PyData.shown] at hc
  have nat : ∀ m : Nat, ∀ c ∈ (Str.ofString (toString (Int.ofNat m))).cps.toList, c ≠ 39 := by
    intro m c hc
    rw [text_ofNat] at hc
    simp only [List.mem_map] at hc
    obtain ⟨k, hk, rfl⟩ := hc
    exact digits_core _ _ [] (by simp) k hk
  cases i with
  | ofNat m => exact nat m c hc
  | negSucc m =>
    have e : Str.ofString (toString (Int.negSucc m)) = Str.ofString "-" ++ Str.ofString (toString (Int.ofNat (m + 1))) := by
      refine str_ext ?_
      rw [cps_append, Str.ofString_eq_toList, Str.ofString_eq_toList, Str.ofString_eq_toList]
      have : toString (Int.negSucc m) = "-" ++ toString (Int.ofNat (m + 1)) := rfl
      rw [this]
      simp
    rw [show (Str.ofString (toString (Int.negSucc m))).cps.toList = _ from congrArg (fun x : Str => x.cps.toList) e, cps_append, List.mem_append] at hc
    rcases hc with hc | hc
    · have : c ∈ [45] := hc
      simp at this
      omega
    · exact nat _ c hc
theorem textFrom_head : ∀ (ts : List Str) (k : Nat) (acc : Str), ∃ t, (textFrom k acc ts).cps.toList = acc.cps.toList ++ t
  | [], _, acc => ⟨[], by simp [textFrom]⟩
  | x :: ts, k, acc => by
    obtain ⟨t, e⟩ := textFrom_head ts (k + 1) (acc ++ (if k > 0 then ", " else "" : String) ++ x)
    refine ⟨(((if k > 0 then ", " else "" : String) : Str).cps.toList ++ x.cps.toList) ++ t, ?_⟩
    show (textFrom (k + 1) (acc ++ (if k > 0 then ", " else "" : String) ++ x) ts).cps.toList = _
    rw [e, cps_append, cps_append]
    simp
/-- only a text's repr begins so -/
theorem shown_head (d : PyData) (h : d.shown.cps.toList.head? = some 39) : ∃ x, d = .str x := by
  cases d with
  | str x => exact ⟨x, rfl⟩
  | none =>
    have e : (PyData.shown .none).cps.toList = [78, 111, 110, 101] := by decide +kernel
    rw [e] at h
    cases h
  | bool b =>
    cases b with
    | false =>
      have e : (PyData.shown (.bool false)).cps.toList.head? = some 70 := by decide +kernel
      rw [e] at h
      cases h
    | true =>
      have e : (PyData.shown (.bool true)).cps.toList.head? = some 84 := by decide +kernel
      rw [e] at h
      cases h
  | int i =>
    have := int_no_quote i 39 (List.mem_of_mem_head? (by rw [h]; rfl))
    exact absurd rfl this
  | list xs =>
    simp only [PyData.shown, listText] at h
    obtain ⟨t, e⟩ := textFrom_head (PyData.shownAll xs) 0 "["
    rw [cps_append, e] at h
    have e2 : ("[" : Str).cps.toList = [91] := rfl
    rw [e2] at h
    cases h
  | tuple xs =>
    simp only [PyData.shown, tupleText] at h
    rw [cps_append, cps_append] at h
    have e2 : ("(" : Str).cps.toList = [40] := rfl
    rw [e2] at h
    cases h
  | dict kvs =>
    simp only [PyData.shown, dictText] at h
    rw [cps_append, cps_append] at h
    have e2 : ("{" : Str).cps.toList = [123] := rfl
    rw [e2] at h
    cases h
theorem shown_word {y : Str} (hy : wordy y = true) {d : PyData} (h : d.shown = (PyData.str y).shown) : d = .str y := by
  have q := wordy_quote hy
  have e : (PyData.str y).shown.cps.toList = 39 :: (y.cps.toList ++ [39]) := by
    show (reprText y).cps.toList = _
    rw [reprText_list, q, flat_word _ hy]
  obtain ⟨x, rfl⟩ := shown_head d (by rw [h, e]; rfl)
  have e2 : (PyData.str x).shown.cps.toList = reprQuote x :: (x.cps.toList.flatMap (Builtin.Str.reprChar (reprQuote x)) ++ [reprQuote x]) := reprText_list x
  rw [h, e] at e2
  simp only [List.cons.injEq] at e2
  obtain ⟨q2, e2⟩ := e2
  rw [← q2] at e2
  rw [str_ext (flat_inj _ _ hy e2.symm)]
theorem py_str {d : D} {y : Str} (h : d.py = .str y) : d = .str y := by
  cases d <;> simp only [D.py] at h <;> first | (cases h; done) | (cases h; rfl)
/-- whether it is this text -/
def isW (d : D) (y : Str) : Bool := match d with
  | .str x => decide (x = y)
  | _ => false
theorem isW_iff {d : D} {y : Str} : isW d y = true ↔ d = .str y := by
  cases d <;> simp [isW]
/-- repr(d) == repr("word") -/
theorem word_dec {y : Str} (hy : wordy y = true) (d : D) : decide (d.py.shown = (D.str y).py.shown) = isW d y := by
  rw [Bool.eq_iff_iff, isW_iff]
  exact ⟨fun e => py_str (shown_word hy (by have := of_decide_eq_true e; simpa only [D.py] using this)), fun e => decide_eq_true (by rw [e])⟩
end G

/-! Kinds of anything; whole numbers and what they share. -/
namespace G
open PySem PySem.Spec PyProof.Rows L2

theorem areD_mem : ∀ {ds : List D}, D.areD ds = true → ∀ d ∈ ds, d.isD = true
  | [], _, d, hd => by cases hd
  | x :: xs, h, d, hd => by
    simp only [D.areD, Bool.and_eq_true] at h
    rcases List.mem_cons.mp hd with rfl | hd
    · exact h.1
    · exact areD_mem h.2 d hd
theorem areD_of : ∀ {ds : List D}, (∀ d ∈ ds, d.isD = true) → D.areD ds = true
  | [], _ => by simp only [D.areD]
  | x :: xs, h => by
    simp only [D.areD, Bool.and_eq_true]
    exact ⟨h x (by simp), areD_of fun d hd => h d (by simp [hd])⟩
theorem isD_tup {ds : List D} : (D.tup ds).isD = true ↔ ∀ d ∈ ds, d.isD = true := by
  simp only [D.isD]
  exact ⟨areD_mem, areD_of⟩
theorem areF_mem : ∀ {ds : List D}, D.areF ds = true → ∀ d ∈ ds, d.isF = true
  | [], _, d, hd => by cases hd
  | x :: xs, h, d, hd => by
    simp only [D.areF, Bool.and_eq_true] at h
    rcases List.mem_cons.mp hd with rfl | hd
    · exact h.1
    · exact areF_mem h.2 d hd
theorem areF_ofm : ∀ {ds : List D}, (∀ d ∈ ds, d.isF = true) → D.areF ds = true
  | [], _ => by simp only [D.areF]
  | x :: xs, h => by
    simp only [D.areF, Bool.and_eq_true]
    exact ⟨h x (by simp), areF_ofm fun d hd => h d (by simp [hd])⟩
theorem isF_tup {ds : List D} : (D.tup ds).isF = true ↔ ∀ d ∈ ds, d.isF = true := by
  simp only [D.isF]
  exact ⟨areF_mem, areF_ofm⟩
/-! ### is_whole, is_within, is_from, are_wholes -/
abbrev N_is_whole : List Str := ["thing"]
def c_is_whole : Sts := (.cons (.ret (.and (.blt .isinst (.cons (.var 0) (.cons (.typ .int) .nil))) (.not (.blt .isinst (.cons (.var 0) (.cons (.typ .bool) .nil))))))
  .nil)
def sp_is_whole : Spd := fun ds h Q => match ds with
  | [d] => d.isF = true ∧ Q (.bl (isWholeD d)) h
  | _ => False
theorem b_is_whole (ds : List D) (h : Hd) (Q : Pq) (q : sp_is_whole ds h Q) : wSs c_is_whole { nx := fun _ h' => Out Q .non h', rt := Out Q } (startD N_is_whole ds) h := by
  unfold sp_is_whole at q
  split at q
  · obtain ⟨hd, q⟩ := q
    rename_i d
    rw [isWholeD_eq] at q
    show wSs c_is_whole _ [some d] h
    simp only [c_is_whole, wSs, wS, wT, wTo, wE, wA, wO, wI, getS, gT, gTs, setAll, List.getElem?_cons_zero, List.getElem?_cons_succ, List.set_cons_zero, List.set_cons_succ, binD, augD, iaddD, imulD, addD, subD, mulD, fdivD, modD, powD, negD, cmpD, eqD, ordD, truthD, boolD, intO, view, subsD, sliceD, listed, dicted, bltD, seqD, seqI, zipI, zipSI, anyI, lstI, enumI, revI, starI, lenTs, mthD, lstOf, mAppend, mPop, mExtend, mUpper, mJoin, strsOf, tyD, Mt.T, setD, wipeD, List.map_cons, List.map_nil, Bool.false_eq_true, if_true, if_false, ↓reduceIte, isTy_F hd]
    cases e : isT d .int <;> rw [e] at q <;> simp only [wSs, wS, wT, wTo, wE, wA, wO, wI, getS, gT, gTs, setAll, List.getElem?_cons_zero, List.getElem?_cons_succ, List.set_cons_zero, List.set_cons_succ, binD, augD, iaddD, imulD, addD, subD, mulD, fdivD, modD, powD, negD, cmpD, eqD, ordD, truthD, boolD, intO, view, subsD, sliceD, listed, dicted, bltD, seqD, seqI, zipI, zipSI, anyI, lstI, enumI, revI, starI, lenTs, mthD, lstOf, mAppend, mPop, mExtend, mUpper, mJoin, strsOf, tyD, Mt.T, setD, wipeD, List.map_cons, List.map_nil, Bool.false_eq_true, if_true, if_false, ↓reduceIte] <;> exact .is (Hd.le.refl _) q
  · exact q.elim
abbrev N_is_within : List Str := ["thing", "low", "high"]
def c_is_within : Sts := (.cons (.ret (.and (.call "is_whole" ["thing"] sp_is_whole (.cons (.var 0) .nil)) (.chn .LtE .LtE (.var 1) (.var 0) (.var 2))))
  .nil)
def withinD (d : D) (lo hi : Int) : Bool := match d with
  | .int i => decide (lo ≤ i) && decide (i ≤ hi)
  | _ => false
def sp_is_within : Spd := fun ds h Q => match ds with
  | [d, .int lo, .int hi] => d.isF = true ∧ Q (.bl (withinD d lo hi)) h
  | _ => False
theorem b_is_within (ds : List D) (h : Hd) (Q : Pq) (q : sp_is_within ds h Q) : wSs c_is_within { nx := fun _ h' => Out Q .non h', rt := Out Q } (startD N_is_within ds) h := by
  unfold sp_is_within at q
  split at q
  · obtain ⟨hd, q⟩ := q
    rename_i d lo hi
    show wSs c_is_within _ [some d, some (.int lo), some (.int hi)] h
    simp only [c_is_within, wSs, wS, wT, wTo, wE, wA, wO, wI, getS, gT, gTs, setAll, List.getElem?_cons_zero, List.getElem?_cons_succ, List.set_cons_zero, List.set_cons_succ, binD, augD, iaddD, imulD, addD, subD, mulD, fdivD, modD, powD, negD, cmpD, eqD, ordD, truthD, boolD, intO, view, subsD, sliceD, listed, dicted, bltD, seqD, seqI, zipI, zipSI, anyI, lstI, enumI, revI, starI, lenTs, mthD, lstOf, mAppend, mPop, mExtend, mUpper, mJoin, strsOf, tyD, Mt.T, setD, wipeD, List.map_cons, List.map_nil, Bool.false_eq_true, if_true, if_false, ↓reduceIte, sp_is_whole]
    refine ⟨hd, ?_⟩
    cases e : isWholeD d
    · have e2 : withinD d lo hi = false := by cases d <;> first | rfl | cases e
      rw [e2] at q
      simp only [wSs, wS, wT, wTo, wE, wA, wO, wI, getS, gT, gTs, setAll, List.getElem?_cons_zero, List.getElem?_cons_succ, List.set_cons_zero, List.set_cons_succ, binD, augD, iaddD, imulD, addD, subD, mulD, fdivD, modD, powD, negD, cmpD, eqD, ordD, truthD, boolD, intO, view, subsD, sliceD, listed, dicted, bltD, seqD, seqI, zipI, zipSI, anyI, lstI, enumI, revI, starI, lenTs, mthD, lstOf, mAppend, mPop, mExtend, mUpper, mJoin, strsOf, tyD, Mt.T, setD, wipeD, List.map_cons, List.map_nil, Bool.false_eq_true, if_true, if_false, ↓reduceIte]
      exact .is (Hd.le.refl _) q
    · obtain ⟨i, rfl⟩ := isWhole_int e
      simp only [wSs, wS, wT, wTo, wE, wA, wO, wI, getS, gT, gTs, setAll, List.getElem?_cons_zero, List.getElem?_cons_succ, List.set_cons_zero, List.set_cons_succ, binD, augD, iaddD, imulD, addD, subD, mulD, fdivD, modD, powD, negD, cmpD, eqD, ordD, truthD, boolD, intO, view, subsD, sliceD, listed, dicted, bltD, seqD, seqI, zipI, zipSI, anyI, lstI, enumI, revI, starI, lenTs, mthD, lstOf, mAppend, mPop, mExtend, mUpper, mJoin, strsOf, tyD, Mt.T, setD, wipeD, List.map_cons, List.map_nil, Bool.false_eq_true, if_true, if_false, ↓reduceIte]
      by_cases h1 : lo ≤ i
      · simp only [h1, decide_true, if_true]
        simp only [withinD, h1, decide_true, Bool.true_and] at q
        exact .is (Hd.le.refl _) q
      · simp only [h1, decide_false, Bool.false_eq_true, if_false]
        simp only [withinD, h1, decide_false, Bool.false_and] at q
        exact .is (Hd.le.refl _) q
  · exact q.elim
abbrev N_is_from : List Str := ["thing", "low"]
def c_is_from : Sts := (.cons (.ret (.and (.call "is_whole" ["thing"] sp_is_whole (.cons (.var 0) .nil)) (.cmp .GtE (.var 0) (.var 1))))
  .nil)
def fromD (d : D) (lo : Int) : Bool := match d with
  | .int i => decide (lo ≤ i)
  | _ => false
def sp_is_from : Spd := fun ds h Q => match ds with
  | [d, .int lo] => d.isF = true ∧ Q (.bl (fromD d lo)) h
  | _ => False
theorem b_is_from (ds : List D) (h : Hd) (Q : Pq) (q : sp_is_from ds h Q) : wSs c_is_from { nx := fun _ h' => Out Q .non h', rt := Out Q } (startD N_is_from ds) h := by
  unfold sp_is_from at q
  split at q
  · obtain ⟨hd, q⟩ := q
    rename_i d lo
    show wSs c_is_from _ [some d, some (.int lo)] h
    simp only [c_is_from, wSs, wS, wT, wTo, wE, wA, wO, wI, getS, gT, gTs, setAll, List.getElem?_cons_zero, List.getElem?_cons_succ, List.set_cons_zero, List.set_cons_succ, binD, augD, iaddD, imulD, addD, subD, mulD, fdivD, modD, powD, negD, cmpD, eqD, ordD, truthD, boolD, intO, view, subsD, sliceD, listed, dicted, bltD, seqD, seqI, zipI, zipSI, anyI, lstI, enumI, revI, starI, lenTs, mthD, lstOf, mAppend, mPop, mExtend, mUpper, mJoin, strsOf, tyD, Mt.T, setD, wipeD, List.map_cons, List.map_nil, Bool.false_eq_true, if_true, if_false, ↓reduceIte, sp_is_whole]
    refine ⟨hd, ?_⟩
    cases e : isWholeD d
    · have e2 : fromD d lo = false := by cases d <;> first | rfl | cases e
      rw [e2] at q
      simp only [wSs, wS, wT, wTo, wE, wA, wO, wI, getS, gT, gTs, setAll, List.getElem?_cons_zero, List.getElem?_cons_succ, List.set_cons_zero, List.set_cons_succ, binD, augD, iaddD, imulD, addD, subD, mulD, fdivD, modD, powD, negD, cmpD, eqD, ordD, truthD, boolD, intO, view, subsD, sliceD, listed, dicted, bltD, seqD, seqI, zipI, zipSI, anyI, lstI, enumI, revI, starI, lenTs, mthD, lstOf, mAppend, mPop, mExtend, mUpper, mJoin, strsOf, tyD, Mt.T, setD, wipeD, List.map_cons, List.map_nil, Bool.false_eq_true, if_true, if_false, ↓reduceIte]
      exact .is (Hd.le.refl _) q
    · obtain ⟨i, rfl⟩ := isWhole_int e
      simp only [wSs, wS, wT, wTo, wE, wA, wO, wI, getS, gT, gTs, setAll, List.getElem?_cons_zero, List.getElem?_cons_succ, List.set_cons_zero, List.set_cons_succ, binD, augD, iaddD, imulD, addD, subD, mulD, fdivD, modD, powD, negD, cmpD, eqD, ordD, truthD, boolD, intO, view, subsD, sliceD, listed, dicted, bltD, seqD, seqI, zipI, zipSI, anyI, lstI, enumI, revI, starI, lenTs, mthD, lstOf, mAppend, mPop, mExtend, mUpper, mJoin, strsOf, tyD, Mt.T, setD, wipeD, List.map_cons, List.map_nil, Bool.false_eq_true, if_true, if_false, ↓reduceIte]
      exact .is (Hd.le.refl _) q
  · exact q.elim
abbrev N_are_wholes : List Str := ["thing", "one"]
def c_are_wholes : Sts := (.cons (.ret (.and (.blt .isinst (.cons (.var 0) (.cons (.typ .tuple) .nil))) (.blt .all (.cons (.lc false [("one", 1)] (.nm 1) (.seq (.var 0)) .none (.call "is_whole" ["thing"] sp_is_whole (.cons (.var 1) .nil))) .nil))))
  .nil)
def wholesD : D → Bool
  | .tup ds => ds.all isWholeD
  | _ => false
theorem wholes_ints {ds : List D} (h : ds.all isWholeD = true) : ∃ ns : List Int, ds = ns.map D.int := by
  induction ds with
  | nil => exact ⟨[], rfl⟩
  | cons d ds ih =>
    rw [List.all_cons, Bool.and_eq_true] at h
    obtain ⟨i, rfl⟩ := isWhole_int h.1
    obtain ⟨ns, rfl⟩ := ih h.2
    exact ⟨i :: ns, rfl⟩
theorem wholesD_ints (ns : List Int) : (ns.map D.int).all isWholeD = true := by
  rw [List.all_eq_true]
  intro d hd
  obtain ⟨i, _, rfl⟩ := List.mem_map.mp hd
  rfl
def sp_are_wholes : Spd := fun ds h Q => match ds with
  | [d] => d.isF = true ∧ Q (.bl (wholesD d)) h
  | _ => False
theorem blsOf_fun (f : D → Bool) (ds : List D) : blsOf (ds.map fun d => D.bl (f d)) = some (ds.map f) := by
  have := blsOf_map (ds.map f)
  rwa [List.map_map] at this
theorem all_id_map (f : D → Bool) (ds : List D) : (ds.map f).all id = ds.all f := by
  rw [List.all_map]; rfl
theorem b_are_wholes (ds : List D) (h : Hd) (Q : Pq) (q : sp_are_wholes ds h Q) : wSs c_are_wholes { nx := fun _ h' => Out Q .non h', rt := Out Q } (startD N_are_wholes ds) h := by
  unfold sp_are_wholes at q
  split at q
  · obtain ⟨hd, q⟩ := q
    rename_i d
    show wSs c_are_wholes _ [some d, none] h
    simp only [c_are_wholes, wSs, wS, wT, wTo, wE, wA, wO, wI, getS, gT, gTs, setAll, List.getElem?_cons_zero, List.getElem?_cons_succ, List.set_cons_zero, List.set_cons_succ, binD, augD, iaddD, imulD, addD, subD, mulD, fdivD, modD, powD, negD, cmpD, eqD, ordD, truthD, boolD, intO, view, subsD, sliceD, listed, dicted, bltD, seqD, seqI, zipI, zipSI, anyI, lstI, enumI, revI, starI, lenTs, mthD, lstOf, mAppend, mPop, mExtend, mUpper, mJoin, strsOf, tyD, Mt.T, setD, wipeD, List.map_cons, List.map_nil, Bool.false_eq_true, if_true, if_false, ↓reduceIte, isTy_F hd]
    cases e : isT d .tuple
    · have e2 : wholesD d = false := by cases d <;> first | rfl | cases e
      rw [e2] at q
      simp only [wSs, wS, wT, wTo, wE, wA, wO, wI, getS, gT, gTs, setAll, List.getElem?_cons_zero, List.getElem?_cons_succ, List.set_cons_zero, List.set_cons_succ, binD, augD, iaddD, imulD, addD, subD, mulD, fdivD, modD, powD, negD, cmpD, eqD, ordD, truthD, boolD, intO, view, subsD, sliceD, listed, dicted, bltD, seqD, seqI, zipI, zipSI, anyI, lstI, enumI, revI, starI, lenTs, mthD, lstOf, mAppend, mPop, mExtend, mUpper, mJoin, strsOf, tyD, Mt.T, setD, wipeD, List.map_cons, List.map_nil, Bool.false_eq_true, if_true, if_false, ↓reduceIte]
      exact .is (Hd.le.refl _) q
    · obtain ⟨ds, rfl⟩ := isT_tup e
      simp only [wSs, wS, wT, wTo, wE, wA, wO, wI, getS, gT, gTs, setAll, List.getElem?_cons_zero, List.getElem?_cons_succ, List.set_cons_zero, List.set_cons_succ, binD, augD, iaddD, imulD, addD, subD, mulD, fdivD, modD, powD, negD, cmpD, eqD, ordD, truthD, boolD, intO, view, subsD, sliceD, listed, dicted, bltD, seqD, seqI, zipI, zipSI, anyI, lstI, enumI, revI, starI, lenTs, mthD, lstOf, mAppend, mPop, mExtend, mUpper, mJoin, strsOf, tyD, Mt.T, setD, wipeD, List.map_cons, List.map_nil, Bool.false_eq_true, if_true, if_false, ↓reduceIte]
      refine compL_map (fun d => D.bl (isWholeD d)) trivial _ _ ?_ ?_
      · intro d hm Y Z y
        simp only [wSs, wS, wT, wTo, wE, wA, wO, wI, getS, gT, gTs, setAll, List.getElem?_cons_zero, List.getElem?_cons_succ, List.set_cons_zero, List.set_cons_succ, binD, augD, iaddD, imulD, addD, subD, mulD, fdivD, modD, powD, negD, cmpD, eqD, ordD, truthD, boolD, intO, view, subsD, sliceD, listed, dicted, bltD, seqD, seqI, zipI, zipSI, anyI, lstI, enumI, revI, starI, lenTs, mthD, lstOf, mAppend, mPop, mExtend, mUpper, mJoin, strsOf, tyD, Mt.T, setD, wipeD, List.map_cons, List.map_nil, Bool.false_eq_true, if_true, if_false, ↓reduceIte, sp_is_whole]
        exact ⟨isF_tup.mp hd d hm, y⟩
      · rw [List.nil_append, blsOf_fun]
        simp only [all_id_map]
        exact .is (Hd.le.refl _) q
  · exact q.elim
/-! ### shared_divisor, shared_sum -/
abbrev N_shared_divisor : List Str := ["one", "other"]
def c_shared_divisor_r1 : Sts := (.cons (.ret (.var 0))
  .nil)
def c_shared_divisor_b2 : Sts := (.cons (.par [0, 1] (.cons (.var 1) (.cons (.bin .Mod (.var 0) (.var 1)) .nil)))
    .nil)
def c_shared_divisor : Sts := (.cons (.whl (.val (.cmp .NotEq (.var 1) (.cst (.int 0))))
  c_shared_divisor_b2)
  c_shared_divisor_r1)
def sp_shared_divisor : Spd := fun ds h Q => match ds with
  | [.int a, .int b] => (0 ≤ a ∧ 0 ≤ b) ∧ Q (.int ((Nat.gcd a.toNat b.toNat : Nat) : Int)) h
  | _ => False
theorem b_shared_divisor (ds : List D) (h : Hd) (Q : Pq) (q : sp_shared_divisor ds h Q) : wSs c_shared_divisor { nx := fun _ h' => Out Q .non h', rt := Out Q } (startD N_shared_divisor ds) h := by
  unfold sp_shared_divisor at q
  split at q
  · rename_i a b
    obtain ⟨⟨a0, b0⟩, q⟩ := q
    obtain ⟨a, rfl⟩ := Int.eq_ofNat_of_zero_le a0
    obtain ⟨b, rfl⟩ := Int.eq_ofNat_of_zero_le b0
    show wSs c_shared_divisor _ [some (.int (a : Nat)), some (.int (b : Nat))] h
    simp only [c_shared_divisor, wSs, wS, wT, wTo, wE, wA, wO, wI, getS, gT, gTs, setAll, List.getElem?_cons_zero, List.getElem?_cons_succ, List.set_cons_zero, List.set_cons_succ, binD, augD, iaddD, imulD, addD, subD, mulD, fdivD, modD, powD, negD, cmpD, eqD, ordD, truthD, boolD, intO, view, subsD, sliceD, listed, dicted, bltD, seqD, seqI, zipI, zipSI, anyI, lstI, enumI, revI, starI, lenTs, mthD, lstOf, mAppend, mPop, mExtend, mUpper, mJoin, strsOf, tyD, Mt.T, setD, wipeD, List.map_cons, List.map_nil, Bool.false_eq_true, if_true, if_false, ↓reduceIte]
    refine ⟨fun m σ g => ∃ x y : Nat, σ = [some (.int (x : Nat)), some (.int (y : Nat))] ∧ g = h ∧ Nat.gcd x y = Nat.gcd a b ∧ m = y, ⟨_, a, b, rfl, rfl, rfl, rfl⟩, ?_⟩
    rintro m σ g ⟨x, y, rfl, rfl, e, rfl⟩
    simp only [wSs, wS, wT, wTo, wE, wA, wO, wI, getS, gT, gTs, setAll, List.getElem?_cons_zero, List.getElem?_cons_succ, List.set_cons_zero, List.set_cons_succ, binD, augD, iaddD, imulD, addD, subD, mulD, fdivD, modD, powD, negD, cmpD, eqD, ordD, truthD, boolD, intO, view, subsD, sliceD, listed, dicted, bltD, seqD, seqI, zipI, zipSI, anyI, lstI, enumI, revI, starI, lenTs, mthD, lstOf, mAppend, mPop, mExtend, mUpper, mJoin, strsOf, tyD, Mt.T, setD, wipeD, List.map_cons, List.map_nil, Bool.false_eq_true, if_true, if_false, ↓reduceIte, Bool.not_eq_true', decide_eq_false_iff_not]
    split
    · rename_i y0
      simp only [c_shared_divisor_b2, wSs, wS, wT, wTo, wE, wA, wO, wI, getS, gT, gTs, setAll, List.getElem?_cons_zero, List.getElem?_cons_succ, List.set_cons_zero, List.set_cons_succ, binD, augD, iaddD, imulD, addD, subD, mulD, fdivD, modD, powD, negD, cmpD, eqD, ordD, truthD, boolD, intO, view, subsD, sliceD, listed, dicted, bltD, seqD, seqI, zipI, zipSI, anyI, lstI, enumI, revI, starI, lenTs, mthD, lstOf, mAppend, mPop, mExtend, mUpper, mJoin, strsOf, tyD, Mt.T, setD, wipeD, List.map_cons, List.map_nil, Bool.false_eq_true, if_true, if_false, ↓reduceIte]
      refine ⟨by omega, x % m, Nat.mod_lt _ (by omega), m, x % m, by rw [Int.natCast_emod], trivial, ?_, rfl⟩
      rw [← e, Nat.gcd_comm m, ← Nat.gcd_rec, Nat.gcd_comm]
    · rename_i y0
      have : m = 0 := by omega
      subst this
      simp only [c_shared_divisor_r1, wSs, wS, wT, wTo, wE, wA, wO, wI, getS, gT, gTs, setAll, List.getElem?_cons_zero, List.getElem?_cons_succ, List.set_cons_zero, List.set_cons_succ, binD, augD, iaddD, imulD, addD, subD, mulD, fdivD, modD, powD, negD, cmpD, eqD, ordD, truthD, boolD, intO, view, subsD, sliceD, listed, dicted, bltD, seqD, seqI, zipI, zipSI, anyI, lstI, enumI, revI, starI, lenTs, mthD, lstOf, mAppend, mPop, mExtend, mUpper, mJoin, strsOf, tyD, Mt.T, setD, wipeD, List.map_cons, List.map_nil, Bool.false_eq_true, if_true, if_false, ↓reduceIte]
      simp only [Nat.gcd_zero_right] at e
      rw [e]
      exact .is (Hd.le.refl _) q
  · exact q.elim
end G

/-! Powers, and sums by powers. -/
namespace G
open PySem PySem.Spec PyProof.Rows L2

theorem natAbs_pow (B : Int) : ∀ e : Nat, (B ^ e).natAbs = B.natAbs ^ e
  | 0 => by rw [Int.pow_zero, Nat.pow_zero]; rfl
  | e + 1 => by rw [Int.pow_succ, Int.natAbs_mul, natAbs_pow B e, Nat.pow_succ]
theorem log2_le {n k : Nat} (h : n ≤ 2 ^ k) : n.log2 ≤ k := by
  by_cases z : n = 0
  · rw [z]; exact Nat.zero_le _
  · have : n.log2 < k + 1 := (Nat.log2_lt z).mpr (Nat.lt_of_le_of_lt h (Nat.pow_lt_pow_right (by decide) (Nat.lt_succ_self k)))
    omega
theorem log2_pow {B : Int} {b : Nat} (h : B.natAbs < 2 ^ b) (e : Nat) : (B ^ e).natAbs.log2 ≤ b * e := by
  refine log2_le ?_
  rw [natAbs_pow, Nat.pow_mul]
  exact Nat.pow_le_pow_left (Nat.le_of_lt h) e
theorem mulOk_pow {B : Int} {b e f : Nat} (h : B.natAbs < 2 ^ b) (hl : b * (e + f) < 1000000) : MulOk (B ^ e) (B ^ f) := by
  have h1 := log2_pow h e
  have h2 := log2_pow h f
  rw [Nat.mul_add] at hl
  exact .inr (.inr (by omega))
abbrev N_power_of : List Str := ["base", "many", "found"]
def c_power_of_r1 : Sts := (.cons (.ret (.var 2))
  .nil)
def c_power_of_r2 : Sts := (.cons (.asg (.nm 1) (.bin .FloorDiv (.var 1) (.cst (.int 2))))
    (.cons (.ite (.val (.cmp .Gt (.var 1) (.cst (.int 0))))
    (.cons (.asg (.nm 0) (.bin .Mult (.var 0) (.var 0)))
      .nil)
    .nil)
    .nil))
def c_power_of_b3 : Sts := (.cons (.ite (.val (.cmp .Eq (.bin .Mod (.var 1) (.cst (.int 2))) (.cst (.int 1))))
    (.cons (.asg (.nm 2) (.bin .Mult (.var 2) (.var 0)))
      .nil)
    .nil)
    c_power_of_r2)
def c_power_of : Sts := (.cons (.asg (.nm 2) (.cst (.int 1)))
  (.cons (.whl (.val (.cmp .Gt (.var 1) (.cst (.int 0))))
  c_power_of_b3)
  c_power_of_r1))
def sp_power_of : Spd := fun ds h Q => match ds with
  | [.int B, .int M] => (∃ b : Nat, B.natAbs < 2 ^ b ∧ b * M.toNat < 1000000) ∧ Q (.int (B ^ M.toNat)) h
  | _ => False
theorem b_power_of (ds : List D) (h : Hd) (Q : Pq) (q : sp_power_of ds h Q) : wSs c_power_of { nx := fun _ h' => Out Q .non h', rt := Out Q } (startD N_power_of ds) h := by
  unfold sp_power_of at q
  split at q
  · rename_i B M
    obtain ⟨⟨b, hb, hl⟩, q⟩ := q
    show wSs c_power_of _ [some (.int B), some (.int M), none] h
    simp only [c_power_of, wSs, wS, wT, wTo, wE, wA, wO, wI, getS, gT, gTs, setAll, List.getElem?_cons_zero, List.getElem?_cons_succ, List.set_cons_zero, List.set_cons_succ, binD, augD, iaddD, imulD, addD, subD, mulD, fdivD, modD, powD, negD, cmpD, eqD, ordD, truthD, boolD, intO, view, subsD, sliceD, listed, dicted, bltD, seqD, seqI, zipI, zipSI, anyI, lstI, enumI, revI, starI, lenTs, mthD, lstOf, mAppend, mPop, mExtend, mUpper, mJoin, strsOf, tyD, Mt.T, setD, wipeD, List.map_cons, List.map_nil, Bool.false_eq_true, if_true, if_false, ↓reduceIte]
    refine ⟨fun m σ g => ∃ (e f k : Nat) (z : Int), σ = [some (.int (B ^ f)), some (.int z), some (.int (B ^ e))] ∧ g = h ∧ z.toNat = k ∧ e + f * k = M.toNat ∧ m = k, ⟨_, 0, 1, M.toNat, M, by rw [Int.pow_zero, Int.pow_succ, Int.pow_zero, Int.one_mul], rfl, rfl, by omega, rfl⟩, ?_⟩
    rintro m σ g ⟨e, f, k, z, rfl, rfl, hz, he, rfl⟩
    simp only [wSs, wS, wT, wTo, wE, wA, wO, wI, getS, gT, gTs, setAll, List.getElem?_cons_zero, List.getElem?_cons_succ, List.set_cons_zero, List.set_cons_succ, binD, augD, iaddD, imulD, addD, subD, mulD, fdivD, modD, powD, negD, cmpD, eqD, ordD, truthD, boolD, intO, view, subsD, sliceD, listed, dicted, bltD, seqD, seqI, zipI, zipSI, anyI, lstI, enumI, revI, starI, lenTs, mthD, lstOf, mAppend, mPop, mExtend, mUpper, mJoin, strsOf, tyD, Mt.T, setD, wipeD, List.map_cons, List.map_nil, Bool.false_eq_true, if_true, if_false, ↓reduceIte, decide_eq_true_eq]
    split
    · rename_i zp
      have kp : 1 ≤ m := by omega
      have ef : e + f ≤ M.toNat := by rw [← he]; exact Nat.add_le_add_left (Nat.le_mul_of_pos_right f kp) e
      have bef : b * (e + f) < 1000000 := Nat.lt_of_le_of_lt (Nat.mul_le_mul_left b ef) hl
      have ok1 : MulOk (B ^ e) (B ^ f) := mulOk_pow hb bef
      have ok2 : 0 < z / 2 → MulOk (B ^ f) (B ^ f) := fun z2 => by
        have : f * 2 ≤ f * m := Nat.mul_le_mul_left f (by omega)
        have : f + f ≤ M.toNat := by omega
        exact mulOk_pow hb (Nat.lt_of_le_of_lt (Nat.mul_le_mul_left b this) hl)
      have hm2 : m = 2 * (m / 2) + m % 2 := by omega
      have he2 : e + f * (2 * (m / 2)) + f * (m % 2) = M.toNat := by rw [Nat.add_assoc, ← Nat.mul_add, ← hm2]; exact he
      have ff : ∀ x : Nat, f * (2 * x) = (f + f) * x := fun x => by rw [Nat.add_mul, ← Nat.mul_add, Nat.two_mul]
      rw [ff] at he2
      simp only [c_power_of_b3, c_power_of_r2, wSs, wS, wT, wTo, wE, wA, wO, wI, getS, gT, gTs, setAll, List.getElem?_cons_zero, List.getElem?_cons_succ, List.set_cons_zero, List.set_cons_succ, binD, augD, iaddD, imulD, addD, subD, mulD, fdivD, modD, powD, negD, cmpD, eqD, ordD, truthD, boolD, intO, view, subsD, sliceD, listed, dicted, bltD, seqD, seqI, zipI, zipSI, anyI, lstI, enumI, revI, starI, lenTs, mthD, lstOf, mAppend, mPop, mExtend, mUpper, mJoin, strsOf, tyD, Mt.T, setD, wipeD, List.map_cons, List.map_nil, Bool.false_eq_true, if_true, if_false, ↓reduceIte, decide_eq_true_eq]
      refine ⟨by decide, ?_⟩
      split
      · rename_i odd
        have odd : m % 2 = 1 := by omega
        rw [odd, Nat.mul_one] at he2
        refine ⟨ok1, ⟨by decide, .inl (by decide)⟩, ?_⟩
        split
        · rename_i z2
          exact ⟨ok2 z2, m / 2, by omega, e + f, f + f, m / 2, z / 2, by rw [Int.pow_add, Int.pow_add], trivial, by omega, by omega, rfl⟩
        · rename_i z2
          have z3 : m / 2 = 0 := by omega
          rw [z3] at he2
          exact ⟨m / 2, by omega, e + f, f, m / 2, z / 2, by rw [Int.pow_add], trivial, by omega, by rw [z3]; omega, rfl⟩
      · rename_i odd
        have odd : m % 2 = 0 := by omega
        rw [odd, Nat.mul_zero] at he2
        refine ⟨⟨by decide, .inl (by decide)⟩, ?_⟩
        split
        · rename_i z2
          exact ⟨ok2 z2, m / 2, by omega, e, f + f, m / 2, z / 2, by rw [Int.pow_add], trivial, by omega, by omega, rfl⟩
        · rename_i z2
          have z3 : m / 2 = 0 := by omega
          rw [z3] at he2
          exact ⟨m / 2, by omega, e, f, m / 2, z / 2, rfl, trivial, by omega, by rw [z3]; omega, rfl⟩
    · have z0 : m = 0 := by omega
      subst z0
      simp only [c_power_of_r1, wSs, wS, wT, wTo, wE, wA, wO, wI, getS, gT, gTs, setAll, List.getElem?_cons_zero, List.getElem?_cons_succ, List.set_cons_zero, List.set_cons_succ, binD, augD, iaddD, imulD, addD, subD, mulD, fdivD, modD, powD, negD, cmpD, eqD, ordD, truthD, boolD, intO, view, subsD, sliceD, listed, dicted, bltD, seqD, seqI, zipI, zipSI, anyI, lstI, enumI, revI, starI, lenTs, mthD, lstOf, mAppend, mPop, mExtend, mUpper, mJoin, strsOf, tyD, Mt.T, setD, wipeD, List.map_cons, List.map_nil, Bool.false_eq_true, if_true, if_false, ↓reduceIte]
      have ee : e = M.toNat := by omega
      subst ee
      exact .is (Hd.le.refl _) q
  · exact q.elim
end G

/-! Rests by several numbers. -/
namespace G
open PySem PySem.Spec PyProof.Rows L2

/-! the divisor that two numbers share, as a sum -/
def xg (r0 : Nat) (x0 y0 : Int) (r1 : Nat) (x1 y1 : Int) : Nat × Int × Int :=
  if h : r1 = 0 then (r0, x0, y0) else xg r1 x1 y1 (r0 % r1) (x0 - ((r0 / r1 : Nat) : Int) * x1) (y0 - ((r0 / r1 : Nat) : Int) * y1)
termination_by r1
decreasing_by exact Nat.mod_lt _ (Nat.pos_of_ne_zero h)
theorem xg_end {r0 : Nat} {x0 y0 x1 y1 : Int} : xg r0 x0 y0 0 x1 y1 = (r0, x0, y0) := by rw [xg, dif_pos rfl]
theorem xg_step {r0 r1 : Nat} {x0 y0 x1 y1 : Int} (h : r1 ≠ 0) : xg r0 x0 y0 r1 x1 y1 = xg r1 x1 y1 (r0 % r1) (x0 - ((r0 / r1 : Nat) : Int) * x1) (y0 - ((r0 / r1 : Nat) : Int) * y1) := by
  rw [xg, dif_neg h]
theorem xg_gcd : ∀ (m r0 r1 : Nat) (x0 y0 x1 y1 : Int), r1 ≤ m → (xg r0 x0 y0 r1 x1 y1).1 = Nat.gcd r0 r1
  | m, r0, r1, x0, y0, x1, y1, hm => by
    by_cases h : r1 = 0
    · subst h; rw [xg_end, Nat.gcd_zero_right]
    · have lt := Nat.mod_lt r0 (Nat.pos_of_ne_zero h)
      cases m with
      | zero => omega
      | succ m =>
        rw [xg_step h, xg_gcd m r1 (r0 % r1) _ _ _ _ (by omega), Nat.gcd_comm r1, ← Nat.gcd_rec, Nat.gcd_comm]
theorem xg_sum (a b : Int) : ∀ (m r0 r1 : Nat) (x0 y0 x1 y1 : Int), r1 ≤ m → a * x0 + b * y0 = r0 → a * x1 + b * y1 = r1 → a * (xg r0 x0 y0 r1 x1 y1).2.1 + b * (xg r0 x0 y0 r1 x1 y1).2.2 = (xg r0 x0 y0 r1 x1 y1).1
  | m, r0, r1, x0, y0, x1, y1, hm, e0, e1 => by
    by_cases h : r1 = 0
    · subst h; rw [xg_end]; exact e0
    · have lt := Nat.mod_lt r0 (Nat.pos_of_ne_zero h)
      cases m with
      | zero => omega
      | succ m =>
        rw [xg_step h]
        refine xg_sum a b m r1 (r0 % r1) _ _ _ _ (by omega) e1 ?_
        have d : (r0 : Int) = ((r0 / r1 : Nat) : Int) * r1 + ((r0 % r1 : Nat) : Int) := by
          have := Nat.div_add_mod r0 r1
          rw [Nat.mul_comm] at this
          exact_mod_cast this.symm
        have c1 : a * (((r0 / r1 : Nat) : Int) * x1) = ((r0 / r1 : Nat) : Int) * (a * x1) := by rw [← Int.mul_assoc, Int.mul_comm a, Int.mul_assoc]
        have c2 : b * (((r0 / r1 : Nat) : Int) * y1) = ((r0 / r1 : Nat) : Int) * (b * y1) := by rw [← Int.mul_assoc, Int.mul_comm b, Int.mul_assoc]
        rw [Int.mul_sub, Int.mul_sub, c1, c2]
        have : ((r0 / r1 : Nat) : Int) * (a * x1 + b * y1) = ((r0 / r1 : Nat) : Int) * r1 := by rw [e1]
        rw [Int.mul_add] at this
        omega
/-- how great the factors may grow -/
theorem xg_le {A : Nat} : ∀ (m r0 r1 : Nat) (x0 y0 x1 y1 : Int), r1 ≤ m → x1.natAbs * r0 + x0.natAbs * r1 ≤ A → x0.natAbs ≤ max 1 A → (r1 = 0 ∨ x1.natAbs ≤ max 1 A) → (xg r0 x0 y0 r1 x1 y1).2.1.natAbs ≤ max 1 A
  | m, r0, r1, x0, y0, x1, y1, hm, e, b0, b1 => by
    by_cases h : r1 = 0
    · subst h; rw [xg_end]; exact b0
    · have lt := Nat.mod_lt r0 (Nat.pos_of_ne_zero h)
      cases m with
      | zero => omega
      | succ m =>
        rw [xg_step h]
        have n2 : (x0 - ((r0 / r1 : Nat) : Int) * x1).natAbs ≤ x0.natAbs + (r0 / r1) * x1.natAbs := by
          have := Int.natAbs_sub_le x0 (((r0 / r1 : Nat) : Int) * x1)
          rw [Int.natAbs_mul, Int.natAbs_natCast] at this
          exact this
        have e' : (x0 - ((r0 / r1 : Nat) : Int) * x1).natAbs * r1 + x1.natAbs * (r0 % r1) ≤ A := by
          have h1 : (x0 - ((r0 / r1 : Nat) : Int) * x1).natAbs * r1 ≤ (x0.natAbs + (r0 / r1) * x1.natAbs) * r1 := Nat.mul_le_mul_right _ n2
          have h2 : x1.natAbs * r0 = x1.natAbs * (r1 * (r0 / r1)) + x1.natAbs * (r0 % r1) := by rw [← Nat.mul_add, Nat.div_add_mod]
          have h3 : (r0 / r1) * x1.natAbs * r1 = x1.natAbs * (r1 * (r0 / r1)) := by rw [Nat.mul_comm (r0 / r1), Nat.mul_assoc, Nat.mul_comm (r0 / r1)]
          rw [Nat.add_mul, h3] at h1
          omega
        refine xg_le m r1 (r0 % r1) _ _ _ _ (by omega) e' (b1.resolve_left h) ?_
        right
        have : (x0 - ((r0 / r1 : Nat) : Int) * x1).natAbs * 1 ≤ (x0 - ((r0 / r1 : Nat) : Int) * x1).natAbs * r1 := Nat.mul_le_mul_left _ (Nat.pos_of_ne_zero h)
        omega
def xgcd (a b : Nat) : Nat × Int × Int := xg a 1 0 b 0 1
theorem xgcd_gcd (a b : Nat) : (xgcd a b).1 = Nat.gcd a b := xg_gcd b a b _ _ _ _ (Nat.le_refl _)
theorem xgcd_sum (a b : Nat) : (a : Int) * (xgcd a b).2.1 + (b : Int) * (xgcd a b).2.2 = ((Nat.gcd a b : Nat) : Int) := by
  rw [← xgcd_gcd]
  exact xg_sum a b b a b 1 0 0 1 (Nat.le_refl _) (by simp) (by simp)
theorem xgcd_le (a b : Nat) : (xgcd a b).2.1.natAbs ≤ max 1 b := xg_le b a b 1 0 0 1 (Nat.le_refl _) (by simp) (by simp; omega) (.inr (by simp))
abbrev N_shared_sum : List Str := ["one", "other", "first", "second", "times", "third", "old", "new"]
def c_shared_sum_r1 : Sts := (.cons (.ret (.var 2))
  .nil)
def c_shared_sum_b2 : Sts := (.cons (.asg (.nm 4) (.bin .FloorDiv (.sub (.var 2) (.cst (.int 0))) (.sub (.var 3) (.cst (.int 0)))))
    (.cons (.asg (.nm 5) (.blt .tuple (.cons (.lc false [("old", 6), ("new", 7)] (.tp (.cons (.nm 6) (.cons (.nm 7) .nil))) (.zips (.var 2) (.var 3)) .none (.bin .Sub (.var 6) (.bin .Mult (.var 4) (.var 7)))) .nil)))
    (.cons (.par [2, 3] (.cons (.var 3) (.cons (.var 5) .nil)))
    .nil)))
def c_shared_sum : Sts := (.cons (.par [2, 3] (.cons (.tup (.cons (.var 0) (.cons (.cst (.int 1)) (.cons (.cst (.int 0)) .nil)))) (.cons (.tup (.cons (.var 1) (.cons (.cst (.int 0)) (.cons (.cst (.int 1)) .nil)))) .nil)))
  (.cons (.whl (.val (.cmp .NotEq (.sub (.var 3) (.cst (.int 0))) (.cst (.int 0))))
  c_shared_sum_b2)
  c_shared_sum_r1))
def sp_shared_sum : Spd := fun ds h Q => match ds with
  | [.int a, .int b] => (0 ≤ a ∧ 0 ≤ b ∧ a < 2 ^ 200 ∧ b < 2 ^ 200) ∧ Q (.tup [.int ((xgcd a.toNat b.toNat).1 : Nat), .int (xgcd a.toNat b.toNat).2.1, .int (xgcd a.toNat b.toNat).2.2]) h
  | _ => False
theorem mulOk_le {i j : Int} (hi : i.natAbs ≤ 2 ^ 200) (hj : j.natAbs ≤ 2 ^ 200) : MulOk i j := by
  have h1 := log2_le hi
  have h2 := log2_le hj
  exact .inr (.inr (by omega))
theorem log2_lt200 {n : Nat} (h : n < 2 ^ 200) : n.log2 < 9000 := by
  have := log2_le (Nat.le_of_lt h)
  omega
theorem xstep {A r0 r1 : Nat} {x0 x1 : Int} (e : x1.natAbs * r0 + x0.natAbs * r1 ≤ A) : (x0 - ((r0 / r1 : Nat) : Int) * x1).natAbs * r1 + x1.natAbs * (r0 % r1) ≤ A := by
  have n2 : (x0 - ((r0 / r1 : Nat) : Int) * x1).natAbs ≤ x0.natAbs + (r0 / r1) * x1.natAbs := by
    have := Int.natAbs_sub_le x0 (((r0 / r1 : Nat) : Int) * x1)
    rw [Int.natAbs_mul, Int.natAbs_natCast] at this
    exact this
  have h1 : (x0 - ((r0 / r1 : Nat) : Int) * x1).natAbs * r1 ≤ (x0.natAbs + (r0 / r1) * x1.natAbs) * r1 := Nat.mul_le_mul_right _ n2
  have h2 : x1.natAbs * r0 = x1.natAbs * (r1 * (r0 / r1)) + x1.natAbs * (r0 % r1) := by rw [← Nat.mul_add, Nat.div_add_mod]
  have h3 : (r0 / r1) * x1.natAbs * r1 = x1.natAbs * (r1 * (r0 / r1)) := by rw [Nat.mul_comm (r0 / r1), Nat.mul_assoc, Nat.mul_comm (r0 / r1)]
  rw [Nat.add_mul, h3] at h1
  omega
theorem b_shared_sum (ds : List D) (h : Hd) (Q : Pq) (q : sp_shared_sum ds h Q) : wSs c_shared_sum { nx := fun _ h' => Out Q .non h', rt := Out Q } (startD N_shared_sum ds) h := by
  unfold sp_shared_sum at q
  split at q
  · rename_i a b
    obtain ⟨⟨a0, b0, a1, b1⟩, q⟩ := q
    obtain ⟨a, rfl⟩ := Int.eq_ofNat_of_zero_le a0
    obtain ⟨b, rfl⟩ := Int.eq_ofNat_of_zero_le b0
    rw [Int.toNat_natCast, Int.toNat_natCast] at q
    show wSs c_shared_sum _ [some (.int (a : Nat)), some (.int (b : Nat)), none, none, none, none, none, none] h
    simp only [c_shared_sum, wSs, wS, wT, wTo, wE, wA, wO, wI, getS, gT, gTs, setAll, List.getElem?_cons_zero, List.getElem?_cons_succ, List.set_cons_zero, List.set_cons_succ, binD, augD, iaddD, imulD, addD, subD, mulD, fdivD, modD, powD, negD, cmpD, eqD, ordD, truthD, boolD, intO, view, subsD, sliceD, listed, dicted, bltD, seqD, seqI, zipI, zipSI, anyI, lstI, enumI, revI, starI, lenTs, mthD, lstOf, mAppend, mPop, mExtend, mUpper, mJoin, strsOf, tyD, Mt.T, setD, wipeD, List.map_cons, List.map_nil, Bool.false_eq_true, if_true, if_false, ↓reduceIte]
    refine ⟨fun m σ g => ∃ (r0 r1 : Nat) (x0 y0 x1 y1 : Int) (s4 s5 s6 s7 : Option D), σ = [some (.int (a : Nat)), some (.int (b : Nat)), some (.tup [.int (r0 : Nat), .int x0, .int y0]), some (.tup [.int (r1 : Nat), .int x1, .int y1]), s4, s5, s6, s7] ∧ g = h ∧ xg r0 x0 y0 r1 x1 y1 = xgcd a b ∧ r0 < 2 ^ 200 ∧ r1 < 2 ^ 200 ∧ x1.natAbs * r0 + x0.natAbs * r1 ≤ b ∧ y1.natAbs * r0 + y0.natAbs * r1 ≤ a ∧ m = r1,
      ⟨_, a, b, 1, 0, 0, 1, none, none, none, none, rfl, rfl, rfl, by omega, by omega, by simp, by simp, rfl⟩, ?_⟩
    rintro m σ g ⟨r0, r1, x0, y0, x1, y1, s4, s5, s6, s7, rfl, rfl, e, l0, l1, hx, hy, rfl⟩
    simp only [wSs, wS, wT, wTo, wE, wA, wO, wI, getS, gT, gTs, setAll, List.getElem?_cons_zero, List.getElem?_cons_succ, List.set_cons_zero, List.set_cons_succ, binD, augD, iaddD, imulD, addD, subD, mulD, fdivD, modD, powD, negD, cmpD, eqD, ordD, truthD, boolD, intO, view, subsD, sliceD, listed, dicted, bltD, seqD, seqI, zipI, zipSI, anyI, lstI, enumI, revI, starI, lenTs, mthD, lstOf, mAppend, mPop, mExtend, mUpper, mJoin, strsOf, tyD, Mt.T, setD, wipeD, List.map_cons, List.map_nil, Bool.false_eq_true, if_true, if_false, ↓reduceIte, at30, Bool.not_eq_true', decide_eq_false_iff_not]
    split
    · rename_i r0'
      have nz : m ≠ 0 := by omega
      rw [xg_step nz] at e
      simp only [c_shared_sum_b2, wSs, wS, wT, wTo, wE, wA, wO, wI, getS, gT, gTs, setAll, List.getElem?_cons_zero, List.getElem?_cons_succ, List.set_cons_zero, List.set_cons_succ, binD, augD, iaddD, imulD, addD, subD, mulD, fdivD, modD, powD, negD, cmpD, eqD, ordD, truthD, boolD, intO, view, subsD, sliceD, listed, dicted, bltD, seqD, seqI, zipI, zipSI, anyI, lstI, enumI, revI, starI, lenTs, mthD, lstOf, mAppend, mPop, mExtend, mUpper, mJoin, strsOf, tyD, Mt.T, setD, wipeD, List.map_cons, List.map_nil, Bool.false_eq_true, if_true, if_false, ↓reduceIte, at30]
      have cast : ((r0 : Nat) : Int) / ((m : Nat) : Int) = ((r0 / m : Nat) : Int) := (Int.natCast_ediv _ _).symm
      have ql : r0 / m ≤ r0 := Nat.div_le_self _ _
      have ok : ∀ (j : Int) (A : Nat), A < 2 ^ 200 → j.natAbs * r0 ≤ A → MulOk ((r0 / m : Nat) : Int) j := fun j A hA hj => by
        by_cases r00 : r0 = 0
        · subst r00
          rw [Nat.zero_div]
          exact .inl (by decide)
        · have : j.natAbs * 1 ≤ j.natAbs * r0 := Nat.mul_le_mul_left _ (Nat.pos_of_ne_zero r00)
          exact mulOk_le (by rw [Int.natAbs_natCast]; omega) (by omega)
      have okr : MulOk ((r0 / m : Nat) : Int) ((m : Nat) : Int) := mulOk_le (by rw [Int.natAbs_natCast]; omega) (by rw [Int.natAbs_natCast]; omega)
      rw [cast]
      simp only [zipD, List.zipWith_cons_cons, List.zipWith_nil_left, compL, wSs, wS, wT, wTo, wE, wA, wO, wI, getS, gT, gTs, setAll, List.getElem?_cons_zero, List.getElem?_cons_succ, List.set_cons_zero, List.set_cons_succ, binD, augD, iaddD, imulD, addD, subD, mulD, fdivD, modD, powD, negD, cmpD, eqD, ordD, truthD, boolD, intO, view, subsD, sliceD, listed, dicted, bltD, seqD, seqI, zipI, zipSI, anyI, lstI, enumI, revI, starI, lenTs, mthD, lstOf, mAppend, mPop, mExtend, mUpper, mJoin, strsOf, tyD, Mt.T, setD, wipeD, List.map_cons, List.map_nil, Bool.false_eq_true, if_true, if_false, ↓reduceIte, List.nil_append, List.cons_append]
      have md : ((r0 : Nat) : Int) - ((r0 / m : Nat) : Int) * ((m : Nat) : Int) = ((r0 % m : Nat) : Int) := by
        have := Nat.div_add_mod r0 m
        rw [Nat.mul_comm] at this
        have : ((r0 / m * m + r0 % m : Nat) : Int) = ((r0 : Nat) : Int) := by rw [this]
        rw [Int.natCast_add, Int.natCast_mul] at this
        omega
      rw [md]
      have lt := Nat.mod_lt r0 (Nat.pos_of_ne_zero nz)
      refine ⟨⟨by omega, .inr (by rw [Int.natAbs_natCast]; exact log2_lt200 l1)⟩, rfl, ⟨trivial, trivial⟩, okr, ⟨trivial, trivial⟩, ok x1 b (by omega) (by omega), ⟨trivial, trivial⟩, ok y1 a (by omega) (by omega), ⟨trivial, trivial⟩, r0 % m, by omega, m, r0 % m, _, _, _, _, _, _, _, _, rfl, trivial, e, l1, by omega, xstep hx, xstep hy, rfl⟩
    · rename_i r0'
      have : m = 0 := by omega
      subst this
      rw [xg_end] at e
      simp only [c_shared_sum_r1, wSs, wS, wT, wTo, wE, wA, wO, wI, getS, gT, gTs, setAll, List.getElem?_cons_zero, List.getElem?_cons_succ, List.set_cons_zero, List.set_cons_succ, binD, augD, iaddD, imulD, addD, subD, mulD, fdivD, modD, powD, negD, cmpD, eqD, ordD, truthD, boolD, intO, view, subsD, sliceD, listed, dicted, bltD, seqD, seqI, zipI, zipSI, anyI, lstI, enumI, revI, starI, lenTs, mthD, lstOf, mAppend, mPop, mExtend, mUpper, mJoin, strsOf, tyD, Mt.T, setD, wipeD, List.map_cons, List.map_nil, Bool.false_eq_true, if_true, if_false, ↓reduceIte]
      rw [← e] at q
      exact .is (Hd.le.refl _) q
  · exact q.elim
end G

/-! Expressions that only read and reckon: their value, and what must be shown, reckoned at once. -/
namespace G
open PySem PySem.Spec PyProof.Rows L2

abbrev Ev := Option (D × List Prop)
def evB (o : Operator) (x y : D) : Ev := match o with
  | .Add => match x, y with
    | .int i, .int j => some (.int (i + j), [])
    | .str a, .str b => some (.str (a ++ b), [a.length + b.length ≤ sizeLine])
    | .lst a, .lst b => some (.lst (a ++ b), [a.length + b.length ≤ sizeLine])
    | .tup a, .tup b => some (.tup (a ++ b), [a.length + b.length ≤ sizeLine])
    | _, _ => none
  | .Sub => match x, y with
    | .int i, .int j => some (.int (i - j), [])
    | _, _ => none
  | .Mult => match x, y with
    | .int i, .int j => some (.int (i * j), [MulOk i j])
    | .lst ds, .int j => some (.lst (List.replicate j.toNat ds).flatten, [-(9223372036854775808) ≤ j ∧ j < 9223372036854775808 ∧ ds.length * j.toNat ≤ sizeLine])
    | .tup ds, .int j => some (.tup (List.replicate j.toNat ds).flatten, [ds ≠ [] ∧ 1 ≤ j ∧ j ≤ 1000 ∧ ds.length ≤ 1000])
    | _, _ => none
  | .FloorDiv => match x, y with
    | .int i, .int j => some (.int (i / j), [DivOk j])
    | _, _ => none
  | .Mod => match x, y with
    | .int i, .int j => some (.int (i % j), [0 < j])
    | _, _ => none
  | .Pow => match x, y with
    | .int i, .int j => some (.int (i ^ j.toNat), [0 ≤ j ∧ j ≤ 1000000 ∧ i.natAbs < 18446744073709551616])
    | _, _ => none
  | _ => none
def evS (x y : D) : Ev := match x, y with
  | .lst ds, .int i => match atI ds i with
    | some d => some (d, [])
    | none => none
  | .tup ds, .int i => match atI ds i with
    | some d => some (d, [])
    | none => none
  | _, _ => none
def evStr (x : D) : Ev := match x with
  | .int i => some (.str (toString i), [i.natAbs.log2 < 1920])
  | .str y => some (.str y, [])
  | _ => none
def evL (x : D) : Ev := match x with
  | .lst ds => some (.int (ds.length : Nat), [])
  | .tup ds => some (.int (ds.length : Nat), [])
  | _ => none
def evT (x : D) : Ev := match x with
  | .lst ds => some (.tup ds, [])
  | .tup ds => some (.tup ds, [])
  | _ => none
def evG (x : D) : Ev := match x with
  | .lst ds => some (.lst ds, [])
  | .tup ds => some (.lst ds, [])
  | _ => none
def evF (b : Bl) (xs : List D) : Ev := match b, xs with
  | .str, [x] => evStr x
  | .len, [x] => evL x
  | .tuple, [x] => evT x
  | .list, [x] => evG x
  | .min, [.int i, .int j] => some (.int (if j < i then j else i), [])
  | .max, [.int i, .int j] => some (.int (if j > i then j else i), [])
  | _, _ => none
def evN (x : D) : Ev := match x with
  | .int i => some (.int (-i), [])
  | _ => none
def evC (o : CmpOp) (x y : D) : Option Bool := match o with
  | .Eq => match x, y with
    | .int i, .int j => some (decide (i = j))
    | .str i, .str j => some (decide (i = j))
    | _, _ => none
  | .NotEq => match x, y with
    | .int i, .int j => some (!decide (i = j))
    | .str i, .str j => some (!decide (i = j))
    | _, _ => none
  | .Lt => match x, y with
    | .int i, .int j => some (decide (i < j))
    | _, _ => none
  | .LtE => match x, y with
    | .int i, .int j => some (decide (i ≤ j))
    | _, _ => none
  | .Gt => match x, y with
    | .int i, .int j => some (decide (j < i))
    | _, _ => none
  | .GtE => match x, y with
    | .int i, .int j => some (decide (j ≤ i))
    | _, _ => none
  | _ => none
def All : List Prop → Prop
  | [] => True
  | p :: ps => p ∧ All ps
mutual
def ev : Ex → Sl → Ev
  | .cmp o a b, σ => match ev a σ with
    | some (x, cs) => match ev b σ with
      | some (y, ds) => match evC o x y with
        | some k => some (.bl k, cs ++ ds)
        | none => none
      | none => none
    | none => none
  | .chn o p a b c, σ => match ev a σ with
    | some (x, cs) => match ev b σ with
      | some (y, ds) => match ev c σ with
        | some (z, es) => match evC o x y with
          | some k => match evC p y z with
            | some m => some (.bl (k && m), cs ++ (ds ++ [k = true → All es]))
            | none => none
          | none => none
        | none => none
      | none => none
    | none => none
  | .not a, σ => match ev a σ with
    | some (.bl k, cs) => some (.bl (!k), cs)
    | _ => none
  | .and a b, σ => match ev a σ with
    | some (.bl k, cs) => match ev b σ with
      | some (.bl m, ds) => some (.bl (k && m), cs ++ [k = true → All ds])
      | _ => none
    | _ => none
  | .or a b, σ => match ev a σ with
    | some (.bl k, cs) => match ev b σ with
      | some (.bl m, ds) => some (.bl (k || m), cs ++ [k = false → All ds])
      | _ => none
    | _ => none
  | .ife c a b, σ => match evt c σ with
    | some (k, cs) => match ev a σ with
      | some (x, ds) => match ev b σ with
        | some (y, es) => some (if k = true then x else y, cs ++ [k = true → All ds, k = false → All es])
        | none => none
      | none => none
    | none => none
  | .cst d, _ => some (d, [])
  | .glb _ d, _ => some (d, [])
  | .var i, σ => match σ[i]? with
    | some (some d) => some (d, [])
    | _ => none
  | .bin o a b, σ => match ev a σ with
    | some (x, cs) => match ev b σ with
      | some (y, ds) => match evB o x y with
        | some (z, es) => some (z, cs ++ (ds ++ es))
        | none => none
      | none => none
    | none => none
  | .sub a b, σ => match ev a σ with
    | some (x, cs) => match ev b σ with
      | some (y, ds) => match evS x y with
        | some (z, es) => some (z, cs ++ (ds ++ es))
        | none => none
      | none => none
    | none => none
  | .neg a, σ => match ev a σ with
    | some (x, cs) => match evN x with
      | some (z, es) => some (z, cs ++ es)
      | none => none
    | none => none
  | .tup es, σ => match evs es σ with
    | some (ds, cs) => some (.tup ds, cs)
    | none => none
  | .lst es, σ => match evs es σ with
    | some (ds, cs) => some (.lst ds, cs)
    | none => none
  | .dct false ks es, σ => match evs es σ with
    | some (ds, cs) => some (.dic ks ds, cs)
    | none => none
  | .blt b es, σ => match evs es σ with
    | some (ds, cs) => match evF b ds with
      | some (z, es) => some (z, cs ++ es)
      | none => none
    | none => none
  | _, _ => none
def evs : Exs → Sl → Option (List D × List Prop)
  | .nil, _ => some ([], [])
  | .cons e es, σ => match ev e σ with
    | some (d, cs) => match evs es σ with
      | some (ds, ps) => some (d :: ds, cs ++ ps)
      | none => none
    | none => none
def evt : Tx → Sl → Option (Bool × List Prop)
  | .val e, σ => match ev e σ with
    | some (.bl k, cs) => some (k, cs)
    | _ => none
  | .not t, σ => match evt t σ with
    | some (k, cs) => some (!k, cs)
    | none => none
  | .and t u, σ => match evt t σ with
    | some (k, cs) => match evt u σ with
      | some (m, ds) => some (k && m, cs ++ [k = true → All ds])
      | none => none
    | none => none
  | .or t u, σ => match evt t σ with
    | some (k, cs) => match evt u σ with
      | some (m, ds) => some (k || m, cs ++ [k = false → All ds])
      | none => none
    | none => none
  | _, _ => none
end
theorem All.app : ∀ {ps qs : List Prop}, All (ps ++ qs) → All ps ∧ All qs
  | [], _, h => ⟨trivial, h⟩
  | _ :: ps, _, h => ⟨⟨h.1, (All.app h.2).1⟩, (All.app h.2).2⟩
theorem evB_ok {o : Operator} {x y z : D} {cs : List Prop} {h : Hd} {Q : Pq} (e : evB o x y = some (z, cs)) (c : All cs) (q : Q z h) : binD o x y h Q := by
  unfold evB at e
  split at e <;> (try split at e) <;> first | (cases e; done) | skip
  all_goals
    injection e with e
    injection e with e1 e2
    subst e1
    subst e2
    first | exact q | exact ⟨c.1, q⟩
theorem evC_ok {o : CmpOp} {x y : D} {k : Bool} {h : Hd} {Q : Pq} (e : evC o x y = some k) (q : Q (.bl k) h) : cmpD o x y h Q := by
  unfold evC at e
  split at e <;> (try split at e) <;> first | (cases e; done) | skip
  all_goals
    injection e with e
    subst e
    exact q
theorem evS_ok {x y z : D} {cs : List Prop} {h : Hd} {Q : Pq} (e : evS x y = some (z, cs)) (c : All cs) (q : Q z h) : subsD x y h Q := by
  unfold evS at e
  split at e <;> (try split at e) <;> first | (cases e; done) | skip
  all_goals
    rename_i ed
    injection e with e
    injection e with e1 e2
    subst e1
    simp only [subsD, ed]
    exact q
theorem evN_ok {x z : D} {cs : List Prop} {h : Hd} {Q : Pq} (e : evN x = some (z, cs)) (c : All cs) (q : Q z h) : negD x h Q := by
  unfold evN at e
  split at e <;> first | (cases e; done) | skip
  injection e with e
  injection e with e1 e2
  subst e1
  exact q
theorem evF_ok {b : Bl} {xs : List D} {z : D} {cs : List Prop} {h : Hd} {Q : Pq} (e : evF b xs = some (z, cs)) (c : All cs) (q : Q z h) : bltD b xs h Q := by
  unfold evF at e
  split at e
  · unfold evStr at e
    split at e <;> first | (cases e; done) | skip
    all_goals
      injection e with e
      injection e with e1 e2
      subst e1
      subst e2
      first | exact q | exact ⟨c.1, q⟩
  · unfold evL at e
    split at e <;> first | (cases e; done) | skip
    all_goals
      injection e with e
      injection e with e1 e2
      subst e1
      exact q
  · unfold evT at e
    split at e <;> first | (cases e; done) | skip
    all_goals
      injection e with e
      injection e with e1 e2
      subst e1
      exact q
  · unfold evG at e
    split at e <;> first | (cases e; done) | skip
    all_goals
      injection e with e
      injection e with e1 e2
      subst e1
      exact q
  · injection e with e
    injection e with e1 e2
    subst e1
    exact q
  · injection e with e
    injection e with e1 e2
    subst e1
    exact q
  · cases e
mutual
theorem ev_ok : ∀ (e : Ex) {σ : Sl} {d : D} {cs : List Prop} {h : Hd} {Q : Pq}, ev e σ = some (d, cs) → All cs → Q d h → wE e σ h Q
  | .cst _, σ, d, cs, h, Q, e, c, q => by
    simp only [ev, Option.some.injEq, Prod.mk.injEq] at e
    simp only [wE, e.1]
    exact q
  | .glb _ _, σ, d, cs, h, Q, e, c, q => by
    simp only [ev, Option.some.injEq, Prod.mk.injEq] at e
    simp only [wE, e.1]
    exact q
  | .var i, σ, d, cs, h, Q, e, c, q => by
    simp only [ev] at e
    split at e
    · rename_i ed
      injection e with e
      injection e with e1 e2
      subst e1
      simp only [wE, getS, ed]
      exact q
    · cases e
  | .bin o a b, σ, d, cs, h, Q, e, c, q => by
    simp only [ev] at e
    split at e
    · rename_i x c1 ea
      split at e
      · rename_i y c2 eb
        split at e
        · rename_i z c3 ez
          injection e with e
          injection e with e1 e2
          subst e1
          subst e2
          simp only [wE]
          exact ev_ok a ea c.app.1 (ev_ok b eb c.app.2.app.1 (evB_ok ez c.app.2.app.2 q))
        · cases e
      · cases e
    · cases e
  | .sub a b, σ, d, cs, h, Q, e, c, q => by
    simp only [ev] at e
    split at e
    · rename_i x c1 ea
      split at e
      · rename_i y c2 eb
        split at e
        · rename_i z c3 ez
          injection e with e
          injection e with e1 e2
          subst e1
          subst e2
          simp only [wE]
          exact ev_ok a ea c.app.1 (ev_ok b eb c.app.2.app.1 (evS_ok ez c.app.2.app.2 q))
        · cases e
      · cases e
    · cases e
  | .neg a, σ, d, cs, h, Q, e, c, q => by
    simp only [ev] at e
    split at e
    · rename_i x c1 ea
      split at e
      · rename_i z c3 ez
        injection e with e
        injection e with e1 e2
        subst e1
        subst e2
        simp only [wE]
        exact ev_ok a ea c.app.1 (evN_ok ez c.app.2 q)
      · cases e
    · cases e
  | .tup es, σ, d, cs, h, Q, e, c, q => by
    simp only [ev] at e
    split at e
    · rename_i ds c1 ea
      injection e with e
      injection e with e1 e2
      subst e1
      subst e2
      simp only [wE]
      exact evs_ok es ea c q
    · cases e
  | .lst es, σ, d, cs, h, Q, e, c, q => by
    simp only [ev] at e
    split at e
    · rename_i ds c1 ea
      injection e with e
      injection e with e1 e2
      subst e1
      subst e2
      simp only [wE]
      exact evs_ok es ea c q
    · cases e
  | .dct false ks es, σ, d, cs, h, Q, e, c, q => by
    simp only [ev] at e
    split at e
    · rename_i ds c1 ea
      injection e with e
      injection e with e1 e2
      subst e1
      subst e2
      simp only [wE]
      exact evs_ok es ea c q
    · cases e
  | .blt b es, σ, d, cs, h, Q, e, c, q => by
    simp only [ev] at e
    split at e
    · rename_i ds c1 ea
      split at e
      · rename_i z c3 ez
        injection e with e
        injection e with e1 e2
        subst e1
        subst e2
        simp only [wE]
        exact evs_ok es ea c.app.1 (evF_ok ez c.app.2 q)
      · cases e
    · cases e
  | .cmp o a b, σ, d, cs, h, Q, e, c, q => by
    simp only [ev] at e
    split at e
    · rename_i x c1 ea
      split at e
      · rename_i y c2 eb
        split at e
        · rename_i k ez
          injection e with e
          injection e with e1 e2
          subst e1
          subst e2
          simp only [wE]
          exact ev_ok a ea c.app.1 (ev_ok b eb c.app.2 (evC_ok ez q))
        · cases e
      · cases e
    · cases e
  | .chn o p a b cc, σ, d, cs, h, Q, e, c, q => by
    simp only [ev] at e
    split at e
    · rename_i x c1 ea
      split at e
      · rename_i y c2 eb
        split at e
        · rename_i z c3 ec
          split at e
          · rename_i k ek
            split at e
            · rename_i m em
              injection e with e
              injection e with e1 e2
              subst e1
              subst e2
              simp only [wE]
              refine ev_ok a ea c.app.1 (ev_ok b eb c.app.2.app.1 (evC_ok ek ?_))
              simp only [boolD]
              cases k with
              | true =>
                rw [if_pos rfl]
                exact ev_ok cc ec (c.app.2.app.2.1 rfl) (evC_ok em (by simpa using q))
              | false =>
                rw [if_neg (by decide)]
                simpa using q
            · cases e
          · cases e
        · cases e
      · cases e
    · cases e
  | .not a, σ, d, cs, h, Q, e, c, q => by
    simp only [ev] at e
    split at e
    · rename_i k c1 ea
      injection e with e
      injection e with e1 e2
      subst e1
      subst e2
      simp only [wE]
      exact ev_ok a ea c q
    · cases e
  | .and a b, σ, d, cs, h, Q, e, c, q => by
    simp only [ev] at e
    split at e
    · rename_i k c1 ea
      split at e
      · rename_i m c2 eb
        injection e with e
        injection e with e1 e2
        subst e1
        subst e2
        simp only [wE]
        refine ev_ok a ea c.app.1 ?_
        simp only [boolD]
        cases k with
        | true =>
          rw [if_pos rfl]
          exact ev_ok b eb (c.app.2.1 rfl) (by simpa using q)
        | false =>
          rw [if_neg (by decide)]
          simpa using q
      · cases e
    · cases e
  | .or a b, σ, d, cs, h, Q, e, c, q => by
    simp only [ev] at e
    split at e
    · rename_i k c1 ea
      split at e
      · rename_i m c2 eb
        injection e with e
        injection e with e1 e2
        subst e1
        subst e2
        simp only [wE]
        refine ev_ok a ea c.app.1 ?_
        simp only [boolD]
        cases k with
        | true =>
          rw [if_pos rfl]
          simpa using q
        | false =>
          rw [if_neg (by decide)]
          exact ev_ok b eb (c.app.2.1 rfl) (by simpa using q)
      · cases e
    · cases e
  | .ife cc a b, σ, d, cs, h, Q, e, c, q => by
    simp only [ev] at e
    split at e
    · rename_i k c1 ec
      split at e
      · rename_i x c2 ea
        split at e
        · rename_i y c3 eb
          injection e with e
          injection e with e1 e2
          subst e1
          subst e2
          simp only [wE]
          refine evt_ok cc ec c.app.1 ?_
          cases k with
          | true =>
            rw [if_pos rfl]
            exact ev_ok a ea (c.app.2.1 rfl) (by simpa using q)
          | false =>
            rw [if_neg (by decide)]
            exact ev_ok b eb (c.app.2.2.1 rfl) (by simpa using q)
        · cases e
      · cases e
    · cases e
  | .typ _, _, _, _, _, _, e, _, _ => by simp [ev] at e
  | .new _, _, _, _, _, _, e, _, _ => by simp [ev] at e
  | .sl _ _ _, _, _, _, _, _, e, _, _ => by simp [ev] at e
  | .slN _ _ _, _, _, _, _, _, e, _, _ => by simp [ev] at e
  | .addN _ _, _, _, _, _, _, e, _, _ => by simp [ev] at e
  | .orV _ _, _, _, _, _, _, e, _, _ => by simp [ev] at e
  | .rev _ _, _, _, _, _, _, e, _, _ => by simp [ev] at e
  | .call _ _ _ _, _, _, _, _, _, e, _, _ => by simp [ev] at e
  | .callK _ _ _ _ _ _ _, _, _, _, _, _, e, _, _ => by simp [ev] at e
  | .mth _ _ _, _, _, _, _, _, e, _, _ => by simp [ev] at e
  | .dct true _ _, _, _, _, _, _, e, _, _ => by simp [ev] at e
  | .tabAt _ _ _ _, _, _, _, _, _, e, _, _ => by simp [ev] at e
  | .tabIn _ _ _ _, _, _, _, _, _, e, _, _ => by simp [ev] at e
  | .lc2 _ _ _ _ _ _ _ _, _, _, _, _, _, e, _, _ => by simp [ev] at e
  | .lc _ _ _ _ _ _, _, _, _, _, _, e, _, _ => by simp [ev] at e
theorem evs_ok : ∀ (es : Exs) {σ : Sl} {ds : List D} {cs : List Prop} {h : Hd} {Q : List D → Hd → Prop}, evs es σ = some (ds, cs) → All cs → Q ds h → wA es σ h Q
  | .nil, σ, d, cs, h, Q, e, c, q => by
    simp only [evs, Option.some.injEq, Prod.mk.injEq] at e
    simp only [wA, e.1]
    exact q
  | .cons x xs, σ, d, cs, h, Q, e, c, q => by
    simp only [evs] at e
    split at e
    · rename_i y c1 ea
      split at e
      · rename_i ys c2 eb
        injection e with e
        injection e with e1 e2
        subst e1
        subst e2
        simp only [wA]
        exact ev_ok x ea c.app.1 (evs_ok xs eb c.app.2 q)
      · cases e
    · cases e
theorem evt_ok : ∀ (t : Tx) {σ : Sl} {k : Bool} {cs : List Prop} {h : Hd} {Q : Bool → Hd → Prop}, evt t σ = some (k, cs) → All cs → Q k h → wT t σ h Q
  | .val x, σ, d, cs, h, Q, e, c, q => by
    simp only [evt] at e
    split at e
    · rename_i k c1 ea
      injection e with e
      injection e with e1 e2
      subst e1
      subst e2
      simp only [wT]
      exact ev_ok x ea c q
    · cases e
  | .not t, σ, d, cs, h, Q, e, c, q => by
    simp only [evt] at e
    split at e
    · rename_i k c1 ea
      injection e with e
      injection e with e1 e2
      subst e1
      subst e2
      simp only [wT]
      exact evt_ok t ea c q
    · cases e
  | .and a b, σ, d, cs, h, Q, e, c, q => by
    simp only [evt] at e
    split at e
    · rename_i k c1 ea
      split at e
      · rename_i m c2 eb
        injection e with e
        injection e with e1 e2
        subst e1
        subst e2
        simp only [wT]
        refine evt_ok a ea c.app.1 ?_
        cases k with
        | true =>
          rw [if_pos rfl]
          exact evt_ok b eb (c.app.2.1 rfl) (by simpa using q)
        | false =>
          rw [if_neg (by decide)]
          simpa using q
      · cases e
    · cases e
  | .or a b, σ, d, cs, h, Q, e, c, q => by
    simp only [evt] at e
    split at e
    · rename_i k c1 ea
      split at e
      · rename_i m c2 eb
        injection e with e
        injection e with e1 e2
        subst e1
        subst e2
        simp only [wT]
        refine evt_ok a ea c.app.1 ?_
        cases k with
        | true =>
          rw [if_pos rfl]
          simpa using q
        | false =>
          rw [if_neg (by decide)]
          exact evt_ok b eb (c.app.2.1 rfl) (by simpa using q)
      · cases e
    · cases e
  | .ch3 _ _ _ _ _ _ _, _, _, _, _, _, e, _, _ => by simp [evt] at e
end
section
variable {i : Nat} {e : Ex} {ss : Sts} {E : Ed} {σ : Sl} {h : Hd} {d : D} {cs : List Prop}
theorem st_asg (v : ev e σ = some (d, cs)) (c : All cs) (k : wSs ss E (σ.set i (some d)) h) : wSs (.cons (.asg (.nm i) e) ss) E σ h := by
  rw [wSs, wS]
  refine ev_ok e v c ?_
  simp only [gT]
  exact k
theorem st_ret (v : ev e σ = some (d, cs)) (c : All cs) (k : E.rt d h) : wSs (.cons (.ret e) ss) E σ h := by
  rw [wSs, wS]
  exact ev_ok e v c k
theorem st_asgE (k : wE e σ h fun d h1 => wSs ss E (σ.set i (some d)) h1) : wSs (.cons (.asg (.nm i) e) ss) E σ h := by
  rw [wSs, wS]
  simp only [gT]
  exact k
theorem st_retE (k : wE e σ h E.rt) : wSs (.cons (.ret e) ss) E σ h := by
  rw [wSs, wS]
  exact k
theorem st_expE (k : wE e σ h fun _ h1 => wSs ss E σ h1) : wSs (.cons (.exp e) ss) E σ h := by
  rw [wSs, wS]
  exact k
theorem st_parE {is : List Nat} {es : Exs} (k : wA es σ h fun ds h1 => wSs ss E (setAll σ is ds) h1) : wSs (.cons (.par is es) ss) E σ h := by
  rw [wSs, wS]
  exact k
theorem st_iteE {t : Tx} {a b : Sts} (k : wT t σ h fun y h1 => if y = true then wSs a { nx := wSs ss E, rt := E.rt, bk := E.bk, ct := E.ct } σ h1 else wSs b { nx := wSs ss E, rt := E.rt, bk := E.bk, ct := E.ct } σ h1) : wSs (.cons (.ite t a b) ss) E σ h := by
  rw [wSs, wS]
  exact k
theorem st_forE {t : Tg} {it : Ite} {b : Sts} (k : wI it σ h fun ds stay h1 => forL (gT t) (wSs b) stay { nx := wSs ss E, rt := E.rt, bk := E.bk, ct := E.ct } ds σ h1) : wSs (.cons (.for t it b) ss) E σ h := by
  rw [wSs, wS]
  exact k
theorem e_call {x : Str} {ps : List Str} {sp : Spd} {es : Exs} {ds : List D} {Q : Pq} (v : evs es σ = some (ds, cs)) (c : All cs) (k : sp ds h Q) : wE (.call x ps sp es) σ h Q := by
  rw [wE]
  exact evs_ok es v c k
theorem e_callK {x : Str} {ps ks : List Str} {pm : List Nat} {sp : Spd} {es kes : Exs} {ds fs gs : List D} {ds' : List Prop} {Q : Pq} (v : evs es σ = some (ds, cs)) (c : All cs) (v2 : evs kes σ = some (fs, ds')) (c2 : All ds') (hp : pick (ds ++ fs) pm = gs) (k : sp gs h Q) : wE (.callK x ps sp es ks kes pm) σ h Q := by
  rw [wE]
  refine evs_ok es v c (evs_ok kes v2 c2 ?_)
  rw [hp]
  exact k
theorem e_bin {o : Operator} {a b : Ex} {Q : Pq} (k : wE a σ h fun x h1 => wE b σ h1 fun y h2 => binD o x y h2 Q) : wE (.bin o a b) σ h Q := by
  rw [wE]
  exact k
theorem e_sub {a b : Ex} {Q : Pq} (k : wE a σ h fun x h1 => wE b σ h1 fun y h2 => subsD x y h2 Q) : wE (.sub a b) σ h Q := by
  rw [wE]
  exact k
theorem e_cmp {o : CmpOp} {a b : Ex} {Q : Pq} (k : wE a σ h fun x h1 => wE b σ h1 fun y h2 => cmpD o x y h2 Q) : wE (.cmp o a b) σ h Q := by
  rw [wE]
  exact k
theorem e_tup {es : Exs} {Q : Pq} (k : wA es σ h fun ds h1 => Q (.tup ds) h1) : wE (.tup es) σ h Q := by
  rw [wE]
  exact k
theorem e_lst {es : Exs} {Q : Pq} (k : wA es σ h fun ds h1 => Q (.lst ds) h1) : wE (.lst es) σ h Q := by
  rw [wE]
  exact k
theorem e_blt {b : Bl} {es : Exs} {Q : Pq} (k : wA es σ h fun ds h1 => bltD b ds h1 Q) : wE (.blt b es) σ h Q := by
  rw [wE]
  exact k
theorem a_cons {x : Ex} {es : Exs} {Q : List D → Hd → Prop} (k : wE x σ h fun d h1 => wA es σ h1 fun ds h2 => Q (d :: ds) h2) : wA (.cons x es) σ h Q := by
  rw [wA]
  exact k
theorem a_nil {Q : List D → Hd → Prop} (k : Q [] h) : wA .nil σ h Q := by
  rw [wA]
  exact k
theorem t_val {x : Ex} {Q : Bool → Hd → Prop} (k : wE x σ h fun d h1 => truthD d h1 fun b => Q b h1) : wT (.val x) σ h Q := by
  rw [wT]
  exact k
theorem t_not {t : Tx} {Q : Bool → Hd → Prop} (k : wT t σ h fun b h1 => Q (!b) h1) : wT (.not t) σ h Q := by
  rw [wT]
  exact k
theorem t_or {t u : Tx} {Q : Bool → Hd → Prop} (k : wT t σ h fun b h1 => if b = true then Q true h1 else wT u σ h1 Q) : wT (.or t u) σ h Q := by
  rw [wT]
  exact k
theorem t_and {t u : Tx} {Q : Bool → Hd → Prop} (k : wT t σ h fun b h1 => if b = true then wT u σ h1 Q else Q false h1) : wT (.and t u) σ h Q := by
  rw [wT]
  exact k
/-- repr of data -/
theorem e_repr {d : D} {x : Ex} {Q : Pq} (v : ev x σ = some (d, cs)) (c : All cs) (f : d.isF = true) (s : Shows d) (k : Q (.str d.py.shown) h) : wE (.blt .repr (.cons x .nil)) σ h Q := by
  rw [wE]
  refine evs_ok (ds := [d]) (cs := cs ++ []) _ (by simp only [evs, v]) (by rw [List.append_nil]; exact c) ?_
  simp only [bltD]
  rw [vw_F f]
  exact ⟨s, k⟩
/-- a test that is reckoned at once -/
theorem st_ite {t : Tx} {a b : Sts} {k : Bool} (v : evt t σ = some (k, cs)) (c : All cs) (y : k = true → wSs a { nx := wSs ss E, rt := E.rt, bk := E.bk, ct := E.ct } σ h) (n : k = false → wSs b { nx := wSs ss E, rt := E.rt, bk := E.bk, ct := E.ct } σ h) : wSs (.cons (.ite t a b) ss) E σ h := by
  rw [wSs, wS]
  refine evt_ok t v c ?_
  cases k with
  | true => rw [if_pos rfl]; exact y rfl
  | false => rw [if_neg (by decide)]; exact n rfl
theorem st_par {is : List Nat} {es : Exs} {ds : List D} (v : evs es σ = some (ds, cs)) (c : All cs) (k : wSs ss E (setAll σ is ds) h) : wSs (.cons (.par is es) ss) E σ h := by
  rw [wSs, wS]
  exact evs_ok es v c k
theorem st_grow (P : D → Prop) {x : Ex} {xs ys : List D} (v : ev x σ = some (.lst (xs ++ ys), cs)) (c : All cs) (hx : ∀ t ∈ xs, P t) (hy : ∀ t ∈ ys, P t)
    (k : ∀ zs : List D, zs.length = xs.length + ys.length → (∀ t ∈ zs, P t) → wSs ss E (σ.set i (some (.lst zs))) h) : wSs (.cons (.asg (.nm i) x) ss) E σ h :=
  st_asg v c (k _ List.length_append fun t ht => (List.mem_append.mp ht).elim (hx t) (hy t))
end
end G

/-! More steps. -/
namespace G
open PySem PySem.Spec PyProof.Rows L2

theorem e_isinst {x : Ex} {t : Ty} {d : D} {σ : Sl} {h : Hd} {Q : Pq} (v : ev x σ = some (d, [])) (f : d.isF = true) (k : Q (.bl (isT d t)) h) : wE (.blt .isinst (.cons x (.cons (.typ t) .nil))) σ h Q := by
  refine e_blt (a_cons (ev_ok _ v trivial (a_cons ?_)))
  rw [wE]
  refine a_nil ?_
  simp only [bltD, isTy_F f]
  exact k
theorem e_callA {x : Str} {ps : List Str} {sp : Spd} {es : Exs} {σ : Sl} {h : Hd} {Q : Pq} (k : wA es σ h fun ds h1 => sp ds h1 Q) : wE (.call x ps sp es) σ h Q := by
  rw [wE]
  exact k
theorem o_int {x : Ex} {σ : Sl} {h : Hd} {i : Int} {cs : List Prop} {Q : Option Int → Hd → Prop} (v : ev x σ = some (.int i, cs)) (c : All cs) (q : Q (some i) h) : wO (.some x) σ h Q := by
  rw [wO]
  exact ev_ok x v c q
theorem o_none {σ : Sl} {h : Hd} {Q : Option Int → Hd → Prop} (q : Q none h) : wO .none σ h Q := by
  rw [wO]
  exact q
theorem e_sl {a : Ex} {lo hi : Exo} {σ : Sl} {h : Hd} {Q : Pq} (k : wE a σ h fun x h1 => wO lo σ h1 fun l h2 => wO hi σ h2 fun u h3 => sliceD x l u h3 Q) : wE (.sl a lo hi) σ h Q := by
  rw [wE]
  exact k
theorem e_slN {a : Ex} {lo hi : Exo} {σ : Sl} {h : Hd} {Q : Pq} (k : wE a σ h fun x h1 => wO lo σ h1 fun l h2 => wO hi σ h2 fun u h3 => sliceN x l u h3 Q) : wE (.slN a lo hi) σ h Q := by
  rw [wE]
  exact k
theorem e_addN {a b : Ex} {σ : Sl} {h : Hd} {Q : Pq} (k : wE a σ h fun x h1 => wE b σ h1 fun y h2 => catN x y h2 Q) : wE (.addN a b) σ h Q := by
  rw [wE]
  exact k
theorem e_ife {t : Tx} {a b : Ex} {σ : Sl} {h : Hd} {Q : Pq} (k : wT t σ h fun y h1 => if y = true then wE a σ h1 Q else wE b σ h1 Q) : wE (.ife t a b) σ h Q := by
  rw [wE]
  exact k
theorem e_and {a b : Ex} {σ : Sl} {h : Hd} {Q : Pq} (k : wE a σ h fun x h1 => boolD x fun k => if k = true then wE b σ h1 Q else Q (.bl false) h1) : wE (.and a b) σ h Q := by
  rw [wE]
  exact k
theorem sl_lst {ds : List D} {lo hi : Option Int} {h : Hd} {Q : Pq} (q : Q (.lst (cutD ds lo hi)) h) : sliceD (.lst ds) lo hi h Q := q
theorem sl_tup {ds : List D} {lo hi : Option Int} {h : Hd} {Q : Pq} (q : Q (.tup (cutD ds lo hi)) h) : sliceD (.tup ds) lo hi h Q := q
theorem slN_lst {ds : List D} {lo hi : Option Int} {h : Hd} {Q : Pq} (q : ∀ k, h k = none → Q (.ref k) (h.set k (.lst (cutD ds lo hi)))) : sliceN (.lst ds) lo hi h Q := q
theorem sl_str {x : Str} {lo hi : Option Int} {h : Hd} {Q : Pq} (l : x.length ≤ sizeLine) (q : Q (.str (cutS x lo hi)) h) : sliceD (.str x) lo hi h Q := ⟨l, q⟩
theorem cut_sub {ds : List D} {lo hi : Option Int} {d : D} (h : d ∈ cutD ds lo hi) : d ∈ ds := by
  unfold G.cutD at h
  exact List.mem_of_mem_drop (List.mem_of_mem_take h)
theorem cut_3 {ds : List D} {a : Int} (a0 : 0 ≤ a) (k : Nat) : (cutD ds (some a) (some (a + (k : Nat)))).length ≤ k := by
  obtain ⟨n, rfl⟩ := Int.eq_ofNat_of_zero_le a0
  unfold G.cutD
  rw [← Int.natCast_add, HT.sIx_nat, HT.sIx_nat, List.length_take]
  omega
theorem ne_same {x : Str} {h : Hd} {Q : Pq} (q : Q (.bl false) h) : cmpD .NotEq (.str x) (.str x) h Q := by
  rw [w_neS, decide_eq_true rfl]
  exact q
theorem eq_same {x : Str} {h : Hd} {Q : Pq} (q : Q (.bl true) h) : cmpD .Eq (.str x) (.str x) h Q := by
  rw [w_eqS, decide_eq_true rfl]
  exact q
theorem repr_w {d : D} {h : Hd} {Q : Pq} (f : d.isF = true) (s : Shows d) (q : Q (.str d.py.shown) h) : bltD .repr [d] h Q := by
  simp only [bltD, vw_F f]
  exact ⟨s, q⟩
theorem int_bl {b : Bool} {h : Hd} {Q : Pq} (q : Q (.int (if b = true then 1 else 0)) h) : bltD .int [.bl b] h Q := by
  simp only [bltD]
  exact q
theorem eqT_nil {ds : List D} {h : Hd} {Q : Pq} (i : (D.tup ds).isF = true) (q : Q (.bl ds.isEmpty) h) : cmpD .Eq (.tup ds) (.tup []) h Q := by
  have e2 : PyData.eqv (D.tup ds).py (D.tup []).py = ds.isEmpty := by
    simp only [D.py, D.pys, PyData.eqv, eqvAll_nil]
    cases ds <;> simp only [D.pys, List.isEmpty_nil, List.isEmpty_cons]
  have go : EqOk (D.tup ds) (D.tup []) ∧ Q (.bl (PyData.eqv (D.tup ds).py (D.tup []).py)) h := ⟨⟨i, by simp only [D.isF, D.areF], .inr (by decide +kernel)⟩, by rw [e2]; exact q⟩
  exact go
theorem sub_any {xs : List D} {i : Int} (P : D → Prop) {h : Hd} {Q : Pq} (i0 : 0 ≤ i) (i1 : i < xs.length) (hp : ∀ d ∈ xs, P d) (q : ∀ d, P d → Q d h) : subsD (.lst xs) (.int i) h Q := by
  obtain ⟨d, hd, e⟩ := atI_of i0 i1
  exact (w_subL e).mpr (q d (hp d hd))
theorem compL_in {g : D → (Sl → Prop) → Prop} {t : WT} {e : WE} {stay : Hd → Prop} {h : Hd} {Q : List D → Hd → Prop} (P : D → Prop) (hs : stay h) : ∀ (ds acc : List D),
    (∀ d ∈ ds, ∀ (Y : D → Hd → Prop) (Z : Hd → Prop), (∀ v, P v → Y v h) → g d fun σ => t σ h fun b h1 => if b = true then e σ h1 Y else Z h1) → (∀ vs : List D, vs.length = ds.length → (∀ v ∈ vs, P v) → Q (acc ++ vs) h) → compL g t e stay ds acc h Q
  | [], acc, _, q => ⟨hs, by simpa using q [] rfl (by simp)⟩
  | d :: ds, acc, step, q => ⟨hs, step d (by simp) _ _ fun v pv => compL_in P hs ds _ (fun d m => step d (by simp [m])) fun vs hl hv => by
      have := q (v :: vs) (by simp [hl]) (by simpa using ⟨pv, hv⟩)
      simpa using this⟩
theorem e_dct {ks : List Key} {es : Exs} {σ : Sl} {h : Hd} {Q : Pq} (k : wA es σ h fun ds h1 => Q (.dic ks ds) h1) : wE (.dct false ks es) σ h Q := by
  rw [wE]
  exact k
theorem st_app {x : Ex} {i k : Nat} {xs : List D} {σ : Sl} {h : Hd} {ss : Sts} {E : Ed} (hi : ev (.var i) σ = some (.ref k, [])) (hk : h k = some (.lst xs))
    (nx : wE x σ h fun d h1 => mthD .append (.ref k) [d] h1 fun _ h2 => wSs ss E σ h2) : wSs (.cons (.exp (.mth .append (.var i) (.cons x .nil))) ss) E σ h := by
  refine st_expE ?_
  rw [wE]
  refine ev_ok _ hi trivial ?_
  refine ⟨by simp only [tyD, Mt.T, hk], ?_⟩
  refine a_cons ?_
  simp only [wA]
  exact nx
theorem m_app {k : Nat} {xs : List D} {d : D} {h : Hd} {Q : Pq} (hk : h k = some (.lst xs)) (l : xs.length ≤ 100000) (q : Q .non (h.set k (.lst (xs ++ [d])))) : mthD .append (.ref k) [d] h Q := by
  have hs : sizeLine = 16777216 := sizeLine_eq
  simp only [mthD, lstOf, hk, mAppend]
  exact ⟨by omega, q⟩
theorem len_txt {x : Str} {h : Hd} {Q : Pq} (l : x.length ≤ sizeLine) (q : Q (.int x.length) h) : bltD .len [.str x] h Q := ⟨l, q⟩
theorem sub_ref {k : Nat} {xs : List D} {i : Int} {d : D} {h : Hd} {Q : Pq} (hk : h k = some (.lst xs)) (e : atI xs i = some d) (q : Q d h) : subsD (.ref k) (.int i) h Q := by
  simp only [subsD, hk, e]
  exact q
theorem e_callP {x y : Str} {ps qs : List Str} {sp sq : Spd} {i : Ex} {es : Exs} {σ : Sl} {h : Hd} {Q : Pq} (k : wE i σ h fun d h1 => intO d fun k => (k = 0 ∧ wA es σ h1 fun ds h2 => sp ds h2 Q) ∨ (k = 1 ∧ wA es σ h1 fun ds h2 => sq ds h2 Q)) : wE (.callP x y ps qs sp sq i es) σ h Q := by
  rw [wE]
  exact k
end G

/-! What divides what; shared divisors. -/
namespace G
open PySem PySem.Spec PyProof.Rows L2

theorem at_0 {α : Type} (a : α) (ds : List α) : atI (a :: ds) 0 = some a := atI_nat (j := 0) rfl
theorem at_1 {α : Type} (a b : α) (ds : List α) : atI (a :: b :: ds) 1 = some b := atI_nat (j := 1) rfl
theorem at_2 {α : Type} (a b c : α) (ds : List α) : atI (a :: b :: c :: ds) 2 = some c := atI_nat (j := 2) rfl
theorem at_3 {α : Type} (a b c d : α) (ds : List α) : atI (a :: b :: c :: d :: ds) 3 = some d := atI_nat (j := 3) rfl
/-- a thing as laws hand it in: small data, a dict at most by itself -/
structure Tok (t : D) : Prop where
  sm : t.small 60 = true
  dp : t.dep ≤ 60
  ct : t.cnt ≤ 1000
  pl : t.isD = true ∨ ∃ ks ds, t = .dic ks ds
theorem Tok.isF {t : D} (k : Tok t) : t.isF = true := isF_small (by decide) (by decide) k.sm
theorem Tok.tup {ds : List D} (k : Tok (.tup ds)) : ∀ d ∈ ds, Tok d ∧ d.isD = true := by
  have h1 := smalls_mem.mp (by simpa only [D.small] using k.sm)
  have h2 : (D.tup ds).isD = true := by
    rcases k.pl with h | ⟨_, _, h⟩
    · exact h
    · cases h
  have h3 := isD_tup.mp h2
  have h4 := k.dp
  simp only [D.dep] at h4
  have h5 : ∀ (ds : List D) (d : D), d ∈ ds → d.dep ≤ D.deps ds := by
    intro ds
    induction ds with
    | nil => intro d hd; cases hd
    | cons x xs ih =>
      intro d hd
      simp only [D.deps]
      rcases List.mem_cons.mp hd with rfl | hd
      · omega
      · have := ih d hd
        omega
  have h6 : ∀ (ds : List D) (d : D), d ∈ ds → d.cnt ≤ D.cnts ds := by
    intro ds
    induction ds with
    | nil => intro d hd; cases hd
    | cons x xs ih =>
      intro d hd
      simp only [D.cnts]
      rcases List.mem_cons.mp hd with rfl | hd
      · omega
      · have := ih d hd
        omega
  have h7 := k.ct
  simp only [D.cnt] at h7
  intro d hd
  have := h5 ds d hd
  have := h6 ds d hd
  exact ⟨⟨h1 d hd, by omega, by omega, .inl (h3 d hd)⟩, h3 d hd⟩
theorem Tok.shows {t : D} (k : Tok t) : Shows t := shows_small (n := 1000) (by decide) (by decide) k.sm (by have := k.dp; omega) k.ct (by decide)
theorem Tok.shaped {t : D} (k : Tok t) (i : t.isD = true) : SeqAt.shaped t.py = true := shaped_small (by decide) (by decide) k.sm i (by have := k.dp; omega)
theorem Tok.int {i : Int} (k : Tok (.int i)) : i.natAbs ≤ 2 ^ 200 := by
  have h := k.sm
  simp only [D.small, decide_eq_true_eq] at h
  exact Nat.le_of_lt (Nat.lt_trans h (by decide +kernel))
def plB (d : D) : Bool := d.isD || isT d .dict
theorem toks_of {xs : List D} (hs : D.smalls 60 xs = true) (hd : Nat.ble (D.deps xs) 60 = true) (hc : Nat.ble (D.cnts xs) 1000 = true) (hp : xs.all plB = true) : ∀ t ∈ xs, Tok t := by
  have h1 := smalls_mem.mp hs
  have h2 := Nat.le_of_ble_eq_true hd
  have h3 := Nat.le_of_ble_eq_true hc
  have h5 : ∀ (ds : List D) (d : D), d ∈ ds → d.dep ≤ D.deps ds ∧ d.cnt ≤ D.cnts ds := by
    intro ds
    induction ds with
    | nil => intro d hd; cases hd
    | cons x xs ih =>
      intro d hd
      simp only [D.deps, D.cnts]
      rcases List.mem_cons.mp hd with rfl | hd
      · omega
      · have := ih d hd
        omega
  intro t ht
  obtain ⟨a1, a2⟩ := h5 xs t ht
  refine ⟨h1 t ht, by omega, by omega, ?_⟩
  have := List.all_eq_true.mp hp t ht
  unfold plB at this
  rw [Bool.or_eq_true] at this
  rcases this with h | h
  · exact .inl h
  · cases t <;> first | exact .inr ⟨_, _, rfl⟩ | cases h
theorem str_int_small {i : Int} {B : Nat} (b : 15 ≤ B) (h : i.natAbs < 1000000000000000) : strSmall B (toString i) = true := by
  have e := int_text_length_le10 (k := 15) (by decide) h
  unfold strSmall
  rw [Bool.and_eq_true, decide_eq_true_eq]
  refine ⟨txtOk_iff.mpr (txtOk_ofString _), ?_⟩
  have : (Str.ofString (toString i)).length ≤ 16 := by rw [PySem.ofString_length]; exact e
  have : (Str.ofString (toString i)).cps.size ≤ 16 := this
  omega
theorem eqv_str (d : D) (w : Str) (h : ∀ x, d ≠ .str x) : PyData.eqv d.py (.str w) = false := by
  cases d <;> simp only [D.py] <;> first | exact absurd rfl (h _) | simp [PyData.eqv]
/-- anything beside a word -/
theorem eq_word {d : D} {w : Str} {h : Hd} {Q : Pq} (hd : d.isF = true) (hw : PyData.canLay0 (.str w) = true) (q : Q (.bl (isW d w)) h) : cmpD .Eq d (.str w) h Q := by
  have sw : SeqAt.shaped (D.str w).py = true := by
    simp only [D.py]
    unfold SeqAt.shaped
    rw [hw, Bool.true_and, decide_eq_true_eq]
    simp only [PyData.depth]
    exact Nat.zero_le _
  by_cases e : ∃ x, d = .str x
  · obtain ⟨x, rfl⟩ := e
    exact q
  · have e1 : ∀ x, d ≠ .str x := fun x z => e ⟨x, z⟩
    have e2 : isW d w = false := by
      cases d <;> first | rfl | exact absurd rfl (e1 _)
    rw [e2] at q
    have e3 := eqv_str d w e1
    have go : EqOk d (D.str w) ∧ Q (.bl (PyData.eqv d.py (D.str w).py)) h := ⟨⟨hd, by simp only [D.isF], .inr sw⟩, by simp only [D.py] at e3 ⊢; rw [e3]; exact q⟩
    cases d <;> first | exact absurd rfl (e1 _) | exact go | (simp only [D.isF] at hd; cases hd)
/-! ### is_of -/
abbrev N_is_of : List Str := ["thing", "word", "many"]
def c_is_of : Sts := (.cons (.ret (.and (.blt .isinst (.cons (.var 0) (.cons (.typ .tuple) .nil))) (.and (.cmp .Eq (.blt .len (.cons (.var 0) .nil)) (.bin .Add (.var 2) (.cst (.int 1)))) (.cmp .Eq (.sub (.var 0) (.cst (.int 0))) (.var 1)))))
  .nil)
def isOf (t : D) (w : Str) (m : Int) : Bool := match t with
  | .tup (d0 :: ds) => decide ((ds.length : Int) = m) && isW d0 w
  | _ => false
def sp_is_of : Spd := fun ds h Q => match ds with
  | [t, .str w, .int m] => (Tok t ∧ PyData.canLay0 (.str w) = true ∧ 0 ≤ m) ∧ Q (.bl (isOf t w m)) h
  | _ => False
theorem isT_tupF {d : D} (h : isT d .tuple = false) (ds : List D) : d ≠ .tup ds := fun e => by rw [e] at h; cases h
theorem b_is_of (ds : List D) (h : Hd) (Q : Pq) (q : sp_is_of ds h Q) : wSs c_is_of { nx := fun _ h' => Out Q .non h', rt := Out Q } (startD N_is_of ds) h := by
  unfold sp_is_of at q
  split at q
  · rename_i t w m
    obtain ⟨⟨k, hw, m0⟩, q⟩ := q
    show wSs c_is_of _ [some t, some (.str w), some (.int m)] h
    simp only [c_is_of, wSs, wS, wT, wTo, wE, wA, wO, wI, getS, gT, gTs, setAll, List.getElem?_cons_zero, List.getElem?_cons_succ, List.set_cons_zero, List.set_cons_succ, binD, augD, iaddD, imulD, addD, subD, mulD, fdivD, modD, powD, negD, truthD, boolD, intO, subsD, sliceD, listed, dicted, bltD, seqD, seqI, zipI, zipSI, anyI, lstI, enumI, revI, starI, lenTs, mthD, lstOf, mAppend, mPop, mExtend, mUpper, mJoin, strsOf, tyD, Mt.T, setD, wipeD, List.map_cons, List.map_nil, Bool.false_eq_true, if_true, if_false, ↓reduceIte, vw_non, vw_bl, vw_int, vw_str, vw_tup, vw_lst, vw_dic, vw_ref, w_eq, w_ne, w_eqS, w_neS, w_lt, w_le, w_gt, w_ge, w_truth, w_boolD, w_isN, w_isNt, isTy_F k.isF]
    cases e : isT t .tuple
    · have e2 : isOf t w m = false := by cases t <;> first | rfl | cases e
      rw [e2] at q
      simp only [wSs, wS, wT, wTo, wE, wA, wO, wI, getS, gT, gTs, setAll, List.getElem?_cons_zero, List.getElem?_cons_succ, List.set_cons_zero, List.set_cons_succ, binD, augD, iaddD, imulD, addD, subD, mulD, fdivD, modD, powD, negD, cmpD, eqD, ordD, truthD, boolD, intO, view, subsD, sliceD, listed, dicted, bltD, seqD, seqI, zipI, zipSI, anyI, lstI, enumI, revI, starI, lenTs, mthD, lstOf, mAppend, mPop, mExtend, mUpper, mJoin, strsOf, tyD, Mt.T, setD, wipeD, List.map_cons, List.map_nil, Bool.false_eq_true, if_true, if_false, ↓reduceIte]
      exact .is (Hd.le.refl _) q
    · obtain ⟨ds, rfl⟩ := isT_tup e
      simp only [wSs, wS, wT, wTo, wE, wA, wO, wI, getS, gT, gTs, setAll, List.getElem?_cons_zero, List.getElem?_cons_succ, List.set_cons_zero, List.set_cons_succ, binD, augD, iaddD, imulD, addD, subD, mulD, fdivD, modD, powD, negD, truthD, boolD, intO, subsD, sliceD, listed, dicted, bltD, seqD, seqI, zipI, zipSI, anyI, lstI, enumI, revI, starI, lenTs, mthD, lstOf, mAppend, mPop, mExtend, mUpper, mJoin, strsOf, tyD, Mt.T, setD, wipeD, List.map_cons, List.map_nil, Bool.false_eq_true, if_true, if_false, ↓reduceIte, vw_non, vw_bl, vw_int, vw_str, vw_tup, vw_lst, vw_dic, vw_ref, w_eq, w_ne, w_eqS, w_neS, w_lt, w_le, w_gt, w_ge, w_truth, w_boolD, w_isN, w_isNt]
      cases ds with
      | nil =>
        have e2 : decide (((([] : List D).length : Nat) : Int) = m + 1) = false := by
          rw [decide_eq_false_iff_not, List.length_nil]
          omega
        simp only [e2, Bool.false_eq_true, if_false]
        exact .is (Hd.le.refl _) q
      | cons d0 ds =>
        have e2 : decide ((((d0 :: ds).length : Nat) : Int) = m + 1) = decide ((ds.length : Int) = m) := by
          rw [Bool.eq_iff_iff, decide_eq_true_eq, decide_eq_true_eq, List.length_cons]
          omega
        rw [e2]
        unfold isOf at q
        by_cases e3 : (ds.length : Int) = m
        · simp only [e3, decide_true, if_true, Bool.true_and] at q ⊢
          have kd := k.tup d0 (by simp)
          simp only [at_0]
          exact eq_word (isF_of _ kd.2) hw (.is (Hd.le.refl _) q)
        · simp only [e3, decide_false, Bool.false_eq_true, if_false, Bool.false_and] at q ⊢
          exact .is (Hd.le.refl _) q
  · exact q.elim
theorem isOf_tup {t : D} {w : Str} {m : Nat} (e : isOf t w (m : Nat) = true) : ∃ ds, t = .tup (.str w :: ds) ∧ ds.length = m := by
  unfold isOf at e
  split at e
  · rename_i d0 ds
    simp only [Bool.and_eq_true, decide_eq_true_eq] at e
    rw [isW_iff.mp e.2]
    exact ⟨ds, rfl, by omega⟩
  · cases e
/-! ### are_parts -/
abbrev N_are_parts : List Str := ["one", "other", "divisor", "thing", "word", "first", "second", "left", "right"]
def c_are_parts_r1 : Sts := (.cons (.asg (.tp (.cons (.nm 4) (.cons (.nm 5) (.cons (.nm 6) (.cons (.nm 7) (.cons (.nm 8) .nil)))))) (.var 3))
  (.cons (.ret (.and (.cmp .Eq (.var 0) (.bin .Mult (.var 2) (.var 5))) (.and (.cmp .Eq (.var 1) (.bin .Mult (.var 2) (.var 6))) (.cmp .Eq (.bin .Add (.bin .Mult (.var 0) (.var 7)) (.bin .Mult (.var 1) (.var 8))) (.var 2)))))
  .nil))
def c_are_parts : Sts := (.cons (.ite (.or (.not (.val (.call "is_of" ["thing", "word", "many"] sp_is_of (.cons (.var 3) (.cons (.cst (.str "parts")) (.cons (.cst (.int 4)) .nil)))))) (.not (.val (.call "are_wholes" ["thing"] sp_are_wholes (.cons (.sl (.var 3) (.some (.cst (.int 1))) .none) .nil)))))
  (.cons (.ret (.cst (.bl false)))
    .nil)
  .nil)
  c_are_parts_r1)
def partsB (a b g : Int) (t : D) : Bool := match t with
  | .tup [w, .int x, .int y, .int l, .int r] => isW w "parts" && (decide (a = g * x) && (decide (b = g * y) && decide (a * l + b * r = g)))
  | _ => false
def sp_are_parts : Spd := fun ds h Q => match ds with
  | [.int a, .int b, .int g, t] => (Tok t ∧ a.natAbs ≤ 2 ^ 200 ∧ b.natAbs ≤ 2 ^ 200 ∧ g.natAbs ≤ 2 ^ 200) ∧ Q (.bl (partsB a b g t)) h
  | _ => False
theorem b_are_parts (ds : List D) (h : Hd) (Q : Pq) (q : sp_are_parts ds h Q) : wSs c_are_parts { nx := fun _ h' => Out Q .non h', rt := Out Q } (startD N_are_parts ds) h := by
  unfold sp_are_parts at q
  split at q
  · rename_i a b g t
    obtain ⟨⟨k, ha, hb, hg⟩, q⟩ := q
    show wSs c_are_parts _ [some (.int a), some (.int b), some (.int g), some t, none, none, none, none, none] h
    simp only [c_are_parts, wSs, wS, wT, wTo, wE, wA, wO, wI, getS, gT, gTs, setAll, List.getElem?_cons_zero, List.getElem?_cons_succ, List.set_cons_zero, List.set_cons_succ, binD, augD, iaddD, imulD, addD, subD, mulD, fdivD, modD, powD, negD, cmpD, eqD, ordD, truthD, boolD, intO, view, subsD, sliceD, listed, dicted, bltD, seqD, seqI, zipI, zipSI, anyI, lstI, enumI, revI, starI, lenTs, mthD, lstOf, mAppend, mPop, mExtend, mUpper, mJoin, strsOf, tyD, Mt.T, setD, wipeD, List.map_cons, List.map_nil, Bool.false_eq_true, if_true, if_false, ↓reduceIte, sp_is_of]
    refine ⟨⟨k, by decide +kernel, by decide⟩, ?_⟩
    cases e : isOf t "parts" 4
    · have e2 : partsB a b g t = false := by
        unfold partsB
        split
        · rename_i w x y l r
          have : isW w "parts" = false := by simpa [isOf] using e
          rw [this, Bool.false_and]
        · rfl
      rw [e2] at q
      simp only [wSs, wS, wT, wTo, wE, wA, wO, wI, getS, gT, gTs, setAll, List.getElem?_cons_zero, List.getElem?_cons_succ, List.set_cons_zero, List.set_cons_succ, binD, augD, iaddD, imulD, addD, subD, mulD, fdivD, modD, powD, negD, cmpD, eqD, ordD, truthD, boolD, intO, view, subsD, sliceD, listed, dicted, bltD, seqD, seqI, zipI, zipSI, anyI, lstI, enumI, revI, starI, lenTs, mthD, lstOf, mAppend, mPop, mExtend, mUpper, mJoin, strsOf, tyD, Mt.T, setD, wipeD, List.map_cons, List.map_nil, Bool.false_eq_true, if_true, if_false, ↓reduceIte, Bool.not_true, Bool.not_false, decide_true, decide_false, beq_self_eq_true, decide_eq_true_eq, Bool.true_and, Bool.false_and, Bool.and_true, Bool.and_false]
      exact .is (Hd.le.refl _) q
    · obtain ⟨ds, rfl, hl⟩ := isOf_tup (m := 4) e
      simp only [wSs, wS, wT, wTo, wE, wA, wO, wI, getS, gT, gTs, setAll, List.getElem?_cons_zero, List.getElem?_cons_succ, List.set_cons_zero, List.set_cons_succ, binD, augD, iaddD, imulD, addD, subD, mulD, fdivD, modD, powD, negD, cmpD, eqD, ordD, truthD, boolD, intO, view, subsD, sliceD, listed, dicted, bltD, seqD, seqI, zipI, zipSI, anyI, lstI, enumI, revI, starI, lenTs, mthD, lstOf, mAppend, mPop, mExtend, mUpper, mJoin, strsOf, tyD, Mt.T, setD, wipeD, List.map_cons, List.map_nil, Bool.false_eq_true, if_true, if_false, ↓reduceIte, Bool.not_true, Bool.not_false, decide_true, decide_false, beq_self_eq_true, decide_eq_true_eq, Bool.true_and, Bool.false_and, Bool.and_true, Bool.and_false]
      match ds, hl with
      | [d1, d2, d3, d4], _ =>
        simp only [sp_are_wholes, wSs, wS, wT, wTo, wE, wA, wO, wI, getS, gT, gTs, setAll, List.getElem?_cons_zero, List.getElem?_cons_succ, List.set_cons_zero, List.set_cons_succ, binD, augD, iaddD, imulD, addD, subD, mulD, fdivD, modD, powD, negD, cmpD, eqD, ordD, truthD, boolD, intO, view, subsD, sliceD, listed, dicted, bltD, seqD, seqI, zipI, zipSI, anyI, lstI, enumI, revI, starI, lenTs, mthD, lstOf, mAppend, mPop, mExtend, mUpper, mJoin, strsOf, tyD, Mt.T, setD, wipeD, List.map_cons, List.map_nil, Bool.false_eq_true, if_true, if_false, ↓reduceIte, Bool.not_true, Bool.not_false, decide_true, decide_false, beq_self_eq_true, decide_eq_true_eq, Bool.true_and, Bool.false_and, Bool.and_true, Bool.and_false]
        have kt := k.tup
        have cut : cutD [D.str "parts", d1, d2, d3, d4] (some 1) none = [d1, d2, d3, d4] := rfl
        rw [cut]
        refine ⟨isF_tup.mpr fun d hd => (kt d (List.mem_cons_of_mem _ hd)).1.isF, ?_⟩
        by_cases e2 : wholesD (.tup [d1, d2, d3, d4]) = true
        case neg =>
          have e3 : partsB a b g (.tup [.str "parts", d1, d2, d3, d4]) = false := by
            unfold partsB
            split
            · rename_i z
              injection z with z
              injection z with z1 z
              injection z with z2 z
              injection z with z3 z
              injection z with z4 z
              injection z with z5 z
              subst z2; subst z3; subst z4; subst z5
              exact absurd rfl e2
            · rfl
          rw [e3] at q
          rw [Bool.not_eq_true] at e2
          simp only [e2, wSs, wS, wT, wTo, wE, wA, wO, wI, getS, gT, gTs, setAll, List.getElem?_cons_zero, List.getElem?_cons_succ, List.set_cons_zero, List.set_cons_succ, binD, augD, iaddD, imulD, addD, subD, mulD, fdivD, modD, powD, negD, cmpD, eqD, ordD, truthD, boolD, intO, view, subsD, sliceD, listed, dicted, bltD, seqD, seqI, zipI, zipSI, anyI, lstI, enumI, revI, starI, lenTs, mthD, lstOf, mAppend, mPop, mExtend, mUpper, mJoin, strsOf, tyD, Mt.T, setD, wipeD, List.map_cons, List.map_nil, Bool.false_eq_true, if_true, if_false, ↓reduceIte, Bool.not_true, Bool.not_false, decide_true, decide_false, beq_self_eq_true, decide_eq_true_eq, Bool.true_and, Bool.false_and, Bool.and_true, Bool.and_false]
          exact .is (Hd.le.refl _) q
        case pos =>
          simp only [e2]
          obtain ⟨ns, en⟩ := wholes_ints e2
          match ns, en with
          | [x, y, l, r], en =>
            simp only [List.map_cons, List.map_nil, List.cons.injEq, and_true] at en
            obtain ⟨rfl, rfl, rfl, rfl⟩ := en
            have bx := (kt (.int x) (by simp)).1.int
            have by' := (kt (.int y) (by simp)).1.int
            have bl := (kt (.int l) (by simp)).1.int
            have br := (kt (.int r) (by simp)).1.int
            simp only [wSs, wS, wT, wTo, wE, wA, wO, wI, getS, gT, gTs, setAll, List.getElem?_cons_zero, List.getElem?_cons_succ, List.set_cons_zero, List.set_cons_succ, binD, augD, iaddD, imulD, addD, subD, mulD, fdivD, modD, powD, negD, cmpD, eqD, ordD, truthD, boolD, intO, view, subsD, sliceD, listed, dicted, bltD, seqD, seqI, zipI, zipSI, anyI, lstI, enumI, revI, starI, lenTs, mthD, lstOf, mAppend, mPop, mExtend, mUpper, mJoin, strsOf, tyD, Mt.T, setD, wipeD, List.map_cons, List.map_nil, Bool.false_eq_true, if_true, if_false, ↓reduceIte, Bool.not_true, Bool.not_false, decide_true, decide_false, beq_self_eq_true, decide_eq_true_eq, Bool.true_and, Bool.false_and, Bool.and_true, Bool.and_false, c_are_parts_r1]
            refine ⟨mulOk_le hg bx, ?_⟩
            simp only [partsB, show isW (D.str "parts") "parts" = true from by decide, Bool.true_and] at q
            by_cases e4 : a = g * x
            · simp only [e4, decide_true, if_true, Bool.true_and] at q ⊢
              rw [← e4] at q ⊢
              refine ⟨mulOk_le hg by', ?_⟩
              by_cases e5 : b = g * y
              · simp only [e5, decide_true, if_true, Bool.true_and] at q ⊢
                rw [← e5] at q ⊢
                refine ⟨mulOk_le ha bl, mulOk_le hb br, ?_⟩
                exact .is (Hd.le.refl _) q
              · simp only [e5, decide_false, Bool.false_eq_true, if_false, Bool.false_and] at q ⊢
                exact .is (Hd.le.refl _) q
            · simp only [e4, decide_false, Bool.false_eq_true, if_false, Bool.false_and] at q ⊢
              exact .is (Hd.le.refl _) q
  · exact q.elim
/-! ### dividing_shows -/
abbrev N_dividing_shows : List Str := ["statement", "thing", "word", "first", "second", "rest"]
def c_dividing_shows_r1 : Sts := (.cons (.ret (.and (.call "is_of" ["thing", "word", "many"] sp_is_of (.cons (.var 1) (.cons (.cst (.str "times")) (.cons (.cst (.int 1)) .nil)))) (.and (.call "is_whole" ["thing"] sp_is_whole (.cons (.sub (.var 1) (.cst (.int 1))) .nil)) (.cmp .Eq (.bin .Mult (.var 3) (.sub (.var 1) (.cst (.int 1)))) (.var 4)))))
  .nil)
def c_dividing_shows : Sts := (.cons (.star 3 false (.cons (.nm 2) (.cons (.nm 3) (.cons (.nm 4) (.cons (.nm 5) .nil)))) (.var 0))
  (.cons (.ite (.val (.cmp .Eq (.var 2) (.cst (.str "shared"))))
  (.cons (.ret (.call "are_parts" ["one", "other", "divisor", "thing"] sp_are_parts (.cons (.var 3) (.cons (.var 4) (.cons (.sub (.var 5) (.cst (.int 0))) (.cons (.var 1) .nil))))))
    .nil)
  .nil)
  c_dividing_shows_r1))
def timesB (a n : Int) (t : D) : Bool := match t with
  | .tup [w, .int x] => isW w "times" && decide (a * x = n)
  | _ => false
def sp_dividing_shows : Spd := fun ds h Q => match ds with
  | [.tup [.str w, .int a, .int n], t] => (Tok t ∧ w = "divides" ∧ a.natAbs ≤ 2 ^ 200) ∧ Q (.bl (timesB a n t)) h
  | [.tup [.str w, .int a, .int b, .int g], t] => (Tok t ∧ w = "shared" ∧ a.natAbs ≤ 2 ^ 200 ∧ b.natAbs ≤ 2 ^ 200 ∧ g.natAbs ≤ 2 ^ 200) ∧ Q (.bl (partsB a b g t)) h
  | _ => False
theorem b_dividing_shows (ds : List D) (h : Hd) (Q : Pq) (q : sp_dividing_shows ds h Q) : wSs c_dividing_shows { nx := fun _ h' => Out Q .non h', rt := Out Q } (startD N_dividing_shows ds) h := by
  unfold sp_dividing_shows at q
  split at q
  · rename_i w a n t
    obtain ⟨⟨k, rfl, ha⟩, q⟩ := q
    show wSs c_dividing_shows _ [some (.tup [.str "divides", .int a, .int n]), some t, none, none, none, none] h
    simp only [c_dividing_shows, wSs, wS, wT, wTo, wE, wA, wO, wI, getS, gT, gTs, setAll, List.getElem?_cons_zero, List.getElem?_cons_succ, List.set_cons_zero, List.set_cons_succ, binD, augD, iaddD, imulD, addD, subD, mulD, fdivD, modD, powD, negD, truthD, boolD, intO, subsD, sliceD, listed, dicted, bltD, seqD, seqI, zipI, zipSI, anyI, lstI, enumI, revI, starI, lenTs, mthD, lstOf, mAppend, mPop, mExtend, mUpper, mJoin, strsOf, tyD, Mt.T, setD, wipeD, List.map_cons, List.map_nil, Bool.false_eq_true, if_true, if_false, ↓reduceIte, vw_non, vw_bl, vw_int, vw_str, vw_tup, vw_lst, vw_dic, vw_ref, w_eq, w_ne, w_eqS, w_neS, w_lt, w_le, w_gt, w_ge, w_truth, w_boolD, w_isN, w_isNt, Bool.not_true, Bool.not_false, decide_true, decide_false, beq_self_eq_true, decide_eq_true_eq, Bool.true_and, Bool.false_and, Bool.and_true, Bool.and_false]
    refine ⟨by simp, ?_⟩
    simp only [wSs, wS, wT, wTo, wE, wA, wO, wI, getS, gT, gTs, setAll, List.getElem?_cons_zero, List.getElem?_cons_succ, List.set_cons_zero, List.set_cons_succ, binD, augD, iaddD, imulD, addD, subD, mulD, fdivD, modD, powD, negD, truthD, boolD, intO, subsD, sliceD, listed, dicted, bltD, seqD, seqI, zipI, zipSI, anyI, lstI, enumI, revI, starI, lenTs, mthD, lstOf, mAppend, mPop, mExtend, mUpper, mJoin, strsOf, tyD, Mt.T, setD, wipeD, List.map_cons, List.map_nil, Bool.false_eq_true, if_true, if_false, ↓reduceIte, vw_non, vw_bl, vw_int, vw_str, vw_tup, vw_lst, vw_dic, vw_ref, w_eq, w_ne, w_eqS, w_neS, w_lt, w_le, w_gt, w_ge, w_truth, w_boolD, w_isN, w_isNt, Bool.not_true, Bool.not_false, decide_true, decide_false, beq_self_eq_true, decide_eq_true_eq, Bool.true_and, Bool.false_and, Bool.and_true, Bool.and_false, List.length_cons, List.length_nil, List.drop_succ_cons, List.drop_zero, List.take_succ_cons, List.take_zero, List.cons_append, List.nil_append, show decide (("divides" : Str) = "shared") = false from by decide, c_dividing_shows_r1, sp_is_of]
    refine ⟨⟨k, by decide +kernel, by decide⟩, ?_⟩
    cases e : isOf t "times" 1
    · have e2 : timesB a n t = false := by
        unfold timesB
        split
        · rename_i w x
          have : isW w "times" = false := by simpa [isOf] using e
          rw [this, Bool.false_and]
        · rfl
      rw [e2] at q
      simp only [wSs, wS, wT, wTo, wE, wA, wO, wI, getS, gT, gTs, setAll, List.getElem?_cons_zero, List.getElem?_cons_succ, List.set_cons_zero, List.set_cons_succ, binD, augD, iaddD, imulD, addD, subD, mulD, fdivD, modD, powD, negD, truthD, boolD, intO, subsD, sliceD, listed, dicted, bltD, seqD, seqI, zipI, zipSI, anyI, lstI, enumI, revI, starI, lenTs, mthD, lstOf, mAppend, mPop, mExtend, mUpper, mJoin, strsOf, tyD, Mt.T, setD, wipeD, List.map_cons, List.map_nil, Bool.false_eq_true, if_true, if_false, ↓reduceIte, vw_non, vw_bl, vw_int, vw_str, vw_tup, vw_lst, vw_dic, vw_ref, w_eq, w_ne, w_eqS, w_neS, w_lt, w_le, w_gt, w_ge, w_truth, w_boolD, w_isN, w_isNt, Bool.not_true, Bool.not_false, decide_true, decide_false, beq_self_eq_true, decide_eq_true_eq, Bool.true_and, Bool.false_and, Bool.and_true, Bool.and_false]
      exact .is (Hd.le.refl _) q
    · obtain ⟨ds, rfl, hl⟩ := isOf_tup (m := 1) e
      match ds, hl with
      | [d1], _ =>
        have kd := k.tup d1 (by simp)
        simp only [wSs, wS, wT, wTo, wE, wA, wO, wI, getS, gT, gTs, setAll, List.getElem?_cons_zero, List.getElem?_cons_succ, List.set_cons_zero, List.set_cons_succ, binD, augD, iaddD, imulD, addD, subD, mulD, fdivD, modD, powD, negD, truthD, boolD, intO, subsD, sliceD, listed, dicted, bltD, seqD, seqI, zipI, zipSI, anyI, lstI, enumI, revI, starI, lenTs, mthD, lstOf, mAppend, mPop, mExtend, mUpper, mJoin, strsOf, tyD, Mt.T, setD, wipeD, List.map_cons, List.map_nil, Bool.false_eq_true, if_true, if_false, ↓reduceIte, vw_non, vw_bl, vw_int, vw_str, vw_tup, vw_lst, vw_dic, vw_ref, w_eq, w_ne, w_eqS, w_neS, w_lt, w_le, w_gt, w_ge, w_truth, w_boolD, w_isN, w_isNt, Bool.not_true, Bool.not_false, decide_true, decide_false, beq_self_eq_true, decide_eq_true_eq, Bool.true_and, Bool.false_and, Bool.and_true, Bool.and_false, at_1, sp_is_whole]
        refine ⟨kd.1.isF, ?_⟩
        cases e2 : isWholeD d1
        · have e3 : timesB a n (.tup [.str "times", d1]) = false := by
            unfold timesB
            split
            · rename_i z
              injection z with z
              injection z with z1 z
              injection z with z2 z
              subst z2
              cases e2
            · rfl
          rw [e3] at q
          simp only [wSs, wS, wT, wTo, wE, wA, wO, wI, getS, gT, gTs, setAll, List.getElem?_cons_zero, List.getElem?_cons_succ, List.set_cons_zero, List.set_cons_succ, binD, augD, iaddD, imulD, addD, subD, mulD, fdivD, modD, powD, negD, truthD, boolD, intO, subsD, sliceD, listed, dicted, bltD, seqD, seqI, zipI, zipSI, anyI, lstI, enumI, revI, starI, lenTs, mthD, lstOf, mAppend, mPop, mExtend, mUpper, mJoin, strsOf, tyD, Mt.T, setD, wipeD, List.map_cons, List.map_nil, Bool.false_eq_true, if_true, if_false, ↓reduceIte, vw_non, vw_bl, vw_int, vw_str, vw_tup, vw_lst, vw_dic, vw_ref, w_eq, w_ne, w_eqS, w_neS, w_lt, w_le, w_gt, w_ge, w_truth, w_boolD, w_isN, w_isNt, Bool.not_true, Bool.not_false, decide_true, decide_false, beq_self_eq_true, decide_eq_true_eq, Bool.true_and, Bool.false_and, Bool.and_true, Bool.and_false]
          exact .is (Hd.le.refl _) q
        · obtain ⟨x, rfl⟩ := isWhole_int e2
          simp only [wSs, wS, wT, wTo, wE, wA, wO, wI, getS, gT, gTs, setAll, List.getElem?_cons_zero, List.getElem?_cons_succ, List.set_cons_zero, List.set_cons_succ, binD, augD, iaddD, imulD, addD, subD, mulD, fdivD, modD, powD, negD, truthD, boolD, intO, subsD, sliceD, listed, dicted, bltD, seqD, seqI, zipI, zipSI, anyI, lstI, enumI, revI, starI, lenTs, mthD, lstOf, mAppend, mPop, mExtend, mUpper, mJoin, strsOf, tyD, Mt.T, setD, wipeD, List.map_cons, List.map_nil, Bool.false_eq_true, if_true, if_false, ↓reduceIte, vw_non, vw_bl, vw_int, vw_str, vw_tup, vw_lst, vw_dic, vw_ref, w_eq, w_ne, w_eqS, w_neS, w_lt, w_le, w_gt, w_ge, w_truth, w_boolD, w_isN, w_isNt, Bool.not_true, Bool.not_false, decide_true, decide_false, beq_self_eq_true, decide_eq_true_eq, Bool.true_and, Bool.false_and, Bool.and_true, Bool.and_false]
          simp only [timesB, show isW (D.str "times") "times" = true from by decide, Bool.true_and] at q
          exact ⟨mulOk_le ha kd.1.int, .is (Hd.le.refl _) q⟩
  · rename_i w a b g t
    obtain ⟨⟨k, rfl, ha, hb, hg⟩, q⟩ := q
    show wSs c_dividing_shows _ [some (.tup [.str "shared", .int a, .int b, .int g]), some t, none, none, none, none] h
    simp only [c_dividing_shows, wSs, wS, wT, wTo, wE, wA, wO, wI, getS, gT, gTs, setAll, List.getElem?_cons_zero, List.getElem?_cons_succ, List.set_cons_zero, List.set_cons_succ, binD, augD, iaddD, imulD, addD, subD, mulD, fdivD, modD, powD, negD, truthD, boolD, intO, subsD, sliceD, listed, dicted, bltD, seqD, seqI, zipI, zipSI, anyI, lstI, enumI, revI, starI, lenTs, mthD, lstOf, mAppend, mPop, mExtend, mUpper, mJoin, strsOf, tyD, Mt.T, setD, wipeD, List.map_cons, List.map_nil, Bool.false_eq_true, if_true, if_false, ↓reduceIte, vw_non, vw_bl, vw_int, vw_str, vw_tup, vw_lst, vw_dic, vw_ref, w_eq, w_ne, w_eqS, w_neS, w_lt, w_le, w_gt, w_ge, w_truth, w_boolD, w_isN, w_isNt, Bool.not_true, Bool.not_false, decide_true, decide_false, beq_self_eq_true, decide_eq_true_eq, Bool.true_and, Bool.false_and, Bool.and_true, Bool.and_false]
    refine ⟨by simp, ?_⟩
    simp only [wSs, wS, wT, wTo, wE, wA, wO, wI, getS, gT, gTs, setAll, List.getElem?_cons_zero, List.getElem?_cons_succ, List.set_cons_zero, List.set_cons_succ, binD, augD, iaddD, imulD, addD, subD, mulD, fdivD, modD, powD, negD, truthD, boolD, intO, subsD, sliceD, listed, dicted, bltD, seqD, seqI, zipI, zipSI, anyI, lstI, enumI, revI, starI, lenTs, mthD, lstOf, mAppend, mPop, mExtend, mUpper, mJoin, strsOf, tyD, Mt.T, setD, wipeD, List.map_cons, List.map_nil, Bool.false_eq_true, if_true, if_false, ↓reduceIte, vw_non, vw_bl, vw_int, vw_str, vw_tup, vw_lst, vw_dic, vw_ref, w_eq, w_ne, w_eqS, w_neS, w_lt, w_le, w_gt, w_ge, w_truth, w_boolD, w_isN, w_isNt, Bool.not_true, Bool.not_false, decide_true, decide_false, beq_self_eq_true, decide_eq_true_eq, Bool.true_and, Bool.false_and, Bool.and_true, Bool.and_false, List.length_cons, List.length_nil, List.drop_succ_cons, List.drop_zero, List.take_succ_cons, List.take_zero, List.cons_append, List.nil_append, sp_are_parts, at_0]
    exact ⟨⟨k, ha, hb, hg⟩, .is (Hd.le.refl _) q⟩
  · exact q.elim
/-! ### dividing_denies -/
abbrev N_dividing_denies : List Str := ["statement", "thing", "word", "first", "second", "rest"]
def c_dividing_denies_r1 : Sts := (.cons (.ret (.cmp .Eq (.bin .Add (.bin .Mult (.var 3) (.sub (.var 1) (.cst (.int 1)))) (.sub (.var 1) (.cst (.int 2)))) (.var 4)))
  .nil)
def c_dividing_denies_r2 : Sts := (.cons (.ite (.or (.not (.val (.call "is_of" ["thing", "word", "many"] sp_is_of (.cons (.var 1) (.cons (.cst (.str "rest")) (.cons (.cst (.int 2)) .nil)))))) (.or (.not (.val (.call "is_whole" ["thing"] sp_is_whole (.cons (.sub (.var 1) (.cst (.int 1))) .nil)))) (.not (.val (.call "is_within" ["thing", "low", "high"] sp_is_within (.cons (.sub (.var 1) (.cst (.int 2))) (.cons (.cst (.int 1)) (.cons (.bin .Sub (.var 3) (.cst (.int 1))) .nil))))))))
  (.cons (.ret (.cst (.bl false)))
    .nil)
  .nil)
  c_dividing_denies_r1)
def c_dividing_denies_r3 : Sts := (.cons (.ret (.call "are_parts" ["one", "other", "divisor", "thing"] sp_are_parts (.cons (.var 3) (.cons (.var 4) (.cons (.sub (.var 1) (.cst (.int 1))) (.cons (.sub (.var 1) (.cst (.int 2))) .nil))))))
    .nil)
def c_dividing_denies : Sts := (.cons (.star 3 false (.cons (.nm 2) (.cons (.nm 3) (.cons (.nm 4) (.cons (.nm 5) .nil)))) (.var 0))
  (.cons (.ite (.val (.cmp .Eq (.var 2) (.cst (.str "shared"))))
  (.cons (.ite (.or (.not (.val (.call "is_of" ["thing", "word", "many"] sp_is_of (.cons (.var 1) (.cons (.cst (.str "other")) (.cons (.cst (.int 2)) .nil)))))) (.or (.not (.val (.call "is_from" ["thing", "low"] sp_is_from (.cons (.sub (.var 1) (.cst (.int 1))) (.cons (.cst (.int 0)) .nil))))) (.val (.cmp .Eq (.sub (.var 1) (.cst (.int 1))) (.sub (.var 5) (.cst (.int 0)))))))
    (.cons (.ret (.cst (.bl false)))
      .nil)
    .nil)
    c_dividing_denies_r3)
  .nil)
  c_dividing_denies_r2))
def restB (a n : Int) (t : D) : Bool := match t with
  | .tup [w, .int x, .int r] => isW w "rest" && (decide (1 ≤ r) && decide (r ≤ a - 1) && decide (a * x + r = n))
  | _ => false
def otherB (a b g : Int) (t : D) : Bool := match t with
  | .tup [w, .int x, u] => isW w "other" && (decide (0 ≤ x) && (!decide (x = g) && partsB a b x u))
  | _ => false
def sp_dividing_denies : Spd := fun ds h Q => match ds with
  | [.tup [.str w, .int a, .int n], t] => (Tok t ∧ w = "divides" ∧ a.natAbs ≤ 2 ^ 200) ∧ Q (.bl (restB a n t)) h
  | [.tup [.str w, .int a, .int b, .int g], t] => (Tok t ∧ w = "shared" ∧ a.natAbs ≤ 2 ^ 200 ∧ b.natAbs ≤ 2 ^ 200 ∧ g.natAbs ≤ 2 ^ 200) ∧ Q (.bl (otherB a b g t)) h
  | _ => False
theorem b_dividing_denies (ds : List D) (h : Hd) (Q : Pq) (q : sp_dividing_denies ds h Q) : wSs c_dividing_denies { nx := fun _ h' => Out Q .non h', rt := Out Q } (startD N_dividing_denies ds) h := by
  unfold sp_dividing_denies at q
  split at q
  · rename_i w a n t
    obtain ⟨⟨k, rfl, ha⟩, q⟩ := q
    show wSs c_dividing_denies _ [some (.tup [.str "divides", .int a, .int n]), some t, none, none, none, none] h
    simp only [c_dividing_denies, wSs, wS, wT, wTo, wE, wA, wO, wI, getS, gT, gTs, setAll, List.getElem?_cons_zero, List.getElem?_cons_succ, List.set_cons_zero, List.set_cons_succ, binD, augD, iaddD, imulD, addD, subD, mulD, fdivD, modD, powD, negD, truthD, boolD, intO, subsD, sliceD, listed, dicted, bltD, seqD, seqI, zipI, zipSI, anyI, lstI, enumI, revI, starI, lenTs, mthD, lstOf, mAppend, mPop, mExtend, mUpper, mJoin, strsOf, tyD, Mt.T, setD, wipeD, List.map_cons, List.map_nil, Bool.false_eq_true, if_true, if_false, ↓reduceIte, vw_non, vw_bl, vw_int, vw_str, vw_tup, vw_lst, vw_dic, vw_ref, w_eq, w_ne, w_eqS, w_neS, w_lt, w_le, w_gt, w_ge, w_truth, w_boolD, w_isN, w_isNt, Bool.not_true, Bool.not_false, decide_true, decide_false, beq_self_eq_true, decide_eq_true_eq, Bool.true_and, Bool.false_and, Bool.and_true, Bool.and_false]
    refine ⟨by simp, ?_⟩
    simp only [wSs, wS, wT, wTo, wE, wA, wO, wI, getS, gT, gTs, setAll, List.getElem?_cons_zero, List.getElem?_cons_succ, List.set_cons_zero, List.set_cons_succ, binD, augD, iaddD, imulD, addD, subD, mulD, fdivD, modD, powD, negD, truthD, boolD, intO, subsD, sliceD, listed, dicted, bltD, seqD, seqI, zipI, zipSI, anyI, lstI, enumI, revI, starI, lenTs, mthD, lstOf, mAppend, mPop, mExtend, mUpper, mJoin, strsOf, tyD, Mt.T, setD, wipeD, List.map_cons, List.map_nil, Bool.false_eq_true, if_true, if_false, ↓reduceIte, vw_non, vw_bl, vw_int, vw_str, vw_tup, vw_lst, vw_dic, vw_ref, w_eq, w_ne, w_eqS, w_neS, w_lt, w_le, w_gt, w_ge, w_truth, w_boolD, w_isN, w_isNt, Bool.not_true, Bool.not_false, decide_true, decide_false, beq_self_eq_true, decide_eq_true_eq, Bool.true_and, Bool.false_and, Bool.and_true, Bool.and_false, List.length_cons, List.length_nil, List.drop_succ_cons, List.drop_zero, List.take_succ_cons, List.take_zero, List.cons_append, List.nil_append, show decide (("divides" : Str) = "shared") = false from by decide, c_dividing_denies_r2, sp_is_of]
    refine ⟨⟨k, by decide +kernel, by decide⟩, ?_⟩
    cases e : isOf t "rest" 2
    · have e2 : restB a n t = false := by
        unfold restB
        split
        · rename_i w x r
          have : isW w "rest" = false := by simpa [isOf] using e
          rw [this, Bool.false_and]
        · rfl
      rw [e2] at q
      simp only [wSs, wS, wT, wTo, wE, wA, wO, wI, getS, gT, gTs, setAll, List.getElem?_cons_zero, List.getElem?_cons_succ, List.set_cons_zero, List.set_cons_succ, binD, augD, iaddD, imulD, addD, subD, mulD, fdivD, modD, powD, negD, truthD, boolD, intO, subsD, sliceD, listed, dicted, bltD, seqD, seqI, zipI, zipSI, anyI, lstI, enumI, revI, starI, lenTs, mthD, lstOf, mAppend, mPop, mExtend, mUpper, mJoin, strsOf, tyD, Mt.T, setD, wipeD, List.map_cons, List.map_nil, Bool.false_eq_true, if_true, if_false, ↓reduceIte, vw_non, vw_bl, vw_int, vw_str, vw_tup, vw_lst, vw_dic, vw_ref, w_eq, w_ne, w_eqS, w_neS, w_lt, w_le, w_gt, w_ge, w_truth, w_boolD, w_isN, w_isNt, Bool.not_true, Bool.not_false, decide_true, decide_false, beq_self_eq_true, decide_eq_true_eq, Bool.true_and, Bool.false_and, Bool.and_true, Bool.and_false]
      exact .is (Hd.le.refl _) q
    · obtain ⟨ds, rfl, hl⟩ := isOf_tup (m := 2) e
      match ds, hl with
      | [d1, d2], _ =>
        have kd := k.tup d1 (by simp)
        have kr := k.tup d2 (by simp)
        simp only [wSs, wS, wT, wTo, wE, wA, wO, wI, getS, gT, gTs, setAll, List.getElem?_cons_zero, List.getElem?_cons_succ, List.set_cons_zero, List.set_cons_succ, binD, augD, iaddD, imulD, addD, subD, mulD, fdivD, modD, powD, negD, truthD, boolD, intO, subsD, sliceD, listed, dicted, bltD, seqD, seqI, zipI, zipSI, anyI, lstI, enumI, revI, starI, lenTs, mthD, lstOf, mAppend, mPop, mExtend, mUpper, mJoin, strsOf, tyD, Mt.T, setD, wipeD, List.map_cons, List.map_nil, Bool.false_eq_true, if_true, if_false, ↓reduceIte, vw_non, vw_bl, vw_int, vw_str, vw_tup, vw_lst, vw_dic, vw_ref, w_eq, w_ne, w_eqS, w_neS, w_lt, w_le, w_gt, w_ge, w_truth, w_boolD, w_isN, w_isNt, Bool.not_true, Bool.not_false, decide_true, decide_false, beq_self_eq_true, decide_eq_true_eq, Bool.true_and, Bool.false_and, Bool.and_true, Bool.and_false, at_1, at_2, sp_is_whole]
        refine ⟨kd.1.isF, ?_⟩
        cases e2 : isWholeD d1
        · have e3 : restB a n (.tup [.str "rest", d1, d2]) = false := by
            unfold restB
            split
            · rename_i z
              injection z with z
              injection z with z1 z
              injection z with z2 z
              subst z2
              cases e2
            · rfl
          rw [e3] at q
          simp only [wSs, wS, wT, wTo, wE, wA, wO, wI, getS, gT, gTs, setAll, List.getElem?_cons_zero, List.getElem?_cons_succ, List.set_cons_zero, List.set_cons_succ, binD, augD, iaddD, imulD, addD, subD, mulD, fdivD, modD, powD, negD, truthD, boolD, intO, subsD, sliceD, listed, dicted, bltD, seqD, seqI, zipI, zipSI, anyI, lstI, enumI, revI, starI, lenTs, mthD, lstOf, mAppend, mPop, mExtend, mUpper, mJoin, strsOf, tyD, Mt.T, setD, wipeD, List.map_cons, List.map_nil, Bool.false_eq_true, if_true, if_false, ↓reduceIte, vw_non, vw_bl, vw_int, vw_str, vw_tup, vw_lst, vw_dic, vw_ref, w_eq, w_ne, w_eqS, w_neS, w_lt, w_le, w_gt, w_ge, w_truth, w_boolD, w_isN, w_isNt, Bool.not_true, Bool.not_false, decide_true, decide_false, beq_self_eq_true, decide_eq_true_eq, Bool.true_and, Bool.false_and, Bool.and_true, Bool.and_false]
          exact .is (Hd.le.refl _) q
        · obtain ⟨x, rfl⟩ := isWhole_int e2
          simp only [wSs, wS, wT, wTo, wE, wA, wO, wI, getS, gT, gTs, setAll, List.getElem?_cons_zero, List.getElem?_cons_succ, List.set_cons_zero, List.set_cons_succ, binD, augD, iaddD, imulD, addD, subD, mulD, fdivD, modD, powD, negD, truthD, boolD, intO, subsD, sliceD, listed, dicted, bltD, seqD, seqI, zipI, zipSI, anyI, lstI, enumI, revI, starI, lenTs, mthD, lstOf, mAppend, mPop, mExtend, mUpper, mJoin, strsOf, tyD, Mt.T, setD, wipeD, List.map_cons, List.map_nil, Bool.false_eq_true, if_true, if_false, ↓reduceIte, vw_non, vw_bl, vw_int, vw_str, vw_tup, vw_lst, vw_dic, vw_ref, w_eq, w_ne, w_eqS, w_neS, w_lt, w_le, w_gt, w_ge, w_truth, w_boolD, w_isN, w_isNt, Bool.not_true, Bool.not_false, decide_true, decide_false, beq_self_eq_true, decide_eq_true_eq, Bool.true_and, Bool.false_and, Bool.and_true, Bool.and_false, at_1, at_2, sp_is_within]
          refine ⟨kr.1.isF, ?_⟩
          by_cases e4 : ∃ r, d2 = .int r
          · obtain ⟨r, rfl⟩ := e4
            simp only [restB, show isW (D.str "rest") "rest" = true from by decide, Bool.true_and] at q
            cases e5 : withinD (.int r) 1 (a - 1)
            · have : (decide (1 ≤ r) && decide (r ≤ a - 1)) = false := e5
              rw [this, Bool.false_and] at q
              simp only [wSs, wS, wT, wTo, wE, wA, wO, wI, getS, gT, gTs, setAll, List.getElem?_cons_zero, List.getElem?_cons_succ, List.set_cons_zero, List.set_cons_succ, binD, augD, iaddD, imulD, addD, subD, mulD, fdivD, modD, powD, negD, truthD, boolD, intO, subsD, sliceD, listed, dicted, bltD, seqD, seqI, zipI, zipSI, anyI, lstI, enumI, revI, starI, lenTs, mthD, lstOf, mAppend, mPop, mExtend, mUpper, mJoin, strsOf, tyD, Mt.T, setD, wipeD, List.map_cons, List.map_nil, Bool.false_eq_true, if_true, if_false, ↓reduceIte, vw_non, vw_bl, vw_int, vw_str, vw_tup, vw_lst, vw_dic, vw_ref, w_eq, w_ne, w_eqS, w_neS, w_lt, w_le, w_gt, w_ge, w_truth, w_boolD, w_isN, w_isNt, Bool.not_true, Bool.not_false, decide_true, decide_false, beq_self_eq_true, decide_eq_true_eq, Bool.true_and, Bool.false_and, Bool.and_true, Bool.and_false]
              exact .is (Hd.le.refl _) q
            · have : (decide (1 ≤ r) && decide (r ≤ a - 1)) = true := e5
              rw [this, Bool.true_and] at q
              simp only [wSs, wS, wT, wTo, wE, wA, wO, wI, getS, gT, gTs, setAll, List.getElem?_cons_zero, List.getElem?_cons_succ, List.set_cons_zero, List.set_cons_succ, binD, augD, iaddD, imulD, addD, subD, mulD, fdivD, modD, powD, negD, truthD, boolD, intO, subsD, sliceD, listed, dicted, bltD, seqD, seqI, zipI, zipSI, anyI, lstI, enumI, revI, starI, lenTs, mthD, lstOf, mAppend, mPop, mExtend, mUpper, mJoin, strsOf, tyD, Mt.T, setD, wipeD, List.map_cons, List.map_nil, Bool.false_eq_true, if_true, if_false, ↓reduceIte, vw_non, vw_bl, vw_int, vw_str, vw_tup, vw_lst, vw_dic, vw_ref, w_eq, w_ne, w_eqS, w_neS, w_lt, w_le, w_gt, w_ge, w_truth, w_boolD, w_isN, w_isNt, Bool.not_true, Bool.not_false, decide_true, decide_false, beq_self_eq_true, decide_eq_true_eq, Bool.true_and, Bool.false_and, Bool.and_true, Bool.and_false, c_dividing_denies_r1, at_1, at_2]
              exact ⟨mulOk_le ha kd.1.int, .is (Hd.le.refl _) q⟩
          · have e6 : withinD d2 1 (a - 1) = false := by
              cases d2 <;> first | rfl | exact absurd ⟨_, rfl⟩ e4
            have e3 : restB a n (.tup [.str "rest", .int x, d2]) = false := by
              unfold restB
              split
              · rename_i z
                injection z with z
                injection z with z1 z
                injection z with z2 z
                injection z with z3 z
                exact absurd ⟨_, z3⟩ e4
              · rfl
            rw [e3] at q
            simp only [e6, wSs, wS, wT, wTo, wE, wA, wO, wI, getS, gT, gTs, setAll, List.getElem?_cons_zero, List.getElem?_cons_succ, List.set_cons_zero, List.set_cons_succ, binD, augD, iaddD, imulD, addD, subD, mulD, fdivD, modD, powD, negD, truthD, boolD, intO, subsD, sliceD, listed, dicted, bltD, seqD, seqI, zipI, zipSI, anyI, lstI, enumI, revI, starI, lenTs, mthD, lstOf, mAppend, mPop, mExtend, mUpper, mJoin, strsOf, tyD, Mt.T, setD, wipeD, List.map_cons, List.map_nil, Bool.false_eq_true, if_true, if_false, ↓reduceIte, vw_non, vw_bl, vw_int, vw_str, vw_tup, vw_lst, vw_dic, vw_ref, w_eq, w_ne, w_eqS, w_neS, w_lt, w_le, w_gt, w_ge, w_truth, w_boolD, w_isN, w_isNt, Bool.not_true, Bool.not_false, decide_true, decide_false, beq_self_eq_true, decide_eq_true_eq, Bool.true_and, Bool.false_and, Bool.and_true, Bool.and_false]
            exact .is (Hd.le.refl _) q
  · rename_i w a b g t
    obtain ⟨⟨k, rfl, ha, hb, hg⟩, q⟩ := q
    show wSs c_dividing_denies _ [some (.tup [.str "shared", .int a, .int b, .int g]), some t, none, none, none, none] h
    simp only [c_dividing_denies, wSs, wS, wT, wTo, wE, wA, wO, wI, getS, gT, gTs, setAll, List.getElem?_cons_zero, List.getElem?_cons_succ, List.set_cons_zero, List.set_cons_succ, binD, augD, iaddD, imulD, addD, subD, mulD, fdivD, modD, powD, negD, truthD, boolD, intO, subsD, sliceD, listed, dicted, bltD, seqD, seqI, zipI, zipSI, anyI, lstI, enumI, revI, starI, lenTs, mthD, lstOf, mAppend, mPop, mExtend, mUpper, mJoin, strsOf, tyD, Mt.T, setD, wipeD, List.map_cons, List.map_nil, Bool.false_eq_true, if_true, if_false, ↓reduceIte, vw_non, vw_bl, vw_int, vw_str, vw_tup, vw_lst, vw_dic, vw_ref, w_eq, w_ne, w_eqS, w_neS, w_lt, w_le, w_gt, w_ge, w_truth, w_boolD, w_isN, w_isNt, Bool.not_true, Bool.not_false, decide_true, decide_false, beq_self_eq_true, decide_eq_true_eq, Bool.true_and, Bool.false_and, Bool.and_true, Bool.and_false]
    refine ⟨by simp, ?_⟩
    simp only [wSs, wS, wT, wTo, wE, wA, wO, wI, getS, gT, gTs, setAll, List.getElem?_cons_zero, List.getElem?_cons_succ, List.set_cons_zero, List.set_cons_succ, binD, augD, iaddD, imulD, addD, subD, mulD, fdivD, modD, powD, negD, truthD, boolD, intO, subsD, sliceD, listed, dicted, bltD, seqD, seqI, zipI, zipSI, anyI, lstI, enumI, revI, starI, lenTs, mthD, lstOf, mAppend, mPop, mExtend, mUpper, mJoin, strsOf, tyD, Mt.T, setD, wipeD, List.map_cons, List.map_nil, Bool.false_eq_true, if_true, if_false, ↓reduceIte, vw_non, vw_bl, vw_int, vw_str, vw_tup, vw_lst, vw_dic, vw_ref, w_eq, w_ne, w_eqS, w_neS, w_lt, w_le, w_gt, w_ge, w_truth, w_boolD, w_isN, w_isNt, Bool.not_true, Bool.not_false, decide_true, decide_false, beq_self_eq_true, decide_eq_true_eq, Bool.true_and, Bool.false_and, Bool.and_true, Bool.and_false, List.length_cons, List.length_nil, List.drop_succ_cons, List.drop_zero, List.take_succ_cons, List.take_zero, List.cons_append, List.nil_append, sp_is_of, at_0]
    refine ⟨⟨k, by decide +kernel, by decide⟩, ?_⟩
    cases e : isOf t "other" 2
    · have e2 : otherB a b g t = false := by
        unfold otherB
        split
        · rename_i w x u
          have : isW w "other" = false := by simpa [isOf] using e
          rw [this, Bool.false_and]
        · rfl
      rw [e2] at q
      simp only [wSs, wS, wT, wTo, wE, wA, wO, wI, getS, gT, gTs, setAll, List.getElem?_cons_zero, List.getElem?_cons_succ, List.set_cons_zero, List.set_cons_succ, binD, augD, iaddD, imulD, addD, subD, mulD, fdivD, modD, powD, negD, truthD, boolD, intO, subsD, sliceD, listed, dicted, bltD, seqD, seqI, zipI, zipSI, anyI, lstI, enumI, revI, starI, lenTs, mthD, lstOf, mAppend, mPop, mExtend, mUpper, mJoin, strsOf, tyD, Mt.T, setD, wipeD, List.map_cons, List.map_nil, Bool.false_eq_true, if_true, if_false, ↓reduceIte, vw_non, vw_bl, vw_int, vw_str, vw_tup, vw_lst, vw_dic, vw_ref, w_eq, w_ne, w_eqS, w_neS, w_lt, w_le, w_gt, w_ge, w_truth, w_boolD, w_isN, w_isNt, Bool.not_true, Bool.not_false, decide_true, decide_false, beq_self_eq_true, decide_eq_true_eq, Bool.true_and, Bool.false_and, Bool.and_true, Bool.and_false]
      exact .is (Hd.le.refl _) q
    · obtain ⟨ds, rfl, hl⟩ := isOf_tup (m := 2) e
      match ds, hl with
      | [d1, d2], _ =>
        have kd := k.tup d1 (by simp)
        have kr := k.tup d2 (by simp)
        simp only [wSs, wS, wT, wTo, wE, wA, wO, wI, getS, gT, gTs, setAll, List.getElem?_cons_zero, List.getElem?_cons_succ, List.set_cons_zero, List.set_cons_succ, binD, augD, iaddD, imulD, addD, subD, mulD, fdivD, modD, powD, negD, truthD, boolD, intO, subsD, sliceD, listed, dicted, bltD, seqD, seqI, zipI, zipSI, anyI, lstI, enumI, revI, starI, lenTs, mthD, lstOf, mAppend, mPop, mExtend, mUpper, mJoin, strsOf, tyD, Mt.T, setD, wipeD, List.map_cons, List.map_nil, Bool.false_eq_true, if_true, if_false, ↓reduceIte, vw_non, vw_bl, vw_int, vw_str, vw_tup, vw_lst, vw_dic, vw_ref, w_eq, w_ne, w_eqS, w_neS, w_lt, w_le, w_gt, w_ge, w_truth, w_boolD, w_isN, w_isNt, Bool.not_true, Bool.not_false, decide_true, decide_false, beq_self_eq_true, decide_eq_true_eq, Bool.true_and, Bool.false_and, Bool.and_true, Bool.and_false, at_1, at_2, sp_is_from]
        refine ⟨kd.1.isF, ?_⟩
        by_cases e4 : ∃ x, d1 = .int x
        · obtain ⟨x, rfl⟩ := e4
          simp only [otherB, show isW (D.str "other") "other" = true from by decide, Bool.true_and] at q
          cases e5 : fromD (.int x) 0
          · have : decide (0 ≤ x) = false := e5
            rw [this, Bool.false_and] at q
            simp only [wSs, wS, wT, wTo, wE, wA, wO, wI, getS, gT, gTs, setAll, List.getElem?_cons_zero, List.getElem?_cons_succ, List.set_cons_zero, List.set_cons_succ, binD, augD, iaddD, imulD, addD, subD, mulD, fdivD, modD, powD, negD, truthD, boolD, intO, subsD, sliceD, listed, dicted, bltD, seqD, seqI, zipI, zipSI, anyI, lstI, enumI, revI, starI, lenTs, mthD, lstOf, mAppend, mPop, mExtend, mUpper, mJoin, strsOf, tyD, Mt.T, setD, wipeD, List.map_cons, List.map_nil, Bool.false_eq_true, if_true, if_false, ↓reduceIte, vw_non, vw_bl, vw_int, vw_str, vw_tup, vw_lst, vw_dic, vw_ref, w_eq, w_ne, w_eqS, w_neS, w_lt, w_le, w_gt, w_ge, w_truth, w_boolD, w_isN, w_isNt, Bool.not_true, Bool.not_false, decide_true, decide_false, beq_self_eq_true, decide_eq_true_eq, Bool.true_and, Bool.false_and, Bool.and_true, Bool.and_false]
            exact .is (Hd.le.refl _) q
          · have : decide (0 ≤ x) = true := e5
            rw [this, Bool.true_and] at q
            simp only [wSs, wS, wT, wTo, wE, wA, wO, wI, getS, gT, gTs, setAll, List.getElem?_cons_zero, List.getElem?_cons_succ, List.set_cons_zero, List.set_cons_succ, binD, augD, iaddD, imulD, addD, subD, mulD, fdivD, modD, powD, negD, truthD, boolD, intO, subsD, sliceD, listed, dicted, bltD, seqD, seqI, zipI, zipSI, anyI, lstI, enumI, revI, starI, lenTs, mthD, lstOf, mAppend, mPop, mExtend, mUpper, mJoin, strsOf, tyD, Mt.T, setD, wipeD, List.map_cons, List.map_nil, Bool.false_eq_true, if_true, if_false, ↓reduceIte, vw_non, vw_bl, vw_int, vw_str, vw_tup, vw_lst, vw_dic, vw_ref, w_eq, w_ne, w_eqS, w_neS, w_lt, w_le, w_gt, w_ge, w_truth, w_boolD, w_isN, w_isNt, Bool.not_true, Bool.not_false, decide_true, decide_false, beq_self_eq_true, decide_eq_true_eq, Bool.true_and, Bool.false_and, Bool.and_true, Bool.and_false, at_1, at_0]
            by_cases e7 : x = g
            · simp only [e7, decide_true, Bool.not_true, Bool.false_and, if_true] at q ⊢
              exact .is (Hd.le.refl _) q
            · simp only [e7, decide_false, Bool.not_false, Bool.true_and, Bool.false_eq_true, if_false] at q ⊢
              simp only [c_dividing_denies_r3, wSs, wS, wT, wTo, wE, wA, wO, wI, getS, gT, gTs, setAll, List.getElem?_cons_zero, List.getElem?_cons_succ, List.set_cons_zero, List.set_cons_succ, binD, augD, iaddD, imulD, addD, subD, mulD, fdivD, modD, powD, negD, truthD, boolD, intO, subsD, sliceD, listed, dicted, bltD, seqD, seqI, zipI, zipSI, anyI, lstI, enumI, revI, starI, lenTs, mthD, lstOf, mAppend, mPop, mExtend, mUpper, mJoin, strsOf, tyD, Mt.T, setD, wipeD, List.map_cons, List.map_nil, Bool.false_eq_true, if_true, if_false, ↓reduceIte, vw_non, vw_bl, vw_int, vw_str, vw_tup, vw_lst, vw_dic, vw_ref, w_eq, w_ne, w_eqS, w_neS, w_lt, w_le, w_gt, w_ge, w_truth, w_boolD, w_isN, w_isNt, Bool.not_true, Bool.not_false, decide_true, decide_false, beq_self_eq_true, decide_eq_true_eq, Bool.true_and, Bool.false_and, Bool.and_true, Bool.and_false, at_1, at_2, sp_are_parts]
              exact ⟨⟨kr.1, ha, hb, kd.1.int⟩, .is (Hd.le.refl _) q⟩
        · have e6 : fromD d1 0 = false := by
            cases d1 <;> first | rfl | exact absurd ⟨_, rfl⟩ e4
          have e3 : otherB a b g (.tup [.str "other", d1, d2]) = false := by
            unfold otherB
            split
            · rename_i z
              injection z with z
              injection z with z1 z
              injection z with z2 z
              exact absurd ⟨_, z2⟩ e4
            · rfl
          rw [e3] at q
          simp only [e6, wSs, wS, wT, wTo, wE, wA, wO, wI, getS, gT, gTs, setAll, List.getElem?_cons_zero, List.getElem?_cons_succ, List.set_cons_zero, List.set_cons_succ, binD, augD, iaddD, imulD, addD, subD, mulD, fdivD, modD, powD, negD, truthD, boolD, intO, subsD, sliceD, listed, dicted, bltD, seqD, seqI, zipI, zipSI, anyI, lstI, enumI, revI, starI, lenTs, mthD, lstOf, mAppend, mPop, mExtend, mUpper, mJoin, strsOf, tyD, Mt.T, setD, wipeD, List.map_cons, List.map_nil, Bool.false_eq_true, if_true, if_false, ↓reduceIte, vw_non, vw_bl, vw_int, vw_str, vw_tup, vw_lst, vw_dic, vw_ref, w_eq, w_ne, w_eqS, w_neS, w_lt, w_le, w_gt, w_ge, w_truth, w_boolD, w_isN, w_isNt, Bool.not_true, Bool.not_false, decide_true, decide_false, beq_self_eq_true, decide_eq_true_eq, Bool.true_and, Bool.false_and, Bool.and_true, Bool.and_false]
          exact .is (Hd.le.refl _) q
  · exact q.elim
/-! ### dividing_made -/
abbrev N_divided : List Str := ["divisor", "number", "times", "over"]
def c_divided : Sts := (.cons (.asg (.tp (.cons (.nm 2) (.cons (.nm 3) .nil))) (.blt .divmod (.cons (.var 1) (.cons (.var 0) .nil))))
  (.cons (.ret (.ife (.val (.cmp .Eq (.var 3) (.cst (.int 0)))) (.tup (.cons (.cst (.str "yes")) (.cons (.tup (.cons (.cst (.str "times")) (.cons (.var 2) .nil))) .nil))) (.tup (.cons (.cst (.str "no")) (.cons (.tup (.cons (.cst (.str "rest")) (.cons (.var 2) (.cons (.var 3) .nil)))) .nil)))))
  .nil))
def dividedD (a n : Int) : D := if n % a = 0 then .tup [.str "yes", .tup [.str "times", .int (n / a)]] else .tup [.str "no", .tup [.str "rest", .int (n / a), .int (n % a)]]
def sp_divided : Spd := fun ds h Q => match ds with
  | [.int a, .int n] => (1 ≤ a ∧ a < 4611686018427387904) ∧ Q (dividedD a n) h
  | _ => False
theorem b_divided (ds : List D) (h : Hd) (Q : Pq) (q : sp_divided ds h Q) : wSs c_divided { nx := fun _ h' => Out Q .non h', rt := Out Q } (startD N_divided ds) h := by
  unfold sp_divided at q
  split at q
  · rename_i a n
    obtain ⟨⟨a0, a1⟩, q⟩ := q
    show wSs c_divided _ [some (.int a), some (.int n), none, none] h
    simp only [c_divided, wSs, wS, wT, wTo, wE, wA, wO, wI, getS, gT, gTs, setAll, List.getElem?_cons_zero, List.getElem?_cons_succ, List.set_cons_zero, List.set_cons_succ, binD, augD, iaddD, imulD, addD, subD, mulD, fdivD, modD, powD, negD, truthD, boolD, intO, subsD, sliceD, listed, dicted, bltD, seqD, seqI, zipI, zipSI, anyI, lstI, enumI, revI, starI, lenTs, mthD, lstOf, mAppend, mPop, mExtend, mUpper, mJoin, strsOf, tyD, Mt.T, setD, wipeD, List.map_cons, List.map_nil, Bool.false_eq_true, if_true, if_false, ↓reduceIte, vw_non, vw_bl, vw_int, vw_str, vw_tup, vw_lst, vw_dic, vw_ref, w_eq, w_ne, w_eqS, w_neS, w_lt, w_le, w_gt, w_ge, w_truth, w_boolD, w_isN, w_isNt, Bool.not_true, Bool.not_false, decide_true, decide_false, beq_self_eq_true, decide_eq_true_eq, Bool.true_and, Bool.false_and, Bool.and_true, Bool.and_false]
    refine ⟨⟨by omega, .inl a1⟩, ?_⟩
    unfold dividedD at q
    by_cases e : n % a = 0
    · simp only [e, if_true, decide_true] at q ⊢
      exact .is (Hd.le.refl _) q
    · simp only [e, if_false, decide_false, Bool.false_eq_true] at q ⊢
      exact .is (Hd.le.refl _) q
  · exact q.elim
abbrev N_dividing_made : List Str := ["statement", "word", "first", "second", "rest", "divisor", "left", "right", "times", "parts"]
def c_dividing_made_r1 : Sts := (.cons (.asg (.tp (.cons (.nm 5) (.cons (.nm 6) (.cons (.nm 7) .nil)))) (.call "shared_sum" ["one", "other"] sp_shared_sum (.cons (.var 2) (.cons (.var 3) .nil))))
  (.cons (.asg (.nm 8) (.ife (.val (.cmp .Gt (.var 5) (.cst (.int 0)))) (.tup (.cons (.bin .FloorDiv (.var 2) (.var 5)) (.cons (.bin .FloorDiv (.var 3) (.var 5)) .nil))) (.tup (.cons (.cst (.int 0)) (.cons (.cst (.int 0)) .nil)))))
  (.cons (.asg (.nm 9) (.bin .Add (.bin .Add (.tup (.cons (.cst (.str "parts")) .nil)) (.var 8)) (.tup (.cons (.var 6) (.cons (.var 7) .nil)))))
  (.cons (.ret (.ife (.val (.cmp .Eq (.var 5) (.sub (.var 4) (.cst (.int 0))))) (.tup (.cons (.cst (.str "yes")) (.cons (.var 9) .nil))) (.tup (.cons (.cst (.str "no")) (.cons (.tup (.cons (.cst (.str "other")) (.cons (.var 5) (.cons (.var 9) .nil)))) .nil)))))
  .nil))))
def c_dividing_made : Sts := (.cons (.star 3 false (.cons (.nm 1) (.cons (.nm 2) (.cons (.nm 3) (.cons (.nm 4) .nil)))) (.var 0))
  (.cons (.ite (.val (.cmp .Eq (.var 1) (.cst (.str "divides"))))
  (.cons (.ret (.call "divided" ["divisor", "number"] sp_divided (.cons (.var 2) (.cons (.var 3) .nil))))
    .nil)
  .nil)
  c_dividing_made_r1))
/-- the parts by which a divisor is the shared one -/
def partsD (a b : Nat) : D := .tup [.str "parts", .int ((a / Nat.gcd a b : Nat) : Int), .int ((b / Nat.gcd a b : Nat) : Int), .int (xgcd a b).2.1, .int (xgcd a b).2.2]
def sharedD (a b : Nat) (g : Int) : D := if ((Nat.gcd a b : Nat) : Int) = g then .tup [.str "yes", partsD a b] else .tup [.str "no", .tup [.str "other", .int ((Nat.gcd a b : Nat) : Int), partsD a b]]
def sp_dividing_made : Spd := fun ds h Q => match ds with
  | [.tup [.str w, .int a, .int n]] => (w = "divides" ∧ 1 ≤ a ∧ a < 4611686018427387904) ∧ Q (dividedD a n) h
  | [.tup [.str w, .int a, .int b, .int g]] => (w = "shared" ∧ 0 ≤ a ∧ a < 4611686018427387904 ∧ 0 ≤ b ∧ b < 4611686018427387904) ∧ Q (sharedD a.toNat b.toNat g) h
  | _ => False
theorem b_dividing_made (ds : List D) (h : Hd) (Q : Pq) (q : sp_dividing_made ds h Q) : wSs c_dividing_made { nx := fun _ h' => Out Q .non h', rt := Out Q } (startD N_dividing_made ds) h := by
  unfold sp_dividing_made at q
  split at q
  · rename_i w a n
    obtain ⟨⟨rfl, a0, a1⟩, q⟩ := q
    show wSs c_dividing_made _ [some (.tup [.str "divides", .int a, .int n]), none, none, none, none, none, none, none, none, none] h
    simp only [c_dividing_made, wSs, wS, wT, wTo, wE, wA, wO, wI, getS, gT, gTs, setAll, List.getElem?_cons_zero, List.getElem?_cons_succ, List.set_cons_zero, List.set_cons_succ, binD, augD, iaddD, imulD, addD, subD, mulD, fdivD, modD, powD, negD, truthD, boolD, intO, subsD, sliceD, listed, dicted, bltD, seqD, seqI, zipI, zipSI, anyI, lstI, enumI, revI, starI, lenTs, mthD, lstOf, mAppend, mPop, mExtend, mUpper, mJoin, strsOf, tyD, Mt.T, setD, wipeD, List.map_cons, List.map_nil, Bool.false_eq_true, if_true, if_false, ↓reduceIte, vw_non, vw_bl, vw_int, vw_str, vw_tup, vw_lst, vw_dic, vw_ref, w_eq, w_ne, w_eqS, w_neS, w_lt, w_le, w_gt, w_ge, w_truth, w_boolD, w_isN, w_isNt, Bool.not_true, Bool.not_false, decide_true, decide_false, beq_self_eq_true, decide_eq_true_eq, Bool.true_and, Bool.false_and, Bool.and_true, Bool.and_false]
    refine ⟨by simp, ?_⟩
    simp only [wSs, wS, wT, wTo, wE, wA, wO, wI, getS, gT, gTs, setAll, List.getElem?_cons_zero, List.getElem?_cons_succ, List.set_cons_zero, List.set_cons_succ, binD, augD, iaddD, imulD, addD, subD, mulD, fdivD, modD, powD, negD, truthD, boolD, intO, subsD, sliceD, listed, dicted, bltD, seqD, seqI, zipI, zipSI, anyI, lstI, enumI, revI, starI, lenTs, mthD, lstOf, mAppend, mPop, mExtend, mUpper, mJoin, strsOf, tyD, Mt.T, setD, wipeD, List.map_cons, List.map_nil, Bool.false_eq_true, if_true, if_false, ↓reduceIte, vw_non, vw_bl, vw_int, vw_str, vw_tup, vw_lst, vw_dic, vw_ref, w_eq, w_ne, w_eqS, w_neS, w_lt, w_le, w_gt, w_ge, w_truth, w_boolD, w_isN, w_isNt, Bool.not_true, Bool.not_false, decide_true, decide_false, beq_self_eq_true, decide_eq_true_eq, Bool.true_and, Bool.false_and, Bool.and_true, Bool.and_false, List.length_cons, List.length_nil, List.drop_succ_cons, List.drop_zero, List.take_succ_cons, List.take_zero, List.cons_append, List.nil_append, sp_divided]
    exact ⟨⟨a0, a1⟩, .is (Hd.le.refl _) q⟩
  · rename_i w a b g
    obtain ⟨⟨rfl, a0, a1, b0, b1⟩, q⟩ := q
    obtain ⟨a, rfl⟩ := Int.eq_ofNat_of_zero_le a0
    obtain ⟨b, rfl⟩ := Int.eq_ofNat_of_zero_le b0
    show wSs c_dividing_made _ [some (.tup [.str "shared", .int (a : Nat), .int (b : Nat), .int g]), none, none, none, none, none, none, none, none, none] h
    simp only [c_dividing_made, wSs, wS, wT, wTo, wE, wA, wO, wI, getS, gT, gTs, setAll, List.getElem?_cons_zero, List.getElem?_cons_succ, List.set_cons_zero, List.set_cons_succ, binD, augD, iaddD, imulD, addD, subD, mulD, fdivD, modD, powD, negD, truthD, boolD, intO, subsD, sliceD, listed, dicted, bltD, seqD, seqI, zipI, zipSI, anyI, lstI, enumI, revI, starI, lenTs, mthD, lstOf, mAppend, mPop, mExtend, mUpper, mJoin, strsOf, tyD, Mt.T, setD, wipeD, List.map_cons, List.map_nil, Bool.false_eq_true, if_true, if_false, ↓reduceIte, vw_non, vw_bl, vw_int, vw_str, vw_tup, vw_lst, vw_dic, vw_ref, w_eq, w_ne, w_eqS, w_neS, w_lt, w_le, w_gt, w_ge, w_truth, w_boolD, w_isN, w_isNt, Bool.not_true, Bool.not_false, decide_true, decide_false, beq_self_eq_true, decide_eq_true_eq, Bool.true_and, Bool.false_and, Bool.and_true, Bool.and_false]
    refine ⟨by simp, ?_⟩
    simp only [wSs, wS, wT, wTo, wE, wA, wO, wI, getS, gT, gTs, setAll, List.getElem?_cons_zero, List.getElem?_cons_succ, List.set_cons_zero, List.set_cons_succ, binD, augD, iaddD, imulD, addD, subD, mulD, fdivD, modD, powD, negD, truthD, boolD, intO, subsD, sliceD, listed, dicted, bltD, seqD, seqI, zipI, zipSI, anyI, lstI, enumI, revI, starI, lenTs, mthD, lstOf, mAppend, mPop, mExtend, mUpper, mJoin, strsOf, tyD, Mt.T, setD, wipeD, List.map_cons, List.map_nil, Bool.false_eq_true, if_true, if_false, ↓reduceIte, vw_non, vw_bl, vw_int, vw_str, vw_tup, vw_lst, vw_dic, vw_ref, w_eq, w_ne, w_eqS, w_neS, w_lt, w_le, w_gt, w_ge, w_truth, w_boolD, w_isN, w_isNt, Bool.not_true, Bool.not_false, decide_true, decide_false, beq_self_eq_true, decide_eq_true_eq, Bool.true_and, Bool.false_and, Bool.and_true, Bool.and_false, List.length_cons, List.length_nil, List.drop_succ_cons, List.drop_zero, List.take_succ_cons, List.take_zero, List.cons_append, List.nil_append, show decide (("shared" : Str) = "divides") = false from by decide, sp_shared_sum, c_dividing_made_r1, Int.toNat_natCast]
    simp only [Int.toNat_natCast] at q
    have p200 : (4611686018427387904 : Int) < 2 ^ 200 := by decide +kernel
    refine ⟨⟨by omega, by omega, by omega, by omega⟩, ?_⟩
    rw [xgcd_gcd]
    unfold sharedD partsD at q
    by_cases g0 : Nat.gcd a b = 0
    · have ea : a = 0 := Nat.eq_zero_of_gcd_eq_zero_left g0
      have eb : b = 0 := Nat.eq_zero_of_gcd_eq_zero_right g0
      subst ea; subst eb
      simp only [g0, Int.natCast_zero, Int.lt_irrefl, wSs, wS, wT, wTo, wE, wA, wO, wI, getS, gT, gTs, setAll, List.getElem?_cons_zero, List.getElem?_cons_succ, List.set_cons_zero, List.set_cons_succ, binD, augD, iaddD, imulD, addD, subD, mulD, fdivD, modD, powD, negD, truthD, boolD, intO, subsD, sliceD, listed, dicted, bltD, seqD, seqI, zipI, zipSI, anyI, lstI, enumI, revI, starI, lenTs, mthD, lstOf, mAppend, mPop, mExtend, mUpper, mJoin, strsOf, tyD, Mt.T, setD, wipeD, List.map_cons, List.map_nil, Bool.false_eq_true, if_true, if_false, ↓reduceIte, vw_non, vw_bl, vw_int, vw_str, vw_tup, vw_lst, vw_dic, vw_ref, w_eq, w_ne, w_eqS, w_neS, w_lt, w_le, w_gt, w_ge, w_truth, w_boolD, w_isN, w_isNt, Bool.not_true, Bool.not_false, decide_true, decide_false, beq_self_eq_true, decide_eq_true_eq, Bool.true_and, Bool.false_and, Bool.and_true, Bool.and_false, at_0, Nat.zero_div] at q ⊢
      refine ⟨by decide, by decide, ?_⟩
      by_cases e : (0 : Int) = g
      · simp only [e, if_true, decide_true] at q ⊢
        exact .is (Hd.le.refl _) q
      · simp only [e, if_false, decide_false, Bool.false_eq_true] at q ⊢
        exact .is (Hd.le.refl _) q
    · have gp : (0 : Int) < ((Nat.gcd a b : Nat) : Int) := by omega
      have gle : Nat.gcd a b < 4611686018427387904 := by
        by_cases az : a = 0
        · subst az
          rw [Nat.gcd_zero_left]
          omega
        · have := Nat.gcd_le_left b (Nat.pos_of_ne_zero az)
          omega
      have dk : DivOk ((Nat.gcd a b : Nat) : Int) := ⟨by omega, .inl (by omega)⟩
      simp only [gp, wSs, wS, wT, wTo, wE, wA, wO, wI, getS, gT, gTs, setAll, List.getElem?_cons_zero, List.getElem?_cons_succ, List.set_cons_zero, List.set_cons_succ, binD, augD, iaddD, imulD, addD, subD, mulD, fdivD, modD, powD, negD, truthD, boolD, intO, subsD, sliceD, listed, dicted, bltD, seqD, seqI, zipI, zipSI, anyI, lstI, enumI, revI, starI, lenTs, mthD, lstOf, mAppend, mPop, mExtend, mUpper, mJoin, strsOf, tyD, Mt.T, setD, wipeD, List.map_cons, List.map_nil, Bool.false_eq_true, if_true, if_false, ↓reduceIte, vw_non, vw_bl, vw_int, vw_str, vw_tup, vw_lst, vw_dic, vw_ref, w_eq, w_ne, w_eqS, w_neS, w_lt, w_le, w_gt, w_ge, w_truth, w_boolD, w_isN, w_isNt, Bool.not_true, Bool.not_false, decide_true, decide_false, beq_self_eq_true, decide_eq_true_eq, Bool.true_and, Bool.false_and, Bool.and_true, Bool.and_false, at_0]
      refine ⟨dk, dk, by decide, by decide, ?_⟩
      rw [← Int.natCast_ediv, ← Int.natCast_ediv]
      by_cases e : ((Nat.gcd a b : Nat) : Int) = g
      · simp only [e, if_true, decide_true] at q ⊢
        exact .is (Hd.le.refl _) q
      · simp only [e, if_false, decide_false, Bool.false_eq_true] at q ⊢
        exact .is (Hd.le.refl _) q
  · exact q.elim
end G

/-! Terms and what they come to. -/
namespace G
open PySem PySem.Spec PyProof.Rows L2

def opW (w : Str) : Bool := decide (w = "sum") || (decide (w = "less") || decide (w = "times"))
def termB : D → Bool
  | .int _ => true
  | .tup [.str w, a, b] => termB a && (if w = "power" then withinD b 0 60 else opW w && termB b)
  | _ => false
termination_by d => sizeOf d
decreasing_by all_goals (simp; omega)
theorem termB_tup (w : Str) (a b : D) : termB (.tup [.str w, a, b]) = (termB a && (if w = "power" then withinD b 0 60 else opW w && termB b)) := by rw [termB]
theorem termB_int (i : Int) : termB (.int i) = true := by rw [termB]
theorem termB_no {ds : List D} (h : ∀ w a b, ds ≠ [.str w, a, b]) : termB (.tup ds) = false := by
  unfold termB
  split
  · rename_i z; cases z
  · rename_i z
    injection z with z
    exact absurd z (h _ _ _)
  · rfl
theorem termB_other {d : D} (h1 : isT d .tuple = false) : termB d = isWholeD d := by
  unfold termB
  split
  · rfl
  · cases h1
  · rename_i h2 h3
    cases d <;> first | rfl | exact absurd rfl (h2 _) | cases h1
theorem dep_tup3 (x a b : D) : a.dep < (D.tup [x, a, b]).dep ∧ b.dep < (D.tup [x, a, b]).dep := by
  simp only [D.dep, D.deps]
  omega
theorem eqv_strs (x y : Str) : PyData.eqv (.str x) (.str y) = decide (x = y) := by
  simp only [PyData.eqv]
  rw [Bool.eq_iff_iff]
  simp
theorem inW {w : Str} {h : Hd} {Q : Pq} (q : Q (.bl (opW w)) h) : cmpD .In (.str w) (.tup [.str "sum", .str "less", .str "times"]) h Q := by
  have e : ([D.str "sum", .str "less", .str "times"].any fun z => PyData.eqv z.py (D.str w).py) = opW w := by
    have c : ∀ a b : Str, decide (a = b) = decide (b = a) := fun a b => decide_eq_decide.mpr eq_comm
    simp only [List.any_cons, List.any_nil, D.py, eqv_strs, Bool.or_false, opW]
    rw [c "sum" w, c "less" w, c "times" w]
  refine ⟨.inl ⟨rfl, rfl⟩, ?_⟩
  rw [if_neg (by decide), e]
  exact q
abbrev N_is_term : List Str := ["thing"]
def c_is_term_r1 (s : Spd) : Sts := (.cons (.ret (.and (.cmp .In (.sub (.var 0) (.cst (.int 0))) (.glb "BINARY" (.tup [(.str "sum"), (.str "less"), (.str "times")]))) (.call "is_term" ["thing"] s (.cons (.sub (.var 0) (.cst (.int 2))) .nil))))
  .nil)
def c_is_term_r2 (s : Spd) : Sts := (.cons (.ite (.val (.cmp .Eq (.sub (.var 0) (.cst (.int 0))) (.glb "POWER" (.str "power"))))
  (.cons (.ret (.call "is_within" ["thing", "low", "high"] sp_is_within (.cons (.sub (.var 0) (.cst (.int 2))) (.cons (.cst (.int 0)) (.cons (.glb "MOST_POWER" (.int 60)) .nil)))))
    .nil)
  .nil)
  (c_is_term_r1 s))
def c_is_term_r3 (s : Spd) : Sts := (.cons (.ite (.or (.val (.cmp .NotEq (.blt .len (.cons (.var 0) .nil)) (.cst (.int 3)))) (.or (.not (.val (.blt .isinst (.cons (.sub (.var 0) (.cst (.int 0))) (.cons (.typ .str) .nil))))) (.not (.val (.call "is_term" ["thing"] s (.cons (.sub (.var 0) (.cst (.int 1))) .nil))))))
  (.cons (.ret (.cst (.bl false)))
    .nil)
  .nil)
  (c_is_term_r2 s))
def c_is_term (s : Spd) : Sts := (.cons (.ite (.not (.val (.blt .isinst (.cons (.var 0) (.cons (.typ .tuple) .nil)))))
  (.cons (.ret (.call "is_whole" ["thing"] sp_is_whole (.cons (.var 0) .nil)))
    .nil)
  .nil)
  (c_is_term_r3 s))
def spR_is_term (n : Nat) : Spd := fun ds h Q => match ds with
  | [d] => (d.isD = true ∧ d.dep < n) ∧ Q (.bl (termB d)) h
  | _ => False
theorem h0_is_term (ds : List D) (h : Hd) (Q : Pq) : ¬ spR_is_term 0 ds h Q := by
  intro q
  unfold spR_is_term at q
  split at q
  · exact absurd q.1.2 (by omega)
  · exact q
theorem b_is_term (n : Nat) (ds : List D) (h : Hd) (Q : Pq) (q : spR_is_term (n + 1) ds h Q) : wSs (c_is_term (spR_is_term n)) { nx := fun _ h' => Out Q .non h', rt := Out Q } (startD N_is_term ds) h := by
  unfold spR_is_term at q
  split at q
  · rename_i d
    obtain ⟨⟨hd, hn⟩, q⟩ := q
    show wSs (c_is_term (spR_is_term n)) _ [some d] h
    simp -implicitDefEqProofs only [c_is_term, wSs, wS, wT, wTo, wE, wA, wO, wI, getS, gT, gTs, setAll, List.getElem?_cons_zero, List.getElem?_cons_succ, List.set_cons_zero, List.set_cons_succ, binD, augD, iaddD, imulD, addD, subD, mulD, fdivD, modD, powD, negD, truthD, boolD, intO, subsD, sliceD, listed, dicted, bltD, seqD, seqI, zipI, zipSI, anyI, lstI, enumI, revI, starI, lenTs, mthD, lstOf, mAppend, mPop, mExtend, mUpper, mJoin, strsOf, tyD, Mt.T, setD, wipeD, List.map_cons, List.map_nil, Bool.false_eq_true, if_true, if_false, ↓reduceIte, vw_non, vw_bl, vw_int, vw_str, vw_tup, vw_lst, vw_dic, vw_ref, w_eq, w_ne, w_eqS, w_neS, w_lt, w_le, w_gt, w_ge, w_truth, w_boolD, w_isN, w_isNt, Bool.not_true, Bool.not_false, decide_true, decide_false, beq_self_eq_true, decide_eq_true_eq, Bool.true_and, Bool.false_and, Bool.and_true, Bool.and_false, isTy_D hd]
    cases e : isT d .tuple
    · rw [termB_other e] at q
      simp -implicitDefEqProofs only [wSs, wS, wT, wTo, wE, wA, wO, wI, getS, gT, gTs, setAll, List.getElem?_cons_zero, List.getElem?_cons_succ, List.set_cons_zero, List.set_cons_succ, binD, augD, iaddD, imulD, addD, subD, mulD, fdivD, modD, powD, negD, truthD, boolD, intO, subsD, sliceD, listed, dicted, bltD, seqD, seqI, zipI, zipSI, anyI, lstI, enumI, revI, starI, lenTs, mthD, lstOf, mAppend, mPop, mExtend, mUpper, mJoin, strsOf, tyD, Mt.T, setD, wipeD, List.map_cons, List.map_nil, Bool.false_eq_true, if_true, if_false, ↓reduceIte, vw_non, vw_bl, vw_int, vw_str, vw_tup, vw_lst, vw_dic, vw_ref, w_eq, w_ne, w_eqS, w_neS, w_lt, w_le, w_gt, w_ge, w_truth, w_boolD, w_isN, w_isNt, Bool.not_true, Bool.not_false, decide_true, decide_false, beq_self_eq_true, decide_eq_true_eq, Bool.true_and, Bool.false_and, Bool.and_true, Bool.and_false, sp_is_whole]
      exact ⟨isF_of d hd, .is (Hd.le.refl _) q⟩
    · obtain ⟨ds, rfl⟩ := isT_tup e
      have hds := isD_tup.mp hd
      simp -implicitDefEqProofs only [wSs, wS, wT, wTo, wE, wA, wO, wI, getS, gT, gTs, setAll, List.getElem?_cons_zero, List.getElem?_cons_succ, List.set_cons_zero, List.set_cons_succ, binD, augD, iaddD, imulD, addD, subD, mulD, fdivD, modD, powD, negD, truthD, boolD, intO, subsD, sliceD, listed, dicted, bltD, seqD, seqI, zipI, zipSI, anyI, lstI, enumI, revI, starI, lenTs, mthD, lstOf, mAppend, mPop, mExtend, mUpper, mJoin, strsOf, tyD, Mt.T, setD, wipeD, List.map_cons, List.map_nil, Bool.false_eq_true, if_true, if_false, ↓reduceIte, vw_non, vw_bl, vw_int, vw_str, vw_tup, vw_lst, vw_dic, vw_ref, w_eq, w_ne, w_eqS, w_neS, w_lt, w_le, w_gt, w_ge, w_truth, w_boolD, w_isN, w_isNt, Bool.not_true, Bool.not_false, decide_true, decide_false, beq_self_eq_true, decide_eq_true_eq, Bool.true_and, Bool.false_and, Bool.and_true, Bool.and_false, c_is_term_r3]
      by_cases l3 : ((ds.length : Nat) : Int) = 3
      · match ds, l3 with
        | [x, a, b], _ =>
          have hx := hds x (by simp)
          have ha := hds a (by simp)
          have hb := hds b (by simp)
          have dd := dep_tup3 x a b
          simp -implicitDefEqProofs only [wSs, wS, wT, wTo, wE, wA, wO, wI, getS, gT, gTs, setAll, List.getElem?_cons_zero, List.getElem?_cons_succ, List.set_cons_zero, List.set_cons_succ, binD, augD, iaddD, imulD, addD, subD, mulD, fdivD, modD, powD, negD, truthD, boolD, intO, subsD, sliceD, listed, dicted, bltD, seqD, seqI, zipI, zipSI, anyI, lstI, enumI, revI, starI, lenTs, mthD, lstOf, mAppend, mPop, mExtend, mUpper, mJoin, strsOf, tyD, Mt.T, setD, wipeD, List.map_cons, List.map_nil, Bool.false_eq_true, if_true, if_false, ↓reduceIte, vw_non, vw_bl, vw_int, vw_str, vw_tup, vw_lst, vw_dic, vw_ref, w_eq, w_ne, w_eqS, w_neS, w_lt, w_le, w_gt, w_ge, w_truth, w_boolD, w_isN, w_isNt, Bool.not_true, Bool.not_false, decide_true, decide_false, beq_self_eq_true, decide_eq_true_eq, Bool.true_and, Bool.false_and, Bool.and_true, Bool.and_false, at_0, at_1, List.length_cons, List.length_nil, show ((0 + 1 + 1 + 1 : Nat) : Int) = 3 from rfl, isTy_D hx]
          cases es : isT x .str
          · have e2 : termB (.tup [x, a, b]) = false := termB_no fun w y z e => by
              injection e with e1 e
              subst e1
              cases es
            rw [e2] at q
            simp -implicitDefEqProofs only [wSs, wS, wT, wTo, wE, wA, wO, wI, getS, gT, gTs, setAll, List.getElem?_cons_zero, List.getElem?_cons_succ, List.set_cons_zero, List.set_cons_succ, binD, augD, iaddD, imulD, addD, subD, mulD, fdivD, modD, powD, negD, truthD, boolD, intO, subsD, sliceD, listed, dicted, bltD, seqD, seqI, zipI, zipSI, anyI, lstI, enumI, revI, starI, lenTs, mthD, lstOf, mAppend, mPop, mExtend, mUpper, mJoin, strsOf, tyD, Mt.T, setD, wipeD, List.map_cons, List.map_nil, Bool.false_eq_true, if_true, if_false, ↓reduceIte, vw_non, vw_bl, vw_int, vw_str, vw_tup, vw_lst, vw_dic, vw_ref, w_eq, w_ne, w_eqS, w_neS, w_lt, w_le, w_gt, w_ge, w_truth, w_boolD, w_isN, w_isNt, Bool.not_true, Bool.not_false, decide_true, decide_false, beq_self_eq_true, decide_eq_true_eq, Bool.true_and, Bool.false_and, Bool.and_true, Bool.and_false]
            exact .is (Hd.le.refl _) q
          · obtain ⟨w, rfl⟩ := isT_str es
            rw [termB_tup] at q
            simp -implicitDefEqProofs only [wSs, wS, wT, wTo, wE, wA, wO, wI, getS, gT, gTs, setAll, List.getElem?_cons_zero, List.getElem?_cons_succ, List.set_cons_zero, List.set_cons_succ, binD, augD, iaddD, imulD, addD, subD, mulD, fdivD, modD, powD, negD, truthD, boolD, intO, subsD, sliceD, listed, dicted, bltD, seqD, seqI, zipI, zipSI, anyI, lstI, enumI, revI, starI, lenTs, mthD, lstOf, mAppend, mPop, mExtend, mUpper, mJoin, strsOf, tyD, Mt.T, setD, wipeD, List.map_cons, List.map_nil, Bool.false_eq_true, if_true, if_false, ↓reduceIte, vw_non, vw_bl, vw_int, vw_str, vw_tup, vw_lst, vw_dic, vw_ref, w_eq, w_ne, w_eqS, w_neS, w_lt, w_le, w_gt, w_ge, w_truth, w_boolD, w_isN, w_isNt, Bool.not_true, Bool.not_false, decide_true, decide_false, beq_self_eq_true, decide_eq_true_eq, Bool.true_and, Bool.false_and, Bool.and_true, Bool.and_false, spR_is_term]
            refine ⟨⟨ha, by omega⟩, ?_⟩
            cases ea : termB a
            · rw [ea, Bool.false_and] at q
              simp -implicitDefEqProofs only [wSs, wS, wT, wTo, wE, wA, wO, wI, getS, gT, gTs, setAll, List.getElem?_cons_zero, List.getElem?_cons_succ, List.set_cons_zero, List.set_cons_succ, binD, augD, iaddD, imulD, addD, subD, mulD, fdivD, modD, powD, negD, truthD, boolD, intO, subsD, sliceD, listed, dicted, bltD, seqD, seqI, zipI, zipSI, anyI, lstI, enumI, revI, starI, lenTs, mthD, lstOf, mAppend, mPop, mExtend, mUpper, mJoin, strsOf, tyD, Mt.T, setD, wipeD, List.map_cons, List.map_nil, Bool.false_eq_true, if_true, if_false, ↓reduceIte, vw_non, vw_bl, vw_int, vw_str, vw_tup, vw_lst, vw_dic, vw_ref, w_eq, w_ne, w_eqS, w_neS, w_lt, w_le, w_gt, w_ge, w_truth, w_boolD, w_isN, w_isNt, Bool.not_true, Bool.not_false, decide_true, decide_false, beq_self_eq_true, decide_eq_true_eq, Bool.true_and, Bool.false_and, Bool.and_true, Bool.and_false]
              exact .is (Hd.le.refl _) q
            · rw [ea, Bool.true_and] at q
              simp -implicitDefEqProofs only [wSs, wS, wT, wTo, wE, wA, wO, wI, getS, gT, gTs, setAll, List.getElem?_cons_zero, List.getElem?_cons_succ, List.set_cons_zero, List.set_cons_succ, binD, augD, iaddD, imulD, addD, subD, mulD, fdivD, modD, powD, negD, truthD, boolD, intO, subsD, sliceD, listed, dicted, bltD, seqD, seqI, zipI, zipSI, anyI, lstI, enumI, revI, starI, lenTs, mthD, lstOf, mAppend, mPop, mExtend, mUpper, mJoin, strsOf, tyD, Mt.T, setD, wipeD, List.map_cons, List.map_nil, Bool.false_eq_true, if_true, if_false, ↓reduceIte, vw_non, vw_bl, vw_int, vw_str, vw_tup, vw_lst, vw_dic, vw_ref, w_eq, w_ne, w_eqS, w_neS, w_lt, w_le, w_gt, w_ge, w_truth, w_boolD, w_isN, w_isNt, Bool.not_true, Bool.not_false, decide_true, decide_false, beq_self_eq_true, decide_eq_true_eq, Bool.true_and, Bool.false_and, Bool.and_true, Bool.and_false, c_is_term_r2, at_0, at_2]
              by_cases ew : w = "power"
              · rw [if_pos ew] at q
                simp -implicitDefEqProofs only [ew, if_true, wSs, wS, wT, wTo, wE, wA, wO, wI, getS, gT, gTs, setAll, List.getElem?_cons_zero, List.getElem?_cons_succ, List.set_cons_zero, List.set_cons_succ, binD, augD, iaddD, imulD, addD, subD, mulD, fdivD, modD, powD, negD, truthD, boolD, intO, subsD, sliceD, listed, dicted, bltD, seqD, seqI, zipI, zipSI, anyI, lstI, enumI, revI, starI, lenTs, mthD, lstOf, mAppend, mPop, mExtend, mUpper, mJoin, strsOf, tyD, Mt.T, setD, wipeD, List.map_cons, List.map_nil, Bool.false_eq_true, if_true, if_false, ↓reduceIte, vw_non, vw_bl, vw_int, vw_str, vw_tup, vw_lst, vw_dic, vw_ref, w_eq, w_ne, w_eqS, w_neS, w_lt, w_le, w_gt, w_ge, w_truth, w_boolD, w_isN, w_isNt, Bool.not_true, Bool.not_false, decide_true, decide_false, beq_self_eq_true, decide_eq_true_eq, Bool.true_and, Bool.false_and, Bool.and_true, Bool.and_false, at_2, sp_is_within]
                exact ⟨isF_of b hb, .is (Hd.le.refl _) q⟩
              · rw [if_neg ew] at q
                simp -implicitDefEqProofs only [ew, if_false, c_is_term_r1, wSs, wS, wT, wTo, wE, wA, wO, wI, getS, gT, gTs, setAll, List.getElem?_cons_zero, List.getElem?_cons_succ, List.set_cons_zero, List.set_cons_succ, binD, augD, iaddD, imulD, addD, subD, mulD, fdivD, modD, powD, negD, truthD, boolD, intO, subsD, sliceD, listed, dicted, bltD, seqD, seqI, zipI, zipSI, anyI, lstI, enumI, revI, starI, lenTs, mthD, lstOf, mAppend, mPop, mExtend, mUpper, mJoin, strsOf, tyD, Mt.T, setD, wipeD, List.map_cons, List.map_nil, Bool.false_eq_true, if_true, if_false, ↓reduceIte, vw_non, vw_bl, vw_int, vw_str, vw_tup, vw_lst, vw_dic, vw_ref, w_eq, w_ne, w_eqS, w_neS, w_lt, w_le, w_gt, w_ge, w_truth, w_boolD, w_isN, w_isNt, Bool.not_true, Bool.not_false, decide_true, decide_false, beq_self_eq_true, decide_eq_true_eq, Bool.true_and, Bool.false_and, Bool.and_true, Bool.and_false, at_0, at_2]
                refine inW ?_
                cases eo : opW w
                · rw [eo, Bool.false_and] at q
                  simp -implicitDefEqProofs only [wSs, wS, wT, wTo, wE, wA, wO, wI, getS, gT, gTs, setAll, List.getElem?_cons_zero, List.getElem?_cons_succ, List.set_cons_zero, List.set_cons_succ, binD, augD, iaddD, imulD, addD, subD, mulD, fdivD, modD, powD, negD, truthD, boolD, intO, subsD, sliceD, listed, dicted, bltD, seqD, seqI, zipI, zipSI, anyI, lstI, enumI, revI, starI, lenTs, mthD, lstOf, mAppend, mPop, mExtend, mUpper, mJoin, strsOf, tyD, Mt.T, setD, wipeD, List.map_cons, List.map_nil, Bool.false_eq_true, if_true, if_false, ↓reduceIte, vw_non, vw_bl, vw_int, vw_str, vw_tup, vw_lst, vw_dic, vw_ref, w_eq, w_ne, w_eqS, w_neS, w_lt, w_le, w_gt, w_ge, w_truth, w_boolD, w_isN, w_isNt, Bool.not_true, Bool.not_false, decide_true, decide_false, beq_self_eq_true, decide_eq_true_eq, Bool.true_and, Bool.false_and, Bool.and_true, Bool.and_false]
                  exact .is (Hd.le.refl _) q
                · rw [eo, Bool.true_and] at q
                  simp -implicitDefEqProofs only [wSs, wS, wT, wTo, wE, wA, wO, wI, getS, gT, gTs, setAll, List.getElem?_cons_zero, List.getElem?_cons_succ, List.set_cons_zero, List.set_cons_succ, binD, augD, iaddD, imulD, addD, subD, mulD, fdivD, modD, powD, negD, truthD, boolD, intO, subsD, sliceD, listed, dicted, bltD, seqD, seqI, zipI, zipSI, anyI, lstI, enumI, revI, starI, lenTs, mthD, lstOf, mAppend, mPop, mExtend, mUpper, mJoin, strsOf, tyD, Mt.T, setD, wipeD, List.map_cons, List.map_nil, Bool.false_eq_true, if_true, if_false, ↓reduceIte, vw_non, vw_bl, vw_int, vw_str, vw_tup, vw_lst, vw_dic, vw_ref, w_eq, w_ne, w_eqS, w_neS, w_lt, w_le, w_gt, w_ge, w_truth, w_boolD, w_isN, w_isNt, Bool.not_true, Bool.not_false, decide_true, decide_false, beq_self_eq_true, decide_eq_true_eq, Bool.true_and, Bool.false_and, Bool.and_true, Bool.and_false, spR_is_term]
                  exact ⟨⟨hb, by omega⟩, .is (Hd.le.refl _) q⟩
      · have e2 : termB (.tup ds) = false := termB_no fun w y z e => by
          subst e
          exact absurd rfl l3
        rw [e2] at q
        simp -implicitDefEqProofs only [l3, wSs, wS, wT, wTo, wE, wA, wO, wI, getS, gT, gTs, setAll, List.getElem?_cons_zero, List.getElem?_cons_succ, List.set_cons_zero, List.set_cons_succ, binD, augD, iaddD, imulD, addD, subD, mulD, fdivD, modD, powD, negD, truthD, boolD, intO, subsD, sliceD, listed, dicted, bltD, seqD, seqI, zipI, zipSI, anyI, lstI, enumI, revI, starI, lenTs, mthD, lstOf, mAppend, mPop, mExtend, mUpper, mJoin, strsOf, tyD, Mt.T, setD, wipeD, List.map_cons, List.map_nil, Bool.false_eq_true, if_true, if_false, ↓reduceIte, vw_non, vw_bl, vw_int, vw_str, vw_tup, vw_lst, vw_dic, vw_ref, w_eq, w_ne, w_eqS, w_neS, w_lt, w_le, w_gt, w_ge, w_truth, w_boolD, w_isN, w_isNt, Bool.not_true, Bool.not_false, decide_true, decide_false, beq_self_eq_true, decide_eq_true_eq, Bool.true_and, Bool.false_and, Bool.and_true, Bool.and_false]
        exact .is (Hd.le.refl _) q
  · exact q.elim
/-! ### within, worth_of -/
def bound : Int := 10 ^ 120
def shortI (i : Int) : Option Int := if 0 - bound < i ∧ i < bound then some i else none
def optD : Option Int → D
  | some i => .int i
  | none => .non
theorem optD_n : optD none = .non := rfl
theorem optD_s {i : Int} : optD (some i) = .int i := rfl
theorem short_some {i j : Int} (h : shortI i = some j) : i = j ∧ j.natAbs < 10 ^ 120 := by
  unfold shortI at h
  split at h
  · rename_i z
    cases h
    unfold bound at z
    exact ⟨rfl, by omega⟩
  · cases h
theorem pow120 : (10 : Int) ^ (60 : Int).toNat * 10 ^ (60 : Int).toNat = bound := by decide +kernel
theorem mulOk400 {i j : Int} (hi : i.natAbs < 10 ^ 120) (hj : j.natAbs < 10 ^ 120) : MulOk i j := by
  have p : 10 ^ 120 ≤ 2 ^ 400 := by decide +kernel
  have h1 := log2_le (n := i.natAbs) (k := 400) (by omega)
  have h2 := log2_le (n := j.natAbs) (k := 400) (by omega)
  exact .inr (.inr (by omega))
abbrev N_within : List Str := ["number", "bound"]
def c_within : Sts := (.cons (.asg (.nm 1) (.bin .Mult (.bin .Pow (.cst (.int 10)) (.cst (.int 60))) (.bin .Pow (.cst (.int 10)) (.cst (.int 60)))))
  (.cons (.ret (.ife (.val (.chn .Lt .Lt (.bin .Sub (.cst (.int 0)) (.var 1)) (.var 0) (.var 1))) (.var 0) (.cst .non)))
  .nil))
def sp_within : Spd := fun ds h Q => match ds with
  | [.int i] => Q (optD (shortI i)) h
  | _ => False
theorem b_within (ds : List D) (h : Hd) (Q : Pq) (q : sp_within ds h Q) : wSs c_within { nx := fun _ h' => Out Q .non h', rt := Out Q } (startD N_within ds) h := by
  unfold sp_within at q
  split at q
  · rename_i i
    show wSs c_within _ [some (.int i), none] h
    unfold c_within
    refine st_asg rfl ⟨by decide, by decide, .inr (.inr (by decide +kernel)), trivial⟩ ?_
    refine st_ret rfl ⟨fun _ => trivial, fun _ => trivial, fun _ => trivial, trivial⟩ ?_
    have e : (if (decide (0 - (10 : Int) ^ (60 : Int).toNat * 10 ^ (60 : Int).toNat < i) && decide (i < (10 : Int) ^ (60 : Int).toNat * 10 ^ (60 : Int).toNat)) = true then D.int i else D.non) = optD (shortI i) := by
      rw [pow120]
      unfold shortI
      simp only [Bool.and_eq_true, decide_eq_true_eq]
      split <;> rfl
    refine .is (Hd.le.refl _) ?_
    rw [← e] at q
    exact q
  · exact q.elim
def opI (w : Str) (x y : Int) : Int := if w = "sum" then x + y else if w = "less" then x - y else x * y
def worthB : D → Option Int
  | .int i => shortI i
  | .tup [.str w, a, b] => match worthB a with
    | some x => if w = "power" then (match b with
        | .int k => shortI (x ^ k.toNat)
        | _ => none) else match worthB b with
      | some y => shortI (opI w x y)
      | none => none
    | none => none
  | _ => none
termination_by d => sizeOf d
decreasing_by all_goals (simp; omega)
theorem worthB_tup (w : Str) (a b : D) : worthB (.tup [.str w, a, b]) = match worthB a with
    | some x => if w = "power" then (match b with
        | .int k => shortI (x ^ k.toNat)
        | _ => none) else match worthB b with
      | some y => shortI (opI w x y)
      | none => none
    | none => none := by rw [worthB]
theorem worthB_int (i : Int) : worthB (.int i) = shortI i := by rw [worthB]
theorem termB_inv {d : D} (h : termB d = true) : (∃ i, d = .int i) ∨ ∃ w a b, d = .tup [.str w, a, b] ∧ termB a = true ∧ ((w = "power" ∧ ∃ k : Int, b = .int k ∧ 0 ≤ k ∧ k ≤ 60) ∨ (w ≠ "power" ∧ opW w = true ∧ termB b = true)) := by
  unfold termB at h
  split at h
  · exact .inl ⟨_, rfl⟩
  · rename_i w a b
    rw [Bool.and_eq_true] at h
    refine .inr ⟨w, a, b, rfl, h.1, ?_⟩
    by_cases e : w = "power"
    · refine .inl ⟨e, ?_⟩
      have h2 := h.2
      rw [if_pos e] at h2
      cases b <;> simp only [withinD, Bool.and_eq_true, decide_eq_true_eq] at h2 <;> first | (cases h2; done) | exact ⟨_, rfl, h2.1, h2.2⟩
    · have h2 := h.2
      rw [if_neg e, Bool.and_eq_true] at h2
      exact .inr ⟨e, h2⟩
  · cases h
theorem worth_lt {d : D} {x : Int} (h : worthB d = some x) : x.natAbs < 10 ^ 120 := by
  unfold worthB at h
  split at h
  · exact (short_some h).2
  · repeat' split at h
    all_goals first | (cases h; done) | exact (short_some h).2
  · cases h
abbrev N_worth_of : List Str := ["term", "word", "first", "second", "one", "other"]
def c_worth_of_r1 (s : Spd) : Sts := (.cons (.ret (.call "within" ["number"] sp_within (.cons (.sub (.dct true [.inr "sum", .inr "less", .inr "times"] (.cons (.bin .Add (.var 4) (.var 5)) (.cons (.bin .Sub (.var 4) (.var 5)) (.cons (.bin .Mult (.var 4) (.var 5)) .nil)))) (.var 1)) .nil)))
  .nil)
def c_worth_of_r2 (s : Spd) : Sts := (.cons (.asg (.nm 5) (.call "worth_of" ["term"] s (.cons (.var 3) .nil)))
  (.cons (.ite (.or (.val (.cmp .Is (.var 4) (.cst .non))) (.val (.cmp .Is (.var 5) (.cst .non))))
  (.cons (.ret (.cst .non))
    .nil)
  .nil)
  (c_worth_of_r1 s)))
def c_worth_of_r3 (s : Spd) : Sts := (.cons (.asg (.tp (.cons (.nm 1) (.cons (.nm 2) (.cons (.nm 3) .nil)))) (.var 0))
  (.cons (.asg (.nm 4) (.call "worth_of" ["term"] s (.cons (.var 2) .nil)))
  (.cons (.ite (.val (.cmp .Eq (.var 1) (.glb "POWER" (.str "power"))))
  (.cons (.ret (.ife (.val (.cmp .Is (.var 4) (.cst .non))) (.cst .non) (.call "within" ["number"] sp_within (.cons (.call "power_of" ["base", "many"] sp_power_of (.cons (.var 4) (.cons (.var 3) .nil))) .nil))))
    .nil)
  .nil)
  (c_worth_of_r2 s))))
def c_worth_of (s : Spd) : Sts := (.cons (.ite (.not (.val (.blt .isinst (.cons (.var 0) (.cons (.typ .tuple) .nil)))))
  (.cons (.ret (.call "within" ["number"] sp_within (.cons (.var 0) .nil)))
    .nil)
  .nil)
  (c_worth_of_r3 s))
def spR_worth_of (n : Nat) : Spd := fun ds h Q => match ds with
  | [d] => (termB d = true ∧ d.dep < n) ∧ Q (optD (worthB d)) h
  | _ => False
theorem h0_worth_of (ds : List D) (h : Hd) (Q : Pq) : ¬ spR_worth_of 0 ds h Q := by
  intro q
  unfold spR_worth_of at q
  split at q
  · exact absurd q.1.2 (by omega)
  · exact q
theorem optD_non {o : Option Int} : isNon (optD o) = o.isNone := by cases o <;> rfl
theorem power_pre {x k : Int} (hx : x.natAbs < 10 ^ 120) (k1 : k ≤ 60) : ∃ b : Nat, x.natAbs < 2 ^ b ∧ b * k.toNat < 1000000 := by
  refine ⟨400, Nat.lt_of_lt_of_le hx (by decide +kernel), ?_⟩
  have : k.toNat ≤ 60 := by omega
  have := Nat.mul_le_mul_left 400 this
  omega
theorem opW_cases {w : Str} (h : opW w = true) : w = "sum" ∨ w = "less" ∨ w = "times" := by
  unfold opW at h
  simp only [Bool.or_eq_true, decide_eq_true_eq] at h
  exact h
theorem b_worth_of (n : Nat) (ds : List D) (h : Hd) (Q : Pq) (q : spR_worth_of (n + 1) ds h Q) : wSs (c_worth_of (spR_worth_of n)) { nx := fun _ h' => Out Q .non h', rt := Out Q } (startD N_worth_of ds) h := by
  unfold spR_worth_of at q
  split at q
  · rename_i d
    obtain ⟨⟨ht, hn⟩, q⟩ := q
    show wSs (c_worth_of (spR_worth_of n)) _ [some d, none, none, none, none, none] h
    rcases termB_inv ht with ⟨i, rfl⟩ | ⟨w, a, b, rfl, ta, hw⟩
    · rw [worthB_int] at q
      simp -implicitDefEqProofs only [c_worth_of, wSs, wS, wT, wTo, wE, wA, wO, wI, getS, gT, gTs, setAll, List.getElem?_cons_zero, List.getElem?_cons_succ, List.set_cons_zero, List.set_cons_succ, binD, augD, iaddD, imulD, addD, subD, mulD, fdivD, modD, powD, negD, truthD, boolD, intO, subsD, sliceD, listed, dicted, bltD, seqD, seqI, zipI, zipSI, anyI, lstI, enumI, revI, starI, lenTs, mthD, lstOf, mAppend, mPop, mExtend, mUpper, mJoin, strsOf, tyD, Mt.T, setD, wipeD, List.map_cons, List.map_nil, Bool.false_eq_true, if_true, if_false, ↓reduceIte, vw_non, vw_bl, vw_int, vw_str, vw_tup, vw_lst, vw_dic, vw_ref, w_eq, w_ne, w_eqS, w_neS, w_lt, w_le, w_gt, w_ge, w_truth, w_boolD, w_isN, w_isNt, Bool.not_true, Bool.not_false, decide_true, decide_false, beq_self_eq_true, decide_eq_true_eq, Bool.true_and, Bool.false_and, Bool.and_true, Bool.and_false, isTy, show (Ty.int == Ty.tuple) = false from rfl, show (Ty.tuple == Ty.int) = false from rfl, sp_within]
      exact .is (Hd.le.refl _) q
    · have dd := dep_tup3 (.str w) a b
      rw [worthB_tup] at q
      simp -implicitDefEqProofs only [c_worth_of, wSs, wS, wT, wTo, wE, wA, wO, wI, getS, gT, gTs, setAll, List.getElem?_cons_zero, List.getElem?_cons_succ, List.set_cons_zero, List.set_cons_succ, binD, augD, iaddD, imulD, addD, subD, mulD, fdivD, modD, powD, negD, truthD, boolD, intO, subsD, sliceD, listed, dicted, bltD, seqD, seqI, zipI, zipSI, anyI, lstI, enumI, revI, starI, lenTs, mthD, lstOf, mAppend, mPop, mExtend, mUpper, mJoin, strsOf, tyD, Mt.T, setD, wipeD, List.map_cons, List.map_nil, Bool.false_eq_true, if_true, if_false, ↓reduceIte, vw_non, vw_bl, vw_int, vw_str, vw_tup, vw_lst, vw_dic, vw_ref, w_eq, w_ne, w_eqS, w_neS, w_lt, w_le, w_gt, w_ge, w_truth, w_boolD, w_isN, w_isNt, Bool.not_true, Bool.not_false, decide_true, decide_false, beq_self_eq_true, decide_eq_true_eq, Bool.true_and, Bool.false_and, Bool.and_true, Bool.and_false, isTy, show (Ty.tuple == Ty.tuple) = true from rfl, c_worth_of_r3, spR_worth_of]
      refine ⟨⟨ta, by omega⟩, ?_⟩
      rcases hw with ⟨rfl, k, rfl, k0, k1⟩ | ⟨nw, ow, tb⟩
      · simp -implicitDefEqProofs only [if_true, wSs, wS, wT, wTo, wE, wA, wO, wI, getS, gT, gTs, setAll, List.getElem?_cons_zero, List.getElem?_cons_succ, List.set_cons_zero, List.set_cons_succ, binD, augD, iaddD, imulD, addD, subD, mulD, fdivD, modD, powD, negD, truthD, boolD, intO, subsD, sliceD, listed, dicted, bltD, seqD, seqI, zipI, zipSI, anyI, lstI, enumI, revI, starI, lenTs, mthD, lstOf, mAppend, mPop, mExtend, mUpper, mJoin, strsOf, tyD, Mt.T, setD, wipeD, List.map_cons, List.map_nil, Bool.false_eq_true, if_true, if_false, ↓reduceIte, vw_non, vw_bl, vw_int, vw_str, vw_tup, vw_lst, vw_dic, vw_ref, w_eq, w_ne, w_eqS, w_neS, w_lt, w_le, w_gt, w_ge, w_truth, w_boolD, w_isN, w_isNt, Bool.not_true, Bool.not_false, decide_true, decide_false, beq_self_eq_true, decide_eq_true_eq, Bool.true_and, Bool.false_and, Bool.and_true, Bool.and_false]
        cases ea : worthB a with
        | none =>
          rw [ea] at q
          simp -implicitDefEqProofs only [optD_n, optD_s, isNon, wSs, wS, wT, wTo, wE, wA, wO, wI, getS, gT, gTs, setAll, List.getElem?_cons_zero, List.getElem?_cons_succ, List.set_cons_zero, List.set_cons_succ, binD, augD, iaddD, imulD, addD, subD, mulD, fdivD, modD, powD, negD, truthD, boolD, intO, subsD, sliceD, listed, dicted, bltD, seqD, seqI, zipI, zipSI, anyI, lstI, enumI, revI, starI, lenTs, mthD, lstOf, mAppend, mPop, mExtend, mUpper, mJoin, strsOf, tyD, Mt.T, setD, wipeD, List.map_cons, List.map_nil, Bool.false_eq_true, if_true, if_false, ↓reduceIte, vw_non, vw_bl, vw_int, vw_str, vw_tup, vw_lst, vw_dic, vw_ref, w_eq, w_ne, w_eqS, w_neS, w_lt, w_le, w_gt, w_ge, w_truth, w_boolD, w_isN, w_isNt, Bool.not_true, Bool.not_false, decide_true, decide_false, beq_self_eq_true, decide_eq_true_eq, Bool.true_and, Bool.false_and, Bool.and_true, Bool.and_false]
          exact .is (Hd.le.refl _) q
        | some x =>
          simp only [ea, if_true] at q
          simp -implicitDefEqProofs only [optD_n, optD_s, isNon, wSs, wS, wT, wTo, wE, wA, wO, wI, getS, gT, gTs, setAll, List.getElem?_cons_zero, List.getElem?_cons_succ, List.set_cons_zero, List.set_cons_succ, binD, augD, iaddD, imulD, addD, subD, mulD, fdivD, modD, powD, negD, truthD, boolD, intO, subsD, sliceD, listed, dicted, bltD, seqD, seqI, zipI, zipSI, anyI, lstI, enumI, revI, starI, lenTs, mthD, lstOf, mAppend, mPop, mExtend, mUpper, mJoin, strsOf, tyD, Mt.T, setD, wipeD, List.map_cons, List.map_nil, Bool.false_eq_true, if_true, if_false, ↓reduceIte, vw_non, vw_bl, vw_int, vw_str, vw_tup, vw_lst, vw_dic, vw_ref, w_eq, w_ne, w_eqS, w_neS, w_lt, w_le, w_gt, w_ge, w_truth, w_boolD, w_isN, w_isNt, Bool.not_true, Bool.not_false, decide_true, decide_false, beq_self_eq_true, decide_eq_true_eq, Bool.true_and, Bool.false_and, Bool.and_true, Bool.and_false, sp_power_of, sp_within]
          exact ⟨power_pre (worth_lt ea) k1, .is (Hd.le.refl _) q⟩
      · simp -implicitDefEqProofs only [nw, if_false, wSs, wS, wT, wTo, wE, wA, wO, wI, getS, gT, gTs, setAll, List.getElem?_cons_zero, List.getElem?_cons_succ, List.set_cons_zero, List.set_cons_succ, binD, augD, iaddD, imulD, addD, subD, mulD, fdivD, modD, powD, negD, truthD, boolD, intO, subsD, sliceD, listed, dicted, bltD, seqD, seqI, zipI, zipSI, anyI, lstI, enumI, revI, starI, lenTs, mthD, lstOf, mAppend, mPop, mExtend, mUpper, mJoin, strsOf, tyD, Mt.T, setD, wipeD, List.map_cons, List.map_nil, Bool.false_eq_true, if_true, if_false, ↓reduceIte, vw_non, vw_bl, vw_int, vw_str, vw_tup, vw_lst, vw_dic, vw_ref, w_eq, w_ne, w_eqS, w_neS, w_lt, w_le, w_gt, w_ge, w_truth, w_boolD, w_isN, w_isNt, Bool.not_true, Bool.not_false, decide_true, decide_false, beq_self_eq_true, decide_eq_true_eq, Bool.true_and, Bool.false_and, Bool.and_true, Bool.and_false, c_worth_of_r2, spR_worth_of]
        refine ⟨⟨tb, by omega⟩, ?_⟩
        cases ea : worthB a with
        | none =>
          rw [ea] at q
          simp -implicitDefEqProofs only [optD_n, optD_s, isNon, wSs, wS, wT, wTo, wE, wA, wO, wI, getS, gT, gTs, setAll, List.getElem?_cons_zero, List.getElem?_cons_succ, List.set_cons_zero, List.set_cons_succ, binD, augD, iaddD, imulD, addD, subD, mulD, fdivD, modD, powD, negD, truthD, boolD, intO, subsD, sliceD, listed, dicted, bltD, seqD, seqI, zipI, zipSI, anyI, lstI, enumI, revI, starI, lenTs, mthD, lstOf, mAppend, mPop, mExtend, mUpper, mJoin, strsOf, tyD, Mt.T, setD, wipeD, List.map_cons, List.map_nil, Bool.false_eq_true, if_true, if_false, ↓reduceIte, vw_non, vw_bl, vw_int, vw_str, vw_tup, vw_lst, vw_dic, vw_ref, w_eq, w_ne, w_eqS, w_neS, w_lt, w_le, w_gt, w_ge, w_truth, w_boolD, w_isN, w_isNt, Bool.not_true, Bool.not_false, decide_true, decide_false, beq_self_eq_true, decide_eq_true_eq, Bool.true_and, Bool.false_and, Bool.and_true, Bool.and_false]
          exact .is (Hd.le.refl _) q
        | some x =>
          simp only [ea, nw, if_false] at q
          cases eb : worthB b with
          | none =>
            simp only [eb] at q
            simp -implicitDefEqProofs only [optD_n, optD_s, isNon, wSs, wS, wT, wTo, wE, wA, wO, wI, getS, gT, gTs, setAll, List.getElem?_cons_zero, List.getElem?_cons_succ, List.set_cons_zero, List.set_cons_succ, binD, augD, iaddD, imulD, addD, subD, mulD, fdivD, modD, powD, negD, truthD, boolD, intO, subsD, sliceD, listed, dicted, bltD, seqD, seqI, zipI, zipSI, anyI, lstI, enumI, revI, starI, lenTs, mthD, lstOf, mAppend, mPop, mExtend, mUpper, mJoin, strsOf, tyD, Mt.T, setD, wipeD, List.map_cons, List.map_nil, Bool.false_eq_true, if_true, if_false, ↓reduceIte, vw_non, vw_bl, vw_int, vw_str, vw_tup, vw_lst, vw_dic, vw_ref, w_eq, w_ne, w_eqS, w_neS, w_lt, w_le, w_gt, w_ge, w_truth, w_boolD, w_isN, w_isNt, Bool.not_true, Bool.not_false, decide_true, decide_false, beq_self_eq_true, decide_eq_true_eq, Bool.true_and, Bool.false_and, Bool.and_true, Bool.and_false]
            exact .is (Hd.le.refl _) q
          | some y =>
            simp only [eb] at q
            simp -implicitDefEqProofs only [optD_n, optD_s, isNon, wSs, wS, wT, wTo, wE, wA, wO, wI, getS, gT, gTs, setAll, List.getElem?_cons_zero, List.getElem?_cons_succ, List.set_cons_zero, List.set_cons_succ, binD, augD, iaddD, imulD, addD, subD, mulD, fdivD, modD, powD, negD, truthD, boolD, intO, subsD, sliceD, listed, dicted, bltD, seqD, seqI, zipI, zipSI, anyI, lstI, enumI, revI, starI, lenTs, mthD, lstOf, mAppend, mPop, mExtend, mUpper, mJoin, strsOf, tyD, Mt.T, setD, wipeD, List.map_cons, List.map_nil, Bool.false_eq_true, if_true, if_false, ↓reduceIte, vw_non, vw_bl, vw_int, vw_str, vw_tup, vw_lst, vw_dic, vw_ref, w_eq, w_ne, w_eqS, w_neS, w_lt, w_le, w_gt, w_ge, w_truth, w_boolD, w_isN, w_isNt, Bool.not_true, Bool.not_false, decide_true, decide_false, beq_self_eq_true, decide_eq_true_eq, Bool.true_and, Bool.false_and, Bool.and_true, Bool.and_false, c_worth_of_r1, sp_within]
            refine ⟨mulOk400 (worth_lt ea) (worth_lt eb), fun k hk => ?_⟩
            simp -implicitDefEqProofs only [Hd.set_same, keyD, wSs, wS, wT, wTo, wE, wA, wO, wI, getS, gT, gTs, setAll, List.getElem?_cons_zero, List.getElem?_cons_succ, List.set_cons_zero, List.set_cons_succ, binD, augD, iaddD, imulD, addD, subD, mulD, fdivD, modD, powD, negD, truthD, boolD, intO, subsD, sliceD, listed, dicted, bltD, seqD, seqI, zipI, zipSI, anyI, lstI, enumI, revI, starI, lenTs, mthD, lstOf, mAppend, mPop, mExtend, mUpper, mJoin, strsOf, tyD, Mt.T, setD, wipeD, List.map_cons, List.map_nil, Bool.false_eq_true, if_true, if_false, ↓reduceIte, vw_non, vw_bl, vw_int, vw_str, vw_tup, vw_lst, vw_dic, vw_ref, w_eq, w_ne, w_eqS, w_neS, w_lt, w_le, w_gt, w_ge, w_truth, w_boolD, w_isN, w_isNt, Bool.not_true, Bool.not_false, decide_true, decide_false, beq_self_eq_true, decide_eq_true_eq, Bool.true_and, Bool.false_and, Bool.and_true, Bool.and_false]
            have fin : ∀ v, lookK [(Sum.inr "sum", D.int (x + y)), (Sum.inr "less", D.int (x - y)), (Sum.inr "times", D.int (x * y))] (Sum.inr w) = some (.int v) → v = opI w x y → Out Q (optD (shortI v)) (h.set k (.dK [(Sum.inr "sum", D.int (x + y)), (Sum.inr "less", D.int (x - y)), (Sum.inr "times", D.int (x * y))])) := fun v _ e => by
              rw [e]
              exact .is (Hd.le.set (Hd.le.refl _) hk) q
            rcases opW_cases ow with rfl | rfl | rfl
            · exact fin (x + y) rfl (by unfold opI; rw [if_pos rfl])
            · exact fin (x - y) rfl (by unfold opI; rw [if_neg (by decide), if_pos rfl])
            · exact fin (x * y) rfl (by unfold opI; rw [if_neg (by decide), if_neg (by decide)])
  · exact q.elim
end G

/-! Law k07: quotients, primes up to a number. -/
namespace K07
open PySem PySem.Spec PyProof.Rows G
open L2 hiding wE wT

/-! ### quotients -/
def quots (a b : Nat) : List Int := if h : b = 0 then [] else ((a / b : Nat) : Int) :: quots b (a % b)
termination_by b
decreasing_by exact Nat.mod_lt _ (by omega)
theorem quots_0 (a : Nat) : quots a 0 = [] := by rw [quots]; rfl
theorem quots_s {a b : Nat} (h : b ≠ 0) : quots a b = ((a / b : Nat) : Int) :: quots b (a % b) := by rw [quots, dif_neg h]
theorem quots_len : ∀ (k a b : Nat), b ≤ a → a < 2 ^ k → (quots a b).length ≤ 2 * k
  | 0, a, b, h, ha => by
    have : b = 0 := by simp at ha; omega
    subst this
    rw [quots_0]
    simp
  | k + 1, a, b, h, ha => by
    by_cases b0 : b = 0
    · subst b0
      rw [quots_0]
      simp
    · rw [quots_s b0, List.length_cons]
      by_cases r0 : a % b = 0
      · rw [r0, quots_0, List.length_nil]
        omega
      · rw [quots_s r0, List.length_cons]
        have h1 : a % b < b := Nat.mod_lt _ (by omega)
        have h2 := Nat.div_add_mod a b
        have h3 : 1 ≤ a / b := Nat.div_pos h (by omega)
        have h4 : b ≤ b * (a / b) := Nat.le_mul_of_pos_right _ h3
        have h5 : a % b < 2 ^ k := by
          rw [Nat.pow_succ] at ha
          omega
        have := quots_len k (a % b) (b % (a % b)) (Nat.le_of_lt (Nat.mod_lt _ (by omega))) h5
        omega
theorem quots_len2 {a b : Nat} (h : b ≤ 1000000000000) : (quots a b).length ≤ 81 := by
  by_cases b0 : b = 0
  · subst b0
    rw [quots_0]
    simp
  · rw [quots_s b0, List.length_cons]
    have := quots_len 40 b (a % b) (Nat.le_of_lt (Nat.mod_lt _ (by omega))) (Nat.lt_of_le_of_lt h (by decide))
    omega
abbrev N_quotients_of : List Str := ["upper", "lower", "found"]
def c_quotients_of_r1 : Sts := (.cons (.ret (.blt .tuple (.cons (.var 2) .nil)))
  .nil)
def c_quotients_of_r2 : Sts := (.cons (.par [0, 1] (.cons (.var 1) (.cons (.bin .Mod (.var 0) (.var 1)) .nil)))
    .nil)
def c_quotients_of_b3 : Sts := (.cons (.exp (.mth .append (.var 2) (.cons (.bin .FloorDiv (.var 0) (.var 1)) .nil)))
    c_quotients_of_r2)
def c_quotients_of_r4 : Sts := (.cons (.whl (.val (.cmp .Gt (.var 1) (.cst (.int 0))))
  c_quotients_of_b3)
  c_quotients_of_r1)
def c_quotients_of : Sts := (.cons (.asg (.nm 2) (.new .nil))
  c_quotients_of_r4)
def sp_quotients_of : Spd := fun ds h Q => match ds with
  | [.int x, .int y] => ∃ a b : Nat, (x = (a : Nat) ∧ y = (b : Nat) ∧ a ≤ 1000000000000 ∧ b ≤ 1000000000000) ∧ Q (.tup ((quots a b).map D.int)) h
  | _ => False
theorem b_quotients_of (ds : List D) (h : Hd) (Q : Pq) (q : sp_quotients_of ds h Q) : wSs c_quotients_of { nx := fun _ h' => Out Q .non h', rt := Out Q } (startD N_quotients_of ds) h := by
  unfold sp_quotients_of at q
  split at q
  · rename_i x y
    obtain ⟨a, b, ⟨rfl, rfl, al, bl⟩, q⟩ := q
    show wSs c_quotients_of _ [some (.int (a : Nat)), some (.int (b : Nat)), none] h
    unfold c_quotients_of
    refine st_asgE ?_
    rw [wE]
    refine a_nil fun k hk => ?_
    simp only [List.set_cons_succ, List.set_cons_zero]
    have ql := quots_len2 (a := a) bl
    unfold c_quotients_of_r4
    rw [wSs, wS]
    refine ⟨fun n σ g => ∃ (c d : Nat) (F : List Int), σ = [some (.int (c : Nat)), some (.int (d : Nat)), some (.ref k)] ∧ g = h.set k (.lst (F.map D.int)) ∧ F ++ quots c d = quots a b ∧ d ≤ 1000000000000 ∧ d = n, ⟨_, a, b, [], rfl, rfl, rfl, bl, rfl⟩, ?_⟩
    rintro n σ g ⟨c, d, F, rfl, rfl, e, dl, rfl⟩
    have gk : (h.set k (.lst (F.map D.int))) k = some (.lst (F.map D.int)) := Hd.set_same
    have fl : F.length ≤ 81 := by
      have := congrArg List.length e
      rw [List.length_append] at this
      omega
    refine t_val (e_cmp (ev_ok _ rfl trivial (ev_ok _ rfl trivial (w_gt.mpr (w_truth.mpr ?_)))))
    by_cases d0 : d = 0
    · subst d0
      rw [if_neg (by decide)]
      rw [quots_0, List.append_nil] at e
      subst e
      unfold c_quotients_of_r1
      refine st_retE (e_blt (a_cons (ev_ok _ rfl trivial (a_nil ?_))))
      simp only [bltD, vw_ref, gk]
      exact .is (.set (.refl _) hk) q
    · rw [if_pos (decide_eq_true (by omega))]
      unfold c_quotients_of_b3
      refine st_app (i := 2) (k := k) rfl gk (ev_ok _ rfl ⟨⟨by omega, .inl (by omega)⟩, trivial⟩ (m_app gk (by rw [List.length_map]; omega) ?_))
      rw [Hd.set_set]
      unfold c_quotients_of_r2
      refine st_par (ds := [.int (d : Nat), .int ((c : Int) % (d : Int))]) rfl ⟨by omega, trivial⟩ ?_
      simp only [setAll, List.set_cons_succ, List.set_cons_zero]
      rw [wSs]
      refine ⟨c % d, Nat.mod_lt _ (by omega), d, c % d, F ++ [((c / d : Nat) : Int)], rfl, ?_, ?_, ?_, rfl⟩
      · rw [List.map_append]
        rfl
      · rw [← e, quots_s d0, List.append_assoc]
        rfl
      · have := Nat.mod_lt c (show d > 0 by omega)
        omega
  · exact q.elim
abbrev N__law_quotients : List Str := ["_law_a", "_law_b", "_law_found"]
def c__law_quotients_r1 : Sts := (.cons (.ret (.blt .tuple (.cons (.var 2) .nil)))
  .nil)
def c__law_quotients_r2 : Sts := (.cons (.par [0, 1] (.cons (.var 1) (.cons (.bin .Mod (.var 0) (.var 1)) .nil)))
    .nil)
def c__law_quotients_b3 : Sts := (.cons (.exp (.mth .append (.var 2) (.cons (.bin .FloorDiv (.var 0) (.var 1)) .nil)))
    c__law_quotients_r2)
def c__law_quotients_r4 : Sts := (.cons (.whl (.val (.cmp .NotEq (.var 1) (.cst (.int 0))))
  c__law_quotients_b3)
  c__law_quotients_r1)
def c__law_quotients : Sts := (.cons (.asg (.nm 2) (.new .nil))
  c__law_quotients_r4)
def sp__law_quotients : Spd := fun ds h Q => match ds with
  | [.int x, .int y] => ∃ a b : Nat, (x = (a : Nat) ∧ y = (b : Nat) ∧ a ≤ 1000000000000 ∧ b ≤ 1000000000000) ∧ Q (.tup ((quots a b).map D.int)) h
  | _ => False
theorem b__law_quotients (ds : List D) (h : Hd) (Q : Pq) (q : sp__law_quotients ds h Q) : wSs c__law_quotients { nx := fun _ h' => Out Q .non h', rt := Out Q } (startD N__law_quotients ds) h := by
  unfold sp__law_quotients at q
  split at q
  · rename_i x y
    obtain ⟨a, b, ⟨rfl, rfl, al, bl⟩, q⟩ := q
    show wSs c__law_quotients _ [some (.int (a : Nat)), some (.int (b : Nat)), none] h
    unfold c__law_quotients
    refine st_asgE ?_
    rw [wE]
    refine a_nil fun k hk => ?_
    simp only [List.set_cons_succ, List.set_cons_zero]
    have ql := quots_len2 (a := a) bl
    unfold c__law_quotients_r4
    rw [wSs, wS]
    refine ⟨fun n σ g => ∃ (c d : Nat) (F : List Int), σ = [some (.int (c : Nat)), some (.int (d : Nat)), some (.ref k)] ∧ g = h.set k (.lst (F.map D.int)) ∧ F ++ quots c d = quots a b ∧ d ≤ 1000000000000 ∧ d = n, ⟨_, a, b, [], rfl, rfl, rfl, bl, rfl⟩, ?_⟩
    rintro n σ g ⟨c, d, F, rfl, rfl, e, dl, rfl⟩
    have gk : (h.set k (.lst (F.map D.int))) k = some (.lst (F.map D.int)) := Hd.set_same
    have fl : F.length ≤ 81 := by
      have := congrArg List.length e
      rw [List.length_append] at this
      omega
    refine t_val (e_cmp (ev_ok _ rfl trivial (ev_ok _ rfl trivial (w_ne.mpr (w_truth.mpr ?_)))))
    by_cases d0 : d = 0
    · subst d0
      rw [if_neg (by decide)]
      rw [quots_0, List.append_nil] at e
      subst e
      unfold c__law_quotients_r1
      refine st_retE (e_blt (a_cons (ev_ok _ rfl trivial (a_nil ?_))))
      simp only [bltD, vw_ref, gk]
      exact .is (.set (.refl _) hk) q
    · have dn : ((d : Nat) : Int) ≠ 0 := by omega
      rw [decide_eq_false dn, if_pos (by decide)]
      unfold c__law_quotients_b3
      refine st_app (i := 2) (k := k) rfl gk (ev_ok _ rfl ⟨⟨by omega, .inl (by omega)⟩, trivial⟩ (m_app gk (by rw [List.length_map]; omega) ?_))
      rw [Hd.set_set]
      unfold c__law_quotients_r2
      refine st_par (ds := [.int (d : Nat), .int ((c : Int) % (d : Int))]) rfl ⟨by omega, trivial⟩ ?_
      simp only [setAll, List.set_cons_succ, List.set_cons_zero]
      rw [wSs]
      refine ⟨c % d, Nat.mod_lt _ (by omega), d, c % d, F ++ [((c / d : Nat) : Int)], rfl, ?_, ?_, ?_, rfl⟩
      · rw [List.map_append]
        rfl
      · rw [← e, quots_s d0, List.append_assoc]
        rfl
      · have := Nat.mod_lt c (show d > 0 by omega)
        omega
  · exact q.elim
/-! ### primes up to a number -/
/-- a divisor whose square is no more -/
def compB (m k : Nat) : Bool := (List.range m).any fun d => decide (2 ≤ d) && (decide (d * d ≤ k) && decide (k % d = 0))
def prB (k : Nat) : Bool := decide (2 ≤ k) && !compB 45 k
def cntP (n : Nat) : Nat := ((List.range n).filter prB).length
theorem compB_iff {m k : Nat} : compB m k = true ↔ ∃ d, d < m ∧ 2 ≤ d ∧ d * d ≤ k ∧ k % d = 0 := by
  unfold compB
  rw [List.any_eq_true]
  constructor
  · rintro ⟨d, hd, h⟩
    simp only [Bool.and_eq_true, decide_eq_true_eq] at h
    exact ⟨d, List.mem_range.mp hd, h⟩
  · rintro ⟨d, hd, h⟩
    exact ⟨d, List.mem_range.mpr hd, by simpa only [Bool.and_eq_true, decide_eq_true_eq] using h⟩
theorem sq_lt {d k : Nat} (h : d * d ≤ k) (hk : k ≤ 2000) : d < 45 := by
  refine Nat.lt_of_not_le fun z => ?_
  have := Nat.mul_le_mul z z
  omega
theorem comp_prime {k : Nat} (hk : k ≤ 2000) : ∀ (N d : Nat), d ≤ N → 2 ≤ d → d * d ≤ k → k % d = 0 → ∃ p, prB p = true ∧ p * p ≤ k ∧ k % p = 0
  | 0, d, h, h2, _, _ => by omega
  | N + 1, d, h, h2, hd, hm => by
    cases ec : compB 45 d
    · exact ⟨d, by unfold prB; rw [ec, decide_eq_true h2]; rfl, hd, hm⟩
    · obtain ⟨e, _, e2, ed, em⟩ := compB_iff.mp ec
      have h3 : e + e ≤ e * e := by
        have := Nat.mul_le_mul_right e e2
        omega
      have h4 : e ∣ k := Nat.dvd_trans (Nat.dvd_of_mod_eq_zero em) (Nat.dvd_of_mod_eq_zero hm)
      have h5 : e * e ≤ k := Nat.le_trans ed (Nat.le_trans (Nat.le_mul_of_pos_left _ (by omega)) hd)
      exact comp_prime hk N e (by omega) e2 h5 (Nat.mod_eq_zero_of_dvd h4)
theorem comp_iff {k : Nat} (hk : k ≤ 2000) : compB 45 k = true ↔ ∃ p, prB p = true ∧ p * p ≤ k ∧ k % p = 0 := by
  constructor
  · intro h
    obtain ⟨d, _, d2, dd, dm⟩ := compB_iff.mp h
    exact comp_prime hk d d (Nat.le_refl _) d2 dd dm
  · rintro ⟨p, hp, pp, pm⟩
    unfold prB at hp
    simp only [Bool.and_eq_true, decide_eq_true_eq] at hp
    exact compB_iff.mpr ⟨p, sq_lt pp hk, hp.1, pp, pm⟩
theorem cntP_s (n : Nat) : cntP (n + 1) = cntP n + if prB n = true then 1 else 0 := by
  unfold cntP
  rw [List.range_succ, List.filter_append, List.length_append]
  congr 1
  cases h : prB n <;> simp [h]
theorem look_1 {α : Type} {kvs : List (Key × α)} {k : Key} : True := trivial
/-- the steps of a range -/
theorem step_iff {i c n t m : Nat} (c0 : 0 < c) (hm : m = if i < n then (((n : Int) - (i : Int) - 1) / (c : Int) + 1).toNat else 0) : t < m ↔ i + t * c < n := by
  subst hm
  by_cases h : i < n
  · rw [if_pos h]
    have e : ((n : Int) - (i : Int) - 1) / (c : Int) = (((n - i - 1) / c : Nat) : Int) := by
      have : (n : Int) - (i : Int) - 1 = ((n - i - 1 : Nat) : Int) := by omega
      rw [this]
      rfl
    rw [e]
    have h1 : (t < ((((n - i - 1) / c : Nat) : Int) + 1).toNat) ↔ t ≤ (n - i - 1) / c := by omega
    rw [h1, Nat.le_div_iff_mul_le c0]
    omega
  · rw [if_neg h]
    constructor
    · intro z; omega
    · intro z; omega
theorem rg_any {i c n : Nat} (c0 : 0 < c) (c1 : c < 1073741824) (i1 : i < 1000000000000000) (n1 : n < 1000000000000000) : RgC (i : Nat) (n : Nat) (c : Nat) (if i < n then (((n : Int) - (i : Int) - 1) / (c : Int) + 1).toNat else 0) := by
  by_cases h : i < n
  · rw [if_pos h]
    exact rg_up (by omega) (by omega) (by omega) (by omega) (by omega)
  · rw [if_neg h]
    exact rg_none (by omega) (by omega) (by omega) (by omega) (by omega) (by omega)
abbrev N_primes_to : List Str := ["number", "crossed", "found", "one", "other"]
def c_primes_to_r1 : Sts := (.cons (.ret (.var 2))
  .nil)
def c_primes_to_r2 : Sts := (.cons (.exp (.upd (.var 1) [("other", 4)] 4 (.bin .Mult (.var 3) (.var 3)) (.bin .Add (.var 0) (.cst (.int 1))) (.var 3)))
      .nil)
def c_primes_to_b3 : Sts := (.cons (.ite (.val (.cmp .NotIn (.var 3) (.var 1)))
    (.cons (.aug 2 .Add (.cst (.int 1)))
      c_primes_to_r2)
    .nil)
    .nil)
def c_primes_to_r4 : Sts := (.cons (.for (.nm 3) (.rng2 (.cst (.int 2)) (.bin .Add (.var 0) (.cst (.int 1))))
  c_primes_to_b3)
  c_primes_to_r1)
def c_primes_to_r5 : Sts := (.cons (.asg (.nm 2) (.cst (.int 0)))
  c_primes_to_r4)
def c_primes_to : Sts := (.cons (.asg (.nm 1) (.dct true [] .nil))
  c_primes_to_r5)
def sp_primes_to : Spd := fun ds h Q => match ds with
  | [.int x] => ∃ n : Nat, (x = (n : Nat) ∧ n ≤ 2000) ∧ Q (.int ((cntP (n + 1) : Nat) : Int)) h
  | _ => False
/-- what is crossed out by the primes below c -/
def Crs (n c : Nat) (k : Key) : Prop := ∃ p t : Nat, p < c ∧ prB p = true ∧ p * p + t * p ≤ n ∧ k = .inl ((p * p + t * p : Nat) : Int)
theorem crs_iff {n i : Nat} (hn : n ≤ 2000) (hi : i ≤ n) : Crs n i (.inl ((i : Nat) : Int)) ↔ compB 45 i = true := by
  rw [comp_iff (by omega)]
  constructor
  · rintro ⟨p, t, _, hp, _, e⟩
    have e : i = p * p + t * p := by injection e with e; omega
    refine ⟨p, hp, by omega, ?_⟩
    rw [e, ← Nat.add_mul]
    exact Nat.mul_mod_left _ _
  · rintro ⟨p, hp, pp, pm⟩
    have p2 : 2 ≤ p := by
      unfold prB at hp
      simp only [Bool.and_eq_true, decide_eq_true_eq] at hp
      exact hp.1
    have p3 : p + p ≤ p * p := by
      have := Nat.mul_le_mul_right p p2
      omega
    obtain ⟨c, hc⟩ := Nat.dvd_of_mod_eq_zero pm
    have cp : p ≤ c := Nat.le_of_mul_le_mul_left (by omega : p * p ≤ p * c) (by omega)
    refine ⟨p, c - p, by omega, hp, ?_, ?_⟩
    · rw [← Nat.add_mul, show p + (c - p) = c by omega, Nat.mul_comm, ← hc]
      exact hi
    · rw [← Nat.add_mul, show p + (c - p) = c by omega, Nat.mul_comm, ← hc]
theorem b_primes_to (ds : List D) (h : Hd) (Q : Pq) (q : sp_primes_to ds h Q) : wSs c_primes_to { nx := fun _ h' => Out Q .non h', rt := Out Q } (startD N_primes_to ds) h := by
  unfold sp_primes_to at q
  split at q
  · rename_i x
    obtain ⟨n, ⟨rfl, nl⟩, q⟩ := q
    show wSs c_primes_to _ [some (.int (n : Nat)), none, none, none, none] h
    unfold c_primes_to
    refine st_asgE ?_
    rw [wE]
    refine a_nil fun k hk => ?_
    simp only [List.set_cons_succ, List.set_cons_zero]
    unfold c_primes_to_r5
    refine st_asg rfl trivial ?_
    simp only [List.set_cons_succ, List.set_cons_zero]
    unfold c_primes_to_r4
    refine st_forE ?_
    rw [wI]
    refine ev_ok _ rfl trivial (ev_ok _ rfl trivial ⟨⟨⟨by omega, by omega⟩, ⟨by omega, by omega⟩, by omega⟩, ?_⟩)
    have em : (((n : Nat) : Int) + 1 - 2).toNat = n - 1 := by omega
    rw [em]
    refine forL_rng (fun i σ g => ∃ (kvs : List (Key × D)) (x3 x4 : Option D), σ = [some (.int (n : Nat)), some (.ref k), some (.int ((cntP (2 + i) : Nat) : Int)), x3, x4] ∧ g = h.set k (.dK kvs) ∧ (∀ p ∈ kvs, p.2 = D.bl true) ∧ kvs.length ≤ i * 2000 ∧ ∀ z : Key, (lookK kvs z).isSome = true ↔ Crs n (2 + i) z) ?_ ?_ ⟨[], none, none, rfl, rfl, by simp, by simp, fun z => ?_⟩
    · rintro σ g ⟨kvs, x3, x4, rfl, rfl, _, _, _⟩
      refine ⟨trivial, ?_⟩
      unfold c_primes_to_r1
      refine st_ret rfl trivial (.is (.set (.refl _) hk) ?_)
      have e : cntP (2 + (n - 1)) = cntP (n + 1) := by
        by_cases n0 : n = 0
        · subst n0
          decide +kernel
        · rw [show 2 + (n - 1) = n + 1 by omega]
      rw [e]
      exact q
    · rintro i σ g C hi ⟨kvs, x3, x4, rfl, rfl, hv, hl, hk2⟩ hC
      refine ⟨trivial, ?_⟩
      simp only [gT, List.set_cons_succ, List.set_cons_zero]
      have gk : (h.set k (.dK kvs)) k = some (.dK kvs) := Hd.set_same
      have ei : (2 : Int) + ((i : Nat) : Int) = ((2 + i : Nat) : Int) := by omega
      have cs : cntP (2 + (i + 1)) = cntP (2 + i) + if prB (2 + i) = true then 1 else 0 := cntP_s (2 + i)
      rw [ei]
      unfold c_primes_to_b3
      refine st_iteE (t_val (e_cmp (ev_ok _ rfl trivial (ev_ok _ rfl trivial ?_))))
      simp only [cmpD, inD, gk, keyD, if_true]
      refine w_truth.mpr ?_
      have ek := hk2 (.inl ((2 + i : Nat) : Int))
      rw [crs_iff nl (by omega)] at ek
      have ec : (lookK kvs (.inl ((2 + i : Nat) : Int))).isSome = compB 45 (2 + i) := by rw [Bool.eq_iff_iff]; exact ek
      have ep : prB (2 + i) = !compB 45 (2 + i) := by unfold prB; rw [decide_eq_true (by omega), Bool.true_and]
      rw [ec]
      cases ev : compB 45 (2 + i)
      · rw [ev] at ep
        rw [if_pos (by decide), wSs, wS]
        refine (w_gt0 rfl).mpr (ev_ok _ rfl trivial ?_)
        simp only [augD, iaddD]
        simp only [List.set_cons_succ, List.set_cons_zero]
        unfold c_primes_to_r2
        refine st_expE ?_
        rw [wE]
        refine ev_ok _ rfl trivial ⟨⟨by simp only [isDK, gk], by simp⟩, ev_ok _ rfl ⟨.inl (by omega), trivial⟩ (ev_ok _ rfl trivial (ev_ok _ rfl trivial ?_))⟩
        simp only [updD, gk]
        have e1 : ((2 + i : Nat) : Int) * ((2 + i : Nat) : Int) = (((2 + i) * (2 + i) : Nat) : Int) := by rw [Int.natCast_mul]
        have sq : (2 + i) * (2 + i) ≤ 2002 * 2002 := Nat.mul_le_mul (by omega) (by omega)
        have rg := rg_any (i := (2 + i) * (2 + i)) (c := 2 + i) (n := n + 1) (by omega) (by omega) (by omega) (by omega)
        have st : ∀ t, _ ↔ _ := fun t => step_iff (t := t) (i := (2 + i) * (2 + i)) (c := 2 + i) (n := n + 1) (by omega) rfl
        have ml : (if (2 + i) * (2 + i) < n + 1 then ((((n + 1 : Nat) : Int) - (((2 + i) * (2 + i) : Nat) : Int) - 1) / ((2 + i : Nat) : Int) + 1).toNat else 0) ≤ 2000 := by
          refine Nat.le_of_not_lt fun z => ?_
          have := (st 2000).mp z
          have h3 : 2000 * 2 ≤ 2000 * (2 + i) := Nat.mul_le_mul_left _ (by omega)
          omega
        generalize (if (2 + i) * (2 + i) < n + 1 then ((((n + 1 : Nat) : Int) - (((2 + i) * (2 + i) : Nat) : Int) - 1) / ((2 + i : Nat) : Int) + 1).toNat else 0) = m at rg st ml
        refine ⟨hv, _, _, _, m, rfl, rfl, rfl, ?_, ?_, fun kvs' hv' hl' hk' => ?_⟩
        · rw [e1]
          exact rg
        · have : i * 2000 ≤ 2000 * 2000 := Nat.mul_le_mul_right _ (by omega)
          omega
        · rw [Hd.set_set, wSs]
          refine hC _ _ ⟨kvs', some (.int ((2 + i : Nat) : Int)), x4, ?_, rfl, hv', by rw [Nat.add_mul]; omega, fun z => ?_⟩
          · rw [cs, ep]
            rfl
          · rw [hk' z, hk2 z]
            constructor
            · rintro (⟨p, t, p1, p2, p3, p4⟩ | ⟨t, ht, e⟩)
              · exact ⟨p, t, by omega, p2, p3, p4⟩
              · refine ⟨2 + i, t, by omega, by rw [ep]; rfl, ?_, ?_⟩
                · have := (st t).mp ht
                  omega
                · rw [e, Int.natCast_add ((2 + i) * (2 + i)) (t * (2 + i)), Int.natCast_mul (2 + i) (2 + i), Int.natCast_mul t (2 + i)]
            · rintro ⟨p, t, p1, p2, p3, p4⟩
              by_cases c : p < 2 + i
              · exact .inl ⟨p, t, c, p2, p3, p4⟩
              · have : p = 2 + i := by omega
                subst this
                refine .inr ⟨t, (st t).mpr (by omega), ?_⟩
                rw [p4, Int.natCast_add ((2 + i) * (2 + i)) (t * (2 + i)), Int.natCast_mul (2 + i) (2 + i), Int.natCast_mul t (2 + i)]
      · rw [ev] at ep
        rw [if_neg (by decide), wSs]
        dsimp only
        rw [wSs]
        refine hC _ _ ⟨kvs, some (.int ((2 + i : Nat) : Int)), x4, ?_, rfl, hv, by rw [Nat.add_mul]; omega, fun z => ?_⟩
        · rw [cs, ep]
          rfl
        · rw [hk2 z]
          constructor
          · rintro ⟨p, t, p1, p2, p3, p4⟩
            exact ⟨p, t, by omega, p2, p3, p4⟩
          · rintro ⟨p, t, p1, p2, p3, p4⟩
            refine ⟨p, t, ?_, p2, p3, p4⟩
            refine Nat.lt_of_le_of_ne (by omega) fun z => ?_
            rw [z, ep] at p2
            cases p2
    · constructor
      · intro z
        cases z
      · rintro ⟨p, t, p1, p2, p3, p4⟩
        exfalso
        unfold prB at p2
        simp only [Bool.and_eq_true, decide_eq_true_eq] at p2
        omega
  · exact q.elim
/-! ### the law's own -/
abbrev N__law_up_to : List Str := ["_law_n", "_law_flags", "_law_d", "_law_k"]
def c__law_up_to_r1 : Sts := (.cons (.ret (.blt .sum (.cons (.sl (.var 1) .none (.some (.bin .Add (.var 0) (.cst (.int 1))))) .nil)))
  .nil)
def c__law_up_to_b2 : Sts := (.cons (.put (.var 1) (.var 3) (.cst (.int 0)))
      .nil)
def c__law_up_to_b3 : Sts := (.cons (.for (.nm 3) (.rng3 (.bin .Mult (.var 2) (.var 2)) (.bin .Add (.var 0) (.cst (.int 1))) (.var 2))
    c__law_up_to_b2)
    .nil)
def c__law_up_to_r4 : Sts := (.cons (.for (.nm 2) (.rng2 (.cst (.int 2)) (.cst (.int 45)))
  c__law_up_to_b3)
  c__law_up_to_r1)
def c__law_up_to : Sts := (.cons (.asg (.nm 1) (.addN (.lst (.cons (.cst (.int 0)) (.cons (.cst (.int 0)) .nil))) (.bin .Mult (.lst (.cons (.cst (.int 1)) .nil)) (.bin .Sub (.var 0) (.cst (.int 1))))))
  c__law_up_to_r4)
def sp__law_up_to : Spd := fun ds h Q => match ds with
  | [.int x] => ∃ n : Nat, (x = (n : Nat) ∧ n ≤ 2000) ∧ Q (.int ((cntP (n + 1) : Nat) : Int)) h
  | _ => False
/-- what stands at k, behind the divisors below d -/
def flg (d k : Nat) : Int := if k < 2 ∨ compB d k = true then 0 else 1
theorem sum_cnt (p : Nat → Bool) : ∀ L : List Nat, (L.map fun k => if p k = true then (1 : Int) else 0).sum = ((L.filter p).length : Nat)
  | [] => rfl
  | k :: L => by
    rw [List.map_cons, List.sum_cons, sum_cnt p L, List.filter_cons]
    cases h : p k
    · simp
    · simp
      omega
theorem flg_pr {k : Nat} : flg 45 k = if prB k = true then 1 else 0 := by
  unfold flg prB
  by_cases h : k < 2
  · rw [if_pos (.inl h), decide_eq_false (by omega), Bool.false_and, if_neg (by decide)]
  · rw [decide_eq_true (by omega), Bool.true_and]
    cases e : compB 45 k
    · rw [if_neg (by simp [h]), if_pos (by decide)]
    · rw [if_pos (.inr rfl), if_neg (by decide)]
theorem compB_s {d k : Nat} : compB (d + 1) k = (compB d k || (decide (2 ≤ d) && (decide (d * d ≤ k) && decide (k % d = 0)))) := by
  unfold compB
  rw [List.range_succ, List.any_append]
  simp
theorem set_map {f : Nat → Int} {N i : Nat} {v : Int} : (((List.range N).map f).set i v) = (List.range N).map fun k => if k = i then v else f k := by
  refine List.ext_getElem (by simp) fun j h1 h2 => ?_
  rw [List.getElem_set]
  simp only [List.getElem_map, List.getElem_range]
  by_cases c : i = j
  · rw [if_pos c, if_pos c.symm]
  · rw [if_neg c, if_neg fun z => c z.symm]
theorem stepD_get {lo c : Int} {n i : Nat} {d : D} (e : (stepD lo c n)[i]? = some d) : d = .int (lo + (i : Nat) * c) ∧ i < n := by
  unfold stepD at e
  rw [List.getElem?_map] at e
  obtain ⟨j, ej, rfl⟩ := Option.map_eq_some_iff.mp e
  have hi : i < n := by
    have := (List.getElem?_eq_some_iff.mp ej).1
    simpa using this
  rw [List.getElem?_range hi] at ej
  cases ej
  exact ⟨rfl, hi⟩
theorem stepD_len (lo c : Int) (n : Nat) : (stepD lo c n).length = n := by unfold stepD; rw [List.length_map, List.length_range]
theorem b__law_up_to (ds : List D) (h : Hd) (Q : Pq) (q : sp__law_up_to ds h Q) : wSs c__law_up_to { nx := fun _ h' => Out Q .non h', rt := Out Q } (startD N__law_up_to ds) h := by
  have sl : sizeLine = 16777216 := sizeLine_eq
  unfold sp__law_up_to at q
  split at q
  · rename_i x
    obtain ⟨n, ⟨rfl, nl⟩, q⟩ := q
    show wSs c__law_up_to _ [some (.int (n : Nat)), none, none, none] h
    unfold c__law_up_to
    have tn : (((n : Nat) : Int) - 1).toNat = n - 1 := by omega
    refine st_asgE (e_addN (ev_ok _ rfl trivial (ev_ok _ rfl ⟨⟨by omega, by omega, by rw [tn]; simp only [List.length_cons, List.length_nil]; omega⟩, trivial⟩ ?_)))
    simp only [catN, vw_lst, tn]
    have e0 : [D.int 0, .int 0] ++ (List.replicate (n - 1) [D.int 1]).flatten = ((List.range (n - 1 + 2)).map (flg 2)).map D.int := by
      have a1 : (List.replicate (n - 1) [D.int 1]).flatten = (List.replicate (n - 1) (1 : Int)).map D.int := by
        rw [List.map_replicate]
        generalize n - 1 = r
        induction r with
        | zero => rfl
        | succ r ih => rw [List.replicate_succ, List.flatten_cons, ih, List.replicate_succ]; rfl
      rw [a1, show [D.int 0, .int 0] = [(0 : Int), 0].map D.int from rfl, ← List.map_append]
      congr 1
      refine List.ext_getElem (by simp) fun j h1 h2 => ?_
      simp only [List.getElem_map, List.getElem_range]
      have hc : compB 2 j = false := by
        cases ec : compB 2 j
        · rfl
        · obtain ⟨d, d1, d2, _⟩ := compB_iff.mp ec
          omega
      unfold flg
      rw [hc]
      match j with
      | 0 => rfl
      | 1 => rfl
      | j + 2 =>
        rw [if_neg (by simp)]
        simp
    refine ⟨by simp only [List.length_cons, List.length_nil, List.length_flatten, List.map_replicate, List.sum_replicate_nat]; omega, fun k hk => ?_⟩
    rw [e0]
    simp only [List.set_cons_succ, List.set_cons_zero]
    unfold c__law_up_to_r4
    refine st_forE ?_
    rw [wI]
    refine ev_ok _ rfl trivial (ev_ok _ rfl trivial ⟨⟨⟨by omega, by omega⟩, ⟨by omega, by omega⟩, by omega⟩, ?_⟩)
    refine forL_rng (n := 43) (fun i σ g => ∃ (x2 x3 : Option D), σ = [some (.int (n : Nat)), some (.ref k), x2, x3] ∧ g = h.set k (.lst (((List.range (n - 1 + 2)).map (flg (2 + i))).map D.int))) ?_ ?_ ⟨none, none, rfl, rfl⟩
    · rintro σ g ⟨x2, x3, rfl, rfl⟩
      refine ⟨trivial, ?_⟩
      have gk : (h.set k (.lst (((List.range (n - 1 + 2)).map (flg (2 + 43))).map D.int))) k = some (.lst (((List.range (n - 1 + 2)).map (flg 45)).map D.int)) := Hd.set_same
      unfold c__law_up_to_r1
      refine st_retE (e_blt (a_cons (e_sl (ev_ok _ rfl trivial (o_none (o_int rfl trivial ?_))))))
      simp only [sliceD, vw_ref, gk]
      refine a_nil ?_
      have ec : cutD (((List.range (n - 1 + 2)).map (flg 45)).map D.int) none (some ((n : Nat) + 1)) = ((List.range (n + 1)).map (flg 45)).map D.int := by
        have h1 : cutD (((List.range (n - 1 + 2)).map (flg 45)).map D.int) none (some (((n + 1 : Nat) : Nat) : Int)) = (((List.range (n - 1 + 2)).map (flg 45)).map D.int).take (n + 1) := by
          unfold G.cutD
          have h1 : HT.sIx (((List.range (n - 1 + 2)).map (flg 45)).map D.int).length 0 none = 0 := rfl
          have h2 : HT.sIx (((List.range (n - 1 + 2)).map (flg 45)).map D.int).length (((List.range (n - 1 + 2)).map (flg 45)).map D.int).length (some ((n + 1 : Nat) : Int)) = n + 1 := by
            rw [HT.sIx_nat]
            simp only [List.length_map, List.length_range]
            omega
          rw [h1, h2, List.drop_zero, Nat.sub_zero]
        rw [show ((n : Nat) : Int) + 1 = ((n + 1 : Nat) : Int) by omega, h1, ← List.map_take, ← List.map_take, List.take_range]
        rw [show min (n + 1) (n - 1 + 2) = n + 1 by omega]
      rw [ec]
      simp only [bltD, vw_lst, intsOf_map]
      have es : ((List.range (n + 1)).map (flg 45)).sum = ((cntP (n + 1) : Nat) : Int) := by
        have : (List.range (n + 1)).map (flg 45) = (List.range (n + 1)).map fun k => if prB k = true then (1 : Int) else 0 := List.map_congr_left fun k _ => flg_pr
        rw [this, sum_cnt]
        rfl
      rw [es]
      exact .is (.set (.refl _) hk) q
    · rintro i σ g C hi ⟨x2, x3, rfl, rfl⟩ hC
      refine ⟨trivial, ?_⟩
      simp only [gT, List.set_cons_succ, List.set_cons_zero]
      have ei : (2 : Int) + ((i : Nat) : Int) = ((2 + i : Nat) : Int) := by omega
      rw [ei]
      have e1 : ((2 + i : Nat) : Int) * ((2 + i : Nat) : Int) = (((2 + i) * (2 + i) : Nat) : Int) := by rw [Int.natCast_mul]
      have sq : (2 + i) * (2 + i) ≤ 45 * 45 := Nat.mul_le_mul (by omega) (by omega)
      have rg := rg_any (i := (2 + i) * (2 + i)) (c := 2 + i) (n := n + 1) (by omega) (by omega) (by omega) (by omega)
      have st : ∀ t, _ ↔ _ := fun t => step_iff (t := t) (i := (2 + i) * (2 + i)) (c := 2 + i) (n := n + 1) (by omega) rfl
      have ml : (if (2 + i) * (2 + i) < n + 1 then ((((n + 1 : Nat) : Int) - (((2 + i) * (2 + i) : Nat) : Int) - 1) / ((2 + i : Nat) : Int) + 1).toNat else 0) ≤ 2000 := by
        refine Nat.le_of_not_lt fun z => ?_
        have := (st 2000).mp z
        have h3 : 2000 * 2 ≤ 2000 * (2 + i) := Nat.mul_le_mul_left _ (by omega)
        omega
      generalize (if (2 + i) * (2 + i) < n + 1 then ((((n + 1 : Nat) : Int) - (((2 + i) * (2 + i) : Nat) : Int) - 1) / ((2 + i : Nat) : Int) + 1).toNat else 0) = m at rg st ml
      unfold c__law_up_to_b3
      refine st_forE ?_
      rw [wI]
      refine ev_ok _ rfl ⟨.inl (by omega), trivial⟩ (ev_ok _ rfl trivial (ev_ok _ rfl trivial ⟨_, _, _, m, rfl, rfl, rfl, by rw [e1]; exact rg, by omega, ?_⟩))
      rw [e1]
      refine forL_ix _ (fun j σ g => ∃ (x3 : Option D), σ = [some (.int (n : Nat)), some (.ref k), some (.int ((2 + i : Nat) : Int)), x3] ∧ g = h.set k (.lst (((List.range (n - 1 + 2)).map fun z => if ∃ t, t < j ∧ z = (2 + i) * (2 + i) + t * (2 + i) then 0 else flg (2 + i) z).map D.int))) ?_ ?_ ⟨x3, rfl, ?_⟩
      · rintro σ g ⟨x3, rfl, rfl⟩
        refine ⟨trivial, ?_⟩
        dsimp only
        rw [stepD_len, wSs]
        refine hC _ _ ⟨_, x3, rfl, ?_⟩
        congr 3
        refine List.map_congr_left fun z hz => ?_
        have z1 := List.mem_range.mp hz
        unfold flg
        rw [show 2 + (i + 1) = 2 + i + 1 by omega, compB_s]
        by_cases c : ∃ t, t < m ∧ z = (2 + i) * (2 + i) + t * (2 + i)
        · rw [if_pos c]
          obtain ⟨t, _, e⟩ := c
          have : z % (2 + i) = 0 := by rw [e, ← Nat.add_mul]; exact Nat.mul_mod_left _ _
          rw [if_pos (.inr (by rw [decide_eq_true (show 2 ≤ 2 + i by omega), decide_eq_true (show (2 + i) * (2 + i) ≤ z by omega), decide_eq_true this]; simp))]
        · rw [if_neg c]
          by_cases c2 : z < 2 ∨ compB (2 + i) z = true
          · rw [if_pos c2, if_pos (c2.imp id fun y => by rw [y]; rfl)]
          · rw [if_neg c2, if_neg fun y => ?_]
            rcases y with y | y
            · exact c2 (.inl y)
            · simp only [Bool.or_eq_true, Bool.and_eq_true, decide_eq_true_eq] at y
              rcases y with y | ⟨_, y1, y2⟩
              · exact c2 (.inr y)
              · obtain ⟨u, hu⟩ := Nat.dvd_of_mod_eq_zero y2
                have up : 2 + i ≤ u := Nat.le_of_mul_le_mul_left (by omega : (2 + i) * (2 + i) ≤ (2 + i) * u) (by omega)
                have eu : (2 + i) * (2 + i) + (u - (2 + i)) * (2 + i) = z := by rw [← Nat.add_mul, show 2 + i + (u - (2 + i)) = u by omega, Nat.mul_comm, ← hu]
                have zn : z < n + 1 := by
                  refine Nat.lt_of_not_le fun z2 => ?_
                  have : n ≤ z ∧ z < 2 := by omega
                  exact c2 (.inl this.2)
                exact c ⟨u - (2 + i), (st _).mpr (by omega), eu.symm⟩
      · rintro j d σ g C2 ej hj ⟨x3, rfl, rfl⟩ hC2
        obtain ⟨rfl, hj⟩ := stepD_get ej
        refine ⟨trivial, ?_⟩
        have e2 : (((2 + i) * (2 + i) : Nat) : Int) + ((j : Nat) : Int) * ((2 + i : Nat) : Int) = (((2 + i) * (2 + i) + j * (2 + i) : Nat) : Int) := by rw [Int.natCast_add ((2 + i) * (2 + i)) (j * (2 + i)), Int.natCast_mul j (2 + i)]
        have jl := (st j).mp hj
        rw [e2]
        simp only [gT, List.set_cons_succ, List.set_cons_zero]
        unfold c__law_up_to_b2
        rw [wSs, wS]
        refine ev_ok _ rfl trivial (ev_ok _ rfl trivial (ev_ok _ rfl trivial ?_))
        have gk : ∀ L : List D, (h.set k (.lst L)) k = some (.lst L) := fun L => Hd.set_same
        have bx : ∀ f : Nat → Int, ixN ((((List.range (n - 1 + 2)).map f).map D.int).length) (((2 + i) * (2 + i) + j * (2 + i) : Nat) : Int) = some ((2 + i) * (2 + i) + j * (2 + i)) := fun f => by
          unfold ixN
          rw [List.length_map, List.length_map, List.length_range, if_pos (by omega), if_pos (by omega), Int.toNat_natCast]
        simp only [setD, gk, bx]
        rw [Hd.set_set, wSs]
        refine hC2 _ _ ⟨_, rfl, ?_⟩
        rw [show D.int 0 = D.int (0 : Int) from rfl, ← List.map_set, set_map]
        congr 3
        refine List.map_congr_left fun z hz => ?_
        by_cases c : z = (2 + i) * (2 + i) + j * (2 + i)
        · rw [if_pos c, if_pos ⟨j, by omega, c⟩]
        · rw [if_neg c]
          by_cases c2 : ∃ t, t < j ∧ z = (2 + i) * (2 + i) + t * (2 + i)
          · rw [if_pos c2, if_pos (by obtain ⟨t, t1, t2⟩ := c2; exact ⟨t, by omega, t2⟩)]
          · rw [if_neg c2, if_neg]
            rintro ⟨t, t1, t2⟩
            by_cases tj : t = j
            · subst tj; exact c t2
            · exact c2 ⟨t, by omega, t2⟩
      · congr 3
  · exact q.elim
end K07

/-! Law k07: terms of known worth, the law's own worth, drawn terms. -/
namespace K07
open PySem PySem.Spec PyProof.Rows G
open L2 hiding wE wT

/-! ### terms of a worth -/
structure Tm (b n : Nat) (d : D) (x : Int) : Prop where
  t : termB d = true
  w : worthB d = some x
  l : x.natAbs ≤ b
  dp : d.dep ≤ n
theorem Tm.up {b n c m : Nat} {d : D} {x : Int} (k : Tm b n d x) (h1 : b ≤ c) (h2 : n ≤ m) : Tm c m d x := ⟨k.t, k.w, Nat.le_trans k.l h1, Nat.le_trans k.dp h2⟩
theorem short_of {i : Int} (h : i.natAbs < 10 ^ 120) : shortI i = some i := by
  unfold shortI G.bound
  rw [if_pos (by omega)]
theorem Tm.int {b : Nat} {i : Int} (h : i.natAbs ≤ b) (hb : b < 10 ^ 120) : Tm b 0 (.int i) i :=
  ⟨termB_int i, by rw [worthB_int]; exact short_of (by omega), h, by simp only [D.dep]; omega⟩
theorem Tm.op {b1 b2 b n m : Nat} {w : Str} {a c : D} {x y : Int} (hw : w ≠ "power") (ho : opW w = true) (k : Tm b1 n a x) (r : Tm b2 m c y) (h : (G.opI w x y).natAbs ≤ b) (hb : b < 10 ^ 120) : Tm b (max n m + 1) (.tup [.str w, a, c]) (G.opI w x y) := by
  have h1 := k.dp
  have h2 := r.dp
  refine ⟨by rw [termB_tup, k.t, if_neg hw, ho, r.t]; rfl, ?_, h, by simp only [D.dep, D.deps]; omega⟩
  rw [worthB_tup, k.w, r.w]
  simp only [hw, if_false]
  exact short_of (by omega)
theorem Tm.pow {b1 b n : Nat} {a : D} {x k : Int} (r : Tm b1 n a x) (k0 : 0 ≤ k) (k1 : k ≤ 60) (h : (x ^ k.toNat).natAbs ≤ b) (hb : b < 10 ^ 120) : Tm b (n + 1) (.tup [.str "power", a, .int k]) (x ^ k.toNat) := by
  have h1 := r.dp
  refine ⟨by rw [termB_tup, r.t, if_pos rfl]; simp only [withinD, Bool.true_and, Bool.and_eq_true, decide_eq_true_eq]; omega, ?_, h, by simp only [D.dep, D.deps]; omega⟩
  rw [worthB_tup, r.w]
  simp only [if_true]
  exact short_of (by omega)
theorem Tm.sum {b1 b2 b n m : Nat} {a c : D} {x y : Int} (k : Tm b1 n a x) (r : Tm b2 m c y) (h : b1 + b2 ≤ b) (hb : b < 10 ^ 120) : ∃ z, Tm b (max n m + 1) (.tup [.str "sum", a, c]) z := by
  have h1 := k.l
  have h2 := r.l
  exact ⟨_, .op (by decide) (by decide) k r (by unfold G.opI; rw [if_pos rfl]; omega) hb⟩
theorem Tm.less {b1 b2 b n m : Nat} {a c : D} {x y : Int} (k : Tm b1 n a x) (r : Tm b2 m c y) (h : b1 + b2 ≤ b) (hb : b < 10 ^ 120) : ∃ z, Tm b (max n m + 1) (.tup [.str "less", a, c]) z := by
  have h1 := k.l
  have h2 := r.l
  exact ⟨_, .op (by decide) (by decide) k r (by unfold G.opI; rw [if_neg (by decide), if_pos rfl]; omega) hb⟩
theorem Tm.times {b1 b2 b n m : Nat} {a c : D} {x y : Int} (k : Tm b1 n a x) (r : Tm b2 m c y) (h : b1 * b2 ≤ b) (hb : b < 10 ^ 120) : ∃ z, Tm b (max n m + 1) (.tup [.str "times", a, c]) z := by
  have h1 := k.l
  have h2 := r.l
  refine ⟨_, .op (by decide) (by decide) k r (by unfold G.opI; rw [if_neg (by decide), if_neg (by decide), Int.natAbs_mul]; exact Nat.le_trans (Nat.mul_le_mul h1 h2) h) hb⟩
theorem Tm.power {b1 b n : Nat} {a : D} {x k : Int} {e : Nat} (r : Tm b1 n a x) (k0 : 0 ≤ k) (k1 : k ≤ e) (e1 : e ≤ 60) (h : (max b1 1) ^ e ≤ b) (hb : b < 10 ^ 120) : ∃ z, Tm b (n + 1) (.tup [.str "power", a, .int k]) z := by
  have h1 := r.l
  refine ⟨_, .pow r k0 (by omega) ?_ hb⟩
  rw [natAbs_pow]
  refine Nat.le_trans (Nat.le_trans (Nat.pow_le_pow_left (show x.natAbs ≤ max b1 1 by omega) _) (Nat.pow_le_pow_right (by omega) (show k.toNat ≤ e by omega))) h
/-- a term and its worth -/
def Tt (d : D) (x : Int) : Prop := termB d = true ∧ worthB d = some x ∧ d.dep < 30
theorem Tm.tt {b n : Nat} {d : D} {x : Int} (k : Tm b n d x) (h : n < 30) : Tt d x := ⟨k.t, k.w, Nat.lt_of_le_of_lt k.dp h⟩
theorem e_isT {x : Ex} {t : Ty} {ds : List D} {σ : Sl} {h : Hd} {Q : Pq} (v : ev x σ = some (.tup ds, [])) (k : Q (.bl (t == .tuple)) h) : wE (.blt .isinst (.cons x (.cons (.typ t) .nil))) σ h Q := by
  refine e_blt (a_cons (ev_ok _ v trivial (a_cons ?_)))
  rw [wE]
  refine a_nil ?_
  simp only [bltD, isTy]
  exact k
/-! ### the law's own worth -/
abbrev N__law_worth : List Str := ["_law_t", "_law_found", "_law_k", "_law_a", "_law_b"]
def c__law_worth_r1 (s : Spd) : Sts := (.cons (.ret (.sub (.dct true [.inr "sum", .inr "less", .inr "times"] (.cons (.bin .Add (.var 3) (.var 4)) (.cons (.bin .Sub (.var 3) (.var 4)) (.cons (.bin .Mult (.var 3) (.var 4)) .nil)))) (.sub (.var 0) (.cst (.int 0)))))
  .nil)
def c__law_worth_r2 (s : Spd) : Sts := (.cons (.par [3, 4] (.cons (.call "_law_worth" ["_law_t"] s (.cons (.sub (.var 0) (.cst (.int 1))) .nil)) (.cons (.call "_law_worth" ["_law_t"] s (.cons (.sub (.var 0) (.cst (.int 2))) .nil)) .nil)))
  (c__law_worth_r1 s))
def c__law_worth_r3 (s : Spd) : Sts := (.cons (.ret (.var 1))
    .nil)
def c__law_worth_b4 (s : Spd) : Sts := (.cons (.asg (.nm 1) (.bin .Mult (.var 1) (.call "_law_worth" ["_law_t"] s (.cons (.sub (.var 0) (.cst (.int 1))) .nil))))
      .nil)
def c__law_worth_r5 (s : Spd) : Sts := (.cons (.for (.nm 2) (.rng1 (.sub (.var 0) (.cst (.int 2))))
    (c__law_worth_b4 s))
    (c__law_worth_r3 s))
def c__law_worth_r6 (s : Spd) : Sts := (.cons (.ite (.val (.cmp .Eq (.sub (.var 0) (.cst (.int 0))) (.cst (.str "power"))))
  (.cons (.asg (.nm 1) (.cst (.int 1)))
    (c__law_worth_r5 s))
  .nil)
  (c__law_worth_r2 s))
def c__law_worth (s : Spd) : Sts := (.cons (.ite (.val (.blt .isinst (.cons (.var 0) (.cons (.typ .int) .nil))))
  (.cons (.ret (.var 0))
    .nil)
  .nil)
  (c__law_worth_r6 s))
def spR__law_worth (n : Nat) : Spd := fun ds h Q => match ds with
  | [d] => ∃ x, (termB d = true ∧ worthB d = some x ∧ d.dep < n) ∧ Q (.int x) h
  | _ => False
theorem h0__law_worth (ds : List D) (h : Hd) (Q : Pq) : ¬ spR__law_worth 0 ds h Q := by
  intro q
  unfold spR__law_worth at q
  split at q
  · obtain ⟨x, ⟨_, _, h⟩, _⟩ := q
    omega
  · exact q
theorem b__law_worth (n : Nat) (ds : List D) (h : Hd) (Q : Pq) (q : spR__law_worth (n + 1) ds h Q) : wSs (c__law_worth (spR__law_worth n)) { nx := fun _ h' => Out Q .non h', rt := Out Q } (startD N__law_worth ds) h := by
  unfold spR__law_worth at q
  split at q
  · rename_i d
    obtain ⟨x, ⟨ht, hx, hn⟩, q⟩ := q
    show wSs (c__law_worth (spR__law_worth n)) _ [some d, none, none, none, none] h
    rcases termB_inv ht with ⟨i, rfl⟩ | ⟨w, a, b, rfl, ta, hw⟩
    · rw [worthB_int] at hx
      obtain ⟨rfl, _⟩ := short_some hx
      unfold c__law_worth
      refine st_iteE (t_val (e_isinst rfl rfl (w_truth.mpr ?_)))
      rw [if_pos (by rfl)]
      exact st_ret rfl trivial (.is (Hd.le.refl _) q)
    · have dd := dep_tup3 (.str w) a b
      rw [worthB_tup] at hx
      cases ea : worthB a with
      | none =>
        rw [ea] at hx
        cases hx
      | some y =>
        rw [ea] at hx
        have sa : ∀ {h : Hd} {T : Pq}, T (.int y) h → spR__law_worth n [a] h T := fun t => ⟨y, ⟨ta, ea, by omega⟩, t⟩
        unfold c__law_worth
        refine st_iteE (t_val (e_isT rfl (w_truth.mpr ?_)))
        rw [if_neg (by decide), wSs]
        dsimp only
        unfold c__law_worth_r6
        rcases hw with ⟨rfl, k, rfl, k0, k1⟩ | ⟨nw, ow, tb⟩
        · simp only [if_true] at hx
          obtain ⟨rfl, xl⟩ := short_some hx
          refine st_ite rfl trivial (fun _ => ?_) fun z => by simp at z
          refine st_asg rfl trivial ?_
          simp only [List.set_cons_succ, List.set_cons_zero]
          unfold c__law_worth_r5
          refine st_forE ?_
          rw [wI]
          refine ev_ok _ rfl trivial ⟨by omega, ?_⟩
          refine forL_rng (fun i σ g => ∃ x2 : Option D, σ = [some (.tup [.str "power", a, .int k]), some (.int (y ^ i)), x2, none, none] ∧ h = g) ?_ ?_ ⟨none, by rw [Int.pow_zero], rfl⟩
          · rintro σ g ⟨x2, rfl, rfl⟩
            refine ⟨trivial, ?_⟩
            unfold c__law_worth_r3
            exact st_ret rfl trivial (.is (Hd.le.refl _) q)
          · rintro i σ g C hi ⟨x2, rfl, rfl⟩ hC
            refine ⟨trivial, ?_⟩
            simp only [gT, List.set_cons_succ, List.set_cons_zero]
            unfold c__law_worth_b4
            refine st_asgE (e_bin (ev_ok _ rfl trivial (e_call rfl trivial (sa (w_mul.mpr ⟨?_, ?_⟩)))))
            · have p : 10 ^ 120 ≤ 2 ^ 400 := by decide +kernel
              have := mulOk_pow (B := y) (b := 400) (e := i) (f := 1) (Nat.lt_of_lt_of_le (worth_lt ea) p) (by omega)
              rwa [Int.pow_succ, Int.pow_zero, Int.one_mul] at this
            · rw [wSs]
              exact hC _ _ ⟨_, by rw [Int.pow_succ]; rfl, rfl⟩
        · simp only [nw, if_false] at hx
          cases eb : worthB b with
          | none =>
            simp only [eb] at hx
            cases hx
          | some z =>
            simp only [eb] at hx
            obtain ⟨rfl, xl⟩ := short_some hx
            have sb : ∀ {h : Hd} {T : Pq}, T (.int z) h → spR__law_worth n [b] h T := fun t => ⟨z, ⟨tb, eb, by omega⟩, t⟩
            refine st_ite rfl trivial (fun z => absurd (of_decide_eq_true z) nw) fun _ => ?_
            rw [wSs]
            dsimp only
            unfold c__law_worth_r2
            refine st_parE (a_cons (e_call (ds := [a]) rfl trivial (sa (a_cons (e_call (ds := [b]) rfl trivial (sb (a_nil ?_)))))))
            simp only [setAll, List.set_cons_succ, List.set_cons_zero]
            unfold c__law_worth_r1
            refine st_retE (e_sub ?_)
            rw [wE]
            refine a_cons (ev_ok _ rfl trivial (a_cons (ev_ok _ rfl trivial (a_cons (ev_ok _ rfl ⟨mulOk400 (worth_lt ea) (worth_lt eb), trivial⟩ (a_nil fun k hk => ?_))))))
            refine ev_ok _ rfl trivial ?_
            simp only [subsD, Hd.set_same, keyD]
            have fin : ∀ v, lookK [(Sum.inr "sum", D.int (y + z)), (Sum.inr "less", D.int (y - z)), (Sum.inr "times", D.int (y * z))] (Sum.inr w) = some (.int v) → v = G.opI w y z → Out Q (.int (G.opI w y z)) (h.set k (.dK [(Sum.inr "sum", D.int (y + z)), (Sum.inr "less", D.int (y - z)), (Sum.inr "times", D.int (y * z))])) := fun v _ _ => .is (Hd.le.set (Hd.le.refl _) hk) q
            rcases opW_cases ow with rfl | rfl | rfl
            · exact fin (y + z) rfl (by unfold G.opI; rw [if_pos rfl])
            · exact fin (y - z) rfl (by unfold G.opI; rw [if_neg (by decide), if_pos rfl])
            · exact fin (y * z) rfl (by unfold G.opI; rw [if_neg (by decide), if_neg (by decide)])
  · exact q.elim
/-! ### drawn terms -/
def bd : Nat → Nat
  | 0 => 1000
  | l + 1 => bd l ^ 3
theorem bd_2 {l : Nat} (h : l ≤ 2) : bd l ≤ 10 ^ 27 ∧ 1000 ≤ bd l := by
  match l, h with
  | 0, _ => decide
  | 1, _ => decide
  | 2, _ => decide
abbrev N__law_term : List Str := ["_law_deck_here", "_law_layers", "_law_way", "_law_t"]
def c__law_term_r1 (s : Spd) : Sts := (.cons (.ret (.tup (.cons (.sub (.lst (.cons (.cst (.str "sum")) (.cons (.cst (.str "less")) (.cons (.cst (.str "times")) .nil)))) (.var 2)) (.cons (.var 3) (.cons (.call "_law_term" ["_law_deck_here", "_law_layers"] s (.cons (.var 0) (.cons (.bin .Sub (.var 1) (.cst (.int 1))) .nil))) .nil)))))
  .nil)
def c__law_term_r2 (s : Spd) : Sts := (.cons (.ite (.val (.cmp .Eq (.var 2) (.cst (.int 3))))
  (.cons (.ret (.tup (.cons (.cst (.str "power")) (.cons (.var 3) (.cons (.call "_law_draw" ["_law_deck_here", "_law_many"] sp__law_draw (.cons (.var 0) (.cons (.cst (.int 4)) .nil))) .nil)))))
    .nil)
  .nil)
  (c__law_term_r1 s))
def c__law_term_r3 (s : Spd) : Sts := (.cons (.asg (.nm 3) (.call "_law_term" ["_law_deck_here", "_law_layers"] s (.cons (.var 0) (.cons (.bin .Sub (.var 1) (.cst (.int 1))) .nil))))
  (c__law_term_r2 s))
def c__law_term_r4 (s : Spd) : Sts := (.cons (.ite (.val (.cmp .Eq (.var 2) (.cst (.int 4))))
  (.cons (.ret (.sub (.lst (.cons (.call "_law_pick" ["_law_deck_here", "_law_some"] sp__law_pick (.cons (.var 0) (.cons (.lst (.cons (.cst (.int 0)) (.cons (.cst (.int 1)) (.cons (.neg (.cst (.int 1))) (.cons (.cst (.int 9)) (.cons (.cst (.int 10)) (.cons (.cst (.int 99)) (.cons (.neg (.cst (.int 100))) (.cons (.cst (.int 7)) .nil))))))))) .nil))) (.cons (.bin .Sub (.call "_law_draw" ["_law_deck_here", "_law_many"] sp__law_draw (.cons (.var 0) (.cons (.cst (.int 1999)) .nil))) (.cst (.int 999))) .nil))) (.call "_law_draw" ["_law_deck_here", "_law_many"] sp__law_draw (.cons (.var 0) (.cons (.cst (.int 2)) .nil)))))
    .nil)
  .nil)
  (c__law_term_r3 s))
def c__law_term (s : Spd) : Sts := (.cons (.asg (.nm 2) (.ife (.val (.cmp .Gt (.var 1) (.cst (.int 0)))) (.call "_law_draw" ["_law_deck_here", "_law_many"] sp__law_draw (.cons (.var 0) (.cons (.cst (.int 5)) .nil))) (.cst (.int 4))))
  (c__law_term_r4 s))
def spR__law_term (n : Nat) : Spd := fun ds h Q => match ds with
  | [.deck, .int l] => (0 ≤ l ∧ l < n ∧ l ≤ 2) ∧ ∀ d x, Tm (bd l.toNat) l.toNat d x → Q d h
  | _ => False
theorem h0__law_term (ds : List D) (h : Hd) (Q : Pq) : ¬ spR__law_term 0 ds h Q := by
  intro q
  unfold spR__law_term at q
  split at q
  · exact absurd q.1 (by omega)
  · exact q
theorem mem4 {r : Int} {xs : List D} (r0 : 0 ≤ r) (r1 : r < xs.length) {h : Hd} {Q : Pq} (q : ∀ d ∈ xs, Q d h) : subsD (.lst xs) (.int r) h Q := by
  obtain ⟨d, hd, e⟩ := atI_of r0 r1
  simp only [subsD, e]
  exact q d hd
theorem b__law_term (n : Nat) (ds : List D) (h : Hd) (Q : Pq) (q : spR__law_term (n + 1) ds h Q) : wSs (c__law_term (spR__law_term n)) { nx := fun _ h' => Out Q .non h', rt := Out Q } (startD N__law_term ds) h := by
  unfold spR__law_term at q
  split at q
  · rename_i l
    obtain ⟨⟨l0, l1, l2⟩, q⟩ := q
    have fin : ∀ d x, Tm (bd l.toNat) l.toNat d x → Out Q d h := fun d x hd => .is (Hd.le.refl _) (q d x hd)
    have b0 : 1000 ≤ bd l.toNat ∧ bd l.toNat < 10 ^ 120 := by
      have := bd_2 (l := l.toNat) (by omega)
      have p : 10 ^ 27 < 10 ^ 120 := by decide +kernel
      omega
    have num : ∀ i : Int, i.natAbs ≤ 1000 → Out Q (.int i) h := fun i hi => fin _ i (Tm.up (.int (b := 1000) (by omega) (by decide +kernel)) b0.1 (by omega))
    show wSs (c__law_term (spR__law_term n)) _ [some .deck, some (.int l), none, none] h
    have leaf : ∀ {x3 : Option D}, wSs (c__law_term_r4 (spR__law_term n)) { nx := fun _ h' => Out Q .non h', rt := Out Q } [some .deck, some (.int l), some (.int 4), x3] h := by
      intro x3
      unfold c__law_term_r4
      refine st_ite rfl trivial (fun _ => ?_) fun z => by simp at z
      refine st_retE (e_sub (e_lst (a_cons (e_call rfl trivial (pickD (.inl rfl) ⟨by simp, by simp⟩ fun d hd => a_cons (e_bin (e_call rfl trivial (drawD ⟨by decide, by decide⟩ fun r r0 r1 => ev_ok _ rfl trivial (w_sub.mpr (a_nil (e_call rfl trivial (drawD ⟨by decide, by decide⟩ fun s s0 s1 => ?_))))))))))))
      have hd : ∃ i : Int, d = .int i ∧ i.natAbs ≤ 1000 := by
        have al : ∀ d ∈ [D.int 0, .int 1, .int (-1), .int 9, .int 10, .int 99, .int (-100), .int 7], ∃ i : Int, d = .int i ∧ i.natAbs ≤ 1000 := by
          intro d hd
          simp only [List.mem_cons, List.not_mem_nil, or_false] at hd
          rcases hd with rfl | rfl | rfl | rfl | rfl | rfl | rfl | rfl <;> exact ⟨_, rfl, by decide⟩
        exact al d hd
      refine sub_any (fun d => ∃ i : Int, d = .int i ∧ i.natAbs ≤ 1000) s0 (by simpa using s1) (fun e he => ?_) ?_
      · rcases List.mem_cons.mp he with rfl | he
        · exact hd
        · rw [List.mem_singleton.mp he]
          exact ⟨_, rfl, by omega⟩
      · rintro e ⟨i, rfl, hi⟩
        exact num i hi
    unfold c__law_term
    refine st_asgE (e_ife (evt_ok _ rfl trivial ?_))
    by_cases lp : l > 0
    · rw [if_pos (by simpa using lp)]
      refine e_call rfl trivial (drawD ⟨by decide, by decide⟩ fun r r0 r1 => ?_)
      simp only [List.set_cons_succ, List.set_cons_zero]
      by_cases r4 : r = 4
      · subst r4
        exact leaf
      · have el : l.toNat = (l - 1).toNat + 1 := by omega
        have eb : bd l.toNat = bd (l - 1).toNat ^ 3 := by rw [el]; rfl
        have bb := (bd_2 (l := (l - 1).toNat) (by omega)).2
        rw [eb] at b0 fin
        rw [el] at fin
        obtain ⟨B, hB⟩ : ∃ B, bd (l - 1).toNat = B := ⟨_, rfl⟩
        rw [hB] at bb b0 fin
        have p2 : B * B ≤ B ^ 3 := by
          rw [Nat.pow_succ, Nat.pow_succ, Nat.pow_succ, Nat.pow_zero, Nat.one_mul]
          exact Nat.le_mul_of_pos_right _ (by omega)
        have p1 : B + B ≤ B ^ 3 := by
          have := Nat.mul_le_mul_right B (show 2 ≤ B by omega)
          omega
        unfold c__law_term_r4
        refine st_ite rfl trivial (fun z => absurd (of_decide_eq_true z) r4) fun _ => ?_
        rw [wSs]
        dsimp only
        unfold c__law_term_r3
        refine st_asgE (e_call rfl trivial ⟨⟨by omega, by omega, by omega⟩, fun t x ht => ?_⟩)
        simp only [List.set_cons_succ, List.set_cons_zero]
        unfold c__law_term_r2
        refine st_ite rfl trivial (fun _ => ?_) fun r3 => ?_
        · refine st_retE (e_tup (a_cons (ev_ok _ rfl trivial (a_cons (ev_ok _ rfl trivial (a_cons (e_call rfl trivial (drawD ⟨by decide, by decide⟩ fun k k0 k1 => a_nil ?_))))))))
          rw [hB] at ht
          obtain ⟨z, hz⟩ := Tm.power (e := 3) (b := B ^ 3) ht k0 (by omega) (by decide) (by rw [show max B 1 = B by omega]; exact Nat.le_refl _) b0.2
          exact fin _ _ hz
        · rw [wSs]
          dsimp only
          unfold c__law_term_r1
          have r3 : r ≠ 3 := of_decide_eq_false r3
          refine st_retE (e_tup (a_cons (e_sub (ev_ok _ rfl trivial (ev_ok _ rfl trivial (sub_any (fun d => d = .str "sum" ∨ d = .str "less" ∨ d = .str "times") r0 (by simp; omega) (by simp) fun d hd => a_cons (ev_ok _ rfl trivial (a_cons (e_call rfl trivial ⟨⟨by omega, by omega, by omega⟩, fun u y hu => a_nil ?_⟩)))))))))
          rw [hB] at ht hu
          have go : ∀ {w : Str} {z : Int}, Tm (B ^ 3) (max (l - 1).toNat (l - 1).toNat + 1) (.tup [.str w, t, u]) z → Out Q (.tup [.str w, t, u]) h := fun hz => fin _ _ (by rwa [Nat.max_self] at hz)
          rcases hd with rfl | rfl | rfl
          · obtain ⟨z, hz⟩ := Tm.sum (b := B ^ 3) ht hu p1 b0.2
            exact go hz
          · obtain ⟨z, hz⟩ := Tm.less (b := B ^ 3) ht hu p1 b0.2
            exact go hz
          · obtain ⟨z, hz⟩ := Tm.times (b := B ^ 3) ht hu p2 b0.2
            exact go hz
    · rw [if_neg (by simpa using lp)]
      refine ev_ok _ rfl trivial ?_
      simp only [List.set_cons_succ, List.set_cons_zero]
      exact leaf
  · exact q.elim
end K07

/-! Law k07: drawn numbers, far terms, statements. -/
namespace K07
open PySem PySem.Spec PyProof.Rows G
open L2 hiding wE wT

def sp_worth_of : Spd := spR_worth_of 40
def sp__law_worth : Spd := spR__law_worth 40
def sp__law_term : Spd := spR__law_term 3
/-! ### far, great -/
abbrev N__law_far : List Str := ["_law_deck_here", "_law_top", "_law_way"]
def c__law_far_r1 : Sts := (.cons (.ret (.blt .min (.cons (.var 1) (.cons (.bin .Add (.bin .Mult (.call "_law_draw" ["_law_deck_here", "_law_many"] sp__law_draw (.cons (.var 0) (.cons (.cst (.int 1000001)) .nil))) (.bin .Pow (.cst (.int 10)) (.cst (.int 6)))) (.call "_law_draw" ["_law_deck_here", "_law_many"] sp__law_draw (.cons (.var 0) (.cons (.bin .Pow (.cst (.int 10)) (.cst (.int 6))) .nil)))) .nil))))
  .nil)
def c__law_far_r2 : Sts := (.cons (.ite (.val (.cmp .Lt (.var 2) (.cst (.int 2))))
  (.cons (.ret (.call "_law_draw" ["_law_deck_here", "_law_many"] sp__law_draw (.cons (.var 0) (.cons (.sub (.lst (.cons (.cst (.int 12)) (.cons (.cst (.int 1000)) .nil))) (.var 2)) .nil))))
    .nil)
  .nil)
  c__law_far_r1)
def c__law_far : Sts := (.cons (.asg (.nm 2) (.call "_law_draw" ["_law_deck_here", "_law_many"] sp__law_draw (.cons (.var 0) (.cons (.cst (.int 4)) .nil))))
  c__law_far_r2)
def sp__law_far : Spd := fun ds h Q => match ds with
  | [.deck, .int t] => t = 1000000000000 ∧ ∀ i : Nat, i ≤ 1000000000000 → Q (.int (i : Nat)) h
  | _ => False
theorem b__law_far (ds : List D) (h : Hd) (Q : Pq) (q : sp__law_far ds h Q) : wSs c__law_far { nx := fun _ h' => Out Q .non h', rt := Out Q } (startD N__law_far ds) h := by
  unfold sp__law_far at q
  split at q
  · rename_i t
    obtain ⟨rfl, q⟩ := q
    have fin : ∀ i : Int, 0 ≤ i → i ≤ 1000000000000 → Out Q (.int i) h := fun i h0 h1 => by
      obtain ⟨k, rfl⟩ := Int.eq_ofNat_of_zero_le h0
      exact .is (Hd.le.refl _) (q k (by omega))
    show wSs c__law_far _ [some .deck, some (.int 1000000000000), none] h
    unfold c__law_far
    refine st_asgE (e_call rfl trivial (drawD ⟨by decide, by decide⟩ fun r r0 r1 => ?_))
    simp only [List.set_cons_succ, List.set_cons_zero]
    unfold c__law_far_r2
    refine st_ite rfl trivial (fun z => ?_) fun z => ?_
    · have z : r < 2 := of_decide_eq_true z
      refine st_retE (e_callA (a_cons (ev_ok _ rfl trivial (a_cons (e_sub (ev_ok _ rfl trivial (ev_ok _ rfl trivial (sub_any (fun d => d = .int 12 ∨ d = .int 1000) r0 (by simpa using z) (by simp) ?_))))))))
      rintro d (rfl | rfl)
      · exact a_nil (drawD ⟨by decide, by decide⟩ fun s s0 s1 => fin s s0 (by omega))
      · exact a_nil (drawD ⟨by decide, by decide⟩ fun s s0 s1 => fin s s0 (by omega))
    · rw [wSs]
      dsimp only
      unfold c__law_far_r1
      have e6 : (10 : Int) ^ (6 : Int).toNat = 1000000 := by decide
      refine st_retE (e_blt (a_cons (ev_ok _ rfl trivial (a_cons (e_bin (e_bin (e_call rfl trivial (drawD ⟨by decide, by decide⟩ fun s s0 s1 => ev_ok _ rfl ⟨⟨by decide, by decide, by decide⟩, trivial⟩ (w_mul.mpr ⟨.inr (.inl (by decide)), e_call rfl ⟨⟨by decide, by decide, by decide⟩, trivial⟩ (drawD ⟨by decide, by decide⟩ fun u u0 u1 => w_add.mpr (a_nil ?_))⟩)))))))))
      rw [e6] at u1 ⊢
      simp only [bltD]
      split
      · exact fin _ (by omega) (by omega)
      · exact fin _ (by omega) (by omega)
  · exact q.elim
abbrev N__law_great : List Str := ["_law_deck_here", "_law_found", "_law_k"]
def c__law_great_r1 : Sts := (.cons (.ret (.sub (.lst (.cons (.var 1) (.cons (.bin .Sub (.cst (.int 0)) (.var 1)) .nil))) (.call "_law_draw" ["_law_deck_here", "_law_many"] sp__law_draw (.cons (.var 0) (.cons (.cst (.int 2)) .nil)))))
  .nil)
def c__law_great_b2 : Sts := (.cons (.asg (.nm 1) (.bin .Add (.bin .Mult (.var 1) (.bin .Pow (.cst (.int 10)) (.cst (.int 6)))) (.call "_law_draw" ["_law_deck_here", "_law_many"] sp__law_draw (.cons (.var 0) (.cons (.bin .Pow (.cst (.int 10)) (.cst (.int 6))) .nil)))))
    .nil)
def c__law_great_r3 : Sts := (.cons (.for (.nm 2) (.rng1 (.call "_law_draw" ["_law_deck_here", "_law_many"] sp__law_draw (.cons (.var 0) (.cons (.cst (.int 9)) .nil))))
  c__law_great_b2)
  c__law_great_r1)
def c__law_great : Sts := (.cons (.asg (.nm 1) (.bin .Add (.cst (.int 1)) (.call "_law_draw" ["_law_deck_here", "_law_many"] sp__law_draw (.cons (.var 0) (.cons (.cst (.int 9)) .nil)))))
  c__law_great_r3)
def sp__law_great : Spd := fun ds h Q => match ds with
  | [.deck] => ∀ i : Int, i.natAbs ≤ 10 ^ 49 → Q (.int i) h
  | _ => False
theorem b__law_great (ds : List D) (h : Hd) (Q : Pq) (q : sp__law_great ds h Q) : wSs c__law_great { nx := fun _ h' => Out Q .non h', rt := Out Q } (startD N__law_great ds) h := by
  unfold sp__law_great at q
  split at q
  · have e6 : (10 : Int) ^ (6 : Int).toNat = 1000000 := by decide
    show wSs c__law_great _ [some .deck, none, none] h
    unfold c__law_great
    refine st_asgE (e_bin (ev_ok _ rfl trivial (e_call rfl trivial (drawD ⟨by decide, by decide⟩ fun r r0 r1 => w_add.mpr ?_))))
    simp only [List.set_cons_succ, List.set_cons_zero]
    unfold c__law_great_r3
    refine st_forE ?_
    rw [wI]
    refine e_call rfl trivial (drawD ⟨by decide, by decide⟩ fun s s0 s1 => ⟨by omega, ?_⟩)
    refine forL_rng (fun i σ g => ∃ (v : Int) (x2 : Option D), σ = [some .deck, some (.int v), x2] ∧ g = h ∧ 1 ≤ v ∧ v < 10 ^ (1 + 6 * i)) ?_ ?_ ⟨_, none, rfl, rfl, by omega, by omega⟩
    · rintro σ g ⟨v, x2, rfl, rfl, v1, v2⟩
      refine ⟨trivial, ?_⟩
      have v3 : v.natAbs ≤ 10 ^ 49 := by
        have h1 : (10 : Int) ^ (1 + 6 * s.toNat) ≤ 10 ^ 49 := by
          have := Nat.pow_le_pow_right (show 0 < 10 by decide) (show 1 + 6 * s.toNat ≤ 49 by omega)
          exact_mod_cast this
        omega
      unfold c__law_great_r1
      refine st_retE (e_sub (ev_ok _ rfl trivial (e_call rfl trivial (drawD ⟨by decide, by decide⟩ fun u u0 u1 => sub_any (fun d => d = .int v ∨ d = .int (0 - v)) u0 (by simpa using u1) (by simp) ?_))))
      rintro d (rfl | rfl)
      · exact .is (Hd.le.refl _) (q v v3)
      · exact .is (Hd.le.refl _) (q _ (by omega))
    · rintro i σ g C hi ⟨v, x2, rfl, rfl, v1, v2⟩ hC
      refine ⟨trivial, ?_⟩
      simp only [gT, List.set_cons_succ, List.set_cons_zero]
      unfold c__law_great_b2
      refine st_asgE (e_bin (ev_ok _ rfl ⟨⟨by decide, by decide, by decide⟩, .inr (.inl (by decide)), trivial⟩ (e_call rfl ⟨⟨by decide, by decide, by decide⟩, trivial⟩ (drawD ⟨by decide, by decide⟩ fun u u0 u1 => w_add.mpr ?_))))
      rw [e6] at u1 ⊢
      rw [wSs]
      refine hC _ _ ⟨_, _, rfl, rfl, by omega, ?_⟩
      have : (10 : Int) ^ (1 + 6 * (i + 1)) = 10 ^ (1 + 6 * i) * 1000000 := by
        rw [show 1 + 6 * (i + 1) = (1 + 6 * i) + 6 by omega, Int.pow_add]
        rfl
      rw [this]
      omega
  · exact q.elim
/-! ### far terms -/
def B60 : Nat := 99 ^ 60
theorem b60 : B60 + 1000 < 10 ^ 120 ∧ 10 ^ 98 < B60 := by decide +kernel
abbrev N__law_far_term : List Str := ["_law_deck_here", "_law_way", "_law_t", "_law_k", "_law_here"]
def c__law_far_term_r1 : Sts := (.cons (.ret (.var 2))
  .nil)
def c__law_far_term_r2 : Sts := (.cons (.asg (.nm 2) (.sub (.lst (.cons (.tup (.cons (.cst (.str "sum")) (.cons (.var 2) (.cons (.var 4) .nil)))) (.cons (.tup (.cons (.cst (.str "less")) (.cons (.var 4) (.cons (.var 2) .nil)))) (.cons (.tup (.cons (.cst (.str "power")) (.cons (.var 2) (.cons (.cst (.int 1)) .nil)))) .nil)))) (.call "_law_draw" ["_law_deck_here", "_law_many"] sp__law_draw (.cons (.var 0) (.cons (.cst (.int 3)) .nil)))))
    .nil)
def c__law_far_term_b3 : Sts := (.cons (.asg (.nm 4) (.call "_law_draw" ["_law_deck_here", "_law_many"] sp__law_draw (.cons (.var 0) (.cons (.cst (.int 1000)) .nil))))
    c__law_far_term_r2)
def c__law_far_term_r4 : Sts := (.cons (.for (.nm 3) (.rng1 (.bin .Mult (.cst (.int 20)) (.blt .int (.cons (.cmp .Eq (.var 1) (.cst (.int 2))) .nil))))
  c__law_far_term_b3)
  c__law_far_term_r1)
def c__law_far_term_r5 : Sts := (.cons (.asg (.nm 2) (.call "_law_term" ["_law_deck_here", "_law_layers"] sp__law_term (.cons (.var 0) (.cons (.cst (.int 2)) .nil))))
  c__law_far_term_r4)
def c__law_far_term_r6 : Sts := (.cons (.ite (.val (.cmp .Eq (.var 1) (.cst (.int 1))))
  (.cons (.ret (.tup (.cons (.cst (.str "power")) (.cons (.bin .Sub (.call "_law_draw" ["_law_deck_here", "_law_many"] sp__law_draw (.cons (.var 0) (.cons (.cst (.int 199)) .nil))) (.cst (.int 99))) (.cons (.call "_law_draw" ["_law_deck_here", "_law_many"] sp__law_draw (.cons (.var 0) (.cons (.cst (.int 61)) .nil))) .nil)))))
    .nil)
  .nil)
  c__law_far_term_r5)
def c__law_far_term_r7 : Sts := (.cons (.ite (.val (.cmp .Eq (.var 1) (.cst (.int 0))))
  (.cons (.ret (.tup (.cons (.cst (.str "times")) (.cons (.call "_law_great" ["_law_deck_here"] sp__law_great (.cons (.var 0) .nil)) (.cons (.call "_law_great" ["_law_deck_here"] sp__law_great (.cons (.var 0) .nil)) .nil)))))
    .nil)
  .nil)
  c__law_far_term_r6)
def c__law_far_term : Sts := (.cons (.asg (.nm 1) (.call "_law_draw" ["_law_deck_here", "_law_many"] sp__law_draw (.cons (.var 0) (.cons (.cst (.int 5)) .nil))))
  c__law_far_term_r7)
def sp__law_far_term : Spd := fun ds h Q => match ds with
  | [.deck] => ∀ d x, Tm B60 25 d x → Q d h
  | _ => False
theorem b__law_far_term (ds : List D) (h : Hd) (Q : Pq) (q : sp__law_far_term ds h Q) : wSs c__law_far_term { nx := fun _ h' => Out Q .non h', rt := Out Q } (startD N__law_far_term ds) h := by
  unfold sp__law_far_term at q
  split at q
  · have p1 := b60.1
    have p2 := b60.2
    have p27 : 10 ^ 27 + 100000 < 10 ^ 98 := by decide +kernel
    have fin : ∀ d x, Tm B60 25 d x → Out Q d h := fun d x t => .is (Hd.le.refl _) (q d x t)
    show wSs c__law_far_term _ [some .deck, none, none, none, none] h
    unfold c__law_far_term
    refine st_asgE (e_call rfl trivial (drawD ⟨by decide, by decide⟩ fun r r0 r1 => ?_))
    simp only [List.set_cons_succ, List.set_cons_zero]
    unfold c__law_far_term_r7
    refine st_ite rfl trivial (fun _ => ?_) fun _ => ?_
    · refine st_retE (e_tup (a_cons (ev_ok _ rfl trivial (a_cons (e_call rfl trivial fun i hi => a_cons (e_call rfl trivial fun j hj => a_nil ?_))))))
      obtain ⟨z, hz⟩ := Tm.times (b := B60) (.int hi (by decide +kernel)) (.int hj (by decide +kernel)) (by rw [← Nat.pow_add]; omega) (by omega)
      exact fin _ _ (hz.up (Nat.le_refl _) (by omega))
    · rw [wSs]
      dsimp only
      unfold c__law_far_term_r6
      refine st_ite rfl trivial (fun _ => ?_) fun _ => ?_
      · refine st_retE (e_tup (a_cons (ev_ok _ rfl trivial (a_cons (e_bin (e_call rfl trivial (drawD ⟨by decide, by decide⟩ fun i i0 i1 => ev_ok _ rfl trivial (w_sub.mpr (a_cons (e_call rfl trivial (drawD ⟨by decide, by decide⟩ fun j j0 j1 => a_nil ?_)))))))))))
        obtain ⟨z, hz⟩ := Tm.power (b := B60) (e := 60) (k := j) (.int (b := 99) (i := i - 99) (by omega) (by decide +kernel)) j0 (by omega) (by decide) (by unfold B60; decide +kernel) (by omega)
        exact fin _ _ (hz.up (Nat.le_refl _) (by omega))
      · rw [wSs]
        dsimp only
        unfold c__law_far_term_r5
        refine st_asgE (e_call rfl trivial ⟨⟨by decide, by decide, by decide⟩, fun t x ht => ?_⟩)
        have ht : Tm (10 ^ 27) 2 t x := ht.up (bd_2 (by decide)).1 (by decide)
        simp only [List.set_cons_succ, List.set_cons_zero]
        unfold c__law_far_term_r4
        refine st_forE ?_
        rw [wI]
        refine e_bin (ev_ok _ rfl trivial (e_blt (a_cons (ev_ok _ rfl trivial (a_nil (int_bl (w_mul.mpr ⟨.inl (by decide), ?_⟩)))))))
        have m20 : (20 * (if decide (r = 2) = true then (1 : Int) else 0)).toNat ≤ 20 := by split <;> decide
        refine ⟨by split <;> decide, ?_⟩
        generalize (20 * (if decide (r = 2) = true then (1 : Int) else 0)).toNat = m at m20
        refine forL_rng (fun i σ g => ∃ (t : D) (x : Int) (x3 x4 : Option D), σ = [some .deck, some (.int r), some t, x3, x4] ∧ g = h ∧ Tm (10 ^ 27 + 1000 * i) (2 + i) t x) ?_ ?_ ⟨t, x, none, none, rfl, rfl, ht⟩
        · rintro σ g ⟨t, x, x3, x4, rfl, rfl, ht⟩
          refine ⟨trivial, ?_⟩
          unfold c__law_far_term_r1
          exact st_ret rfl trivial (fin _ _ (ht.up (by omega) (by omega)))
        · rintro i σ g C hi ⟨t, x, x3, x4, rfl, rfl, ht⟩ hC
          refine ⟨trivial, ?_⟩
          simp only [gT, List.set_cons_succ, List.set_cons_zero]
          unfold c__law_far_term_b3
          refine st_asgE (e_call rfl trivial (drawD ⟨by decide, by decide⟩ fun s s0 s1 => ?_))
          simp only [List.set_cons_succ, List.set_cons_zero]
          unfold c__law_far_term_r2
          refine st_asgE (e_sub (ev_ok _ rfl trivial (e_call rfl trivial (drawD ⟨by decide, by decide⟩ fun u u0 u1 => sub_any (fun d => d = .tup [.str "sum", t, .int s] ∨ d = .tup [.str "less", .int s, t] ∨ d = .tup [.str "power", t, .int 1]) u0 (by simpa using u1) (by simp) fun d hd => ?_))))
          rw [wSs]
          have ki : Tm 1000 0 (.int s) s := .int (by omega) (by decide +kernel)
          obtain ⟨z, hz⟩ : ∃ z, Tm (10 ^ 27 + 1000 * (i + 1)) (2 + (i + 1)) d z := by
            rcases hd with rfl | rfl | rfl
            · obtain ⟨z, hz⟩ := Tm.sum (b := 10 ^ 27 + 1000 * (i + 1)) ht ki (by omega) (by omega)
              exact ⟨z, hz.up (Nat.le_refl _) (by omega)⟩
            · obtain ⟨z, hz⟩ := Tm.less (b := 10 ^ 27 + 1000 * (i + 1)) ki ht (by omega) (by omega)
              exact ⟨z, hz.up (Nat.le_refl _) (by omega)⟩
            · obtain ⟨z, hz⟩ := Tm.power (b := 10 ^ 27 + 1000 * (i + 1)) (e := 1) (k := 1) ht (by decide) (by decide) (by decide) (by rw [Nat.pow_one]; omega) (by omega)
              exact ⟨z, hz.up (Nat.le_refl _) (by omega)⟩
          exact hC _ _ ⟨d, z, _, _, rfl, rfl, hz⟩
  · exact q.elim
/-! ### statements -/
inductive Sk : D → Bool → Prop where
  | same {t u : D} {x y : Int} (ht : Tt t x) (hu : Tt u y) : Sk (.tup [.str "same", t, u]) (decide (x = y))
  | below {t u : D} {x y : Int} (ht : Tt t x) (hu : Tt u y) : Sk (.tup [.str "below", t, u]) (decide (x < y))
  | row {a b : Nat} {ps : List Int} (ha : a ≤ 1000000000000) (hb : b ≤ 1000000000000) : Sk (.tup [.str "row", .int (a : Nat), .int (b : Nat), .tup (ps.map D.int)]) (decide (quots a b = ps))
  | count {n : Nat} {k : Int} (hn : n ≤ 2000) : Sk (.tup [.str "count", .int (n : Nat), .int k]) (decide (((cntP (n + 1) : Nat) : Int) = k))
abbrev N__law_of_terms : List Str := ["_law_deck_here", "_law_off", "_law_kind", "_law_t", "_law_u"]
def c__law_of_terms_r1 : Sts := (.cons (.ret (.ife (.val (.cmp .Eq (.call "_law_draw" ["_law_deck_here", "_law_many"] sp__law_draw (.cons (.var 0) (.cons (.cst (.int 2)) .nil))) (.cst (.int 0)))) (.tup (.cons (.var 2) (.cons (.var 3) (.cons (.var 4) .nil)))) (.tup (.cons (.var 2) (.cons (.var 4) (.cons (.var 3) .nil))))))
  .nil)
def c__law_of_terms_r2 : Sts := (.cons (.ite (.val (.cmp .Eq (.call "_law_draw" ["_law_deck_here", "_law_many"] sp__law_draw (.cons (.var 0) (.cons (.cst (.int 3)) .nil))) (.cst (.int 1))))
  (.cons (.asg (.nm 4) (.tup (.cons (.cst (.str "sum")) (.cons (.bin .Sub (.var 4) (.cst (.int 7))) (.cons (.cst (.int 7)) .nil)))))
    .nil)
  .nil)
  c__law_of_terms_r1)
def c__law_of_terms_r3 : Sts := (.cons (.asg (.nm 4) (.bin .Add (.call "_law_worth" ["_law_t"] sp__law_worth (.cons (.var 3) .nil)) (.var 1)))
  c__law_of_terms_r2)
def c__law_of_terms_r4 : Sts := (.cons (.asg (.nm 3) (.call "_law_far_term" ["_law_deck_here"] sp__law_far_term (.cons (.var 0) .nil)))
  c__law_of_terms_r3)
def c__law_of_terms : Sts := (.cons (.asg (.nm 2) (.sub (.lst (.cons (.cst (.str "same")) (.cons (.cst (.str "below")) .nil))) (.call "_law_draw" ["_law_deck_here", "_law_many"] sp__law_draw (.cons (.var 0) (.cons (.cst (.int 2)) .nil)))))
  c__law_of_terms_r4)
def sp__law_of_terms : Spd := fun ds h Q => match ds with
  | [.deck, .int f] => f.natAbs ≤ 1 ∧ ∀ d b, Sk d b → Q d h
  | _ => False
theorem b__law_of_terms (ds : List D) (h : Hd) (Q : Pq) (q : sp__law_of_terms ds h Q) : wSs c__law_of_terms { nx := fun _ h' => Out Q .non h', rt := Out Q } (startD N__law_of_terms ds) h := by
  unfold sp__law_of_terms at q
  split at q
  · rename_i f
    obtain ⟨f1, q⟩ := q
    have p1 := b60.1
    show wSs c__law_of_terms _ [some .deck, some (.int f), none, none, none] h
    unfold c__law_of_terms
    refine st_asgE (e_sub (ev_ok _ rfl trivial (e_call rfl trivial (drawD ⟨by decide, by decide⟩ fun r r0 r1 => sub_any (fun d => d = .str "same" ∨ d = .str "below") r0 (by simpa using r1) (by simp) fun w hw => ?_))))
    simp only [List.set_cons_succ, List.set_cons_zero]
    unfold c__law_of_terms_r4
    refine st_asgE (e_call rfl trivial fun t x ht => ?_)
    simp only [List.set_cons_succ, List.set_cons_zero]
    have hd := ht.dp
    have hl := ht.l
    unfold c__law_of_terms_r3
    refine st_asgE (e_bin (e_call rfl trivial ⟨x, ⟨ht.t, ht.w, by omega⟩, ev_ok _ rfl trivial (w_add.mpr ?_)⟩))
    simp only [List.set_cons_succ, List.set_cons_zero]
    have go : ∀ u y, Tm (B60 + 20) 2 u y → wSs c__law_of_terms_r1 { nx := fun _ h' => Out Q .non h', rt := Out Q } [some .deck, some (.int f), some w, some t, some u] h := by
      intro u y hu
      have tt := ht.tt (by decide)
      have tu := hu.tt (by decide)
      unfold c__law_of_terms_r1
      refine st_retE (e_ife (t_val (e_cmp (e_call rfl trivial (drawD ⟨by decide, by decide⟩ fun s s0 s1 => ev_ok _ rfl trivial (w_eq.mpr (w_truth.mpr ?_)))))))
      split
      · refine ev_ok _ rfl trivial (.is (Hd.le.refl _) ?_)
        rcases hw with rfl | rfl
        · exact q _ _ (.same tt tu)
        · exact q _ _ (.below tt tu)
      · refine ev_ok _ rfl trivial (.is (Hd.le.refl _) ?_)
        rcases hw with rfl | rfl
        · exact q _ _ (.same tu tt)
        · exact q _ _ (.below tu tt)
    unfold c__law_of_terms_r2
    refine st_iteE (t_val (e_cmp (e_call rfl trivial (drawD ⟨by decide, by decide⟩ fun s s0 s1 => ev_ok _ rfl trivial (w_eq.mpr (w_truth.mpr ?_))))))
    split
    · refine st_asg rfl trivial ?_
      simp only [List.set_cons_succ, List.set_cons_zero]
      rw [wSs]
      obtain ⟨z, hz⟩ := Tm.sum (b := B60 + 20) (.int (b := B60 + 10) (i := x + f - 7) (by omega) (by omega)) (.int (b := 7) (i := 7) (by decide) (by decide +kernel)) (by omega) (by omega)
      exact go _ _ (hz.up (Nat.le_refl _) (by omega))
    · rw [wSs]
      exact go _ (x + f) (Tm.up (.int (b := B60 + 10) (by omega) (by omega)) (by omega) (by omega))
  · exact q.elim
end K07

/-! Law k07: rows and counts; whether it is so. -/
namespace K07
open PySem PySem.Spec PyProof.Rows G
open L2 hiding wE wT

theorem at_end (ks : List Int) (x : Int) : atI ((ks ++ [x]).map D.int) (-1) = some (.int x) := by
  rw [List.map_append]
  unfold L2.atI
  have e : ixN (ks.map D.int ++ [x].map D.int).length (-1) = some ks.length := by
    unfold ixN
    rw [if_neg (by decide), if_pos (by simp only [List.length_append, List.length_map, List.length_cons, List.length_nil]; omega)]
    simp only [List.length_append, List.length_map, List.length_cons, List.length_nil]
    congr 1
    omega
  rw [e]
  simp
theorem at_in {ns : List Int} {j : Int} (h0 : 0 ≤ j) (h1 : j < ns.length) : ∃ x, atI (ns.map D.int) j = some (.int x) := by
  obtain ⟨d, hd, e⟩ := atI_of (xs := ns.map D.int) h0 (by rw [List.length_map]; exact h1)
  obtain ⟨x, _, rfl⟩ := List.mem_map.mp hd
  exact ⟨x, e⟩
/-- a tuple of whole numbers -/
def Ts (d : D) : Prop := ∃ ps : List Int, d = .tup (ps.map D.int)
theorem ts_app {xs ys : List D} (h : ∃ ps : List Int, xs = ps.map D.int) (k : ∃ ps : List Int, ys = ps.map D.int) : ∃ ps : List Int, xs ++ ys = ps.map D.int := by
  obtain ⟨ps, rfl⟩ := h
  obtain ⟨qs, rfl⟩ := k
  exact ⟨ps ++ qs, by rw [List.map_append]⟩
theorem ts_cut {ns : List Int} {lo hi : Option Int} : ∃ ps : List Int, cutD (ns.map D.int) lo hi = ps.map D.int := by
  obtain ⟨ms, e, _⟩ := cut_ints ns lo hi
  exact ⟨ms, e⟩
theorem ts_1 {x : Int} : ∃ ps : List Int, [D.int x] = ps.map D.int := ⟨[x], rfl⟩
abbrev N__law_of_row : List Str := ["_law_deck_here", "_law_off", "_law_a", "_law_b", "_law_parts", "_law_at", "_law_some", "_law_near"]
def c__law_of_row_r1 : Sts := (.cons (.ret (.tup (.cons (.cst (.str "row")) (.cons (.var 2) (.cons (.var 3) (.cons (.ife (.val (.cmp .NotEq (.var 1) (.cst (.int 0)))) (.sub (.var 6) (.call "_law_draw" ["_law_deck_here", "_law_many"] sp__law_draw (.cons (.var 0) (.cons (.cst (.int 7)) .nil)))) (.var 4)) .nil))))))
  .nil)
def c__law_of_row_r2 : Sts := (.cons (.asg (.nm 6) (.bin .Add (.var 6) (.lst (.cons (.bin .Add (.bin .Add (.sl (.var 4) .none (.some (.var 5))) (.tup (.cons (.var 7) .nil))) (.sl (.var 4) (.some (.bin .Add (.var 5) (.cst (.int 1)))) .none)) (.cons (.bin .Add (.bin .Add (.sl (.var 4) .none (.some (.var 5))) (.tup (.cons (.bin .Sub (.cst (.int 0)) (.sub (.var 4) (.var 5))) .nil))) (.sl (.var 4) (.some (.bin .Add (.var 5) (.cst (.int 1)))) .none)) .nil)))))
  c__law_of_row_r1)
def c__law_of_row_r3 : Sts := (.cons (.asg (.nm 7) (.blt .min (.cons (.bin .Pow (.cst (.int 10)) (.cst (.int 12))) (.cons (.bin .Add (.sub (.var 4) (.var 5)) (.var 1)) .nil))))
  c__law_of_row_r2)
def c__law_of_row_r4 : Sts := (.cons (.asg (.nm 6) (.lst (.cons (.bin .Add (.sl (.var 4) .none (.some (.neg (.cst (.int 1))))) (.tup (.cons (.bin .Sub (.sub (.var 4) (.neg (.cst (.int 1)))) (.cst (.int 1))) (.cons (.cst (.int 1)) .nil)))) (.cons (.bin .Add (.sl (.var 4) .none (.some (.var 5))) (.sl (.var 4) (.some (.bin .Add (.var 5) (.cst (.int 1)))) .none)) (.cons (.bin .Add (.var 4) (.tup (.cons (.cst (.int 1)) .nil))) (.cons (.tup .nil) (.cons (.rev false (.var 4)) .nil)))))))
  c__law_of_row_r3)
def c__law_of_row_r5 : Sts := (.cons (.asg (.nm 5) (.call "_law_draw" ["_law_deck_here", "_law_many"] sp__law_draw (.cons (.var 0) (.cons (.blt .len (.cons (.var 4) .nil)) .nil))))
  c__law_of_row_r4)
def c__law_of_row_r6 : Sts := (.cons (.asg (.nm 4) (.call "_law_quotients" ["_law_a", "_law_b"] sp__law_quotients (.cons (.var 2) (.cons (.var 3) .nil))))
  c__law_of_row_r5)
def c__law_of_row : Sts := (.cons (.par [2, 3] (.cons (.call "_law_far" ["_law_deck_here", "_law_top"] sp__law_far (.cons (.var 0) (.cons (.bin .Pow (.cst (.int 10)) (.cst (.int 12))) .nil))) (.cons (.blt .max (.cons (.cst (.int 1)) (.cons (.call "_law_far" ["_law_deck_here", "_law_top"] sp__law_far (.cons (.var 0) (.cons (.bin .Pow (.cst (.int 10)) (.cst (.int 12))) .nil))) .nil))) .nil)))
  c__law_of_row_r6)
def sp__law_of_row : Spd := fun ds h Q => match ds with
  | [.deck, .int f] => f.natAbs ≤ 1 ∧ ∀ d b, Sk d b → Q d h
  | _ => False
section
variable {h : Hd} {Q : Pq} {x5 x6 x7 : Option D} {f : Int} {a b : Nat}
theorem row_r3 {ns : List Int} {j : Int} {F : List D} (q : ∀ d b, Sk d b → Q d h) (al : a ≤ 1000000000000) (bl : b ≤ 1000000000000) (nl : ns.length ≤ 100) (j0 : 0 ≤ j) (j1 : j < ns.length) (fl : F.length = 5) (hF : ∀ d ∈ F, Ts d) :
    wSs c__law_of_row_r3 { nx := fun _ h' => Out Q .non h', rt := Out Q } [some .deck, some (.int f), some (.int (a : Nat)), some (.int (b : Nat)), some (.tup (ns.map D.int)), some (.int j), some (.lst F), x7] h := by
  have sl : sizeLine = 16777216 := sizeLine_eq
  obtain ⟨x, ex⟩ := at_in j0 j1
  unfold c__law_of_row_r3
  refine st_asgE (e_blt (a_cons (ev_ok _ rfl ⟨⟨by decide, by decide, by decide⟩, trivial⟩ (a_cons (e_bin (e_sub (ev_ok _ rfl trivial (ev_ok _ rfl trivial ((w_subT ex).mpr (ev_ok _ rfl trivial (w_add.mpr (a_nil ?_))))))))))))
  simp only [bltD]
  generalize (if x + f < (10 : Int) ^ (12 : Int).toNat then x + f else (10 : Int) ^ (12 : Int).toNat) = y
  simp only [List.set_cons_succ, List.set_cons_zero]
  have c1 := cutD_length (ns.map D.int) none (some j)
  have c2 := cutD_length (ns.map D.int) (some (j + 1)) none
  rw [List.length_map] at c1 c2
  unfold c__law_of_row_r2
  refine st_asgE (e_bin (ev_ok _ rfl trivial (e_lst (a_cons (e_bin (e_bin (e_sl (ev_ok _ rfl trivial (o_none (o_int rfl trivial (sl_tup (ev_ok _ rfl trivial (w_addT.mpr ⟨by simp only [List.length_cons, List.length_nil]; omega, e_sl (ev_ok _ rfl trivial (o_int rfl trivial (o_none (sl_tup (w_addT.mpr ⟨by simp only [List.length_append, List.length_cons, List.length_nil]; omega, a_cons (e_bin (e_bin (e_sl (ev_ok _ rfl trivial (o_none (o_int rfl trivial (sl_tup (e_tup (a_cons (e_bin (ev_ok _ rfl trivial (e_sub (ev_ok _ rfl trivial (ev_ok _ rfl trivial ((w_subT ex).mpr (w_sub.mpr (a_nil (w_addT.mpr ⟨by simp only [List.length_cons, List.length_nil]; omega, e_sl (ev_ok _ rfl trivial (o_int rfl trivial (o_none (sl_tup (w_addT.mpr ⟨by simp only [List.length_append, List.length_cons, List.length_nil]; omega, a_nil (w_addL.mpr ⟨by simp only [List.length_cons, List.length_nil]; omega, ?_⟩)⟩)))))⟩))))))))))))))))))⟩)))))⟩)))))))))))))
  have hG : ∀ d ∈ F ++ [.tup (cutD (ns.map D.int) none (some j) ++ [.int y] ++ cutD (ns.map D.int) (some (j + 1)) none), .tup (cutD (ns.map D.int) none (some j) ++ [.int (0 - x)] ++ cutD (ns.map D.int) (some (j + 1)) none)], Ts d := by
    intro d hd
    rcases List.mem_append.mp hd with hd | hd
    · exact hF d hd
    · simp only [List.mem_cons, List.not_mem_nil, or_false] at hd
      have m : ∀ z : Int, Ts (.tup (cutD (ns.map D.int) none (some j) ++ [.int z] ++ cutD (ns.map D.int) (some (j + 1)) none)) := fun z => by
        obtain ⟨ps, e⟩ := ts_app (ts_app (ts_cut (ns := ns) (lo := none) (hi := some j)) (ts_1 (x := z))) (ts_cut (ns := ns) (lo := some (j + 1)) (hi := none))
        exact ⟨ps, by rw [e]⟩
      rcases hd with rfl | rfl
      · exact m y
      · exact m _
  have gl : (F ++ [D.tup (cutD (ns.map D.int) none (some j) ++ [.int y] ++ cutD (ns.map D.int) (some (j + 1)) none), .tup (cutD (ns.map D.int) none (some j) ++ [.int (0 - x)] ++ cutD (ns.map D.int) (some (j + 1)) none)]).length = 7 := by rw [List.length_append, fl]; rfl
  generalize F ++ [D.tup (cutD (ns.map D.int) none (some j) ++ [.int y] ++ cutD (ns.map D.int) (some (j + 1)) none), .tup (cutD (ns.map D.int) none (some j) ++ [.int (0 - x)] ++ cutD (ns.map D.int) (some (j + 1)) none)] = G2 at hG gl
  simp only [List.set_cons_succ, List.set_cons_zero]
  unfold c__law_of_row_r1
  have fin : ∀ d, Ts d → Out Q (.tup [.str "row", .int (a : Nat), .int (b : Nat), d]) h := fun d ⟨ps, e⟩ => by
    subst e
    exact .is (Hd.le.refl _) (q _ _ (.row al bl))
  refine st_retE (e_tup (a_cons (ev_ok _ rfl trivial (a_cons (ev_ok _ rfl trivial (a_cons (ev_ok _ rfl trivial (a_cons (e_ife (evt_ok _ rfl trivial ?_))))))))))
  split
  · refine e_sub (ev_ok _ rfl trivial (e_call rfl trivial (drawD ⟨by decide, by decide⟩ fun u u0 u1 => sub_any Ts u0 (by rw [gl]; exact u1) hG fun d hd => a_nil ?_)))
    exact fin d hd
  · refine ev_ok _ rfl trivial (a_nil ?_)
    exact fin _ ⟨ns, rfl⟩
end
theorem b__law_of_row (ds : List D) (h : Hd) (Q : Pq) (q : sp__law_of_row ds h Q) : wSs c__law_of_row { nx := fun _ h' => Out Q .non h', rt := Out Q } (startD N__law_of_row ds) h := by
  have sl : sizeLine = 16777216 := sizeLine_eq
  unfold sp__law_of_row at q
  split at q
  · rename_i f
    obtain ⟨f1, q⟩ := q
    show wSs c__law_of_row _ [some .deck, some (.int f), none, none, none, none, none, none] h
    unfold c__law_of_row
    refine st_parE (a_cons (e_call rfl ⟨⟨by decide, by decide, by decide⟩, trivial⟩ ⟨by decide, fun a al => a_cons (e_blt (a_cons (ev_ok _ rfl trivial (a_cons (e_call rfl ⟨⟨by decide, by decide, by decide⟩, trivial⟩ ⟨by decide, fun b bl => a_nil ?_⟩)))))⟩))
    simp only [bltD]
    have eb : ∃ c : Nat, (if ((b : Nat) : Int) > 1 then ((b : Nat) : Int) else 1) = (c : Nat) ∧ 1 ≤ c ∧ c ≤ 1000000000000 := by
      split
      · exact ⟨b, rfl, by omega, bl⟩
      · exact ⟨1, rfl, by omega, by omega⟩
    obtain ⟨c, ec, c1, c2⟩ := eb
    rw [ec]
    refine a_nil ?_
    simp only [setAll, List.set_cons_succ, List.set_cons_zero]
    unfold c__law_of_row_r6
    refine st_asgE (e_call rfl trivial ⟨a, c, ⟨rfl, rfl, al, c2⟩, ?_⟩)
    have ql := quots_len2 (a := a) c2
    have qs : quots a c ≠ [] := by rw [quots_s (by omega)]; simp
    generalize quots a c = ns at ql qs
    rcases nil_or_last ns with rfl | ⟨P, z, rfl⟩
    · exact absurd rfl qs
    rw [List.length_append, List.length_cons, List.length_nil] at ql
    simp only [List.set_cons_succ, List.set_cons_zero]
    unfold c__law_of_row_r5
    refine st_asgE (e_callA (a_cons (ev_ok _ rfl trivial (a_cons (e_blt (a_cons (ev_ok _ rfl trivial (a_nil (w_lenT.mpr (a_nil (drawD ⟨by rw [List.length_map, List.length_append, List.length_cons, List.length_nil]; omega, by rw [List.length_map, List.length_append, List.length_cons, List.length_nil]; omega⟩ fun j j0 j1 => ?_)))))))))))
    rw [List.length_map] at j1
    simp only [List.set_cons_succ, List.set_cons_zero]
    have k1 := cutD_length ((P ++ [z]).map D.int) none (some (-1))
    have k2 := cutD_length ((P ++ [z]).map D.int) none (some j)
    have k3 := cutD_length ((P ++ [z]).map D.int) (some (j + 1)) none
    have kl : ((P ++ [z]).map D.int).length ≤ 81 := by rw [List.length_map, List.length_append, List.length_cons, List.length_nil]; omega
    unfold c__law_of_row_r4
    refine st_asgE (e_lst (a_cons (e_bin (e_sl (ev_ok _ rfl trivial (o_none (o_int rfl trivial (sl_tup (e_tup (a_cons (e_bin (e_sub (ev_ok _ rfl trivial (ev_ok _ rfl trivial ((w_subT (at_end P z)).mpr (ev_ok _ rfl trivial (w_sub.mpr (a_cons (ev_ok _ rfl trivial (a_nil (w_addT.mpr ⟨by simp only [List.length_cons, List.length_nil]; omega, a_cons (e_bin (e_sl (ev_ok _ rfl trivial (o_none (o_int rfl trivial (sl_tup (e_sl (ev_ok _ rfl trivial (o_int rfl trivial (o_none (sl_tup (w_addT.mpr ⟨by omega, a_cons (ev_ok _ rfl ⟨by simp only [List.length_cons, List.length_nil]; omega, trivial⟩ (a_cons (ev_ok _ rfl trivial (a_cons ?_))))⟩))))))))))))⟩)))))))))))))))))))))
    rw [wE]
    refine ev_ok _ rfl trivial ?_
    simp only [vw_tup]
    refine a_nil ?_
    simp only [List.set_cons_succ, List.set_cons_zero]
    refine row_r3 q al c2 (by rw [List.length_append, List.length_cons, List.length_nil]; omega) j0 j1 rfl ?_
    intro d hd
    simp only [List.mem_cons, List.not_mem_nil, or_false] at hd
    rcases hd with rfl | rfl | rfl | rfl | rfl
    · obtain ⟨ps, e⟩ := ts_app (ts_cut (ns := P ++ [z]) (lo := none) (hi := some (-1))) ⟨[z - 1, 1], rfl⟩
      exact ⟨ps, by rw [← e]; rfl⟩
    · obtain ⟨ps, e⟩ := ts_app (ts_cut (ns := P ++ [z]) (lo := none) (hi := some j)) (ts_cut (ns := P ++ [z]) (lo := some (j + 1)) (hi := none))
      exact ⟨ps, by rw [e]⟩
    · obtain ⟨ps, e⟩ := ts_app ⟨P ++ [z], rfl⟩ (ts_1 (x := 1))
      exact ⟨ps, by rw [e]⟩
    · exact ⟨[], rfl⟩
    · exact ⟨(P ++ [z]).reverse, by rw [List.map_reverse]⟩
  · exact q.elim
abbrev N__law_of_count : List Str := ["_law_deck_here", "_law_off", "_law_n"]
def c__law_of_count_r1 : Sts := (.cons (.ret (.tup (.cons (.cst (.str "count")) (.cons (.var 2) (.cons (.blt .max (.cons (.cst (.int 0)) (.cons (.bin .Add (.call "_law_up_to" ["_law_n"] sp__law_up_to (.cons (.var 2) .nil)) (.var 1)) .nil))) .nil)))))
  .nil)
def c__law_of_count : Sts := (.cons (.asg (.nm 2) (.sub (.lst (.cons (.call "_law_draw" ["_law_deck_here", "_law_many"] sp__law_draw (.cons (.var 0) (.cons (.cst (.int 131)) .nil))) (.cons (.bin .Sub (.cst (.int 2000)) (.call "_law_draw" ["_law_deck_here", "_law_many"] sp__law_draw (.cons (.var 0) (.cons (.cst (.int 200)) .nil)))) .nil))) (.blt .int (.cons (.cmp .Eq (.call "_law_draw" ["_law_deck_here", "_law_many"] sp__law_draw (.cons (.var 0) (.cons (.cst (.int 8)) .nil))) (.cst (.int 5))) .nil))))
  c__law_of_count_r1)
def sp__law_of_count : Spd := fun ds h Q => match ds with
  | [.deck, .int f] => f.natAbs ≤ 1 ∧ ∀ d b, Sk d b → Q d h
  | _ => False
theorem b__law_of_count (ds : List D) (h : Hd) (Q : Pq) (q : sp__law_of_count ds h Q) : wSs c__law_of_count { nx := fun _ h' => Out Q .non h', rt := Out Q } (startD N__law_of_count ds) h := by
  unfold sp__law_of_count at q
  split at q
  · rename_i f
    obtain ⟨f1, q⟩ := q
    show wSs c__law_of_count _ [some .deck, some (.int f), none] h
    unfold c__law_of_count
    refine st_asgE (e_sub (e_lst (a_cons (e_call rfl trivial (drawD ⟨by decide, by decide⟩ fun r r0 r1 => a_cons (e_bin (ev_ok _ rfl trivial (e_call rfl trivial (drawD ⟨by decide, by decide⟩ fun s s0 s1 => w_sub.mpr (a_nil (e_blt (a_cons (e_cmp (e_call rfl trivial (drawD ⟨by decide, by decide⟩ fun u u0 u1 => ev_ok _ rfl trivial (w_eq.mpr (a_nil (int_bl ?_))))))))))))))))))
    have k0 : 0 ≤ (if decide (u = 5) = true then (1 : Int) else 0) ∧ (if decide (u = 5) = true then (1 : Int) else 0) < 2 := by split <;> decide
    refine sub_any (fun d => ∃ n : Nat, d = .int (n : Nat) ∧ n ≤ 2000) k0.1 (by simpa using k0.2) (fun d hd => ?_) ?_
    · rcases List.mem_cons.mp hd with rfl | hd
      · exact ⟨r.toNat, by congr 1; omega, by omega⟩
      · rw [List.mem_singleton.mp hd]
        exact ⟨(2000 - s).toNat, by congr 1; omega, by omega⟩
    · rintro d ⟨n, rfl, nl⟩
      simp only [List.set_cons_succ, List.set_cons_zero]
      unfold c__law_of_count_r1
      refine st_retE (e_tup (a_cons (ev_ok _ rfl trivial (a_cons (ev_ok _ rfl trivial (a_cons (e_blt (a_cons (ev_ok _ rfl trivial (a_cons (e_bin (e_call rfl trivial ⟨n, ⟨rfl, nl⟩, ev_ok _ rfl trivial (w_add.mpr (a_nil ?_))⟩))))))))))))
      simp only [bltD]
      refine a_nil (.is (Hd.le.refl _) (q _ _ (.count nl)))
  · exact q.elim
/-! ### whether it is so -/
abbrev N__law_walked : List Str := ["_law_s", "_law_a", "_law_b"]
def c__law_walked_r1 : Sts := (.cons (.ret (.ife (.val (.cmp .Eq (.sub (.var 0) (.cst (.int 0))) (.cst (.str "same")))) (.cmp .Eq (.var 1) (.var 2)) (.cmp .Lt (.var 1) (.var 2))))
  .nil)
def c__law_walked_r2 : Sts := (.cons (.par [1, 2] (.cons (.call "_law_worth" ["_law_t"] sp__law_worth (.cons (.sub (.var 0) (.cst (.int 1))) .nil)) (.cons (.call "_law_worth" ["_law_t"] sp__law_worth (.cons (.sub (.var 0) (.cst (.int 2))) .nil)) .nil)))
  c__law_walked_r1)
def c__law_walked_r3 : Sts := (.cons (.ite (.val (.cmp .Eq (.sub (.var 0) (.cst (.int 0))) (.cst (.str "row"))))
  (.cons (.ret (.cmp .Eq (.call "_law_quotients" ["_law_a", "_law_b"] sp__law_quotients (.cons (.sub (.var 0) (.cst (.int 1))) (.cons (.sub (.var 0) (.cst (.int 2))) .nil))) (.sub (.var 0) (.cst (.int 3)))))
    .nil)
  .nil)
  c__law_walked_r2)
def c__law_walked : Sts := (.cons (.ite (.val (.cmp .Eq (.sub (.var 0) (.cst (.int 0))) (.cst (.str "count"))))
  (.cons (.ret (.cmp .Eq (.call "_law_up_to" ["_law_n"] sp__law_up_to (.cons (.sub (.var 0) (.cst (.int 1))) .nil)) (.sub (.var 0) (.cst (.int 2)))))
    .nil)
  .nil)
  c__law_walked_r3)
def sp__law_walked : Spd := fun ds h Q => match ds with
  | [d] => ∃ b, Sk d b ∧ Q (.bl b) h
  | _ => False
theorem eqT_ints {ns ms : List Int} {h : Hd} {Q : Pq} (q : Q (.bl (decide (ns = ms))) h) : cmpD .Eq (.tup (ns.map D.int)) (.tup (ms.map D.int)) h Q := by
  have ev : ∀ ns ms : List Int, PyData.eqvAll (ns.map PyData.int) (ms.map PyData.int) = decide (ns = ms) := by
    intro ns
    induction ns with
    | nil => intro ms; cases ms <;> simp [PyData.eqvAll]
    | cons n ns ih =>
      intro ms
      cases ms with
      | nil => simp [PyData.eqvAll]
      | cons m ms =>
        rw [List.map_cons, List.map_cons, PyData.eqvAll, ih ms]
        simp only [PyData.eqv]
        rw [Bool.eq_iff_iff, Bool.and_eq_true, beq_iff_eq, decide_eq_true_eq, decide_eq_true_eq, List.cons.injEq]
  have f : ∀ ns : List Int, (D.tup (ns.map D.int)).isF = true := fun ns => isF_tup.mpr fun d hd => by
    obtain ⟨i, _, rfl⟩ := List.mem_map.mp hd
    rfl
  have sh : SeqAt.shaped (D.tup (ns.map D.int)).py = true := by
    have := shaped_ints ns
    simp only [D.py] at this ⊢
    exact this
  have e : PyData.eqv (D.tup (ns.map D.int)).py (D.tup (ms.map D.int)).py = decide (ns = ms) := by
    simp only [D.py, PyData.eqv, pys_ints]
    exact ev ns ms
  have go : EqOk (D.tup (ns.map D.int)) (D.tup (ms.map D.int)) ∧ Q (.bl (PyData.eqv (D.tup (ns.map D.int)).py (D.tup (ms.map D.int)).py)) h := ⟨⟨f ns, f ms, .inl sh⟩, by rw [e]; exact q⟩
  exact go
theorem b__law_walked (ds : List D) (h : Hd) (Q : Pq) (q : sp__law_walked ds h Q) : wSs c__law_walked { nx := fun _ h' => Out Q .non h', rt := Out Q } (startD N__law_walked ds) h := by
  unfold sp__law_walked at q
  split at q
  · rename_i d
    obtain ⟨b, sk, q⟩ := q
    show wSs c__law_walked _ [some d, none, none] h
    have fin : Out Q (.bl b) h := .is (Hd.le.refl _) q
    unfold c__law_walked
    cases sk with
    | same ht hu =>
      refine st_ite rfl trivial (fun z => absurd z (by decide)) fun _ => ?_
      rw [wSs]
      dsimp only
      unfold c__law_walked_r3
      refine st_ite rfl trivial (fun z => absurd z (by decide)) fun _ => ?_
      rw [wSs]
      dsimp only
      unfold c__law_walked_r2
      refine st_parE (a_cons (e_call rfl trivial ⟨_, ⟨ht.1, ht.2.1, by have := ht.2.2; omega⟩, a_cons (e_call rfl trivial ⟨_, ⟨hu.1, hu.2.1, by have := hu.2.2; omega⟩, a_nil ?_⟩)⟩))
      simp only [setAll, List.set_cons_succ, List.set_cons_zero]
      unfold c__law_walked_r1
      exact st_ret rfl ⟨fun _ => trivial, fun _ => trivial, trivial⟩ fin
    | below ht hu =>
      refine st_ite rfl trivial (fun z => absurd z (by decide)) fun _ => ?_
      rw [wSs]
      dsimp only
      unfold c__law_walked_r3
      refine st_ite rfl trivial (fun z => absurd z (by decide)) fun _ => ?_
      rw [wSs]
      dsimp only
      unfold c__law_walked_r2
      refine st_parE (a_cons (e_call rfl trivial ⟨_, ⟨ht.1, ht.2.1, by have := ht.2.2; omega⟩, a_cons (e_call rfl trivial ⟨_, ⟨hu.1, hu.2.1, by have := hu.2.2; omega⟩, a_nil ?_⟩)⟩))
      simp only [setAll, List.set_cons_succ, List.set_cons_zero]
      unfold c__law_walked_r1
      exact st_ret rfl ⟨fun _ => trivial, fun _ => trivial, trivial⟩ fin
    | row ha hb =>
      refine st_ite rfl trivial (fun z => absurd z (by decide)) fun _ => ?_
      rw [wSs]
      dsimp only
      unfold c__law_walked_r3
      refine st_ite rfl trivial (fun _ => ?_) fun z => absurd z (by decide)
      exact st_retE (e_cmp (e_call rfl trivial ⟨_, _, ⟨rfl, rfl, ha, hb⟩, ev_ok _ rfl trivial (eqT_ints fin)⟩))
    | count hn =>
      refine st_ite rfl trivial (fun _ => ?_) fun z => absurd z (by decide)
      exact st_retE (e_cmp (e_call rfl trivial ⟨_, ⟨rfl, hn⟩, ev_ok _ rfl trivial (w_eq.mpr fin)⟩))
  · exact q.elim
end K07

/-! Law k07: what the program tells; the law. -/
namespace K07
open PySem PySem.Spec PyProof.Rows G
open L2 hiding wE wT

/-- whether it is the tuple of this text alone -/
def isT1 (d : D) (y : Str) : Bool := match d with
  | .tup [.str x] => decide (x = y)
  | _ => false
theorem isT1_iff {d : D} {y : Str} : isT1 d y = true ↔ d = .tup [.str y] := by
  unfold isT1
  split
  · simp
  · rename_i h
    exact ⟨(fun z => nomatch z), fun z => absurd z (h y)⟩
theorem eqv_str {d : D} (f : d.isF = true) (y : Str) : PyData.eqv d.py (.str y) = isW d y := by
  cases d <;> simp only [D.py, PyData.eqv, isW] <;> first | rfl | (simp only [D.isF] at f; done) | (rw [Bool.eq_iff_iff, decide_eq_true_eq]; exact beq_iff_eq)
theorem eqW1 {d : D} {y : Str} {h : Hd} {Q : Pq} (f : d.isF = true) (hy : SeqAt.shaped (D.tup [.str y]).py = true) (q : Q (.bl (isT1 d y)) h) : cmpD .Eq d (.tup [.str y]) h Q := by
  have e2 : PyData.eqv d.py (D.tup [.str y]).py = isT1 d y := by
    cases d with
    | tup ds =>
      simp only [D.py, D.pys, PyData.eqv]
      cases ds with
      | nil => simp only [D.pys, PyData.eqvAll]; rfl
      | cons a ds =>
        have fa : a.isF = true := isF_tup.mp f a (by simp)
        cases ds with
        | nil =>
          simp only [D.pys, PyData.eqvAll, eqv_str fa, Bool.and_true]
          cases a <;> rfl
        | cons b ds =>
          simp only [D.pys, PyData.eqvAll, Bool.and_false]
          cases a <;> rfl
    | _ => first | (simp only [D.py, D.pys, PyData.eqv]; done) | (simp only [D.py, D.pys, PyData.eqv]; rfl)
  have go : EqOk d (D.tup [.str y]) ∧ Q (.bl (PyData.eqv d.py (D.tup [.str y]).py)) h := ⟨⟨f, by simp only [D.isF, D.areF, Bool.and_self], .inr hy⟩, by rw [e2]; exact q⟩
  cases d <;> first | exact go | (exfalso; simp only [D.isF] at f; done) | (exfalso; simp only [D.isF] at f; cases f)
theorem sh_walk : SeqAt.shaped (D.tup [.str "walk"]).py = true := by decide +kernel
theorem of_sm {d : D} (h : (d.small 45 && Nat.ble d.dep 5 && Nat.ble d.cnt 500) = true) : d.isF = true ∧ Shows d := by
  simp only [Bool.and_eq_true] at h
  have h1 := Nat.le_of_ble_eq_true h.1.2
  have h2 := Nat.le_of_ble_eq_true h.2
  exact ⟨isF_small (B := 45) (by decide) (by decide) h.1.1, shows_small (B := 45) (n := 500) (by decide) (by decide) h.1.1 (by omega) h2 (by decide)⟩
/-! ### the program -/
abbrev N_is_walked : List Str := ["statement", "word", "first", "second", "rest"]
def c_is_walked_r1 : Sts := (.cons (.ret (.cmp .Eq (.call "quotients_of" ["upper", "lower"] sp_quotients_of (.cons (.var 2) (.cons (.var 3) .nil))) (.sub (.var 4) (.cst (.int 0)))))
  .nil)
def c_is_walked_r2 : Sts := (.cons (.ite (.val (.cmp .Eq (.var 1) (.cst (.str "count"))))
  (.cons (.ret (.cmp .Eq (.call "primes_to" ["number"] sp_primes_to (.cons (.var 2) .nil)) (.var 3)))
    .nil)
  .nil)
  c_is_walked_r1)
def c_is_walked_r3 : Sts := (.cons (.ite (.val (.cmp .Eq (.var 1) (.cst (.str "below"))))
  (.cons (.ret (.cmp .Lt (.call "worth_of" ["term"] sp_worth_of (.cons (.var 2) .nil)) (.call "worth_of" ["term"] sp_worth_of (.cons (.var 3) .nil))))
    .nil)
  .nil)
  c_is_walked_r2)
def c_is_walked_r4 : Sts := (.cons (.ite (.val (.cmp .Eq (.var 1) (.cst (.str "same"))))
  (.cons (.ret (.cmp .Eq (.call "worth_of" ["term"] sp_worth_of (.cons (.var 2) .nil)) (.call "worth_of" ["term"] sp_worth_of (.cons (.var 3) .nil))))
    .nil)
  .nil)
  c_is_walked_r3)
def c_is_walked : Sts := (.cons (.star 3 false (.cons (.nm 1) (.cons (.nm 2) (.cons (.nm 3) (.cons (.nm 4) .nil)))) (.var 0))
  c_is_walked_r4)
def sp_is_walked : Spd := fun ds h Q => match ds with
  | [d] => ∃ b, Sk d b ∧ Q (.bl b) h
  | _ => False
theorem b_is_walked (ds : List D) (h : Hd) (Q : Pq) (q : sp_is_walked ds h Q) : wSs c_is_walked { nx := fun _ h' => Out Q .non h', rt := Out Q } (startD N_is_walked ds) h := by
  unfold sp_is_walked at q
  split at q
  · rename_i d
    obtain ⟨b, sk, q⟩ := q
    show wSs c_is_walked _ [some d, none, none, none, none] h
    have fin : Out Q (.bl b) h := .is (Hd.le.refl _) q
    have st : ∀ {w : Str} {x y : D} {zs : List D}, wSs c_is_walked_r4 { nx := fun _ h' => Out Q .non h', rt := Out Q } [some (.tup (.str w :: x :: y :: zs)), some (.str w), some x, some y, some (.lst zs)] h → wSs c_is_walked { nx := fun _ h' => Out Q .non h', rt := Out Q } [some (.tup (.str w :: x :: y :: zs)), none, none, none, none] h := by
      intro w x y zs k
      unfold c_is_walked
      rw [wSs, wS]
      refine ev_ok _ rfl trivial ⟨by simp only [lenTs, List.length_cons]; omega, ?_⟩
      have e1 : ((D.str w :: x :: y :: zs).drop 3).take ((D.str w :: x :: y :: zs).length - (lenTs (.cons (.nm 1) (.cons (.nm 2) (.cons (.nm 3) (.cons (.nm 4) .nil)))) - 1)) = zs := by
        simp only [lenTs, List.length_cons, List.drop_succ_cons, List.drop_zero]
        rw [List.take_of_length_le (by omega)]
      rw [e1]
      simp only [listed]
      have e2 : (D.str w :: x :: y :: zs).take 3 ++ [.lst zs] ++ (D.str w :: x :: y :: zs).drop ((D.str w :: x :: y :: zs).length - (lenTs (.cons (.nm 1) (.cons (.nm 2) (.cons (.nm 3) (.cons (.nm 4) .nil)))) - 1 - 3)) = [.str w, x, y, .lst zs] := by
        simp only [lenTs, List.length_cons, List.take_succ_cons, List.take_zero]
        rw [List.drop_eq_nil_of_le (by simp only [List.length_cons]; omega)]
        rfl
      rw [e2]
      simp only [gTs, gT, List.set_cons_succ, List.set_cons_zero]
      exact k
    cases sk with
    | same ht hu =>
      refine st ?_
      unfold c_is_walked_r4
      refine st_ite rfl trivial (fun _ => ?_) fun z => absurd z (by decide)
      refine st_retE (e_cmp (e_call rfl trivial ⟨⟨ht.1, by have := ht.2.2; omega⟩, e_call rfl trivial ⟨⟨hu.1, by have := hu.2.2; omega⟩, ?_⟩⟩))
      rw [ht.2.1, hu.2.1]
      exact w_eq.mpr fin
    | below ht hu =>
      refine st ?_
      unfold c_is_walked_r4
      refine st_ite rfl trivial (fun z => absurd z (by decide)) fun _ => ?_
      rw [wSs]
      dsimp only
      unfold c_is_walked_r3
      refine st_ite rfl trivial (fun _ => ?_) fun z => absurd z (by decide)
      refine st_retE (e_cmp (e_call rfl trivial ⟨⟨ht.1, by have := ht.2.2; omega⟩, e_call rfl trivial ⟨⟨hu.1, by have := hu.2.2; omega⟩, ?_⟩⟩))
      rw [ht.2.1, hu.2.1]
      exact w_lt.mpr fin
    | row ha hb =>
      refine st ?_
      unfold c_is_walked_r4
      refine st_ite rfl trivial (fun z => absurd z (by decide)) fun _ => ?_
      rw [wSs]
      dsimp only
      unfold c_is_walked_r3
      refine st_ite rfl trivial (fun z => absurd z (by decide)) fun _ => ?_
      rw [wSs]
      dsimp only
      unfold c_is_walked_r2
      refine st_ite rfl trivial (fun z => absurd z (by decide)) fun _ => ?_
      rw [wSs]
      dsimp only
      unfold c_is_walked_r1
      exact st_retE (e_cmp (e_call rfl trivial ⟨_, _, ⟨rfl, rfl, ha, hb⟩, ev_ok _ rfl trivial (eqT_ints fin)⟩))
    | count hn =>
      refine st ?_
      unfold c_is_walked_r4
      refine st_ite rfl trivial (fun z => absurd z (by decide)) fun _ => ?_
      rw [wSs]
      dsimp only
      unfold c_is_walked_r3
      refine st_ite rfl trivial (fun z => absurd z (by decide)) fun _ => ?_
      rw [wSs]
      dsimp only
      unfold c_is_walked_r2
      refine st_ite rfl trivial (fun _ => ?_) fun z => absurd z (by decide)
      exact st_retE (e_cmp (e_call rfl trivial ⟨_, ⟨rfl, hn⟩, ev_ok _ rfl trivial (w_eq.mpr fin)⟩))
  · exact q.elim
abbrev N_walk_shows : List Str := ["statement", "thing"]
def c_walk_shows : Sts := (.cons (.ret (.and (.cmp .Eq (.var 1) (.glb "WALK" (.tup [(.str "walk")]))) (.call "is_walked" ["statement"] sp_is_walked (.cons (.var 0) .nil))))
  .nil)
def sp_walk_shows : Spd := fun ds h Q => match ds with
  | [d, it] => ∃ b, (Sk d b ∧ it.isF = true) ∧ Q (.bl (isT1 it "walk" && b)) h
  | _ => False
theorem b_walk_shows (ds : List D) (h : Hd) (Q : Pq) (q : sp_walk_shows ds h Q) : wSs c_walk_shows { nx := fun _ h' => Out Q .non h', rt := Out Q } (startD N_walk_shows ds) h := by
  unfold sp_walk_shows at q
  split at q
  · rename_i d it
    obtain ⟨b, ⟨sk, f⟩, q⟩ := q
    show wSs c_walk_shows _ [some d, some it] h
    unfold c_walk_shows
    refine st_retE (e_and (e_cmp (ev_ok _ rfl trivial (ev_ok _ rfl trivial (eqW1 f sh_walk (w_boolD.mpr ?_))))))
    cases e : isT1 it "walk"
    · rw [e] at q
      rw [if_neg (by decide)]
      exact .is (Hd.le.refl _) q
    · rw [e] at q
      rw [if_pos rfl]
      exact e_call rfl trivial ⟨b, sk, .is (Hd.le.refl _) q⟩
  · exact q.elim
abbrev N_walk_denies : List Str := ["statement", "thing"]
def c_walk_denies : Sts := (.cons (.ret (.and (.cmp .Eq (.var 1) (.glb "WALK" (.tup [(.str "walk")]))) (.not (.call "is_walked" ["statement"] sp_is_walked (.cons (.var 0) .nil)))))
  .nil)
def sp_walk_denies : Spd := fun ds h Q => match ds with
  | [d, it] => ∃ b, (Sk d b ∧ it.isF = true) ∧ Q (.bl (isT1 it "walk" && !b)) h
  | _ => False
theorem b_walk_denies (ds : List D) (h : Hd) (Q : Pq) (q : sp_walk_denies ds h Q) : wSs c_walk_denies { nx := fun _ h' => Out Q .non h', rt := Out Q } (startD N_walk_denies ds) h := by
  unfold sp_walk_denies at q
  split at q
  · rename_i d it
    obtain ⟨b, ⟨sk, f⟩, q⟩ := q
    show wSs c_walk_denies _ [some d, some it] h
    unfold c_walk_denies
    refine st_retE (e_and (e_cmp (ev_ok _ rfl trivial (ev_ok _ rfl trivial (eqW1 f sh_walk (w_boolD.mpr ?_))))))
    cases e : isT1 it "walk"
    · rw [e] at q
      rw [if_neg (by decide)]
      exact .is (Hd.le.refl _) q
    · rw [e] at q
      rw [if_pos rfl, wE]
      exact e_call rfl trivial ⟨b, sk, w_boolD.mpr (.is (Hd.le.refl _) q)⟩
  · exact q.elim
def mkD (b : Bool) : D := .tup [.str (if b = true then "yes" else "no"), .tup [.str "walk"]]
abbrev N_walk_made : List Str := ["statement"]
def c_walk_made : Sts := (.cons (.ret (.tup (.cons (.ife (.val (.call "is_walked" ["statement"] sp_is_walked (.cons (.var 0) .nil))) (.cst (.str "yes")) (.cst (.str "no"))) (.cons (.glb "WALK" (.tup [(.str "walk")])) .nil))))
  .nil)
def sp_walk_made : Spd := fun ds h Q => match ds with
  | [d] => ∃ b, Sk d b ∧ Q (mkD b) h
  | _ => False
theorem b_walk_made (ds : List D) (h : Hd) (Q : Pq) (q : sp_walk_made ds h Q) : wSs c_walk_made { nx := fun _ h' => Out Q .non h', rt := Out Q } (startD N_walk_made ds) h := by
  unfold sp_walk_made at q
  split at q
  · rename_i d
    obtain ⟨b, sk, q⟩ := q
    show wSs c_walk_made _ [some d] h
    unfold c_walk_made
    refine st_retE (e_tup (a_cons (e_ife (t_val (e_call rfl trivial ⟨b, sk, w_truth.mpr ?_⟩)))))
    cases b
    · rw [if_neg (by decide)]
      exact ev_ok _ rfl trivial (a_cons (ev_ok _ rfl trivial (a_nil (.is (Hd.le.refl _) q))))
    · rw [if_pos rfl]
      exact ev_ok _ rfl trivial (a_cons (ev_ok _ rfl trivial (a_nil (.is (Hd.le.refl _) q))))
  · exact q.elim
/-! ### the law -/
abbrev N__law_things : List Str := ["_law_found"]
def c__law_things_r1 : Sts := (.cons (.ret (.bin .Add (.var 0) (.lst (.cons (.tup (.cons (.tup (.cons (.cst (.str "walk")) .nil)) .nil)) (.cons (.tup (.cons (.cst (.str "walks")) .nil)) (.cons (.tup (.cons (.cst (.str "walk")) (.cons (.cst (.str "walk")) .nil))) (.cons (.tup (.cons (.cst (.str "times")) (.cons (.cst (.int 1)) .nil))) (.cons (.tup (.cons (.cst (.str "other")) .nil)) (.cons (.tup (.cons (.cst (.str "")) .nil)) (.cons (.dct false [.inr "walk"] (.cons (.cst (.int 0)) .nil)) (.cons (.tup (.cons (.cst (.str "few")) .nil)) .nil)))))))))))
  .nil)
def c__law_things : Sts := (.cons (.asg (.nm 0) (.lst (.cons (.cst .non) (.cons (.cst (.bl true)) (.cons (.cst (.bl false)) (.cons (.cst (.int 0)) (.cons (.cst (.int 1)) (.cons (.cst (.str "walk")) (.cons (.cst (.str "")) (.cons (.tup .nil) (.cons (.lst .nil) (.cons (.dct false [] .nil) (.cons (.lst (.cons (.cst (.str "walk")) .nil)) (.cons (.tup (.cons (.cst (.str "walk")) (.cons (.tup .nil) .nil))) (.cons (.tup (.cons (.cst (.str "walk")) (.cons (.cst (.int 0)) .nil))) (.cons (.tup (.cons (.cst (.str "Walk")) .nil)) .nil))))))))))))))))
  c__law_things_r1)
def sp__law_things : Spd := fun ds h Q => match ds with
  | [] => ∀ zs : List D, (∀ d ∈ zs, d.isF = true ∧ isT1 d "walk" = false) → Q (.lst zs) h
  | _ => False
theorem b__law_things (ds : List D) (h : Hd) (Q : Pq) (q : sp__law_things ds h Q) : wSs c__law_things { nx := fun _ h' => Out Q .non h', rt := Out Q } (startD N__law_things ds) h := by
  have sl : sizeLine = 16777216 := sizeLine_eq
  unfold sp__law_things at q
  split at q
  · show wSs c__law_things _ [none] h
    unfold c__law_things
    refine st_asg rfl trivial ?_
    simp only [List.set_cons_zero]
    unfold c__law_things_r1
    refine st_ret rfl ⟨by rw [sl]; decide, trivial⟩ (.is (Hd.le.refl _) (q _ fun d hd => ?_))
    have al : ∀ xs : List D, (xs.all fun d => d.isF && !isT1 d "walk") = true → ∀ d ∈ xs, d.isF = true ∧ isT1 d "walk" = false := fun xs hx d hd => by
      have := List.all_eq_true.mp hx d hd
      simpa only [Bool.and_eq_true, Bool.not_eq_true'] using this
    exact al _ (by decide +kernel) d hd
  · exact q.elim
abbrev N_law : List Str := ["_law_script", "_law_deck_here", "_law_turn", "_law_off", "_law_way", "_law_s", "_law_due", "_law_again", "_law_it", "_law_named"]
def c_law_r1 : Sts := (.cons (.ret (.cst (.bl true)))
  .nil)
def c_law_r2 : Sts := (.cons (.ite (.val (.cmp .NotEq (.blt .repr (.cons (.bin .Add (.var 9) (.tup (.cons (.sub (.callK "walk_made" ["statement"] sp_walk_made .nil ["statement"] (.cons (.var 5) .nil) [0]) (.cst (.int 0))) .nil))) .nil)) (.blt .repr (.cons (.tup (.cons (.var 6) (.cons (.not (.var 6)) (.cons (.sub (.lst (.cons (.cst (.str "no")) (.cons (.cst (.str "yes")) .nil))) (.blt .int (.cons (.var 6) .nil))) .nil)))) .nil))))
    (.cons (.ret (.cst (.bl false)))
      .nil)
    .nil)
    .nil)
def c_law_r3 : Sts := (.cons (.asg (.nm 9) (.tup (.cons (.callK "walk_shows" ["statement", "thing"] sp_walk_shows .nil ["thing", "statement"] (.cons (.tup (.cons (.cst (.str "walk")) .nil)) (.cons (.var 5) .nil)) [1, 0]) (.cons (.callK "walk_denies" ["statement", "thing"] sp_walk_denies .nil ["thing", "statement"] (.cons (.tup (.cons (.cst (.str "walk")) .nil)) (.cons (.var 5) .nil)) [1, 0]) .nil))))
    c_law_r2)
def c_law_b4 : Sts := (.cons (.ite (.or (.val (.cmp .IsNot (.call "walk_shows" ["statement", "thing"] sp_walk_shows (.cons (.var 5) (.cons (.var 8) .nil))) (.cst (.bl false)))) (.val (.cmp .IsNot (.call "walk_denies" ["statement", "thing"] sp_walk_denies (.cons (.var 5) (.cons (.var 8) .nil))) (.cst (.bl false)))))
      (.cons (.ret (.cst (.bl false)))
        .nil)
      .nil)
      .nil)
def c_law_r5 : Sts := (.cons (.for (.nm 8) (.seq (.call "_law_things" [] sp__law_things .nil))
    c_law_b4)
    c_law_r3)
def c_law_r6 : Sts := (.cons (.ite (.val (.cmp .NotEq (.blt .repr (.cons (.tup (.cons (.call "walk_shows" ["statement", "thing"] sp_walk_shows (.cons (.var 5) (.cons (.tup (.cons (.cst (.str "walk")) .nil)) .nil))) (.cons (.call "walk_denies" ["statement", "thing"] sp_walk_denies (.cons (.var 5) (.cons (.tup (.cons (.cst (.str "walk")) .nil)) .nil))) .nil))) .nil)) (.blt .repr (.cons (.tup (.cons (.var 6) (.cons (.not (.var 6)) .nil))) .nil))))
      (.cons (.ret (.cst (.bl false)))
        .nil)
      .nil)
      .nil)
def c_law_b7 : Sts := (.cons (.ite (.val (.cmp .NotEq (.blt .repr (.cons (.call "walk_made" ["statement"] sp_walk_made (.cons (.var 5) .nil)) .nil)) (.blt .repr (.cons (.tup (.cons (.sub (.lst (.cons (.cst (.str "no")) (.cons (.cst (.str "yes")) .nil))) (.blt .int (.cons (.var 6) .nil))) (.cons (.tup (.cons (.cst (.str "walk")) .nil)) .nil))) .nil))))
      (.cons (.ret (.cst (.bl false)))
        .nil)
      .nil)
      c_law_r6)
def c_law_r8 : Sts := (.cons (.for (.nm 7) (.rng1 (.cst (.int 2)))
    c_law_b7)
    c_law_r5)
def c_law_r9 : Sts := (.cons (.asg (.nm 6) (.call "_law_walked" ["_law_s"] sp__law_walked (.cons (.var 5) .nil)))
    c_law_r8)
def c_law_r10 : Sts := (.cons (.ite (.val (.cmp .Gt (.var 4) (.cst (.int 1))))
    (.cons (.asg (.nm 5) (.ife (.val (.cmp .Eq (.var 4) (.cst (.int 2)))) (.call "_law_of_row" ["_law_deck_here", "_law_off"] sp__law_of_row (.cons (.var 1) (.cons (.var 3) .nil))) (.call "_law_of_count" ["_law_deck_here", "_law_off"] sp__law_of_count (.cons (.var 1) (.cons (.var 3) .nil)))))
      .nil)
    .nil)
    c_law_r9)
def c_law_r11 : Sts := (.cons (.asg (.nm 5) (.call "_law_of_terms" ["_law_deck_here", "_law_off"] sp__law_of_terms (.cons (.var 1) (.cons (.var 3) .nil))))
    c_law_r10)
def c_law_b12 : Sts := (.cons (.par [3, 4] (.cons (.call "_law_pick" ["_law_deck_here", "_law_some"] sp__law_pick (.cons (.var 1) (.cons (.lst (.cons (.cst (.int 0)) (.cons (.cst (.int 0)) (.cons (.cst (.int 1)) (.cons (.neg (.cst (.int 1))) .nil))))) .nil))) (.cons (.call "_law_draw" ["_law_deck_here", "_law_many"] sp__law_draw (.cons (.var 1) (.cons (.cst (.int 4)) .nil))) .nil)))
    c_law_r11)
def c_law_r13 : Sts := (.cons (.for (.nm 2) (.rng1 (.cst (.int 5)))
  c_law_b12)
  c_law_r1)
def c_law : Sts := (.cons (.asg (.nm 1) (.call "_law_deck" ["_law_script"] sp__law_deck (.cons (.var 0) .nil)))
  c_law_r13)
theorem mk_ok (b : Bool) : (mkD b).isF = true ∧ Shows (mkD b) := of_sm (by cases b <;> decide +kernel)
theorem bl2_ok (a b : Bool) : (D.tup [.bl a, .bl b]).isF = true ∧ Shows (D.tup [.bl a, .bl b]) := of_sm (by cases a <;> cases b <;> decide +kernel)
theorem bl3_ok (b : Bool) : (D.tup [.bl b, .bl (!b), .str (if b = true then "yes" else "no")]).isF = true ∧ Shows (D.tup [.bl b, .bl (!b), .str (if b = true then "yes" else "no")]) := of_sm (by cases b <;> decide +kernel)
theorem w1 : isT1 (.tup [.str "walk"]) "walk" = true := by decide
theorem not_ff {h : Hd} {Q : Pq} (q : Q (.bl false) h) : cmpD .IsNot (.bl false) (.bl false) h Q := by
  simp only [cmpD, isD2]
  exact q
section
variable {Q : Pq} {x0 x2 x3 x4 x7 x8 x9 : Option D} {g : Hd} {C B : Sl → Hd → Prop} {s : D} {b : Bool}
theorem law_b7 (sk : Sk s b)
    (hC : C [x0, some .deck, x2, x3, x4, some s, some (.bl b), x7, x8, x9] g) :
    wSs c_law_b7 { nx := C, ct := C, bk := B, rt := Out Q } [x0, some .deck, x2, x3, x4, some s, some (.bl b), x7, x8, x9] g := by
  have mk := mk_ok b
  have b2 := bl2_ok b (!b)
  have fw : (D.tup [.str "walk"]).isF = true := by decide
  unfold c_law_b7
  refine st_iteE (t_val (e_cmp (e_blt (a_cons (e_call rfl trivial ⟨b, sk, a_nil (repr_w mk.1 mk.2 (e_blt (a_cons (e_tup (a_cons (e_sub (ev_ok _ rfl trivial (e_blt (a_cons (ev_ok _ rfl trivial (a_nil (int_bl ((w_subL (d := .str (if b = true then "yes" else "no")) (by cases b <;> rfl)).mpr (a_cons (ev_ok _ rfl trivial (a_nil (a_nil (repr_w mk.1 mk.2 (ne_same (w_truth.mpr ?_))))))))))))))))))))⟩)))))
  rw [if_neg (by decide), wSs]
  dsimp only
  unfold c_law_r6
  refine st_iteE (t_val (e_cmp (e_blt (a_cons (e_tup (a_cons (e_call rfl trivial ⟨b, ⟨sk, fw⟩, a_cons (e_call rfl trivial ⟨b, ⟨sk, fw⟩, a_nil (a_nil ?_)⟩)⟩)))))))
  rw [w1, Bool.true_and, Bool.true_and]
  refine repr_w b2.1 b2.2 (e_repr rfl trivial b2.1 b2.2 (ne_same (w_truth.mpr ?_)))
  rw [if_neg (by decide), wSs]
  dsimp only
  rw [wSs]
  exact hC
theorem law_r3 (sk : Sk s b)
    (hC : ∀ x9, C [x0, some .deck, x2, x3, x4, some s, some (.bl b), x7, x8, x9] g) :
    wSs c_law_r3 { nx := C, ct := C, bk := B, rt := Out Q } [x0, some .deck, x2, x3, x4, some s, some (.bl b), x7, x8, x9] g := by
  have sl : sizeLine = 16777216 := sizeLine_eq
  have b3 := bl3_ok b
  have fw : (D.tup [.str "walk"]).isF = true := by decide
  unfold c_law_r3
  refine st_asgE (e_tup (a_cons (e_callK (gs := [s, .tup [.str "walk"]]) rfl trivial rfl trivial rfl ⟨b, ⟨sk, fw⟩, a_cons (e_callK (gs := [s, .tup [.str "walk"]]) rfl trivial rfl trivial rfl ⟨b, ⟨sk, fw⟩, a_nil ?_⟩)⟩)))
  rw [w1, Bool.true_and, Bool.true_and]
  simp only [List.set_cons_succ, List.set_cons_zero]
  unfold c_law_r2
  refine st_iteE (t_val (e_cmp (e_blt (a_cons (e_bin (ev_ok _ rfl trivial (e_tup (a_cons (e_sub (e_callK (gs := [s]) rfl trivial rfl trivial rfl ⟨b, sk, ev_ok _ rfl trivial ((w_subT (d := .str (if b = true then "yes" else "no")) rfl).mpr (a_nil (w_addT.mpr ⟨by rw [sl]; show 2 + 1 ≤ 16777216; decide, a_nil (repr_w (d := .tup [.bl b, .bl (!b), .str (if b = true then "yes" else "no")]) b3.1 b3.2 (e_blt (a_cons (e_tup (a_cons (ev_ok _ rfl trivial (a_cons (ev_ok _ rfl trivial (a_cons (e_sub (ev_ok _ rfl trivial (e_blt (a_cons (ev_ok _ rfl trivial (a_nil (int_bl ((w_subL (d := .str (if b = true then "yes" else "no")) (by cases b <;> rfl)).mpr (a_nil (a_nil (repr_w b3.1 b3.2 (ne_same (w_truth.mpr ?_))))))))))))))))))))))⟩)))⟩))))))))))
  rw [if_neg (by decide), wSs]
  dsimp only
  rw [wSs]
  exact hC _
theorem law_r9 (sk : Sk s b) {x6 : Option D}
    (hC : ∀ x6 x7 x8 x9, C [x0, some .deck, x2, x3, x4, some s, x6, x7, x8, x9] g) :
    wSs c_law_r9 { nx := C, ct := C, bk := B, rt := Out Q } [x0, some .deck, x2, x3, x4, some s, x6, x7, x8, x9] g := by
  unfold c_law_r9
  refine st_asgE (e_call rfl trivial ⟨b, sk, ?_⟩)
  simp only [List.set_cons_succ, List.set_cons_zero]
  unfold c_law_r8
  refine st_forE ?_
  rw [wI]
  refine ev_ok _ rfl trivial ⟨by decide, ?_⟩
  refine forL_rng (fun i σ g' => ∃ (x7 : Option D), σ = [x0, some .deck, x2, x3, x4, some s, some (.bl b), x7, x8, x9] ∧ g = g') ?_ ?_ ⟨x7, rfl, rfl⟩
  · rintro σ g' ⟨x7, rfl, rfl⟩
    refine ⟨trivial, ?_⟩
    dsimp only
    unfold c_law_r5
    refine st_forE ?_
    rw [wI]
    refine e_call rfl trivial fun zs hz => ?_
    simp only [seqI]
    refine forL_ind (fun ds σ g' => ∃ (x8 : Option D), σ = [x0, some .deck, x2, x3, x4, some s, some (.bl b), x7, x8, x9] ∧ g = g' ∧ ∀ d ∈ ds, d.isF = true ∧ isT1 d "walk" = false) ?_ ?_ _ _ _ ⟨x8, rfl, rfl, hz⟩
    · rintro σ g' ⟨x8, rfl, rfl, _⟩
      refine ⟨trivial, ?_⟩
      dsimp only
      exact law_r3 sk fun _ => hC _ _ _ _
    · rintro d ds σ g' C2 ⟨x8, rfl, rfl, hd⟩ hC2
      refine ⟨trivial, ?_⟩
      simp only [gT, List.set_cons_succ, List.set_cons_zero]
      obtain ⟨df, d1⟩ := hd d (by simp)
      unfold c_law_b4
      refine st_iteE (t_or (t_val (e_cmp (e_call rfl trivial ⟨b, ⟨sk, df⟩, ev_ok _ rfl trivial ?_⟩))))
      rw [d1, Bool.false_and]
      refine not_ff (w_truth.mpr ?_)
      rw [if_neg (by decide)]
      refine t_val (e_cmp (e_call rfl trivial ⟨b, ⟨sk, df⟩, ev_ok _ rfl trivial ?_⟩))
      rw [d1, Bool.false_and]
      refine not_ff (w_truth.mpr ?_)
      rw [if_neg (by decide), wSs]
      dsimp only
      rw [wSs]
      exact hC2 _ _ ⟨_, rfl, rfl, fun x hx => hd x (by simp [hx])⟩
  · rintro i σ g' C2 hi ⟨x7, rfl, rfl⟩ hC2
    refine ⟨trivial, ?_⟩
    simp only [gT, List.set_cons_succ, List.set_cons_zero]
    exact law_b7 sk (hC2 _ _ ⟨_, rfl, rfl⟩)
theorem law_b12 {x5 x6 : Option D} (hC : ∀ (x3 x4 x5 x6 x7 x8 x9 : Option D), C [x0, some .deck, x2, x3, x4, x5, x6, x7, x8, x9] g) :
    wSs c_law_b12 { nx := C, ct := C, bk := B, rt := Out Q } [x0, some .deck, x2, x3, x4, x5, x6, x7, x8, x9] g := by
  unfold c_law_b12
  refine st_parE (a_cons (e_call rfl trivial (pickD (.inl rfl) ⟨by simp, by simp⟩ fun d hd => a_cons (e_call rfl trivial (drawD ⟨by decide, by decide⟩ fun r r0 r1 => a_nil ?_)))))
  have hd : ∃ f : Int, d = .int f ∧ f.natAbs ≤ 1 := by
    have al : ∀ d ∈ [D.int 0, .int 0, .int 1, .int (-1)], ∃ f : Int, d = .int f ∧ f.natAbs ≤ 1 := by
      intro d hd
      simp only [List.mem_cons, List.not_mem_nil, or_false] at hd
      rcases hd with rfl | rfl | rfl | rfl <;> exact ⟨_, rfl, by decide⟩
    exact al d hd
  obtain ⟨f, rfl, f1⟩ := hd
  simp only [setAll, List.set_cons_succ, List.set_cons_zero]
  unfold c_law_r11
  refine st_asgE (e_call rfl trivial ⟨f1, fun s b sk => ?_⟩)
  simp only [List.set_cons_succ, List.set_cons_zero]
  unfold c_law_r10
  refine st_ite rfl trivial (fun _ => ?_) fun _ => ?_
  · refine st_asgE (e_ife (evt_ok _ rfl trivial ?_))
    split
    · refine e_call rfl trivial ⟨f1, fun s b sk => ?_⟩
      simp only [List.set_cons_succ, List.set_cons_zero]
      rw [wSs]
      exact law_r9 sk fun _ _ _ _ => hC _ _ _ _ _ _ _
    · refine e_call rfl trivial ⟨f1, fun s b sk => ?_⟩
      simp only [List.set_cons_succ, List.set_cons_zero]
      rw [wSs]
      exact law_r9 sk fun _ _ _ _ => hC _ _ _ _ _ _ _
  · rw [wSs]
    dsimp only
    exact law_r9 sk fun _ _ _ _ => hC _ _ _ _ _ _ _
end
theorem b_law (ds : List D) (h : Hd) (Q : Pq) (q : spLaw ds h Q) : wSs c_law { nx := fun _ h' => Out Q .non h', rt := Out Q } (startD N_law ds) h := by
  obtain ⟨rfl, q⟩ := q
  show wSs c_law _ [some .scr, none, none, none, none, none, none, none, none, none] h
  unfold c_law
  refine st_asgE (e_call rfl trivial ⟨rfl, ?_⟩)
  simp only [List.set_cons_succ, List.set_cons_zero]
  unfold c_law_r13
  refine st_forE ?_
  rw [wI]
  refine ev_ok _ rfl trivial ⟨by decide, ?_⟩
  refine forL_rng (fun i σ g' => ∃ (x2 x3 x4 x5 x6 x7 x8 x9 : Option D), σ = [some .scr, some .deck, x2, x3, x4, x5, x6, x7, x8, x9]) ?_ ?_ ⟨_, _, _, _, _, _, _, _, rfl⟩
  · rintro σ g' ⟨x2, x3, x4, x5, x6, x7, x8, x9, rfl⟩
    refine ⟨trivial, ?_⟩
    unfold c_law_r1
    exact st_ret rfl trivial (.is (Hd.le.refl _) (q g'))
  · rintro i σ g' C hi ⟨x2, x3, x4, x5, x6, x7, x8, x9, rfl⟩ hC
    refine ⟨trivial, ?_⟩
    simp only [gT, List.set_cons_succ, List.set_cons_zero]
    exact law_b12 fun _ _ _ _ _ _ _ => hC _ _ ⟨_, _, _, _, _, _, _, _, rfl⟩
end K07

namespace K07
open PySem PySem.Spec PyProof.Rows L2 G
def topS (i : Nat) : Stmt := PySem.Challenge.pw_surenumbers_k07_walks.main.body.getD i (.Pass ⟨0, 0, 0, 0⟩)
section
variable {P : Program} {w : World} {K : PySem.W.Frag} {mg : Str → Option Value} {base : Heap}
theorem sc_power_of : FnScope N_power_of ["base", "many"] (defScope (topS 1)) := ⟨rfl, rfl, rfl, by decide +kernel, rfl, by decide +kernel, by decide +kernel⟩
theorem ht_power_of : tSs N_power_of (defScope (topS 1)) (fun _ => true) c_power_of (defBody (topS 1)) = true := by decide +kernel
theorem at_power_of {f : Addr} {fd : FuncData} (F : Fun K "power_of" "power_of" (topS 1) f fd) (g : mg "power_of" = some (.ref f)) (hn : NoOwn mg base)   : FnAt P w K mg base 1 "power_of" ["base", "many"] sp_power_of :=
  fn_at F g (by decide +kernel) sc_power_of hn ht_power_of (by simp only [c_power_of, c_power_of_b3, c_power_of_r1, c_power_of_r2, hSs, hS, hX, hE, hA, hI, hC, hO, List.map_cons, List.map_nil, and_true, true_and, and_self]) (fun ds h Q q => by first | exact False.elim q | (unfold sp_power_of at q; split at q <;> first | rfl | exact q.elim) | (obtain ⟨rfl, _⟩ := q; rfl) | (obtain ⟨_, rfl, _⟩ := q; rfl) | (obtain ⟨_, _, rfl, _⟩ := q; rfl) | (obtain ⟨_, _, _, rfl, _⟩ := q; rfl) | (obtain ⟨_, _, _, _, rfl, _⟩ := q; rfl) | (obtain ⟨_, _, _, _, _, rfl, _⟩ := q; rfl)) b_power_of
theorem sc_within : FnScope N_within ["number"] (defScope (topS 4)) := ⟨rfl, rfl, rfl, by decide +kernel, rfl, by decide +kernel, by decide +kernel⟩
theorem ht_within : tSs N_within (defScope (topS 4)) (fun _ => true) c_within (defBody (topS 4)) = true := by decide +kernel
theorem at_within {f : Addr} {fd : FuncData} (F : Fun K "within" "within" (topS 4) f fd) (g : mg "within" = some (.ref f)) (hn : NoOwn mg base)   : FnAt P w K mg base 1 "within" ["number"] sp_within :=
  fn_at F g (by decide +kernel) sc_within hn ht_within (by simp only [c_within, hSs, hS, hX, hE, hA, hI, hC, hO, List.map_cons, List.map_nil, and_true, true_and, and_self]) (fun ds h Q q => by first | exact False.elim q | (unfold sp_within at q; split at q <;> first | rfl | exact q.elim) | (obtain ⟨rfl, _⟩ := q; rfl) | (obtain ⟨_, rfl, _⟩ := q; rfl) | (obtain ⟨_, _, rfl, _⟩ := q; rfl) | (obtain ⟨_, _, _, rfl, _⟩ := q; rfl) | (obtain ⟨_, _, _, _, rfl, _⟩ := q; rfl) | (obtain ⟨_, _, _, _, _, rfl, _⟩ := q; rfl)) b_within
theorem sc_quotients_of : FnScope N_quotients_of ["upper", "lower"] (defScope (topS 8)) := ⟨rfl, rfl, rfl, by decide +kernel, rfl, by decide +kernel, by decide +kernel⟩
theorem ht_quotients_of : tSs N_quotients_of (defScope (topS 8)) (fun _ => true) c_quotients_of (defBody (topS 8)) = true := by decide +kernel
theorem at_quotients_of {f : Addr} {fd : FuncData} (F : Fun K "quotients_of" "quotients_of" (topS 8) f fd) (g : mg "quotients_of" = some (.ref f)) (hn : NoOwn mg base)   : FnAt P w K mg base 1 "quotients_of" ["upper", "lower"] sp_quotients_of :=
  fn_at F g (by decide +kernel) sc_quotients_of hn ht_quotients_of (by simp only [c_quotients_of, c_quotients_of_b3, c_quotients_of_r1, c_quotients_of_r2, c_quotients_of_r4, hSs, hS, hX, hE, hA, hI, hC, hO, List.map_cons, List.map_nil, and_true, true_and, and_self]) (fun ds h Q q => by first | exact False.elim q | (unfold sp_quotients_of at q; split at q <;> first | rfl | exact q.elim) | (obtain ⟨rfl, _⟩ := q; rfl) | (obtain ⟨_, rfl, _⟩ := q; rfl) | (obtain ⟨_, _, rfl, _⟩ := q; rfl) | (obtain ⟨_, _, _, rfl, _⟩ := q; rfl) | (obtain ⟨_, _, _, _, rfl, _⟩ := q; rfl) | (obtain ⟨_, _, _, _, _, rfl, _⟩ := q; rfl)) b_quotients_of
theorem sc_primes_to : FnScope N_primes_to ["number"] (defScope (topS 9)) := ⟨rfl, rfl, rfl, by decide +kernel, rfl, by decide +kernel, by decide +kernel⟩
theorem ht_primes_to : tSs N_primes_to (defScope (topS 9)) (fun _ => true) c_primes_to (defBody (topS 9)) = true := by decide +kernel
theorem at_primes_to {f : Addr} {fd : FuncData} (F : Fun K "primes_to" "primes_to" (topS 9) f fd) (g : mg "primes_to" = some (.ref f)) (hn : NoOwn mg base)   : FnAt P w K mg base 1 "primes_to" ["number"] sp_primes_to :=
  fn_at F g (by decide +kernel) sc_primes_to hn ht_primes_to (by simp only [c_primes_to, c_primes_to_b3, c_primes_to_r1, c_primes_to_r2, c_primes_to_r4, c_primes_to_r5, hSs, hS, hX, hE, hA, hI, hC, hO, List.map_cons, List.map_nil, and_true, true_and, and_self]) (fun ds h Q q => by first | exact False.elim q | (unfold sp_primes_to at q; split at q <;> first | rfl | exact q.elim) | (obtain ⟨rfl, _⟩ := q; rfl) | (obtain ⟨_, rfl, _⟩ := q; rfl) | (obtain ⟨_, _, rfl, _⟩ := q; rfl) | (obtain ⟨_, _, _, rfl, _⟩ := q; rfl) | (obtain ⟨_, _, _, _, rfl, _⟩ := q; rfl) | (obtain ⟨_, _, _, _, _, rfl, _⟩ := q; rfl)) b_primes_to
theorem sc__law_deck : FnScope N__law_deck ["_law_script"] (defScope (topS 15)) := ⟨rfl, rfl, rfl, by decide +kernel, rfl, by decide +kernel, by decide +kernel⟩
theorem ht__law_deck : tSs N__law_deck (defScope (topS 15)) (fun _ => true) c__law_deck (defBody (topS 15)) = true := by decide +kernel
theorem at__law_deck {f : Addr} {fd : FuncData} (F : Fun K "_law_deck" "_law_deck" (topS 15) f fd) (g : mg "_law_deck" = some (.ref f)) (hn : NoOwn mg base)   : FnAt P w K mg base 1 "_law_deck" ["_law_script"] sp__law_deck :=
  fn_at F g (by decide +kernel) sc__law_deck hn ht__law_deck (by simp only [c__law_deck, hSs, hS, hX, hE, hA, hI, hC, hO, List.map_cons, List.map_nil, and_true, true_and, and_self]) (fun ds h Q q => by first | exact False.elim q | (unfold sp__law_deck at q; split at q <;> first | rfl | exact q.elim) | (obtain ⟨rfl, _⟩ := q; rfl) | (obtain ⟨_, rfl, _⟩ := q; rfl) | (obtain ⟨_, _, rfl, _⟩ := q; rfl) | (obtain ⟨_, _, _, rfl, _⟩ := q; rfl) | (obtain ⟨_, _, _, _, rfl, _⟩ := q; rfl) | (obtain ⟨_, _, _, _, _, rfl, _⟩ := q; rfl)) b__law_deck
theorem sc__law_draw : FnScope N__law_draw ["_law_deck_here", "_law_many"] (defScope (topS 16)) := ⟨rfl, rfl, rfl, by decide +kernel, rfl, by decide +kernel, by decide +kernel⟩
theorem ht__law_draw : tSs N__law_draw (defScope (topS 16)) (fun _ => true) c__law_draw (defBody (topS 16)) = true := by decide +kernel
theorem at__law_draw {f : Addr} {fd : FuncData} (F : Fun K "_law_draw" "_law_draw" (topS 16) f fd) (g : mg "_law_draw" = some (.ref f)) (hn : NoOwn mg base)   : FnAt P w K mg base 1 "_law_draw" ["_law_deck_here", "_law_many"] sp__law_draw :=
  draw_deck (fn_at F g (by decide +kernel) sc__law_draw hn ht__law_draw (by simp only [c__law_draw, c_mix, hSs, hS, hX, hE, hA, hI, hC, hO, List.map_cons, List.map_nil, and_true, true_and, and_self]) (fun ds h Q q => by first | (obtain ⟨rfl, _⟩ := q; rfl) | (obtain ⟨_, rfl, _⟩ := q; rfl) | (obtain ⟨_, _, rfl, _⟩ := q; rfl) | (obtain ⟨_, _, _, rfl, _⟩ := q; rfl)) b__law_draw)
theorem sc__law_quotients : FnScope N__law_quotients ["_law_a", "_law_b"] (defScope (topS 19)) := ⟨rfl, rfl, rfl, by decide +kernel, rfl, by decide +kernel, by decide +kernel⟩
theorem ht__law_quotients : tSs N__law_quotients (defScope (topS 19)) (fun _ => true) c__law_quotients (defBody (topS 19)) = true := by decide +kernel
theorem at__law_quotients {f : Addr} {fd : FuncData} (F : Fun K "_law_quotients" "_law_quotients" (topS 19) f fd) (g : mg "_law_quotients" = some (.ref f)) (hn : NoOwn mg base)   : FnAt P w K mg base 1 "_law_quotients" ["_law_a", "_law_b"] sp__law_quotients :=
  fn_at F g (by decide +kernel) sc__law_quotients hn ht__law_quotients (by simp only [c__law_quotients, c__law_quotients_b3, c__law_quotients_r1, c__law_quotients_r2, c__law_quotients_r4, hSs, hS, hX, hE, hA, hI, hC, hO, List.map_cons, List.map_nil, and_true, true_and, and_self]) (fun ds h Q q => by first | exact False.elim q | (unfold sp__law_quotients at q; split at q <;> first | rfl | exact q.elim) | (obtain ⟨rfl, _⟩ := q; rfl) | (obtain ⟨_, rfl, _⟩ := q; rfl) | (obtain ⟨_, _, rfl, _⟩ := q; rfl) | (obtain ⟨_, _, _, rfl, _⟩ := q; rfl) | (obtain ⟨_, _, _, _, rfl, _⟩ := q; rfl) | (obtain ⟨_, _, _, _, _, rfl, _⟩ := q; rfl)) b__law_quotients
theorem sc__law_up_to : FnScope N__law_up_to ["_law_n"] (defScope (topS 26)) := ⟨rfl, rfl, rfl, by decide +kernel, rfl, by decide +kernel, by decide +kernel⟩
theorem ht__law_up_to : tSs N__law_up_to (defScope (topS 26)) (fun _ => true) c__law_up_to (defBody (topS 26)) = true := by decide +kernel
theorem at__law_up_to {f : Addr} {fd : FuncData} (F : Fun K "_law_up_to" "_law_up_to" (topS 26) f fd) (g : mg "_law_up_to" = some (.ref f)) (hn : NoOwn mg base)   : FnAt P w K mg base 1 "_law_up_to" ["_law_n"] sp__law_up_to :=
  fn_at F g (by decide +kernel) sc__law_up_to hn ht__law_up_to (by simp only [c__law_up_to, c__law_up_to_b2, c__law_up_to_b3, c__law_up_to_r1, c__law_up_to_r4, hSs, hS, hX, hE, hA, hI, hC, hO, List.map_cons, List.map_nil, and_true, true_and, and_self]) (fun ds h Q q => by first | exact False.elim q | (unfold sp__law_up_to at q; split at q <;> first | rfl | exact q.elim) | (obtain ⟨rfl, _⟩ := q; rfl) | (obtain ⟨_, rfl, _⟩ := q; rfl) | (obtain ⟨_, _, rfl, _⟩ := q; rfl) | (obtain ⟨_, _, _, rfl, _⟩ := q; rfl) | (obtain ⟨_, _, _, _, rfl, _⟩ := q; rfl) | (obtain ⟨_, _, _, _, _, rfl, _⟩ := q; rfl)) b__law_up_to
theorem sc__law_things : FnScope N__law_things [] (defScope (topS 29)) := ⟨rfl, rfl, rfl, by decide +kernel, rfl, by decide +kernel, by decide +kernel⟩
theorem ht__law_things : tSs N__law_things (defScope (topS 29)) (fun _ => true) c__law_things (defBody (topS 29)) = true := by decide +kernel
theorem at__law_things {f : Addr} {fd : FuncData} (F : Fun K "_law_things" "_law_things" (topS 29) f fd) (g : mg "_law_things" = some (.ref f)) (hn : NoOwn mg base)   : FnAt P w K mg base 1 "_law_things" [] sp__law_things :=
  fn_at F g (by decide +kernel) sc__law_things hn ht__law_things (by simp only [c__law_things, c__law_things_r1, hSs, hS, hX, hE, hA, hI, hC, hO, List.map_cons, List.map_nil, and_true, true_and, and_self]) (fun ds h Q q => by first | exact False.elim q | (unfold sp__law_things at q; split at q <;> first | rfl | exact q.elim) | (obtain ⟨rfl, _⟩ := q; rfl) | (obtain ⟨_, rfl, _⟩ := q; rfl) | (obtain ⟨_, _, rfl, _⟩ := q; rfl) | (obtain ⟨_, _, _, rfl, _⟩ := q; rfl) | (obtain ⟨_, _, _, _, rfl, _⟩ := q; rfl) | (obtain ⟨_, _, _, _, _, rfl, _⟩ := q; rfl)) b__law_things
theorem sc__law_pick : FnScope N__law_pick ["_law_deck_here", "_law_some"] (defScope (topS 17)) := ⟨rfl, rfl, rfl, by decide +kernel, rfl, by decide +kernel, by decide +kernel⟩
theorem ht__law_pick : tSs N__law_pick (defScope (topS 17)) (fun _ => true) c__law_pick (defBody (topS 17)) = true := by decide +kernel
theorem at__law_pick {f : Addr} {fd : FuncData} (F : Fun K "_law_pick" "_law_pick" (topS 17) f fd) (g : mg "_law_pick" = some (.ref f)) (hn : NoOwn mg base) (F_law_draw : FnAt P w K mg base 1 "_law_draw" ["_law_deck_here", "_law_many"] sp__law_draw)  : FnAt P w K mg base 2 "_law_pick" ["_law_deck_here", "_law_some"] sp__law_pick :=
  fn_at F g (by decide +kernel) sc__law_pick hn ht__law_pick (by simp only [c__law_pick, hSs, hS, hX, hE, hA, hI, hC, hO, List.map_cons, List.map_nil, and_true, true_and, and_self, (show FnAt P w K mg base 1 "_law_draw" ["_law_deck_here", "_law_many"] sp__law_draw from F_law_draw.up (by decide))]) (fun ds h Q q => by first | exact False.elim q | (unfold sp__law_pick at q; split at q <;> first | rfl | exact q.elim) | (obtain ⟨rfl, _⟩ := q; rfl) | (obtain ⟨_, rfl, _⟩ := q; rfl) | (obtain ⟨_, _, rfl, _⟩ := q; rfl) | (obtain ⟨_, _, _, rfl, _⟩ := q; rfl) | (obtain ⟨_, _, _, _, rfl, _⟩ := q; rfl) | (obtain ⟨_, _, _, _, _, rfl, _⟩ := q; rfl)) b__law_pick
theorem sc__law_far : FnScope N__law_far ["_law_deck_here", "_law_top"] (defScope (topS 21)) := ⟨rfl, rfl, rfl, by decide +kernel, rfl, by decide +kernel, by decide +kernel⟩
theorem ht__law_far : tSs N__law_far (defScope (topS 21)) (fun _ => true) c__law_far (defBody (topS 21)) = true := by decide +kernel
theorem at__law_far {f : Addr} {fd : FuncData} (F : Fun K "_law_far" "_law_far" (topS 21) f fd) (g : mg "_law_far" = some (.ref f)) (hn : NoOwn mg base) (F_law_draw : FnAt P w K mg base 1 "_law_draw" ["_law_deck_here", "_law_many"] sp__law_draw)  : FnAt P w K mg base 2 "_law_far" ["_law_deck_here", "_law_top"] sp__law_far :=
  fn_at F g (by decide +kernel) sc__law_far hn ht__law_far (by simp only [c__law_far, c__law_far_r1, c__law_far_r2, hSs, hS, hX, hE, hA, hI, hC, hO, List.map_cons, List.map_nil, and_true, true_and, and_self, (show FnAt P w K mg base 1 "_law_draw" ["_law_deck_here", "_law_many"] sp__law_draw from F_law_draw.up (by decide))]) (fun ds h Q q => by first | exact False.elim q | (unfold sp__law_far at q; split at q <;> first | rfl | exact q.elim) | (obtain ⟨rfl, _⟩ := q; rfl) | (obtain ⟨_, rfl, _⟩ := q; rfl) | (obtain ⟨_, _, rfl, _⟩ := q; rfl) | (obtain ⟨_, _, _, rfl, _⟩ := q; rfl) | (obtain ⟨_, _, _, _, rfl, _⟩ := q; rfl) | (obtain ⟨_, _, _, _, _, rfl, _⟩ := q; rfl)) b__law_far
theorem sc__law_great : FnScope N__law_great ["_law_deck_here"] (defScope (topS 22)) := ⟨rfl, rfl, rfl, by decide +kernel, rfl, by decide +kernel, by decide +kernel⟩
theorem ht__law_great : tSs N__law_great (defScope (topS 22)) (fun _ => true) c__law_great (defBody (topS 22)) = true := by decide +kernel
theorem at__law_great {f : Addr} {fd : FuncData} (F : Fun K "_law_great" "_law_great" (topS 22) f fd) (g : mg "_law_great" = some (.ref f)) (hn : NoOwn mg base) (F_law_draw : FnAt P w K mg base 1 "_law_draw" ["_law_deck_here", "_law_many"] sp__law_draw)  : FnAt P w K mg base 2 "_law_great" ["_law_deck_here"] sp__law_great :=
  fn_at F g (by decide +kernel) sc__law_great hn ht__law_great (by simp only [c__law_great, c__law_great_b2, c__law_great_r1, c__law_great_r3, hSs, hS, hX, hE, hA, hI, hC, hO, List.map_cons, List.map_nil, and_true, true_and, and_self, (show FnAt P w K mg base 1 "_law_draw" ["_law_deck_here", "_law_many"] sp__law_draw from F_law_draw.up (by decide))]) (fun ds h Q q => by first | exact False.elim q | (unfold sp__law_great at q; split at q <;> first | rfl | exact q.elim) | (obtain ⟨rfl, _⟩ := q; rfl) | (obtain ⟨_, rfl, _⟩ := q; rfl) | (obtain ⟨_, _, rfl, _⟩ := q; rfl) | (obtain ⟨_, _, _, rfl, _⟩ := q; rfl) | (obtain ⟨_, _, _, _, rfl, _⟩ := q; rfl) | (obtain ⟨_, _, _, _, _, rfl, _⟩ := q; rfl)) b__law_great
theorem sc__law_of_count : FnScope N__law_of_count ["_law_deck_here", "_law_off"] (defScope (topS 27)) := ⟨rfl, rfl, rfl, by decide +kernel, rfl, by decide +kernel, by decide +kernel⟩
theorem ht__law_of_count : tSs N__law_of_count (defScope (topS 27)) (fun _ => true) c__law_of_count (defBody (topS 27)) = true := by decide +kernel
theorem at__law_of_count {f : Addr} {fd : FuncData} (F : Fun K "_law_of_count" "_law_of_count" (topS 27) f fd) (g : mg "_law_of_count" = some (.ref f)) (hn : NoOwn mg base) (F_law_draw : FnAt P w K mg base 1 "_law_draw" ["_law_deck_here", "_law_many"] sp__law_draw) (F_law_up_to : FnAt P w K mg base 1 "_law_up_to" ["_law_n"] sp__law_up_to)  : FnAt P w K mg base 2 "_law_of_count" ["_law_deck_here", "_law_off"] sp__law_of_count :=
  fn_at F g (by decide +kernel) sc__law_of_count hn ht__law_of_count (by simp only [c__law_of_count, c__law_of_count_r1, hSs, hS, hX, hE, hA, hI, hC, hO, List.map_cons, List.map_nil, and_true, true_and, and_self, (show FnAt P w K mg base 1 "_law_draw" ["_law_deck_here", "_law_many"] sp__law_draw from F_law_draw.up (by decide)), (show FnAt P w K mg base 1 "_law_up_to" ["_law_n"] sp__law_up_to from F_law_up_to.up (by decide))]) (fun ds h Q q => by first | exact False.elim q | (unfold sp__law_of_count at q; split at q <;> first | rfl | exact q.elim) | (obtain ⟨rfl, _⟩ := q; rfl) | (obtain ⟨_, rfl, _⟩ := q; rfl) | (obtain ⟨_, _, rfl, _⟩ := q; rfl) | (obtain ⟨_, _, _, rfl, _⟩ := q; rfl) | (obtain ⟨_, _, _, _, rfl, _⟩ := q; rfl) | (obtain ⟨_, _, _, _, _, rfl, _⟩ := q; rfl)) b__law_of_count
theorem sc__law_of_row : FnScope N__law_of_row ["_law_deck_here", "_law_off"] (defScope (topS 25)) := ⟨rfl, rfl, rfl, by decide +kernel, rfl, by decide +kernel, by decide +kernel⟩
theorem ht__law_of_row : tSs N__law_of_row (defScope (topS 25)) (fun _ => true) c__law_of_row (defBody (topS 25)) = true := by decide +kernel
theorem at__law_of_row {f : Addr} {fd : FuncData} (F : Fun K "_law_of_row" "_law_of_row" (topS 25) f fd) (g : mg "_law_of_row" = some (.ref f)) (hn : NoOwn mg base) (F_law_draw : FnAt P w K mg base 1 "_law_draw" ["_law_deck_here", "_law_many"] sp__law_draw) (F_law_quotients : FnAt P w K mg base 1 "_law_quotients" ["_law_a", "_law_b"] sp__law_quotients) (F_law_far : FnAt P w K mg base 2 "_law_far" ["_law_deck_here", "_law_top"] sp__law_far)  : FnAt P w K mg base 3 "_law_of_row" ["_law_deck_here", "_law_off"] sp__law_of_row :=
  fn_at F g (by decide +kernel) sc__law_of_row hn ht__law_of_row (by simp only [c__law_of_row, c__law_of_row_r1, c__law_of_row_r2, c__law_of_row_r3, c__law_of_row_r4, c__law_of_row_r5, c__law_of_row_r6, hSs, hS, hX, hE, hA, hI, hC, hO, List.map_cons, List.map_nil, and_true, true_and, and_self, (show FnAt P w K mg base 2 "_law_draw" ["_law_deck_here", "_law_many"] sp__law_draw from F_law_draw.up (by decide)), (show FnAt P w K mg base 2 "_law_quotients" ["_law_a", "_law_b"] sp__law_quotients from F_law_quotients.up (by decide)), (show FnAt P w K mg base 2 "_law_far" ["_law_deck_here", "_law_top"] sp__law_far from F_law_far.up (by decide))]) (fun ds h Q q => by first | exact False.elim q | (unfold sp__law_of_row at q; split at q <;> first | rfl | exact q.elim) | (obtain ⟨rfl, _⟩ := q; rfl) | (obtain ⟨_, rfl, _⟩ := q; rfl) | (obtain ⟨_, _, rfl, _⟩ := q; rfl) | (obtain ⟨_, _, _, rfl, _⟩ := q; rfl) | (obtain ⟨_, _, _, _, rfl, _⟩ := q; rfl) | (obtain ⟨_, _, _, _, _, rfl, _⟩ := q; rfl)) b__law_of_row
theorem sc__law_term : FnScope N__law_term ["_law_deck_here", "_law_layers"] (defScope (topS 20)) := ⟨rfl, rfl, rfl, by decide +kernel, rfl, by decide +kernel, by decide +kernel⟩
set_option maxHeartbeats 0 in
theorem ht__law_term (s : Spd) : tSs N__law_term (defScope (topS 20)) (fun _ => true) (c__law_term s) (defBody (topS 20)) = true := by rfl
theorem at__law_term {f : Addr} {fd : FuncData} (F : Fun K "_law_term" "_law_term" (topS 20) f fd) (g : mg "_law_term" = some (.ref f)) (hn : NoOwn mg base) (F_law_draw : FnAt P w K mg base 1 "_law_draw" ["_law_deck_here", "_law_many"] sp__law_draw) (F_law_pick : FnAt P w K mg base 2 "_law_pick" ["_law_deck_here", "_law_some"] sp__law_pick)  : FnAt P w K mg base 5 "_law_term" ["_law_deck_here", "_law_layers"] sp__law_term :=
  fn_rec (k := 2) (sp := spR__law_term) (code := c__law_term) F g (by decide +kernel) sc__law_term hn h0__law_term ht__law_term (fun n Fs => by simp only [c__law_term, c__law_term_r1, c__law_term_r2, c__law_term_r3, c__law_term_r4, hSs, hS, hX, hE, hA, hI, hC, hO, List.map_cons, List.map_nil, and_true, true_and, and_self, Fs, (show FnAt P w K mg base (2 + n) "_law_draw" ["_law_deck_here", "_law_many"] sp__law_draw from F_law_draw.up (by omega)), (show FnAt P w K mg base (2 + n) "_law_pick" ["_law_deck_here", "_law_some"] sp__law_pick from F_law_pick.up (by omega))]) (fun n ds h Q q => by unfold spR__law_term at q; split at q <;> first | rfl | exact q.elim) b__law_term 3
theorem sc__law_far_term : FnScope N__law_far_term ["_law_deck_here"] (defScope (topS 23)) := ⟨rfl, rfl, rfl, by decide +kernel, rfl, by decide +kernel, by decide +kernel⟩
theorem ht__law_far_term : tSs N__law_far_term (defScope (topS 23)) (fun _ => true) c__law_far_term (defBody (topS 23)) = true := by decide +kernel
theorem at__law_far_term {f : Addr} {fd : FuncData} (F : Fun K "_law_far_term" "_law_far_term" (topS 23) f fd) (g : mg "_law_far_term" = some (.ref f)) (hn : NoOwn mg base) (F_law_draw : FnAt P w K mg base 1 "_law_draw" ["_law_deck_here", "_law_many"] sp__law_draw) (F_law_term : FnAt P w K mg base 5 "_law_term" ["_law_deck_here", "_law_layers"] sp__law_term) (F_law_great : FnAt P w K mg base 2 "_law_great" ["_law_deck_here"] sp__law_great)  : FnAt P w K mg base 6 "_law_far_term" ["_law_deck_here"] sp__law_far_term :=
  fn_at F g (by decide +kernel) sc__law_far_term hn ht__law_far_term (by simp only [c__law_far_term, c__law_far_term_b3, c__law_far_term_r1, c__law_far_term_r2, c__law_far_term_r4, c__law_far_term_r5, c__law_far_term_r6, c__law_far_term_r7, hSs, hS, hX, hE, hA, hI, hC, hO, List.map_cons, List.map_nil, and_true, true_and, and_self, (show FnAt P w K mg base 5 "_law_draw" ["_law_deck_here", "_law_many"] sp__law_draw from F_law_draw.up (by decide)), (show FnAt P w K mg base 5 "_law_term" ["_law_deck_here", "_law_layers"] sp__law_term from F_law_term.up (by decide)), (show FnAt P w K mg base 5 "_law_great" ["_law_deck_here"] sp__law_great from F_law_great.up (by decide))]) (fun ds h Q q => by first | exact False.elim q | (unfold sp__law_far_term at q; split at q <;> first | rfl | exact q.elim) | (obtain ⟨rfl, _⟩ := q; rfl) | (obtain ⟨_, rfl, _⟩ := q; rfl) | (obtain ⟨_, _, rfl, _⟩ := q; rfl) | (obtain ⟨_, _, _, rfl, _⟩ := q; rfl) | (obtain ⟨_, _, _, _, rfl, _⟩ := q; rfl) | (obtain ⟨_, _, _, _, _, rfl, _⟩ := q; rfl)) b__law_far_term
theorem sc__law_worth : FnScope N__law_worth ["_law_t"] (defScope (topS 18)) := ⟨rfl, rfl, rfl, by decide +kernel, rfl, by decide +kernel, by decide +kernel⟩
set_option maxHeartbeats 0 in
theorem ht__law_worth (s : Spd) : tSs N__law_worth (defScope (topS 18)) (fun _ => true) (c__law_worth s) (defBody (topS 18)) = true := by rfl
theorem at__law_worth {f : Addr} {fd : FuncData} (F : Fun K "_law_worth" "_law_worth" (topS 18) f fd) (g : mg "_law_worth" = some (.ref f)) (hn : NoOwn mg base)   : FnAt P w K mg base 40 "_law_worth" ["_law_t"] sp__law_worth :=
  fn_rec (k := 0) (sp := spR__law_worth) (code := c__law_worth) F g (by decide +kernel) sc__law_worth hn h0__law_worth ht__law_worth (fun n Fs => by simp only [c__law_worth, c__law_worth_b4, c__law_worth_r1, c__law_worth_r2, c__law_worth_r3, c__law_worth_r5, c__law_worth_r6, hSs, hS, hX, hE, hA, hI, hC, hO, List.map_cons, List.map_nil, and_true, true_and, and_self, Fs]) (fun n ds h Q q => by unfold spR__law_worth at q; split at q <;> first | rfl | exact q.elim) b__law_worth 40
theorem sc_worth_of : FnScope N_worth_of ["term"] (defScope (topS 5)) := ⟨rfl, rfl, rfl, by decide +kernel, rfl, by decide +kernel, by decide +kernel⟩
set_option maxHeartbeats 0 in
theorem ht_worth_of (s : Spd) : tSs N_worth_of (defScope (topS 5)) (fun _ => true) (c_worth_of s) (defBody (topS 5)) = true := by rfl
theorem at_worth_of {f : Addr} {fd : FuncData} (F : Fun K "worth_of" "worth_of" (topS 5) f fd) (g : mg "worth_of" = some (.ref f)) (hn : NoOwn mg base) (Fpower_of : FnAt P w K mg base 1 "power_of" ["base", "many"] sp_power_of) (Fwithin : FnAt P w K mg base 1 "within" ["number"] sp_within) (GPOWER : GlAt w K mg "POWER" (.str "power")) : FnAt P w K mg base 41 "worth_of" ["term"] sp_worth_of :=
  fn_rec (k := 1) (sp := spR_worth_of) (code := c_worth_of) F g (by decide +kernel) sc_worth_of hn h0_worth_of ht_worth_of (fun n Fs => by simp only [c_worth_of, c_worth_of_r1, c_worth_of_r2, c_worth_of_r3, hSs, hS, hX, hE, hA, hI, hC, hO, List.map_cons, List.map_nil, and_true, true_and, and_self, Fs, (show FnAt P w K mg base (1 + n) "power_of" ["base", "many"] sp_power_of from Fpower_of.up (by omega)), (show FnAt P w K mg base (1 + n) "within" ["number"] sp_within from Fwithin.up (by omega)), GPOWER]) (fun n ds h Q q => by unfold spR_worth_of at q; split at q <;> first | rfl | exact q.elim) b_worth_of 40
theorem sc__law_of_terms : FnScope N__law_of_terms ["_law_deck_here", "_law_off"] (defScope (topS 24)) := ⟨rfl, rfl, rfl, by decide +kernel, rfl, by decide +kernel, by decide +kernel⟩
theorem ht__law_of_terms : tSs N__law_of_terms (defScope (topS 24)) (fun _ => true) c__law_of_terms (defBody (topS 24)) = true := by decide +kernel
theorem at__law_of_terms {f : Addr} {fd : FuncData} (F : Fun K "_law_of_terms" "_law_of_terms" (topS 24) f fd) (g : mg "_law_of_terms" = some (.ref f)) (hn : NoOwn mg base) (F_law_draw : FnAt P w K mg base 1 "_law_draw" ["_law_deck_here", "_law_many"] sp__law_draw) (F_law_worth : FnAt P w K mg base 40 "_law_worth" ["_law_t"] sp__law_worth) (F_law_far_term : FnAt P w K mg base 6 "_law_far_term" ["_law_deck_here"] sp__law_far_term)  : FnAt P w K mg base 41 "_law_of_terms" ["_law_deck_here", "_law_off"] sp__law_of_terms :=
  fn_at F g (by decide +kernel) sc__law_of_terms hn ht__law_of_terms (by simp only [c__law_of_terms, c__law_of_terms_r1, c__law_of_terms_r2, c__law_of_terms_r3, c__law_of_terms_r4, hSs, hS, hX, hE, hA, hI, hC, hO, List.map_cons, List.map_nil, and_true, true_and, and_self, (show FnAt P w K mg base 40 "_law_draw" ["_law_deck_here", "_law_many"] sp__law_draw from F_law_draw.up (by decide)), (show FnAt P w K mg base 40 "_law_worth" ["_law_t"] sp__law_worth from F_law_worth.up (by decide)), (show FnAt P w K mg base 40 "_law_far_term" ["_law_deck_here"] sp__law_far_term from F_law_far_term.up (by decide))]) (fun ds h Q q => by first | exact False.elim q | (unfold sp__law_of_terms at q; split at q <;> first | rfl | exact q.elim) | (obtain ⟨rfl, _⟩ := q; rfl) | (obtain ⟨_, rfl, _⟩ := q; rfl) | (obtain ⟨_, _, rfl, _⟩ := q; rfl) | (obtain ⟨_, _, _, rfl, _⟩ := q; rfl) | (obtain ⟨_, _, _, _, rfl, _⟩ := q; rfl) | (obtain ⟨_, _, _, _, _, rfl, _⟩ := q; rfl)) b__law_of_terms
theorem sc__law_walked : FnScope N__law_walked ["_law_s"] (defScope (topS 28)) := ⟨rfl, rfl, rfl, by decide +kernel, rfl, by decide +kernel, by decide +kernel⟩
theorem ht__law_walked : tSs N__law_walked (defScope (topS 28)) (fun _ => true) c__law_walked (defBody (topS 28)) = true := by decide +kernel
theorem at__law_walked {f : Addr} {fd : FuncData} (F : Fun K "_law_walked" "_law_walked" (topS 28) f fd) (g : mg "_law_walked" = some (.ref f)) (hn : NoOwn mg base) (F_law_worth : FnAt P w K mg base 40 "_law_worth" ["_law_t"] sp__law_worth) (F_law_quotients : FnAt P w K mg base 1 "_law_quotients" ["_law_a", "_law_b"] sp__law_quotients) (F_law_up_to : FnAt P w K mg base 1 "_law_up_to" ["_law_n"] sp__law_up_to)  : FnAt P w K mg base 41 "_law_walked" ["_law_s"] sp__law_walked :=
  fn_at F g (by decide +kernel) sc__law_walked hn ht__law_walked (by simp only [c__law_walked, c__law_walked_r1, c__law_walked_r2, c__law_walked_r3, hSs, hS, hX, hE, hA, hI, hC, hO, List.map_cons, List.map_nil, and_true, true_and, and_self, (show FnAt P w K mg base 40 "_law_worth" ["_law_t"] sp__law_worth from F_law_worth.up (by decide)), (show FnAt P w K mg base 40 "_law_quotients" ["_law_a", "_law_b"] sp__law_quotients from F_law_quotients.up (by decide)), (show FnAt P w K mg base 40 "_law_up_to" ["_law_n"] sp__law_up_to from F_law_up_to.up (by decide))]) (fun ds h Q q => by first | exact False.elim q | (unfold sp__law_walked at q; split at q <;> first | rfl | exact q.elim) | (obtain ⟨rfl, _⟩ := q; rfl) | (obtain ⟨_, rfl, _⟩ := q; rfl) | (obtain ⟨_, _, rfl, _⟩ := q; rfl) | (obtain ⟨_, _, _, rfl, _⟩ := q; rfl) | (obtain ⟨_, _, _, _, rfl, _⟩ := q; rfl) | (obtain ⟨_, _, _, _, _, rfl, _⟩ := q; rfl)) b__law_walked
theorem sc_is_walked : FnScope N_is_walked ["statement"] (defScope (topS 10)) := ⟨rfl, rfl, rfl, by decide +kernel, rfl, by decide +kernel, by decide +kernel⟩
theorem ht_is_walked : tSs N_is_walked (defScope (topS 10)) (fun _ => true) c_is_walked (defBody (topS 10)) = true := by decide +kernel
theorem at_is_walked {f : Addr} {fd : FuncData} (F : Fun K "is_walked" "is_walked" (topS 10) f fd) (g : mg "is_walked" = some (.ref f)) (hn : NoOwn mg base) (Fworth_of : FnAt P w K mg base 41 "worth_of" ["term"] sp_worth_of) (Fquotients_of : FnAt P w K mg base 1 "quotients_of" ["upper", "lower"] sp_quotients_of) (Fprimes_to : FnAt P w K mg base 1 "primes_to" ["number"] sp_primes_to)  : FnAt P w K mg base 42 "is_walked" ["statement"] sp_is_walked :=
  fn_at F g (by decide +kernel) sc_is_walked hn ht_is_walked (by simp only [c_is_walked, c_is_walked_r1, c_is_walked_r2, c_is_walked_r3, c_is_walked_r4, hSs, hS, hX, hE, hA, hI, hC, hO, List.map_cons, List.map_nil, and_true, true_and, and_self, (show FnAt P w K mg base 41 "worth_of" ["term"] sp_worth_of from Fworth_of.up (by decide)), (show FnAt P w K mg base 41 "quotients_of" ["upper", "lower"] sp_quotients_of from Fquotients_of.up (by decide)), (show FnAt P w K mg base 41 "primes_to" ["number"] sp_primes_to from Fprimes_to.up (by decide))]) (fun ds h Q q => by first | exact False.elim q | (unfold sp_is_walked at q; split at q <;> first | rfl | exact q.elim) | (obtain ⟨rfl, _⟩ := q; rfl) | (obtain ⟨_, rfl, _⟩ := q; rfl) | (obtain ⟨_, _, rfl, _⟩ := q; rfl) | (obtain ⟨_, _, _, rfl, _⟩ := q; rfl) | (obtain ⟨_, _, _, _, rfl, _⟩ := q; rfl) | (obtain ⟨_, _, _, _, _, rfl, _⟩ := q; rfl)) b_is_walked
theorem sc_walk_shows : FnScope N_walk_shows ["statement", "thing"] (defScope (topS 11)) := ⟨rfl, rfl, rfl, by decide +kernel, rfl, by decide +kernel, by decide +kernel⟩
theorem ht_walk_shows : tSs N_walk_shows (defScope (topS 11)) (fun _ => true) c_walk_shows (defBody (topS 11)) = true := by decide +kernel
theorem at_walk_shows {f : Addr} {fd : FuncData} (F : Fun K "walk_shows" "walk_shows" (topS 11) f fd) (g : mg "walk_shows" = some (.ref f)) (hn : NoOwn mg base) (Fis_walked : FnAt P w K mg base 42 "is_walked" ["statement"] sp_is_walked) (GWALK : GlAt w K mg "WALK" (.tup [(.str "walk")])) : FnAt P w K mg base 43 "walk_shows" ["statement", "thing"] sp_walk_shows :=
  fn_at F g (by decide +kernel) sc_walk_shows hn ht_walk_shows (by simp only [c_walk_shows, hSs, hS, hX, hE, hA, hI, hC, hO, List.map_cons, List.map_nil, and_true, true_and, and_self, (show FnAt P w K mg base 42 "is_walked" ["statement"] sp_is_walked from Fis_walked.up (by decide)), GWALK]) (fun ds h Q q => by first | exact False.elim q | (unfold sp_walk_shows at q; split at q <;> first | rfl | exact q.elim) | (obtain ⟨rfl, _⟩ := q; rfl) | (obtain ⟨_, rfl, _⟩ := q; rfl) | (obtain ⟨_, _, rfl, _⟩ := q; rfl) | (obtain ⟨_, _, _, rfl, _⟩ := q; rfl) | (obtain ⟨_, _, _, _, rfl, _⟩ := q; rfl) | (obtain ⟨_, _, _, _, _, rfl, _⟩ := q; rfl)) b_walk_shows
theorem sc_walk_denies : FnScope N_walk_denies ["statement", "thing"] (defScope (topS 12)) := ⟨rfl, rfl, rfl, by decide +kernel, rfl, by decide +kernel, by decide +kernel⟩
theorem ht_walk_denies : tSs N_walk_denies (defScope (topS 12)) (fun _ => true) c_walk_denies (defBody (topS 12)) = true := by decide +kernel
theorem at_walk_denies {f : Addr} {fd : FuncData} (F : Fun K "walk_denies" "walk_denies" (topS 12) f fd) (g : mg "walk_denies" = some (.ref f)) (hn : NoOwn mg base) (Fis_walked : FnAt P w K mg base 42 "is_walked" ["statement"] sp_is_walked) (GWALK : GlAt w K mg "WALK" (.tup [(.str "walk")])) : FnAt P w K mg base 43 "walk_denies" ["statement", "thing"] sp_walk_denies :=
  fn_at F g (by decide +kernel) sc_walk_denies hn ht_walk_denies (by simp only [c_walk_denies, hSs, hS, hX, hE, hA, hI, hC, hO, List.map_cons, List.map_nil, and_true, true_and, and_self, (show FnAt P w K mg base 42 "is_walked" ["statement"] sp_is_walked from Fis_walked.up (by decide)), GWALK]) (fun ds h Q q => by first | exact False.elim q | (unfold sp_walk_denies at q; split at q <;> first | rfl | exact q.elim) | (obtain ⟨rfl, _⟩ := q; rfl) | (obtain ⟨_, rfl, _⟩ := q; rfl) | (obtain ⟨_, _, rfl, _⟩ := q; rfl) | (obtain ⟨_, _, _, rfl, _⟩ := q; rfl) | (obtain ⟨_, _, _, _, rfl, _⟩ := q; rfl) | (obtain ⟨_, _, _, _, _, rfl, _⟩ := q; rfl)) b_walk_denies
theorem sc_walk_made : FnScope N_walk_made ["statement"] (defScope (topS 13)) := ⟨rfl, rfl, rfl, by decide +kernel, rfl, by decide +kernel, by decide +kernel⟩
theorem ht_walk_made : tSs N_walk_made (defScope (topS 13)) (fun _ => true) c_walk_made (defBody (topS 13)) = true := by decide +kernel
theorem at_walk_made {f : Addr} {fd : FuncData} (F : Fun K "walk_made" "walk_made" (topS 13) f fd) (g : mg "walk_made" = some (.ref f)) (hn : NoOwn mg base) (Fis_walked : FnAt P w K mg base 42 "is_walked" ["statement"] sp_is_walked) (GWALK : GlAt w K mg "WALK" (.tup [(.str "walk")])) : FnAt P w K mg base 43 "walk_made" ["statement"] sp_walk_made :=
  fn_at F g (by decide +kernel) sc_walk_made hn ht_walk_made (by simp only [c_walk_made, hSs, hS, hX, hE, hA, hI, hC, hO, List.map_cons, List.map_nil, and_true, true_and, and_self, (show FnAt P w K mg base 42 "is_walked" ["statement"] sp_is_walked from Fis_walked.up (by decide)), GWALK]) (fun ds h Q q => by first | exact False.elim q | (unfold sp_walk_made at q; split at q <;> first | rfl | exact q.elim) | (obtain ⟨rfl, _⟩ := q; rfl) | (obtain ⟨_, rfl, _⟩ := q; rfl) | (obtain ⟨_, _, rfl, _⟩ := q; rfl) | (obtain ⟨_, _, _, rfl, _⟩ := q; rfl) | (obtain ⟨_, _, _, _, rfl, _⟩ := q; rfl) | (obtain ⟨_, _, _, _, _, rfl, _⟩ := q; rfl)) b_walk_made
theorem sc_law : FnScope N_law ["_law_script"] (defScope (topS 30)) := ⟨rfl, rfl, rfl, by decide +kernel, rfl, by decide +kernel, by decide +kernel⟩
theorem ht_law : tSs N_law (defScope (topS 30)) (fun _ => true) c_law (defBody (topS 30)) = true := by decide +kernel
theorem at_law {f : Addr} {fd : FuncData} (F : Fun K "law" "law" (topS 30) f fd) (g : mg "law" = some (.ref f)) (hn : NoOwn mg base) (Fwalk_shows : FnAt P w K mg base 43 "walk_shows" ["statement", "thing"] sp_walk_shows) (Fwalk_denies : FnAt P w K mg base 43 "walk_denies" ["statement", "thing"] sp_walk_denies) (Fwalk_made : FnAt P w K mg base 43 "walk_made" ["statement"] sp_walk_made) (F_law_deck : FnAt P w K mg base 1 "_law_deck" ["_law_script"] sp__law_deck) (F_law_draw : FnAt P w K mg base 1 "_law_draw" ["_law_deck_here", "_law_many"] sp__law_draw) (F_law_pick : FnAt P w K mg base 2 "_law_pick" ["_law_deck_here", "_law_some"] sp__law_pick) (F_law_of_terms : FnAt P w K mg base 41 "_law_of_terms" ["_law_deck_here", "_law_off"] sp__law_of_terms) (F_law_of_row : FnAt P w K mg base 3 "_law_of_row" ["_law_deck_here", "_law_off"] sp__law_of_row) (F_law_of_count : FnAt P w K mg base 2 "_law_of_count" ["_law_deck_here", "_law_off"] sp__law_of_count) (F_law_walked : FnAt P w K mg base 41 "_law_walked" ["_law_s"] sp__law_walked) (F_law_things : FnAt P w K mg base 1 "_law_things" [] sp__law_things)  : FnAt P w K mg base 44 "law" ["_law_script"] spLaw :=
  fn_at F g (by decide +kernel) sc_law hn ht_law (by simp only [c_law, c_law_b12, c_law_b4, c_law_b7, c_law_r1, c_law_r10, c_law_r11, c_law_r13, c_law_r2, c_law_r3, c_law_r5, c_law_r6, c_law_r8, c_law_r9, hSs, hS, hX, hE, hA, hI, hC, hO, List.map_cons, List.map_nil, and_true, true_and, and_self, (show FnAt P w K mg base 43 "walk_shows" ["statement", "thing"] sp_walk_shows from Fwalk_shows.up (by decide)), (show FnAt P w K mg base 43 "walk_denies" ["statement", "thing"] sp_walk_denies from Fwalk_denies.up (by decide)), (show FnAt P w K mg base 43 "walk_made" ["statement"] sp_walk_made from Fwalk_made.up (by decide)), (show FnAt P w K mg base 43 "_law_deck" ["_law_script"] sp__law_deck from F_law_deck.up (by decide)), (show FnAt P w K mg base 43 "_law_draw" ["_law_deck_here", "_law_many"] sp__law_draw from F_law_draw.up (by decide)), (show FnAt P w K mg base 43 "_law_pick" ["_law_deck_here", "_law_some"] sp__law_pick from F_law_pick.up (by decide)), (show FnAt P w K mg base 43 "_law_of_terms" ["_law_deck_here", "_law_off"] sp__law_of_terms from F_law_of_terms.up (by decide)), (show FnAt P w K mg base 43 "_law_of_row" ["_law_deck_here", "_law_off"] sp__law_of_row from F_law_of_row.up (by decide)), (show FnAt P w K mg base 43 "_law_of_count" ["_law_deck_here", "_law_off"] sp__law_of_count from F_law_of_count.up (by decide)), (show FnAt P w K mg base 43 "_law_walked" ["_law_s"] sp__law_walked from F_law_walked.up (by decide)), (show FnAt P w K mg base 43 "_law_things" [] sp__law_things from F_law_things.up (by decide))]) (fun ds h Q q => by first | (obtain ⟨rfl, _⟩ := q; rfl) | (obtain ⟨_, rfl, _⟩ := q; rfl) | (obtain ⟨_, _, rfl, _⟩ := q; rfl) | (obtain ⟨_, _, _, rfl, _⟩ := q; rfl)) b_law
end
theorem all_at {l : PySem.W.OpenLaw} {w : World} {K : PySem.W.Frag} {h : Heap} {mg : Str → Option Value} (X : K.In h) (G : h.Ns mainGlobals mg)
    {f0 : Addr} {od0 an0 : Option Addr} {sl0 : Array (Option Value)} {oc0 kV0 dc0 pm0 cd0 ct0 : Value}
    (a0 : PySem.W.nsIn K mainGlobals "power_of" = some (some (.ref f0))) (l0 : K.lookup f0 = some ⟨oc0, od0, .func (PySem.W.fnOf "power_of" "power_of" (defArgs (topS 1)) (defBody (topS 1)) (defScope (topS 1)) .none kV0 dc0 pm0 an0 cd0 ct0), sl0⟩) (c0 : PySem.W.codeIn K cd0 "power_of" = true) (k0 : PySem.W.keepIn K (.ref f0) = true)
    {f1 : Addr} {od1 an1 : Option Addr} {sl1 : Array (Option Value)} {oc1 kV1 dc1 pm1 cd1 ct1 : Value}
    (a1 : PySem.W.nsIn K mainGlobals "within" = some (some (.ref f1))) (l1 : K.lookup f1 = some ⟨oc1, od1, .func (PySem.W.fnOf "within" "within" (defArgs (topS 4)) (defBody (topS 4)) (defScope (topS 4)) .none kV1 dc1 pm1 an1 cd1 ct1), sl1⟩) (c1 : PySem.W.codeIn K cd1 "within" = true) (k1 : PySem.W.keepIn K (.ref f1) = true)
    {f2 : Addr} {od2 an2 : Option Addr} {sl2 : Array (Option Value)} {oc2 kV2 dc2 pm2 cd2 ct2 : Value}
    (a2 : PySem.W.nsIn K mainGlobals "quotients_of" = some (some (.ref f2))) (l2 : K.lookup f2 = some ⟨oc2, od2, .func (PySem.W.fnOf "quotients_of" "quotients_of" (defArgs (topS 8)) (defBody (topS 8)) (defScope (topS 8)) .none kV2 dc2 pm2 an2 cd2 ct2), sl2⟩) (c2 : PySem.W.codeIn K cd2 "quotients_of" = true) (k2 : PySem.W.keepIn K (.ref f2) = true)
    {f3 : Addr} {od3 an3 : Option Addr} {sl3 : Array (Option Value)} {oc3 kV3 dc3 pm3 cd3 ct3 : Value}
    (a3 : PySem.W.nsIn K mainGlobals "primes_to" = some (some (.ref f3))) (l3 : K.lookup f3 = some ⟨oc3, od3, .func (PySem.W.fnOf "primes_to" "primes_to" (defArgs (topS 9)) (defBody (topS 9)) (defScope (topS 9)) .none kV3 dc3 pm3 an3 cd3 ct3), sl3⟩) (c3 : PySem.W.codeIn K cd3 "primes_to" = true) (k3 : PySem.W.keepIn K (.ref f3) = true)
    {f4 : Addr} {od4 an4 : Option Addr} {sl4 : Array (Option Value)} {oc4 kV4 dc4 pm4 cd4 ct4 : Value}
    (a4 : PySem.W.nsIn K mainGlobals "_law_deck" = some (some (.ref f4))) (l4 : K.lookup f4 = some ⟨oc4, od4, .func (PySem.W.fnOf "_law_deck" "_law_deck" (defArgs (topS 15)) (defBody (topS 15)) (defScope (topS 15)) .none kV4 dc4 pm4 an4 cd4 ct4), sl4⟩) (c4 : PySem.W.codeIn K cd4 "_law_deck" = true) (k4 : PySem.W.keepIn K (.ref f4) = true)
    {f5 : Addr} {od5 an5 : Option Addr} {sl5 : Array (Option Value)} {oc5 kV5 dc5 pm5 cd5 ct5 : Value}
    (a5 : PySem.W.nsIn K mainGlobals "_law_draw" = some (some (.ref f5))) (l5 : K.lookup f5 = some ⟨oc5, od5, .func (PySem.W.fnOf "_law_draw" "_law_draw" (defArgs (topS 16)) (defBody (topS 16)) (defScope (topS 16)) .none kV5 dc5 pm5 an5 cd5 ct5), sl5⟩) (c5 : PySem.W.codeIn K cd5 "_law_draw" = true) (k5 : PySem.W.keepIn K (.ref f5) = true)
    {f6 : Addr} {od6 an6 : Option Addr} {sl6 : Array (Option Value)} {oc6 kV6 dc6 pm6 cd6 ct6 : Value}
    (a6 : PySem.W.nsIn K mainGlobals "_law_quotients" = some (some (.ref f6))) (l6 : K.lookup f6 = some ⟨oc6, od6, .func (PySem.W.fnOf "_law_quotients" "_law_quotients" (defArgs (topS 19)) (defBody (topS 19)) (defScope (topS 19)) .none kV6 dc6 pm6 an6 cd6 ct6), sl6⟩) (c6 : PySem.W.codeIn K cd6 "_law_quotients" = true) (k6 : PySem.W.keepIn K (.ref f6) = true)
    {f7 : Addr} {od7 an7 : Option Addr} {sl7 : Array (Option Value)} {oc7 kV7 dc7 pm7 cd7 ct7 : Value}
    (a7 : PySem.W.nsIn K mainGlobals "_law_up_to" = some (some (.ref f7))) (l7 : K.lookup f7 = some ⟨oc7, od7, .func (PySem.W.fnOf "_law_up_to" "_law_up_to" (defArgs (topS 26)) (defBody (topS 26)) (defScope (topS 26)) .none kV7 dc7 pm7 an7 cd7 ct7), sl7⟩) (c7 : PySem.W.codeIn K cd7 "_law_up_to" = true) (k7 : PySem.W.keepIn K (.ref f7) = true)
    {f8 : Addr} {od8 an8 : Option Addr} {sl8 : Array (Option Value)} {oc8 kV8 dc8 pm8 cd8 ct8 : Value}
    (a8 : PySem.W.nsIn K mainGlobals "_law_things" = some (some (.ref f8))) (l8 : K.lookup f8 = some ⟨oc8, od8, .func (PySem.W.fnOf "_law_things" "_law_things" (defArgs (topS 29)) (defBody (topS 29)) (defScope (topS 29)) .none kV8 dc8 pm8 an8 cd8 ct8), sl8⟩) (c8 : PySem.W.codeIn K cd8 "_law_things" = true) (k8 : PySem.W.keepIn K (.ref f8) = true)
    {f9 : Addr} {od9 an9 : Option Addr} {sl9 : Array (Option Value)} {oc9 kV9 dc9 pm9 cd9 ct9 : Value}
    (a9 : PySem.W.nsIn K mainGlobals "_law_pick" = some (some (.ref f9))) (l9 : K.lookup f9 = some ⟨oc9, od9, .func (PySem.W.fnOf "_law_pick" "_law_pick" (defArgs (topS 17)) (defBody (topS 17)) (defScope (topS 17)) .none kV9 dc9 pm9 an9 cd9 ct9), sl9⟩) (c9 : PySem.W.codeIn K cd9 "_law_pick" = true) (k9 : PySem.W.keepIn K (.ref f9) = true)
    {f10 : Addr} {od10 an10 : Option Addr} {sl10 : Array (Option Value)} {oc10 kV10 dc10 pm10 cd10 ct10 : Value}
    (a10 : PySem.W.nsIn K mainGlobals "_law_far" = some (some (.ref f10))) (l10 : K.lookup f10 = some ⟨oc10, od10, .func (PySem.W.fnOf "_law_far" "_law_far" (defArgs (topS 21)) (defBody (topS 21)) (defScope (topS 21)) .none kV10 dc10 pm10 an10 cd10 ct10), sl10⟩) (c10 : PySem.W.codeIn K cd10 "_law_far" = true) (k10 : PySem.W.keepIn K (.ref f10) = true)
    {f11 : Addr} {od11 an11 : Option Addr} {sl11 : Array (Option Value)} {oc11 kV11 dc11 pm11 cd11 ct11 : Value}
    (a11 : PySem.W.nsIn K mainGlobals "_law_great" = some (some (.ref f11))) (l11 : K.lookup f11 = some ⟨oc11, od11, .func (PySem.W.fnOf "_law_great" "_law_great" (defArgs (topS 22)) (defBody (topS 22)) (defScope (topS 22)) .none kV11 dc11 pm11 an11 cd11 ct11), sl11⟩) (c11 : PySem.W.codeIn K cd11 "_law_great" = true) (k11 : PySem.W.keepIn K (.ref f11) = true)
    {f12 : Addr} {od12 an12 : Option Addr} {sl12 : Array (Option Value)} {oc12 kV12 dc12 pm12 cd12 ct12 : Value}
    (a12 : PySem.W.nsIn K mainGlobals "_law_of_count" = some (some (.ref f12))) (l12 : K.lookup f12 = some ⟨oc12, od12, .func (PySem.W.fnOf "_law_of_count" "_law_of_count" (defArgs (topS 27)) (defBody (topS 27)) (defScope (topS 27)) .none kV12 dc12 pm12 an12 cd12 ct12), sl12⟩) (c12 : PySem.W.codeIn K cd12 "_law_of_count" = true) (k12 : PySem.W.keepIn K (.ref f12) = true)
    {f13 : Addr} {od13 an13 : Option Addr} {sl13 : Array (Option Value)} {oc13 kV13 dc13 pm13 cd13 ct13 : Value}
    (a13 : PySem.W.nsIn K mainGlobals "_law_of_row" = some (some (.ref f13))) (l13 : K.lookup f13 = some ⟨oc13, od13, .func (PySem.W.fnOf "_law_of_row" "_law_of_row" (defArgs (topS 25)) (defBody (topS 25)) (defScope (topS 25)) .none kV13 dc13 pm13 an13 cd13 ct13), sl13⟩) (c13 : PySem.W.codeIn K cd13 "_law_of_row" = true) (k13 : PySem.W.keepIn K (.ref f13) = true)
    {f14 : Addr} {od14 an14 : Option Addr} {sl14 : Array (Option Value)} {oc14 kV14 dc14 pm14 cd14 ct14 : Value}
    (a14 : PySem.W.nsIn K mainGlobals "_law_term" = some (some (.ref f14))) (l14 : K.lookup f14 = some ⟨oc14, od14, .func (PySem.W.fnOf "_law_term" "_law_term" (defArgs (topS 20)) (defBody (topS 20)) (defScope (topS 20)) .none kV14 dc14 pm14 an14 cd14 ct14), sl14⟩) (c14 : PySem.W.codeIn K cd14 "_law_term" = true) (k14 : PySem.W.keepIn K (.ref f14) = true)
    {f15 : Addr} {od15 an15 : Option Addr} {sl15 : Array (Option Value)} {oc15 kV15 dc15 pm15 cd15 ct15 : Value}
    (a15 : PySem.W.nsIn K mainGlobals "_law_far_term" = some (some (.ref f15))) (l15 : K.lookup f15 = some ⟨oc15, od15, .func (PySem.W.fnOf "_law_far_term" "_law_far_term" (defArgs (topS 23)) (defBody (topS 23)) (defScope (topS 23)) .none kV15 dc15 pm15 an15 cd15 ct15), sl15⟩) (c15 : PySem.W.codeIn K cd15 "_law_far_term" = true) (k15 : PySem.W.keepIn K (.ref f15) = true)
    {f16 : Addr} {od16 an16 : Option Addr} {sl16 : Array (Option Value)} {oc16 kV16 dc16 pm16 cd16 ct16 : Value}
    (a16 : PySem.W.nsIn K mainGlobals "_law_worth" = some (some (.ref f16))) (l16 : K.lookup f16 = some ⟨oc16, od16, .func (PySem.W.fnOf "_law_worth" "_law_worth" (defArgs (topS 18)) (defBody (topS 18)) (defScope (topS 18)) .none kV16 dc16 pm16 an16 cd16 ct16), sl16⟩) (c16 : PySem.W.codeIn K cd16 "_law_worth" = true) (k16 : PySem.W.keepIn K (.ref f16) = true)
    {f17 : Addr} {od17 an17 : Option Addr} {sl17 : Array (Option Value)} {oc17 kV17 dc17 pm17 cd17 ct17 : Value}
    (a17 : PySem.W.nsIn K mainGlobals "worth_of" = some (some (.ref f17))) (l17 : K.lookup f17 = some ⟨oc17, od17, .func (PySem.W.fnOf "worth_of" "worth_of" (defArgs (topS 5)) (defBody (topS 5)) (defScope (topS 5)) .none kV17 dc17 pm17 an17 cd17 ct17), sl17⟩) (c17 : PySem.W.codeIn K cd17 "worth_of" = true) (k17 : PySem.W.keepIn K (.ref f17) = true)
    {f18 : Addr} {od18 an18 : Option Addr} {sl18 : Array (Option Value)} {oc18 kV18 dc18 pm18 cd18 ct18 : Value}
    (a18 : PySem.W.nsIn K mainGlobals "_law_of_terms" = some (some (.ref f18))) (l18 : K.lookup f18 = some ⟨oc18, od18, .func (PySem.W.fnOf "_law_of_terms" "_law_of_terms" (defArgs (topS 24)) (defBody (topS 24)) (defScope (topS 24)) .none kV18 dc18 pm18 an18 cd18 ct18), sl18⟩) (c18 : PySem.W.codeIn K cd18 "_law_of_terms" = true) (k18 : PySem.W.keepIn K (.ref f18) = true)
    {f19 : Addr} {od19 an19 : Option Addr} {sl19 : Array (Option Value)} {oc19 kV19 dc19 pm19 cd19 ct19 : Value}
    (a19 : PySem.W.nsIn K mainGlobals "_law_walked" = some (some (.ref f19))) (l19 : K.lookup f19 = some ⟨oc19, od19, .func (PySem.W.fnOf "_law_walked" "_law_walked" (defArgs (topS 28)) (defBody (topS 28)) (defScope (topS 28)) .none kV19 dc19 pm19 an19 cd19 ct19), sl19⟩) (c19 : PySem.W.codeIn K cd19 "_law_walked" = true) (k19 : PySem.W.keepIn K (.ref f19) = true)
    {f20 : Addr} {od20 an20 : Option Addr} {sl20 : Array (Option Value)} {oc20 kV20 dc20 pm20 cd20 ct20 : Value}
    (a20 : PySem.W.nsIn K mainGlobals "is_walked" = some (some (.ref f20))) (l20 : K.lookup f20 = some ⟨oc20, od20, .func (PySem.W.fnOf "is_walked" "is_walked" (defArgs (topS 10)) (defBody (topS 10)) (defScope (topS 10)) .none kV20 dc20 pm20 an20 cd20 ct20), sl20⟩) (c20 : PySem.W.codeIn K cd20 "is_walked" = true) (k20 : PySem.W.keepIn K (.ref f20) = true)
    {f21 : Addr} {od21 an21 : Option Addr} {sl21 : Array (Option Value)} {oc21 kV21 dc21 pm21 cd21 ct21 : Value}
    (a21 : PySem.W.nsIn K mainGlobals "walk_shows" = some (some (.ref f21))) (l21 : K.lookup f21 = some ⟨oc21, od21, .func (PySem.W.fnOf "walk_shows" "walk_shows" (defArgs (topS 11)) (defBody (topS 11)) (defScope (topS 11)) .none kV21 dc21 pm21 an21 cd21 ct21), sl21⟩) (c21 : PySem.W.codeIn K cd21 "walk_shows" = true) (k21 : PySem.W.keepIn K (.ref f21) = true)
    {f22 : Addr} {od22 an22 : Option Addr} {sl22 : Array (Option Value)} {oc22 kV22 dc22 pm22 cd22 ct22 : Value}
    (a22 : PySem.W.nsIn K mainGlobals "walk_denies" = some (some (.ref f22))) (l22 : K.lookup f22 = some ⟨oc22, od22, .func (PySem.W.fnOf "walk_denies" "walk_denies" (defArgs (topS 12)) (defBody (topS 12)) (defScope (topS 12)) .none kV22 dc22 pm22 an22 cd22 ct22), sl22⟩) (c22 : PySem.W.codeIn K cd22 "walk_denies" = true) (k22 : PySem.W.keepIn K (.ref f22) = true)
    {f23 : Addr} {od23 an23 : Option Addr} {sl23 : Array (Option Value)} {oc23 kV23 dc23 pm23 cd23 ct23 : Value}
    (a23 : PySem.W.nsIn K mainGlobals "walk_made" = some (some (.ref f23))) (l23 : K.lookup f23 = some ⟨oc23, od23, .func (PySem.W.fnOf "walk_made" "walk_made" (defArgs (topS 13)) (defBody (topS 13)) (defScope (topS 13)) .none kV23 dc23 pm23 an23 cd23 ct23), sl23⟩) (c23 : PySem.W.codeIn K cd23 "walk_made" = true) (k23 : PySem.W.keepIn K (.ref f23) = true)
    {f24 : Addr} {od24 an24 : Option Addr} {sl24 : Array (Option Value)} {oc24 kV24 dc24 pm24 cd24 ct24 : Value}
    (a24 : PySem.W.nsIn K mainGlobals "law" = some (some (.ref f24))) (l24 : K.lookup f24 = some ⟨oc24, od24, .func (PySem.W.fnOf "law" "law" (defArgs (topS 30)) (defBody (topS 30)) (defScope (topS 30)) .none kV24 dc24 pm24 an24 cd24 ct24), sl24⟩) (c24 : PySem.W.codeIn K cd24 "law" = true) (k24 : PySem.W.keepIn K (.ref f24) = true)
    {gt0 : Nat} (ga0 : PySem.W.nsIn K mainGlobals "POWER" = some (some (.str "power" gt0)))
    {g1 : Addr} {god1 : Option Addr} {gn1 : Nat} {gsl1 : Array (Option Value)} {gt1_0 : Nat}
    (ga1 : PySem.W.nsIn K mainGlobals "WALK" = some (some (.ref g1))) (gl1 : K.lookup g1 = some ⟨.type "tuple", god1, .seq #[.str "walk" gt1_0] gn1, gsl1⟩)
    (z0 : PySem.W.nsIn K mainGlobals "len" = some none)
    (z1 : PySem.W.nsIn K mainGlobals "sum" = some none)
    (z2 : PySem.W.nsIn K mainGlobals "all" = some none)
    (z3 : PySem.W.nsIn K mainGlobals "any" = some none)
    (z4 : PySem.W.nsIn K mainGlobals "tuple" = some none)
    (z5 : PySem.W.nsIn K mainGlobals "list" = some none)
    (z6 : PySem.W.nsIn K mainGlobals "min" = some none)
    (z7 : PySem.W.nsIn K mainGlobals "max" = some none)
    (z8 : PySem.W.nsIn K mainGlobals "abs" = some none)
    (z9 : PySem.W.nsIn K mainGlobals "int" = some none)
    (z10 : PySem.W.nsIn K mainGlobals "isinstance" = some none)
    (z11 : PySem.W.nsIn K mainGlobals "repr" = some none)
    (z12 : PySem.W.nsIn K mainGlobals "str" = some none)
    (z13 : PySem.W.nsIn K mainGlobals "bool" = some none)
    (z14 : PySem.W.nsIn K mainGlobals "dict" = some none)
    (z15 : PySem.W.nsIn K mainGlobals "range" = some none)
    (z16 : PySem.W.nsIn K mainGlobals "zip" = some none)
    (z17 : PySem.W.nsIn K mainGlobals "reversed" = some none)
    (z18 : PySem.W.nsIn K mainGlobals "enumerate" = some none)
    (z19 : PySem.W.nsIn K mainGlobals "sorted" = some none)
    (z20 : PySem.W.nsIn K mainGlobals "divmod" = some none)
    (z21 : PySem.W.nsIn K mainGlobals "set" = some none)
    : ∀ base : Heap, K.In base → base.Ns mainGlobals mg → (∃ o, base.get? sysModules = some o) → FnAt l.prog w K mg base 44 "law" ["_law_script"] spLaw := by
  intro base _ _ hsys
  have no : ∀ {x : Str}, PySem.W.nsIn K mainGlobals x = some none → mg x = none := fun e => PySem.W.mg_none_of X G e
  have hn : NoOwn mg base := ⟨fun b => by cases b <;> first | exact no z0 | exact no z1 | exact no z2 | exact no z3 | exact no z4 | exact no z5 | exact no z6 | exact no z7 | exact no z8 | exact no z9 | exact no z10 | exact no z11 | exact no z12 | exact no z13 | exact no z14 | exact no z15 | exact no z16 | exact no z17 | exact no z18 | exact no z19 | exact no z20 | exact no z21, fun t => by cases t <;> first | exact no z0 | exact no z1 | exact no z2 | exact no z3 | exact no z4 | exact no z5 | exact no z6 | exact no z7 | exact no z8 | exact no z9 | exact no z10 | exact no z11 | exact no z12 | exact no z13 | exact no z14 | exact no z15 | exact no z16 | exact no z17 | exact no z18 | exact no z19 | exact no z20 | exact no z21, no z15, fun x hx => by simp only [moreN, List.mem_cons, List.not_mem_nil, or_false] at hx; rcases hx with rfl | rfl | rfl | rfl | rfl | rfl <;> first | exact no z0 | exact no z1 | exact no z2 | exact no z3 | exact no z4 | exact no z5 | exact no z6 | exact no z7 | exact no z8 | exact no z9 | exact no z10 | exact no z11 | exact no z12 | exact no z13 | exact no z14 | exact no z15 | exact no z16 | exact no z17 | exact no z18 | exact no z19 | exact no z20 | exact no z21, hsys⟩
  have GPOWER : GlAt w K mg "POWER" (.str "power") := ⟨.str "power", .str "power" gt0, PySem.W.mg_of X G ga0, ⟨_, rfl⟩, fun w => .str _⟩
  have GWALK : GlAt w K mg "WALK" (.tup [(.str "walk")]) := ⟨.ref g1, .ref g1, PySem.W.mg_of X G ga1, rfl, fun w => .tup (xs := [.str "walk"]) (.inr ⟨_, _, gn1, gl1, rfl, rfl, by show 1 ≤ sizeLine; decide, (.cons ⟨_, rfl⟩ .nil)⟩) (by show 1 ≤ sizeLine; decide) (.cons (.str _) .nil)⟩
  have Fpower_of := at_power_of (P := l.prog) (w := w) (base := base) (fun_mk (st := topS 1) l0 c0 k0) (PySem.W.mg_of X G a0) hn  
  have Fwithin := at_within (P := l.prog) (w := w) (base := base) (fun_mk (st := topS 4) l1 c1 k1) (PySem.W.mg_of X G a1) hn  
  have Fquotients_of := at_quotients_of (P := l.prog) (w := w) (base := base) (fun_mk (st := topS 8) l2 c2 k2) (PySem.W.mg_of X G a2) hn  
  have Fprimes_to := at_primes_to (P := l.prog) (w := w) (base := base) (fun_mk (st := topS 9) l3 c3 k3) (PySem.W.mg_of X G a3) hn  
  have F_law_deck := at__law_deck (P := l.prog) (w := w) (base := base) (fun_mk (st := topS 15) l4 c4 k4) (PySem.W.mg_of X G a4) hn  
  have F_law_draw := at__law_draw (P := l.prog) (w := w) (base := base) (fun_mk (st := topS 16) l5 c5 k5) (PySem.W.mg_of X G a5) hn  
  have F_law_quotients := at__law_quotients (P := l.prog) (w := w) (base := base) (fun_mk (st := topS 19) l6 c6 k6) (PySem.W.mg_of X G a6) hn  
  have F_law_up_to := at__law_up_to (P := l.prog) (w := w) (base := base) (fun_mk (st := topS 26) l7 c7 k7) (PySem.W.mg_of X G a7) hn  
  have F_law_things := at__law_things (P := l.prog) (w := w) (base := base) (fun_mk (st := topS 29) l8 c8 k8) (PySem.W.mg_of X G a8) hn  
  have F_law_pick := at__law_pick (P := l.prog) (w := w) (base := base) (fun_mk (st := topS 17) l9 c9 k9) (PySem.W.mg_of X G a9) hn F_law_draw 
  have F_law_far := at__law_far (P := l.prog) (w := w) (base := base) (fun_mk (st := topS 21) l10 c10 k10) (PySem.W.mg_of X G a10) hn F_law_draw 
  have F_law_great := at__law_great (P := l.prog) (w := w) (base := base) (fun_mk (st := topS 22) l11 c11 k11) (PySem.W.mg_of X G a11) hn F_law_draw 
  have F_law_of_count := at__law_of_count (P := l.prog) (w := w) (base := base) (fun_mk (st := topS 27) l12 c12 k12) (PySem.W.mg_of X G a12) hn F_law_draw F_law_up_to 
  have F_law_of_row := at__law_of_row (P := l.prog) (w := w) (base := base) (fun_mk (st := topS 25) l13 c13 k13) (PySem.W.mg_of X G a13) hn F_law_draw F_law_quotients F_law_far 
  have F_law_term := at__law_term (P := l.prog) (w := w) (base := base) (fun_mk (st := topS 20) l14 c14 k14) (PySem.W.mg_of X G a14) hn F_law_draw F_law_pick 
  have F_law_far_term := at__law_far_term (P := l.prog) (w := w) (base := base) (fun_mk (st := topS 23) l15 c15 k15) (PySem.W.mg_of X G a15) hn F_law_draw F_law_term F_law_great 
  have F_law_worth := at__law_worth (P := l.prog) (w := w) (base := base) (fun_mk (st := topS 18) l16 c16 k16) (PySem.W.mg_of X G a16) hn  
  have Fworth_of := at_worth_of (P := l.prog) (w := w) (base := base) (fun_mk (st := topS 5) l17 c17 k17) (PySem.W.mg_of X G a17) hn Fpower_of Fwithin GPOWER
  have F_law_of_terms := at__law_of_terms (P := l.prog) (w := w) (base := base) (fun_mk (st := topS 24) l18 c18 k18) (PySem.W.mg_of X G a18) hn F_law_draw F_law_worth F_law_far_term 
  have F_law_walked := at__law_walked (P := l.prog) (w := w) (base := base) (fun_mk (st := topS 28) l19 c19 k19) (PySem.W.mg_of X G a19) hn F_law_worth F_law_quotients F_law_up_to 
  have Fis_walked := at_is_walked (P := l.prog) (w := w) (base := base) (fun_mk (st := topS 10) l20 c20 k20) (PySem.W.mg_of X G a20) hn Fworth_of Fquotients_of Fprimes_to 
  have Fwalk_shows := at_walk_shows (P := l.prog) (w := w) (base := base) (fun_mk (st := topS 11) l21 c21 k21) (PySem.W.mg_of X G a21) hn Fis_walked GWALK
  have Fwalk_denies := at_walk_denies (P := l.prog) (w := w) (base := base) (fun_mk (st := topS 12) l22 c22 k22) (PySem.W.mg_of X G a22) hn Fis_walked GWALK
  have Fwalk_made := at_walk_made (P := l.prog) (w := w) (base := base) (fun_mk (st := topS 13) l23 c23 k23) (PySem.W.mg_of X G a23) hn Fis_walked GWALK
  have Flaw := at_law (P := l.prog) (w := w) (base := base) (fun_mk (st := topS 30) l24 c24 k24) (PySem.W.mg_of X G a24) hn Fwalk_shows Fwalk_denies Fwalk_made F_law_deck F_law_draw F_law_pick F_law_of_terms F_law_of_row F_law_of_count F_law_walked F_law_things 
  exact Flaw
end K07
open PySem PySem.W PyProof.Rows
set_option maxHeartbeats 0 in
theorem PySem.Challenge.cw_surenumbers_k07_walks_holds : PySem.Challenge.rw_surenumbers_k07_walks.Holds := by
  w_on; o_law; k_head; (case hw => w_witness2)
  k_fill
  refine G.walk_end (l := PySem.Challenge.rw_surenumbers_k07_walks) (n := 63) (k := 44) (x := "_law_script") rfl (by decide) (by decide +kernel) rfl ⟨rfl, by decide, by decide⟩ (fun w h Y => PySem.W.kIn_of Y) ?F
  case F =>
    intro w mg h KX G
    refine' K07.all_at KX G ?a0 ?l0 ?c0 ?k0 ?a1 ?l1 ?c1 ?k1 ?a2 ?l2 ?c2 ?k2 ?a3 ?l3 ?c3 ?k3 ?a4 ?l4 ?c4 ?k4 ?a5 ?l5 ?c5 ?k5 ?a6 ?l6 ?c6 ?k6 ?a7 ?l7 ?c7 ?k7 ?a8 ?l8 ?c8 ?k8 ?a9 ?l9 ?c9 ?k9 ?a10 ?l10 ?c10 ?k10 ?a11 ?l11 ?c11 ?k11 ?a12 ?l12 ?c12 ?k12 ?a13 ?l13 ?c13 ?k13 ?a14 ?l14 ?c14 ?k14 ?a15 ?l15 ?c15 ?k15 ?a16 ?l16 ?c16 ?k16 ?a17 ?l17 ?c17 ?k17 ?a18 ?l18 ?c18 ?k18 ?a19 ?l19 ?c19 ?k19 ?a20 ?l20 ?c20 ?k20 ?a21 ?l21 ?c21 ?k21 ?a22 ?l22 ?c22 ?k22 ?a23 ?l23 ?c23 ?k23 ?a24 ?l24 ?c24 ?k24 ?ga0 ?ga1 ?gl1 ?z0 ?z1 ?z2 ?z3 ?z4 ?z5 ?z6 ?z7 ?z8 ?z9 ?z10 ?z11 ?z12 ?z13 ?z14 ?z15 ?z16 ?z17 ?z18 ?z19 ?z20 ?z21
    (case a0 => k_is); (case l0 => k_is); (case c0 => k_is); (case k0 => k_is); (case a1 => k_is); (case l1 => k_is); (case c1 => k_is); (case k1 => k_is); (case a2 => k_is); (case l2 => k_is); (case c2 => k_is); (case k2 => k_is); (case a3 => k_is); (case l3 => k_is); (case c3 => k_is); (case k3 => k_is); (case a4 => k_is); (case l4 => k_is); (case c4 => k_is); (case k4 => k_is); (case a5 => k_is); (case l5 => k_is); (case c5 => k_is); (case k5 => k_is); (case a6 => k_is); (case l6 => k_is); (case c6 => k_is); (case k6 => k_is); (case a7 => k_is); (case l7 => k_is); (case c7 => k_is); (case k7 => k_is); (case a8 => k_is); (case l8 => k_is); (case c8 => k_is); (case k8 => k_is); (case a9 => k_is); (case l9 => k_is); (case c9 => k_is); (case k9 => k_is); (case a10 => k_is); (case l10 => k_is); (case c10 => k_is); (case k10 => k_is); (case a11 => k_is); (case l11 => k_is); (case c11 => k_is); (case k11 => k_is); (case a12 => k_is); (case l12 => k_is); (case c12 => k_is); (case k12 => k_is); (case a13 => k_is); (case l13 => k_is); (case c13 => k_is); (case k13 => k_is); (case a14 => k_is); (case l14 => k_is); (case c14 => k_is); (case k14 => k_is); (case a15 => k_is); (case l15 => k_is); (case c15 => k_is); (case k15 => k_is); (case a16 => k_is); (case l16 => k_is); (case c16 => k_is); (case k16 => k_is); (case a17 => k_is); (case l17 => k_is); (case c17 => k_is); (case k17 => k_is); (case a18 => k_is); (case l18 => k_is); (case c18 => k_is); (case k18 => k_is); (case a19 => k_is); (case l19 => k_is); (case c19 => k_is); (case k19 => k_is); (case a20 => k_is); (case l20 => k_is); (case c20 => k_is); (case k20 => k_is); (case a21 => k_is); (case l21 => k_is); (case c21 => k_is); (case k21 => k_is); (case a22 => k_is); (case l22 => k_is); (case c22 => k_is); (case k22 => k_is); (case a23 => k_is); (case l23 => k_is); (case c23 => k_is); (case k23 => k_is); (case a24 => k_is); (case l24 => k_is); (case c24 => k_is); (case k24 => k_is); (case ga0 => k_is); (case ga1 => k_is); (case gl1 => k_is); (case z0 => k_is); (case z1 => k_is); (case z2 => k_is); (case z3 => k_is); (case z4 => k_is); (case z5 => k_is); (case z6 => k_is); (case z7 => k_is); (case z8 => k_is); (case z9 => k_is); (case z10 => k_is); (case z11 => k_is); (case z12 => k_is); (case z13 => k_is); (case z14 => k_is); (case z15 => k_is); (case z16 => k_is); (case z17 => k_is); (case z18 => k_is); (case z19 => k_is); (case z20 => k_is); (case z21 => k_is)
